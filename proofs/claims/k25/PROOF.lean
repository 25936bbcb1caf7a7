import PyProof.Rows.All
import HandS.ForMost
import HandS.Walk
import HandS.Defaults
import HandS.Dict
import HandS.Conv
import HandS.TupMul
import HandS.TupAny
import HandS.Wide
import HandS.TupLe
import HandS.Deep
import KE.SortData
import HandS.List
import KE.DataMinMax
import HandS.TupSets
import HandS.SetFor
import HandS.IsInst
import HandS.SortInts
import HandS.Zip
import HandS.Iter
import KE.GoesNew
import HandS.SortKw
import KE.DataMinKey
import HandS.Strs
import HandS.Rev
import PyProof.SliceList
import KE.KRevSl
import HandS.Style
import HandS.Head0
import HandS.Head1
import HandS.Head2
import HandS.HeadEnd
import HandS.HeadHook1
import HandS.HeadHook2
import HandS.HeadHook4
import HandS.Words
import PySem.Challenge.RW_sameorapart_k25_new_ways_without_a_new_t
set_option Elab.async false
set_option linter.all false
/-! PyCore, part 1: own data, own core text, its meaning (executable, in Option: none = stuck). No program in sight. -/
namespace PC
open PySem

inductive D where
  | non
  | bl (b : Bool)
  | int (i : Int)
  | str (s : Str)
  | tup (xs : List D)
  | lst (xs : List D)
  | dic (t : Bool) (ks vs : List D)
  | scr (xs : List D)

def LINE : Nat := 16777216
def b2i (b : Bool) : Int := if b then 1 else 0

mutual
def eqD : D → D → Bool
  | .non, .non => true
  | .bl a, .bl b => a == b
  | .bl a, .int j => b2i a == j
  | .int i, .bl b => i == b2i b
  | .int i, .int j => i == j
  | .str x, .str y => decide (x = y)
  | .tup xs, .tup ys => eqDs xs ys
  | .lst xs, .lst ys => eqDs xs ys
  | _, _ => false
def eqDs : List D → List D → Bool
  | [], [] => true
  | x :: xs, y :: ys => eqD x y && eqDs xs ys
  | _, _ => false
end

mutual
/-- data without a dict, at most n deep -/
def okD : D → Nat → Bool
  | .non, _ => true
  | .bl _, _ => true
  | .int _, _ => true
  | .str x, _ => PyData.strOk x
  | .tup xs, n + 1 => okDs xs n
  | .lst xs, n + 1 => okDs xs n
  | _, _ => false
def okDs : List D → Nat → Bool
  | [], _ => true
  | x :: xs, n => okD x n && okDs xs n
end

/-! dicts: keys are ints and texts, or tuples of such -/
def keyD : D → Option (Sum Int Str)
  | .int i => some (.inl i)
  | .str x => some (.inr x)
  | _ => none
def keyT : D → Option (List (Sum Int Str))
  | .tup xs => xs.mapM keyD
  | _ => none
def getL {κ α : Type} [DecidableEq κ] : List κ → List α → κ → Option α
  | j :: js, a :: as, k => if j = k then some a else getL js as k
  | _, _, _ => none
def setL {κ α : Type} [DecidableEq κ] : List κ → List α → κ → α → List α
  | j :: js, a :: as, k, x => (if j = k then x else a) :: setL js as k x
  | _, _, _, _ => []
def putL {κ α : Type} [DecidableEq κ] (js : List κ) (as : List α) (k : κ) (x : α) : List α := if k ∈ js then setL js as k x else as ++ [x]
def putKs {κ α : Type} [DecidableEq κ] (js : List κ) (ks : List α) (k : κ) (x : α) : List α := if k ∈ js then ks else ks ++ [x]
/-- what the dict holds at x (none: x is no key of this kind) -/
def dGet : Bool → List D → List D → D → Option (Option D)
  | false, ks, vs, x => (keyD x).bind fun k => (ks.mapM keyD : Option (List (Sum Int Str))).map fun js => getL js vs k
  | true, ks, vs, x => (keyT x).bind fun k => (ks.mapM keyT : Option (List (List (Sum Int Str)))).map fun js => getL js vs k
def dPut : Bool → List D → List D → D → D → Option D
  | false, ks, vs, x, d => (keyD x).bind fun (k : Sum Int Str) => (ks.mapM keyD : Option (List (Sum Int Str))).map fun js => .dic false (putKs js ks k x) (putL js vs k d)
  | true, ks, vs, x, d => (keyT x).bind fun (k : List (Sum Int Str)) => (ks.mapM keyT : Option (List (List (Sum Int Str)))).map fun js => .dic true (putKs js ks k x) (putL js vs k d)
inductive BOp | add | sub | mul | fdiv | mod | pow | shl | shr
  deriving DecidableEq
inductive COp | eq | ne | lt | le | gt | ge | isin | notin
  deriving DecidableEq
inductive Bi | len | tuple | list | abs | int | sum | min | max | sorted | any | all | max2 | min2 | minT | sumL
  deriving DecidableEq
inductive Ty | int | bool | str | tuple | list
  deriving DecidableEq

/-- what an expression gives: a value; a list of the frame's own, by its slot -/
inductive R where
  | v (d : D)
  | b (i : Nat)
/-- a slot: nothing known; a value; an own list (tag: which parameter it came by) -/
inductive Sl where
  | no
  | val (d : D)
  | own (t : Option Nat) (d : D)
abbrev En := List Sl

inductive Tg where
  | name (i : Nat)
  | tup (ts : List Tg)

mutual
inductive Ex where
  | var (i : Nat)
  | con (d : D)
  | glo (x : Str) (d : D)
  | bin (o : BOp) (a b : Ex)
  | neg (a : Ex)
  | cmp (o : COp) (a b : Ex)
  | cmp2 (o p : COp) (a b c : Ex)
  | isC (ng : Bool) (a : Ex) (d : D)
  | ands (es : Es)
  | ors (es : Es)
  | nt (a : Ex)
  | ite (c a b : Ex)
  | tup (es : Es)
  | lst (es : Es)
  | dic0 (t : Bool)
  | index (i : Nat) (b : Ex)
  | pop (i : Nat)
  | popA (i : Nat) (a : Ex)
  | rl1 (tp : Bool) (b : Ex)
  | rl2 (tp : Bool) (a b : Ex)
  | idx (a i : Ex)
  | slc (a : Ex) (lo hi : Oe)
  | slcS (a : Ex) (lo hi st : Oe)
  | call (fr : Bool) (f : Nat) (es : Es) (ds : List D)
  | callK (fr : Bool) (f : Nat) (pm : List Nat) (es : Es)
  | bi (b : Bi) (es : Es)
  | sset (a : Ex)
  | minK (f : Nat) (a : Ex)
  | isi (a : Ex) (t : Ty)
  | comp (own : List Nat) (tg : Tg) (it : It) (ifs : Es) (elt : Ex)
  | compO (i : Nat) (own : List Nat) (tg : Tg) (cs : Es) (elt : Ex)
  | comp2 (own : List Nat) (tg : Tg) (it : It) (own1 : List Nat) (tg1 : Tg) (it1 : It) (ifs : Es) (elt : Ex)
inductive Es where
  | nil
  | cons (e : Ex) (es : Es)
inductive Oe where
  | none
  | some (e : Ex)
inductive It where
  | seq (e : Ex)
  | rng1 (e : Ex)
  | rng2 (a b : Ex)
  | enum (e : Ex)
  | zip (a b : Ex)
  | zip3 (a b c : Ex)
  | rev (e : Ex)
end

mutual
inductive Sx where
  | asg (t : Tg) (e : Ex)
  | asgO (i : Nat) (e : Ex)
  | par (is : List Nat) (os : List Bool) (es : Es)
  | aug (i : Nat) (o : BOp) (e : Ex)
  | setI (i : Nat) (ix e : Ex)
  | augI (i : Nat) (ix e : Ex)
  | put (i : Nat) (ix e : Ex)
  | subs (is : List Nat) (ixs : Es) (e : Ex)
  | app (i : Nat) (e : Ex)
  | ext (i : Nat) (e : Ex)
  | ifs (c : Ex) (a b : Ss)
  | for_ (tg : Tg) (it : It) (b : Ss) (fg : List Nat)
  | wh (c : Ex) (b : Ss) (fg : List Nat)
  | ret (e : Ex)
  | drop (e : Ex)
  | brk
  | cnt
  | frz (i : Nat)
inductive Ss where
  | nil
  | cons (s : Sx) (ss : Ss)
end

/-! ### values -/
def view (e : En) : R → Option D
  | .v d => some d
  | .b i => match e[i]? with
    | some (.own _ d) => some d
    | _ => none
def sol : R → Option D
  | .v d => some d
  | .b _ => none
def varR (e : En) (i : Nat) : Option R := match e[i]? with
  | some (.val d) => some (.v d)
  | some (.own _ _) => some (.b i)
  | _ => none

def seqOf : D → Option (List D)
  | .tup xs => some xs
  | .lst xs => some xs
  | _ => none
/-- what is walked -/
def itOf : D → Option (List D)
  | .tup xs => some xs
  | .lst xs => some xs
  | .scr xs => some xs
  | .dic _ ks _ => some ks
  | _ => none

/-- |i| < 2^64, or both below 2^400000 -/
def SM : Int := 18446744073709551616
def smallI (i : Int) : Bool := decide (-SM < i ∧ i < SM)
def bigOk (i : Int) : Bool := decide (i.natAbs.log2 < 400000)
def mulOk (i j : Int) : Bool := smallI i || smallI j || (bigOk i && bigOk j)
def divOk (j : Int) : Bool := decide (j ≠ 0 ∧ j.natAbs < 1073741824) || decide (0 < j ∧ j.natAbs.log2 < 9000)
def powOk (i j : Int) : Bool := decide (0 ≤ j ∧ j ≤ 1000000 ∧ i.natAbs < 18446744073709551616)

def binD : BOp → D → D → Option D
  | .add, .int i, .int j => some (.int (i + j))
  | .add, .tup xs, .tup ys => if xs.length + ys.length ≤ LINE then some (.tup (xs ++ ys)) else none
  | .add, .lst xs, .lst ys => if xs.length + ys.length ≤ LINE then some (.lst (xs ++ ys)) else none
  | .sub, .int i, .int j => some (.int (i - j))
  | .mul, .int i, .int j => if mulOk i j then some (.int (i * j)) else none
  | .mul, .lst xs, .int j => if 0 ≤ j ∧ j ≤ 1000000 ∧ xs.length * j.toNat ≤ LINE then some (.lst ((List.replicate j.toNat xs).flatten)) else none
  | .mul, .tup xs, .int j => if 0 ≤ j ∧ j ≤ 1000 ∧ xs.length ≤ 1000 then some (.tup ((List.replicate j.toNat xs).flatten)) else none
  | .fdiv, .int i, .int j => if divOk j then some (.int (i.fdiv j)) else none
  | .mod, .int i, .int j => if j = 0 then none else some (.int (i.fmod j))
  | .pow, .int i, .int j => if powOk i j then some (.int (i ^ j.toNat)) else none
  | .shl, .int i, .int j => if powOk i j then some (.int (i * 2 ^ j.toNat)) else none
  | .shr, .int i, .int j => if 0 ≤ j then some (.int (i / 2 ^ j.toNat)) else none
  | _, _, _ => none
def negD : D → Option D
  | .int i => some (.int (-i))
  | _ => none

/-! order of data: ints, and tuples of such (to any depth) -/
mutual
def ltD : D → D → Option Bool
  | .int i, .int j => some (decide (i < j))
  | .tup xs, .tup ys => ltDs xs ys
  | _, _ => none
def ltDs : List D → List D → Option Bool
  | [], [] => some false
  | [], _ :: _ => some true
  | _ :: _, [] => some false
  | x :: xs, y :: ys => if eqD x y then ltDs xs ys else ltD x y
end
mutual
/-- the order by which lists are sorted: ints, texts, tuples and lists of such -/
def ltB : D → D → Bool
  | .int i, .int j => decide (i < j)
  | .str x, .str y => decide (x.cps.toList < y.cps.toList)
  | .tup xs, .tup ys => ltBs xs ys
  | .lst xs, .lst ys => ltBs xs ys
  | _, _ => false
def ltBs : List D → List D → Bool
  | [], [] => false
  | [], _ :: _ => true
  | _ :: _, [] => false
  | x :: xs, y :: ys => if eqD x y then ltBs xs ys else ltB x y
end
mutual
/-- may the two be compared -/
def likeB : D → D → Bool
  | .int _, .int _ => true
  | .str _, .str _ => true
  | .tup xs, .tup ys => likeBs xs ys
  | .lst xs, .lst ys => likeBs xs ys
  | _, _ => false
def likeBs : List D → List D → Bool
  | x :: xs, y :: ys => likeB x y && likeBs xs ys
  | _, _ => true
end
def isTupC : D → Bool
  | .tup (_ :: _) => true
  | _ => false
def isAtom : D → Bool
  | .int _ => true
  | .str _ => true
  | .lst _ => true
  | _ => false
def isCo : D → Bool
  | .lst _ => true
  | .dic _ _ _ => true
  | _ => false
def leB (a b : D) : Bool := !ltB b a
def sortOk (xs : List D) : Bool := (xs.all fun x => xs.all fun y => likeB x y) && (xs.all isTupC || xs.all isAtom) && okDs xs 60 && decide (xs.length ≤ LINE)
def inDs (d : D) : List D → Bool
  | [] => false
  | x :: xs => eqD x d || inDs d xs

/-- the first place of an equal one -/
def idxEq (d : D) : List D → Option Nat
  | [] => none
  | x :: xs => if eqD x d then some 0 else (idxEq d xs).map (· + 1)
def isLst : D → Bool
  | .lst _ => true
  | _ => false
def cmpD : COp → D → D → Option Bool
  | .eq, x, y => if okD x 60 && okD y 60 then some (eqD x y) else none
  | .ne, x, y => if okD x 60 && okD y 60 then some (!eqD x y) else none
  | .lt, .int i, .int j => some (decide (i < j))
  | .gt, .int i, .int j => some (decide (j < i))
  | .le, .int i, .int j => some (decide (i ≤ j))
  | .ge, .int i, .int j => some (decide (j ≤ i))
  | .isin, x, .tup ys => if okD x 60 && okDs ys 60 then some (inDs x ys) else none
  | .isin, x, .lst ys => if okD x 60 && okDs ys 60 then some (inDs x ys) else none
  | .notin, x, .tup ys => if okD x 60 && okDs ys 60 then some (!inDs x ys) else none
  | .notin, x, .lst ys => if okD x 60 && okDs ys 60 then some (!inDs x ys) else none
  | .isin, x, .dic t ks vs => (dGet t ks vs x).map Option.isSome
  | .notin, x, .dic t ks vs => (dGet t ks vs x).map fun o => !o.isSome
  | _, _, _ => none

/-- is: with None, True, False alone -/
def isD : D → D → Option Bool
  | .non, .non => some true
  | .bl a, .bl b => some (a == b)
  | .int _, .non => some false
  | .str _, .non => some false
  | .tup _, .non => some false
  | .lst _, .non => some false
  | .bl _, .non => some false
  | .non, .bl _ => some false
  | .int _, .bl _ => some false
  | .str _, .bl _ => some false
  | .tup _, .bl _ => some false
  | .lst _, .bl _ => some false
  | _, _ => none

/-- a place from the front, from behind -/
def atD (xs : List D) (i : Int) : Option D := if 0 ≤ i then xs[i.toNat]? else if 0 ≤ i + xs.length then xs[(i + xs.length).toNat]? else none
def idxD : D → D → Option D
  | .tup xs, .int i => atD xs i
  | .lst xs, .int i => atD xs i
  | .scr xs, .int i => atD xs i
  | .dic t ks vs, x => (dGet t ks vs x).bind id
  | _, _ => none
/-- a slice's end: from behind if below 0, within the length -/
def endOf (n : Nat) (i : Int) : Nat := if 0 ≤ i then min i.toNat n else (i + n).toNat
def endO (n d : Nat) : Option Int → Nat
  | none => d
  | some i => endOf n i
def slcL (xs : List D) (lo hi : Option Int) : List D := (xs.drop (endO xs.length 0 lo)).take (endO xs.length xs.length hi - endO xs.length 0 lo)
/-- a slice with a step -/
def bndS (lo hi : Option Int) (st : Int) (n : Nat) : Int × Int :=
  let clip (v : Option Int) (dflt : Int) : Int := match v with
    | none => dflt
    | some i => let i := if i < 0 then i + n else i; if st > 0 then max 0 (min i n) else max (-1) (min i ((n : Int) - 1))
  (clip lo (if st > 0 then 0 else (n : Int) - 1), clip hi (if st > 0 then n else -1))
def plcS (start stop step : Int) : List Nat :=
  (List.range (if step > 0 then (if start < stop then (stop - start + step - 1) / step else 0) else (if start > stop then (start - stop - step - 1) / (-step) else 0)).toNat).map fun (k : Nat) => (start + step * (k : Int)).toNat
def slcSL (xs : List D) (lo hi : Option Int) (st : Int) : List D := (plcS (bndS lo hi st xs.length).1 (bndS lo hi st xs.length).2 st).filterMap (xs[·]?)
def slcSD (lo hi st : Option Int) : D → Option D
  | .lst xs => match st with
    | some k => if k ≠ 0 ∧ (slcSL xs lo hi k).length ≤ LINE then some (.lst (slcSL xs lo hi k)) else none
    | none => none
  | .tup xs => if lo = none ∧ hi = none ∧ st = some (-1) then some (.tup xs.reverse) else none
  | _ => none
def slcD (lo hi : Option Int) : D → Option D
  | .tup xs => some (.tup (slcL xs lo hi))
  | .lst xs => some (.lst (slcL xs lo hi))
  | _ => none

def intsOf : List D → Option (List Int)
  | [] => some []
  | .int i :: r => (intsOf r).map (i :: ·)
  | _ :: _ => none
def boolsOf : List D → Option (List Bool)
  | [] => some []
  | .bl i :: r => (boolsOf r).map (i :: ·)
  | _ :: _ => none
def minL : List Int → Int → Int
  | [], m => m
  | x :: xs, m => minL xs (if x < m then x else m)
def maxL : List Int → Int → Int
  | [], m => m
  | x :: xs, m => maxL xs (if m < x then x else m)
def minI : List Int → Option Int
  | [] => none
  | x :: xs => some (minL xs x)
def maxI : List Int → Option Int
  | [] => none
  | x :: xs => some (maxL xs x)
/-- sorted, by insertion -/
def insI (x : Int) : List Int → List Int
  | [] => [x]
  | y :: ys => if x ≤ y then x :: y :: ys else y :: insI x ys
def sortI : List Int → List Int
  | [] => []
  | x :: xs => insI x (sortI xs)

/-- the first of the least -/
def minB (x : D) (xs : List D) : D := xs.foldl (fun a y => if ltB y a then y else a) x
/-- all items are lists -/
def lstsOf : List D → Option (List (List D))
  | [] => some []
  | .lst ys :: r => (lstsOf r).map (ys :: ·)
  | _ :: _ => none
/-- the first with the least key -/
def minK : List (D × D) → Option D
  | [] => none
  | p :: ps => some (ps.foldl (fun a q => if ltB q.2 a.2 then q else a) p).1
def keyOk (xs ks : List D) : Bool := sortOk ks && xs.all (fun x => !isCo x) && decide (xs.length ≤ LINE)
def wlsD : D → Option (List D)
  | .lst xs => some xs
  | _ => none
def biD : Bi → List D → Option D
  | .len, [.tup xs] => some (.int xs.length)
  | .len, [.lst xs] => some (.int xs.length)
  | .len, [.scr xs] => some (.int xs.length)
  | .tuple, [.tup xs] => some (.tup xs)
  | .tuple, [.lst xs] => some (.tup xs)
  | .list, [.tup xs] => some (.lst xs)
  | .list, [.lst xs] => some (.lst xs)
  | .list, [.dic _ ks _] => some (.lst ks)
  | .len, [.dic false ks _] => some (.int ks.length)
  | .abs, [.int i] => some (.int (if i < 0 then -i else i))
  | .int, [.int i] => some (.int i)
  | .sum, [.lst xs] => (intsOf xs).map fun ns => .int ns.sum
  | .min, [.lst xs] => ((intsOf xs).bind minI).map .int
  | .max, [.lst xs] => ((intsOf xs).bind maxI).map .int
  | .sum, [.tup xs] => (intsOf xs).map fun ns => .int ns.sum
  | .min, [.tup xs] => ((intsOf xs).bind minI).map .int
  | .max, [.tup xs] => ((intsOf xs).bind maxI).map .int
  | .max2, [.int i, .int j] => some (.int (if j > i then j else i))
  | .min2, [.int i, .int j] => some (.int (if j < i then j else i))
  | .any, [.lst xs] => (boolsOf xs).map fun bs => .bl (bs.any id)
  | .all, [.lst xs] => (boolsOf xs).map fun bs => .bl (bs.all id)
  | .sorted, [.lst xs] => if sortOk xs then some (.lst (xs.mergeSort leB)) else none
  | .sorted, [.tup xs] => if sortOk xs then some (.lst (xs.mergeSort leB)) else none
  | .minT, [.lst (x :: xs)] => if sortOk (x :: xs) && (x :: xs).all (fun d => !isCo d) then some (minB x xs) else none
  | .sumL, [.lst xs, .lst []] => (lstsOf xs).bind fun ys => if xs.length ≠ 0 ∧ ys.flatten.length ≤ LINE then some (.lst ys.flatten) else none
  | _, _ => none
/-! sorted(set(..)) -/
def dedD : List D → List D
  | [] => []
  | x :: xs => if inDs x xs then dedD xs else x :: dedD xs
/-- all items are tuples of ints -/
def tupsOf : List D → Option (List (List Int))
  | [] => some []
  | .tup xs :: r => (intsOf xs).bind fun ns => (tupsOf r).map (ns :: ·)
  | _ :: _ => none
def ssetL (xs : List D) : Option D := if xs.length < 64 ∧ ((intsOf xs).isSome = true ∨ ((tupsOf xs).isSome = true ∧ xs.all isTupC = true)) then some (.lst ((dedD xs).mergeSort leB)) else none
def ssetD : D → Option D
  | .lst xs => ssetL xs
  | .tup xs => if (intsOf xs).isSome then ssetL xs else none
  | _ => none
def isiD : Ty → D → Option Bool
  | .int, .int _ => some true
  | .int, .bl _ => some true
  | .bool, .bl _ => some true
  | .str, .str _ => some true
  | .tuple, .tup _ => some true
  | .list, .lst _ => some true
  | _, .dic _ _ _ => none
  | _, .scr _ => none
  | _, _ => some false

/-! ### slots -/
mutual
def setTg : Tg → D → En → Option En
  | .name i, d, e => some (e.set i (.val d))
  | .tup ts, .tup xs, e => setTgs ts xs e
  | .tup _, _, _ => none
def setTgs : List Tg → List D → En → Option En
  | [], [], e => some e
  | t :: ts, d :: ds, e => (setTg t d e).bind (setTgs ts ds)
  | _, _, _ => none
end
def wipeE (e : En) : List Nat → En
  | [] => e
  | v :: vs => (wipeE e vs).set v .no

/-- nothing is known of these slots -/
def noneAt (e : En) : List Nat → Bool
  | [] => true
  | i :: r => (match e[i]? with | some .no => true | _ => false) && noneAt e r

/-- the ints m .. n - 1 as a list or a tuple -/
def rngL (m n : Int) : List D := (List.range (n - m).toNat).map fun (i : Nat) => .int (m + (i : Int))
def rngD (tp : Bool) (m n : Int) : D := if tp then .tup (rngL m n) else .lst (rngL m n)
/-- an argument: a value, or an own list -/
def argOf (e : En) : R → Option Sl
  | .v d => some (.val d)
  | .b i => match e[i]? with
    | some (.own _ xs) => some (.own none xs)
    | _ => none
def argsOf (e : En) : List R → Option (List Sl)
  | [] => some []
  | r :: rs => (argOf e r).bind fun a => (argsOf e rs).map (a :: ·)
/-- own lists behind a call -/
def backs : List R → List Sl → En → Option En
  | [], [], e => some e
  | .v _ :: rs, _ :: ss, e => backs rs ss e
  | .b i :: rs, .own _ ys :: ss, e => match e[i]? with
    | some (.own t _) => backs rs ss (e.set i (.own t ys))
    | _ => none
  | _, _, _ => none
def slotsOf : List R → List Nat
  | [] => []
  | .v _ :: rs => slotsOf rs
  | .b i :: rs => i :: slotsOf rs

def permR {α : Type} (pm : List Nat) (l : List α) : List α := pm.filterMap (l[·]?)
inductive Ctl where
  | nx (e : En)
  | ret (d : D) (e : En)
  | brk (e : En)
  | ct (e : En)

def isOwn (e : En) (i : Nat) : Bool := match e[i]? with
  | some (.own _ (.lst _)) => true
  | _ => false
abbrev CallF := Nat → List Sl → Option (D × List Sl)

def FUEL : Nat := 1000000

section
variable (F : CallF)
def ownL (e : En) (i : Nat) : Option (Option Nat × List D) := match e[i]? with
  | some (.own t (.lst xs)) => some (t, xs)
  | _ => none
mutual
def denE : Ex → En → Option (R × En)
  | .var i, e => (varR e i).map fun r => (r, e)
  | .con d, e => some (.v d, e)
  | .glo _ d, e => some (.v d, e)
  | .bin o a b, e => (denE a e).bind fun (x, e1) => (denE b e1).bind fun (y, e2) => (view e2 x).bind fun u => (view e2 y).bind fun w => (binD o u w).map fun d => (.v d, e2)
  | .neg a, e => (denE a e).bind fun (x, e1) => (sol x).bind fun u => (negD u).map fun d => (.v d, e1)
  | .cmp o a b, e => (denE a e).bind fun (x, e1) => (denE b e1).bind fun (y, e2) => (view e2 x).bind fun u => (view e2 y).bind fun w => (cmpD o u w).map fun c => (.v (.bl c), e2)
  | .cmp2 o p a b c, e => (denE a e).bind fun (x, e1) => (denE b e1).bind fun (y, e2) => (sol x).bind fun u => (sol y).bind fun w => (cmpD o u w).bind fun k =>
      if k then (denE c e2).bind fun (z, e3) => (sol z).bind fun q => (cmpD p w q).map fun c => (.v (.bl c), e3) else some (.v (.bl false), e2)
  | .isC ng a d, e => (denE a e).bind fun (x, e1) => (sol x).bind fun u => (isD u d).map fun c => (.v (.bl (if ng then !c else c)), e1)
  | .ands es, e => denAnd es e
  | .ors es, e => denOr es e
  | .nt a, e => (denE a e).bind fun (x, e1) => match x with
      | .v (.bl c) => some (.v (.bl (!c)), e1)
      | _ => none
  | .ite c a b, e => (denE c e).bind fun (x, e1) => match x with
      | .v (.bl k) => if k then denE a e1 else denE b e1
      | _ => none
  | .tup es, e => (denA es e).bind fun (rs, e1) => (rs.mapM sol).bind fun ds => if ds.length ≤ LINE then some (.v (.tup ds), e1) else none
  | .lst es, e => (denA es e).bind fun (rs, e1) => (rs.mapM sol).bind fun ds => if ds.length ≤ LINE then some (.v (.lst ds), e1) else none
  | .rl1 tp b, e => (denE b e).bind fun (y, e2) => match y with
      | .v (.int n) => if -1000000000 ≤ n ∧ n ≤ 16777216 then some (.v (rngD tp 0 n), e2) else none
      | _ => none
  | .rl2 tp a b, e => (denE a e).bind fun (x, e1) => (denE b e1).bind fun (y, e2) => match x, y with
      | .v (.int m), .v (.int n) => if -1000000000 ≤ m ∧ m ≤ 1000000000 ∧ -1000000000 ≤ n ∧ n ≤ 1000000000 ∧ n - m ≤ 16777216 then some (.v (rngD tp m n), e2) else none
      | _, _ => none
  | .index i b, e => (varR e i).bind fun r => (view e r).bind fun u => if isLst u = false then none else (denE b e).bind fun (y, e1) => (view e1 r).bind fun u1 => (view e1 y).bind fun d => match u1 with
      | .lst xs => if okD (.lst xs) 60 && okD d 60 then (idxEq d xs).map fun j => (.v (.int (j : Nat)), e1) else none
      | _ => none
  | .pop i, e => match e[i]? with
      | some (.own t (.lst xs)) => (xs[xs.length - 1]?).map fun d => (.v d, e.set i (.own t (.lst xs.dropLast)))
      | _ => none
  | .popA i a, e => if isOwn e i = false then none else (denE a e).bind fun (y, e1) => match e1[i]?, y with
      | some (.own t (.lst xs)), .v (.int k) => if 0 ≤ k ∧ k < xs.length ∧ xs.length ≤ LINE then (xs[k.toNat]?).map fun d => (.v d, e1.set i (.own t (.lst (xs.eraseIdx k.toNat)))) else none
      | _, _ => none
  | .dic0 t, e => some (.v (.dic t [] []), e)
  | .idx a i, e => (denE a e).bind fun (x, e1) => (denE i e1).bind fun (y, e2) => (view e2 x).bind fun u => (sol y).bind fun w => (idxD u w).map fun d => (.v d, e2)
  | .slc a lo hi, e => (denE a e).bind fun (x, e1) => (denO lo e1).bind fun (l, e2) => (denO hi e2).bind fun (h, e3) => (view e3 x).bind fun u => (slcD l h u).map fun d => (.v d, e3)
  | .slcS a lo hi st, e => (denE a e).bind fun (x, e1) => (denO lo e1).bind fun (l, e2) => (denO hi e2).bind fun (h, e3) => (denO st e3).bind fun (k, e4) => (view e4 x).bind fun u => (slcSD l h k u).map fun d => (.v d, e4)
  | .call _ f es ds, e => (denA es e).bind fun (rs, e1) => if (slotsOf rs).Nodup then (argsOf e1 rs).bind fun as => (F f (as ++ ds.map .val)).bind fun (d, outs) => (backs rs (outs.take rs.length) e1).map fun e2 => (.v d, e2) else none
  | .callK _ f pm es, e => (denA es e).bind fun (rs0, e1) => if (slotsOf (permR pm rs0)).Nodup then (argsOf e1 (permR pm rs0)).bind fun as => (F f (as ++ ([] : List D).map .val)).bind fun (d, outs) => (backs (permR pm rs0) (outs.take (permR pm rs0).length) e1).map fun e2 => (.v d, e2) else none
  | .bi b es, e => (denA es e).bind fun (rs, e1) => (rs.mapM (view e1)).bind fun ds => (biD b ds).map fun d => (.v d, e1)
  | .sset a, e => (denE a e).bind fun (x, e1) => (view e1 x).bind fun u => (ssetD u).map fun d => (.v d, e1)
  | .minK f a, e => (denE a e).bind fun (x, e1) => (view e1 x).bind fun u => (wlsD u).bind fun xs => (xs.mapM fun x => (F f [.val x]).map (·.1)).bind fun ks => if keyOk xs ks then (minK (xs.zip ks)).map fun d => (.v d, e1) else none
  | .isi a t, e => (denE a e).bind fun (x, e1) => (view e1 x).bind fun u => (isiD t u).map fun c => (.v (.bl c), e1)
  | .comp own tg it cs elt, e => (denI it e).bind fun (xs, e1) =>
      if xs.length < LINE ∧ noneAt e1 own = true then
      (xs.foldlM (fun (p : En × List D) x => (setTg tg x (wipeE p.1 own)).bind fun e2 => (denCs cs e2).bind fun (k, e3) =>
        if k then (denE elt e3).bind fun (r, e4) => (sol r).map fun d => (e4, p.2 ++ [d]) else some (e3, p.2)) (wipeE e1 own, [])).map fun p => (.v (.lst p.2), wipeE p.1 own)
      else none
  | .compO i own tg cs elt, e => (ownL e i).bind fun (t, xs) =>
      if xs.length < LINE ∧ noneAt e own = true then
      (xs.foldlM (fun (p : En × List D) x => (setTg tg x (wipeE p.1 own)).bind fun e2 => (denCs cs e2).bind fun (k, e3) =>
        if k then (denE elt e3).bind fun (r, e4) => (sol r).map fun d => (e4, p.2 ++ [d]) else some (e3, p.2)) (wipeE (e.set i .no) own, [])).map fun p => (.v (.lst p.2), (wipeE p.1 own).set i (.own t (.lst xs)))
      else none
  | .comp2 own tg it own1 tg1 it1 cs elt, e => (denI it e).bind fun (xs, e1) =>
      if xs.length < LINE ∧ noneAt e1 own = true then
      (xs.foldlM (fun (p : En × List D) x => (setTg tg x (wipeE p.1 own)).bind fun e2 => (denI it1 e2).bind fun (ys, e3) => if p.2.length + ys.length ≤ LINE ∧ noneAt e3 own1 = true then
        ys.foldlM (fun (p : En × List D) x => (setTg tg1 x (wipeE p.1 own1)).bind fun e2 => (denCs cs e2).bind fun (k, e3) =>
          if k then (denE elt e3).bind fun (r, e4) => (sol r).map fun d => (e4, p.2 ++ [d]) else some (e3, p.2)) (e3, p.2)
        else none) (wipeE e1 own, [])).map fun p => (.v (.lst p.2), wipeE p.1 own)
      else none
def denA : Es → En → Option (List R × En)
  | .nil, e => some ([], e)
  | .cons a es, e => (denE a e).bind fun (x, e1) => (denA es e1).map fun (xs, e2) => (x :: xs, e2)
def denAnd : Es → En → Option (R × En)
  | .nil, _ => none
  | .cons a .nil, e => denE a e
  | .cons a es, e => (denE a e).bind fun (x, e1) => match x with
      | .v (.bl c) => if c then denAnd es e1 else some (.v (.bl false), e1)
      | _ => none
def denOr : Es → En → Option (R × En)
  | .nil, _ => none
  | .cons a .nil, e => denE a e
  | .cons a es, e => (denE a e).bind fun (x, e1) => match x with
      | .v (.bl c) => if c then some (.v (.bl true), e1) else denOr es e1
      | _ => none
/-- tests of a comprehension, one behind another -/
def denCs : Es → En → Option (Bool × En)
  | .nil, e => some (true, e)
  | .cons a es, e => (denE a e).bind fun (x, e1) => match x with
      | .v (.bl c) => if c then denCs es e1 else some (false, e1)
      | _ => none
def denO : Oe → En → Option (Option Int × En)
  | .none, e => some (none, e)
  | .some a, e => (denE a e).bind fun (x, e1) => match x with
      | .v (.int i) => some (some i, e1)
      | _ => none
def denI : It → En → Option (List D × En)
  | .seq a, e => (denE a e).bind fun (x, e1) => (sol x).bind fun u => (itOf u).map fun xs => (xs, e1)
  | .rng1 a, e => (denE a e).bind fun (x, e1) => match x with
      | .v (.int n) => if -1000000000 ≤ n ∧ n ≤ LINE then some ((List.range n.toNat).map fun (i : Nat) => .int (i : Int), e1) else none
      | _ => none
  | .rng2 a b, e => (denE a e).bind fun (x, e1) => (denE b e1).bind fun (y, e2) => match x, y with
      | .v (.int m), .v (.int n) => if -1000000000 ≤ m ∧ n - m ≤ LINE ∧ m ≤ 1000000000 ∧ n ≤ 1000000000 ∧ -1000000000 ≤ n then some ((List.range (n - m).toNat).map fun (i : Nat) => .int (m + (i : Int)), e2) else none
      | _, _ => none
  | .enum a, e => (denE a e).bind fun (x, e1) => (sol x).bind fun u => (seqOf u).map fun xs => (xs.mapIdx fun i d => .tup [.int i, d], e1)
  | .zip a b, e => (denE a e).bind fun (x, e1) => (denE b e1).bind fun (y, e2) => (sol x).bind fun u => (sol y).bind fun w => (seqOf u).bind fun xs => (seqOf w).map fun ys => ((xs.zip ys).map fun p => .tup [p.1, p.2], e2)
  | .zip3 a b c, e => (denE a e).bind fun (x, e1) => (denE b e1).bind fun (y, e2) => (denE c e2).bind fun (z, e3) => (sol x).bind fun u => (sol y).bind fun w => (sol z).bind fun t => (seqOf u).bind fun xs => (seqOf w).bind fun ys => (seqOf t).map fun zs => ((xs.zip (ys.zip zs)).map fun p => .tup [p.1, p.2.1, p.2.2], e3)
  | .rev a, e => (denE a e).bind fun (x, e1) => (sol x).bind fun u => match u with
      | .lst xs => some (xs.reverse, e1)
      | _ => none
end

/-- a loop over items -/
def loopF (body : D → En → Option Ctl) (fg : List Nat) : List D → En → Option Ctl
  | [], e => some (.nx (wipeE e fg))
  | x :: xs, e => (body x (wipeE e fg)).bind fun c => match c with
    | .nx e1 => loopF body fg xs e1
    | .ct e1 => loopF body fg xs e1
    | .brk e1 => some (.nx (wipeE e1 fg))
    | .ret d e1 => some (.ret d e1)
def loopW (test : En → Option (Bool × En)) (body : En → Option Ctl) (fg : List Nat) : Nat → En → Option Ctl
  | 0, _ => none
  | n + 1, e => (test (wipeE e fg)).bind fun (k, e1) => if k then (body e1).bind fun c => match c with
      | .nx e2 => loopW test body fg n e2
      | .ct e2 => loopW test body fg n e2
      | .brk e2 => some (.nx (wipeE e2 fg))
      | .ret d e2 => some (.ret d e2)
    else some (.nx (wipeE e1 fg))
def testOf (p : R × En) : Option (Bool × En) := match p.1 with
  | .v (.bl c) => some (c, p.2)
  | _ => none
/-- a new list becomes a slot's own; or a value is stored -/
def putSl (o : Bool) (i : Nat) (d : D) (e : En) : Option En := match o, d with
  | true, d => if isCo d then some (e.set i (.own none d)) else none
  | false, d => some (e.set i (.val d))

def isOwnD (e : En) (i : Nat) : Bool := match e[i]? with
  | some (.own _ (.dic _ _ _)) => true
  | _ => false
def putSls : List Nat → List Bool → List D → En → Option En
  | [], [], [], e => some e
  | i :: is, o :: os, d :: ds, e => (putSl o i d e).bind (putSls is os ds)
  | _, _, _, _ => none

/-- x[i], y[j] = .. -/
def setSubs : List Nat → Es → List D → En → Option En
  | [], .nil, [], e => some e
  | i :: is, .cons ix r, d :: ds, e => if isOwn e i = false then none else (denE F ix e).bind fun (y, e1) => match e1[i]?, y with
    | some (.own t (.lst xs)), .v (.int k) => if 0 ≤ k ∧ k < xs.length then setSubs is r ds (e1.set i (.own t (.lst (xs.set k.toNat d)))) else none
    | _, _ => none
  | _, _, _, _ => none
mutual
def denS : Sx → En → Option Ctl
  | .asg t a, e => (denE F a e).bind fun (x, e1) => (sol x).bind fun d => (setTg t d e1).map .nx
  | .asgO i a, e => (denE F a e).bind fun (x, e1) => (sol x).bind fun d => (putSl true i d e1).map .nx
  | .par is os es, e => (denA F es e).bind fun (rs, e1) => (rs.mapM sol).bind fun ds => (putSls is os ds e1).map .nx
  | .aug i o a, e => (varR e i).bind fun x => (sol x).bind fun u => (denE F a e).bind fun (y, e1) => (sol y).bind fun w => match o, u, w with
      | .add, .int p, .int q => some (.nx (e1.set i (.val (.int (p + q)))))
      | .sub, .int p, .int q => some (.nx (e1.set i (.val (.int (p - q)))))
      | _, _, _ => none
  | .setI i ix a, e => if isOwn e i = false then none else (denE F a e).bind fun (x, e1) => (denE F ix e1).bind fun (y, e2) => (sol x).bind fun d => match e2[i]?, y with
      | some (.own t (.lst xs)), .v (.int k) => if 0 ≤ k ∧ k < xs.length then some (.nx (e2.set i (.own t (.lst (xs.set k.toNat d))))) else none
      | _, _ => none
  | .augI i ix a, e => if isOwn e i = false then none else (denE F ix e).bind fun (y, e1) => match e1[i]?, y with
      | some (.own _ (.lst xs)), .v (.int k) => if 0 ≤ k ∧ k < xs.length then (match xs[k.toNat]? with
        | some (.int n) => (denE F a e1).bind fun (z, e2) => match e2[i]?, z with
          | some (.own t (.lst us)), .v (.int m) => if k < us.length then some (.nx (e2.set i (.own t (.lst (us.set k.toNat (.int (n + m))))))) else none
          | _, _ => none
        | _ => none) else none
      | _, _ => none
  | .subs is ixs a, e => (denE F a e).bind fun (x, e1) => (sol x).bind fun d => match d with
      | .tup ds => (setSubs F is ixs ds e1).map .nx
      | _ => none
  | .put i ix a, e => if isOwnD e i = false then none else (denE F a e).bind fun (x, e1) => (denE F ix e1).bind fun (y, e2) => (sol x).bind fun d => (sol y).bind fun k => match e2[i]? with
      | some (.own t (.dic b ks vs)) => if ks.length < LINE then (dPut b ks vs k d).map fun r => .nx (e2.set i (.own t r)) else none
      | _ => none
  | .app i a, e => if isOwn e i = false then none else (denE F a e).bind fun (x, e1) => (sol x).bind fun d => match e1[i]? with
      | some (.own t (.lst xs)) => if xs.length < LINE then some (.nx (e1.set i (.own t (.lst (xs ++ [d]))))) else none
      | _ => none
  | .ext i a, e => if isOwn e i = false then none else (denE F a e).bind fun (x, e1) => (sol x).bind fun d => match e1[i]?, d with
      | some (.own t (.lst xs)), .lst ys => if xs.length + ys.length ≤ LINE then some (.nx (e1.set i (.own t (.lst (xs ++ ys))))) else none
      | _, _ => none
  | .ifs c a b, e => ((denE F c e).bind testOf).bind fun (k, e1) => if k then denSs a e1 else denSs b e1
  | .for_ tg it b fg, e => (denI F it e).bind fun (xs, e1) => loopF (fun x e2 => (setTg tg x e2).bind (denSs b)) fg xs e1
  | .wh c b fg, e => loopW (fun e1 => (denE F c e1).bind testOf) (denSs b) fg FUEL e
  | .ret a, e => (denE F a e).bind fun (x, e1) => match x with
      | .v d => some (.ret d e1)
      | .b i => match e1[i]? with
        | some (.own none (.lst xs)) => some (.ret (.lst xs) (e1.set i (.val (.lst xs))))
        | _ => none
  | .drop a, e => (denE F a e).map fun (_, e1) => .nx e1
  | .brk, e => some (.brk e)
  | .cnt, e => some (.ct e)
  | .frz i, e => match e[i]? with
      | some (.own none d) => some (.nx (e.set i (.val d)))
      | _ => none
def denSs : Ss → En → Option Ctl
  | .nil, e => some (.nx e)
  | .cons s ss, e => (denS s e).bind fun c => match c with
    | .nx e1 => denSs ss e1
    | c => some c
end
end

/-- a def: how many parameters, how many slots, its body -/
structure Df where
  ar : Nat
  sl : Nat
  body : Ss
  pm : Option (CallF → List Sl → Option (D × List Sl)) := none
def tagged : Nat → List Sl → List Sl
  | _, [] => []
  | k, .own _ xs :: r => .own (some k) xs :: tagged (k + 1) r
  | k, s :: r => s :: tagged (k + 1) r
/-- what the own parameters are behind the call -/
def outsOf (e : En) : Nat → List Sl → Option (List Sl)
  | _, [] => some []
  | k, .own _ _ :: r => match e[k]? with
    | some (.own (some j) ys) => if j = k then (outsOf e (k + 1) r).map (.own none ys :: ·) else none
    | _ => none
  | k, s :: r => (outsOf e (k + 1) r).map (s :: ·)
def denB (F : CallF) (f : Df) (as : List Sl) : Option (D × List Sl) :=
  if as.length = f.ar then
    (denSs F f.body (tagged 0 as ++ List.replicate (f.sl - f.ar) .no)).bind fun c => match c with
      | .ret d e => (outsOf e 0 as).map fun o => (d, o)
      | .nx e => (outsOf e 0 as).map fun o => (.non, o)
      | _ => none
  else none
def denF (F : CallF) (f : Df) (as : List Sl) : Option (D × List Sl) := match f.pm with
  | some g => g F as
  | none => denB F f as
theorem denF_none {F : CallF} {f : Df} {as : List Sl} (h : f.pm = none) : denF F f as = denB F f as := by
  unfold denF
  rw [h]
/-- the program: its defs by number -/
def run (T : List Df) : Nat → CallF
  | 0, _, _ => none
  | n + 1, f, as => (T[f]?).bind fun d => denF (run T n) d as
end PC
set_option Elab.async false
set_option linter.all false
set_option maxRecDepth 100000
/-! PyCore, part 2: how own data lie in the abstract heap. -/
namespace PC
open PySem PySem.Spec PyProof.Rows L2

def isM : HO → Prop
  | .lst _ => True
  | .dK _ => True
  | .dT _ => True
  | _ => False

/-- the dict's object: t: tuple keys -/
def dicO : Bool → List D → List V → HO → Prop
  | false, ks, vs, o => ∃ js : List Key, ks.mapM keyD = some js ∧ js.length = vs.length ∧ o = .dK (js.zip vs)
  | true, ks, vs, o => ∃ js : List (List Key), ks.mapM keyT = some js ∧ js.length = vs.length ∧ o = .dT (js.zip vs)
theorem dicO_isM {t : Bool} {ks : List D} {vs : List V} {o : HO} (h : dicO t ks vs o) : isM o := by
  cases t with
  | false =>
    obtain ⟨js, _, _, rfl⟩ := h
    trivial
  | true =>
    obtain ⟨js, _, _, rfl⟩ := h
    trivial
/-- a list that nobody writes: locked, or of the written part -/
def ScL (K : PySem.W.Frag) (H : Hp) (a : Addr) (xs : List V) : Prop := (∃ o, H a = some (.frz o (.lst xs))) ∨ SqL K (fun _ => none) a xs
theorem ScL.kk {K : PySem.W.Frag} {a : Addr} {xs : List V} (h : SqL K (fun _ => none) a xs) (H : Hp) : SqL K H a xs := by
  rcases h with (h | ⟨o, h⟩) | h
  · cases h
  · cases h
  · exact .inr h
theorem ScL.sq {K : PySem.W.Frag} {H : Hp} {a : Addr} {xs : List V} (h : ScL K H a xs) : SqL K H a xs := by
  rcases h with h | h
  · exact .inl (.inr h)
  · exact ScL.kk h H
mutual
def Rep (K : PySem.W.Frag) (M : Addr → Prop) (H : Hp) : D → V → Prop
  | .non, v => v = .non
  | .bl b, v => v = .bl b
  | .int i, v => v = .int i
  | .str s, v => v = .str s
  | .tup ds, v => ∃ a vs, v = .ref a ∧ H a = some (.tup vs) ∧ Reps K M H ds vs
  | .lst ds, v => ∃ a vs, v = .ref a ∧ ¬ M a ∧ H a = some (.lst vs) ∧ Reps K M H ds vs
  | .dic t ks ds, v => ∃ a vs o u, v = .ref a ∧ H a = some (.frz o u) ∧ Reps K M H ds vs ∧ dicO t ks vs u
  | .scr ds, v => ∃ a vs, v = .ref a ∧ ScL K H a vs ∧ Reps K M H ds vs
def Reps (K : PySem.W.Frag) (M : Addr → Prop) (H : Hp) : List D → List V → Prop
  | [], vs => vs = []
  | d :: ds, vs => ∃ v r, vs = v :: r ∧ Rep K M H d v ∧ Reps K M H ds r
end

/-- all objects but those at O stand; those at O stay what may be written -/
structure Kp (O : Addr → Prop) (H H' : Hp) : Prop where
  old : ∀ a o, ¬ O a → H a = some o → H' a = some o
  wri : ∀ a o, O a → H a = some o → isM o → ∃ o', H' a = some o' ∧ isM o'
abbrev Old (O : Addr → Prop) (H H' : Hp) : Prop := ∀ a o, ¬ O a → H a = some o → H' a = some o
/-- the same where O's objects may stop to be such as may be written -/
structure KpW (O : Addr → Prop) (H H' : Hp) : Prop where
  old : ∀ a o, ¬ O a → H a = some o → H' a = some o
  wri : ∀ a o, O a → H a = some o → ∃ o', H' a = some o'
/-- O's objects may be written -/
def OM (O : Addr → Prop) (H : Hp) : Prop := ∀ a, O a → ∃ o, H a = some o ∧ isM o

section
variable {K : PySem.W.Frag} {M M' O O' : Addr → Prop} {H H' H'' : Hp}
theorem Kp.refl : Kp O H H := ⟨fun _ _ _ h => h, fun _ o _ h m => ⟨o, h, m⟩⟩
theorem Kp.ex (h : ∀ a o, H a = some o → H' a = some o) : Kp O H H' := ⟨fun a o _ e => h a o e, fun a o _ e m => ⟨o, h a o e, m⟩⟩
theorem Kp.new {p : Addr} {o : HO} (h : H p = none) : Kp O H (upd H p o) := .ex fun a u e => by
  rw [upd_ne (ne_of_none e h)]
  exact e
theorem Kp.trans (a : Kp O H H') (b : Kp O' H' H'') (s : ∀ a, O' a → O a ∨ H a = none) : Kp O H H'' where
  old := fun x o n e => b.old x o (fun z => by
    rcases s x z with z | z
    · exact n z
    · rw [e] at z; cases z) (a.old x o n e)
  wri := fun x o hx e m => by
    obtain ⟨o1, e1, m1⟩ := a.wri x o hx e m
    by_cases hb : O' x
    · exact b.wri x o1 hb e1 m1
    · exact ⟨o1, b.old x o1 hb e1, m1⟩
theorem OM.kp (h : OM O H) (k : Kp O' H H') : OM O H' := fun a ha => by
  obtain ⟨o, e, m⟩ := h a ha
  by_cases hb : O' a
  · exact k.wri a o hb e m
  · exact ⟨o, k.old a o hb e, m⟩
theorem Kp.w (k : Kp O H H') (om : OM O H) : KpW O H H' := ⟨k.old, fun a o h e => by
  obtain ⟨o1, e1, m1⟩ := om a h
  rw [e] at e1
  cases e1
  obtain ⟨o2, e2, _⟩ := k.wri a o h e m1
  exact ⟨o2, e2⟩⟩
theorem KpW.refl : KpW O H H := ⟨fun _ _ _ h => h, fun _ o _ h => ⟨o, h⟩⟩
theorem KpW.ex (h : ∀ a o, H a = some o → H' a = some o) : KpW O H H' := ⟨fun a o _ e => h a o e, fun a o _ e => ⟨o, h a o e⟩⟩
theorem KpW.trans (a : KpW O H H') (b : KpW O' H' H'') (s : ∀ a, O' a → O a ∨ H a = none) : KpW O H H'' where
  old := fun x o n e => b.old x o (fun z => by
    rcases s x z with z | z
    · exact n z
    · rw [e] at z; cases z) (a.old x o n e)
  wri := fun x o hx e => by
    obtain ⟨o1, e1⟩ := a.wri x o hx e
    by_cases hb : O' x
    · exact b.wri x o1 hb e1
    · exact ⟨o1, b.old x o1 hb e1⟩
theorem KpW.back (k : KpW O H H') {p : Addr} (h : H' p = none) : H p = none := by
  cases e : H p with
  | none => rfl
  | some o =>
    by_cases ho : O p
    · obtain ⟨o2, e2⟩ := k.wri p o ho e
      rw [h] at e2; cases e2
    · have := k.old p o ho e
      rw [h] at this; cases this
theorem Old.frz (k : Old O H H') (om : OM O H) {a : Addr} {o : Obj} {u : HO} (e : H a = some (.frz o u)) : H' a = some (.frz o u) := k a _ (fun z => by
  obtain ⟨o1, e1, m1⟩ := om a z
  rw [e] at e1; cases e1; exact m1) e
theorem Old.sqT (k : Old O H H') (om : OM O H) {a : Addr} {xs : List V} (h : SqT K H a xs) : SqT K H' a xs := by
  rcases h with (h | ⟨o, h⟩) | h
  · exact .inl (.inl (k a _ (fun z => by
      obtain ⟨o1, e1, m1⟩ := om a z
      rw [h] at e1; cases e1; exact m1) h))
  · exact .inl (.inr ⟨o, k.frz om h⟩)
  · exact .inr h
theorem Old.tup (k : Old O H H') (om : OM O H) {a : Addr} {xs : List V} (h : H a = some (.tup xs)) : H' a = some (.tup xs) := k a _ (fun z => by
  obtain ⟨o1, e1, m1⟩ := om a z
  rw [h] at e1; cases e1; exact m1) h
theorem Old.rdL (k : Old O H H') (om : OM O H) {a : Addr} {u : HO} (n : ¬ O a) (h : Rd H a u) : Rd H' a u := by
  rcases h with h | ⟨o, h⟩
  · exact .inl (k a _ n h)
  · exact .inr ⟨o, k.frz om h⟩
theorem Kp.frz (k : Kp O H H') (om : OM O H) {a : Addr} {o : Obj} {u : HO} (e : H a = some (.frz o u)) : H' a = some (.frz o u) := Old.frz k.old om e
theorem Kp.sqT (k : Kp O H H') (om : OM O H) {a : Addr} {xs : List V} (h : SqT K H a xs) : SqT K H' a xs := Old.sqT k.old om h
theorem Kp.tup (k : Kp O H H') (om : OM O H) {a : Addr} {xs : List V} (h : H a = some (.tup xs)) : H' a = some (.tup xs) := Old.tup k.old om h
theorem Kp.rdL (k : Kp O H H') (om : OM O H) {a : Addr} {u : HO} (n : ¬ O a) (h : Rd H a u) : Rd H' a u := Old.rdL k.old om n h
theorem Rep.tupS {M : Addr → Prop} {ds : List D} {v : V} (h : Rep K M H (.tup ds) v) : ∃ a vs, v = .ref a ∧ SqT K H a vs ∧ Reps K M H ds vs := by
  obtain ⟨a, vs, e, s, r⟩ := h
  exact ⟨a, vs, e, .inl (.inl s), r⟩
theorem rd_some {a : Addr} {u : HO} (h : Rd H a u) : H a ≠ none := by
  rcases h with h | ⟨o, h⟩ <;> (rw [h]; exact fun z => by cases z)
mutual
theorem Rep.liftO (k : Old O H H') (om : OM O H) (oM : ∀ a, O a → M a) (mM : ∀ a, M' a → M a ∨ H a = none) : ∀ {d : D} {v : V}, Rep K M H d v → Rep K M' H' d v
  | .non, _, h => h
  | .bl _, _, h => h
  | .int _, _, h => h
  | .str _, _, h => h
  | .tup ds, v, h => by
    obtain ⟨a, vs, e, s, r⟩ := h
    exact ⟨a, vs, e, Old.tup k om s, Reps.liftO k om oM mM r⟩
  | .lst ds, v, h => by
    obtain ⟨a, vs, e, n, s, r⟩ := h
    refine ⟨a, vs, e, fun z => ?_, k a _ (fun z => n (oM a z)) s, Reps.liftO k om oM mM r⟩
    rcases mM a z with y | y
    · exact n y
    · rw [y] at s
      cases s
  | .dic t ks ds, v, h => by
    obtain ⟨a, vs, o, u, e, s, r, q⟩ := h
    exact ⟨a, vs, o, u, e, Old.frz k om s, Reps.liftO k om oM mM r, q⟩
  | .scr ds, v, h => by
    obtain ⟨a, vs, e, s, r⟩ := h
    refine ⟨a, vs, e, ?_, Reps.liftO k om oM mM r⟩
    rcases s with ⟨o, s⟩ | s
    · exact .inl ⟨o, Old.frz k om s⟩
    · exact .inr s
theorem Reps.liftO (k : Old O H H') (om : OM O H) (oM : ∀ a, O a → M a) (mM : ∀ a, M' a → M a ∨ H a = none) : ∀ {ds : List D} {vs : List V}, Reps K M H ds vs → Reps K M' H' ds vs
  | [], _, h => h
  | d :: ds, _, h => by
    obtain ⟨v, r, e, h1, h2⟩ := h
    exact ⟨v, r, e, Rep.liftO k om oM mM h1, Reps.liftO k om oM mM h2⟩
end
theorem Rep.lift (k : Kp O H H') (om : OM O H) (oM : ∀ a, O a → M a) (mM : ∀ a, M' a → M a ∨ H a = none) {d : D} {v : V} (h : Rep K M H d v) : Rep K M' H' d v := Rep.liftO k.old om oM mM h
theorem Reps.lift (k : Kp O H H') (om : OM O H) (oM : ∀ a, O a → M a) (mM : ∀ a, M' a → M a ∨ H a = none) {ds : List D} {vs : List V} (h : Reps K M H ds vs) : Reps K M' H' ds vs := Reps.liftO k.old om oM mM h
theorem Reps.length : ∀ {ds : List D} {vs : List V}, Reps K M H ds vs → ds.length = vs.length
  | [], vs, h => by
    have e : vs = [] := h
    rw [e]
    rfl
  | d :: ds, _, h => by
    obtain ⟨v, r, e, _, h2⟩ := h
    rw [e, List.length_cons, List.length_cons, Reps.length h2]
theorem Reps.get : ∀ {ds : List D} {vs : List V} {i : Nat} {d : D}, Reps K M H ds vs → ds[i]? = some d → ∃ v, vs[i]? = some v ∧ Rep K M H d v
  | [], _, _, _, _, e => by simp at e
  | d :: ds, _, 0, x, h, e => by
    obtain ⟨v, r, e1, h1, _⟩ := h
    cases e
    exact ⟨v, by rw [e1]; rfl, h1⟩
  | d :: ds, _, i + 1, x, h, e => by
    obtain ⟨v, r, e1, _, h2⟩ := h
    obtain ⟨y, h3, h4⟩ := Reps.get h2 (i := i) (d := x) (by simpa using e)
    exact ⟨y, by rw [e1]; simpa using h3, h4⟩
theorem Reps.append : ∀ {ds es : List D} {vs ws : List V}, Reps K M H ds vs → Reps K M H es ws → Reps K M H (ds ++ es) (vs ++ ws)
  | [], _, vs, _, h, g => by
    have e : vs = [] := h
    rw [e]
    exact g
  | d :: ds, es, _, ws, h, g => by
    obtain ⟨v, r, e, h1, h2⟩ := h
    rw [e]
    exact ⟨v, r ++ ws, rfl, h1, Reps.append h2 g⟩
theorem Reps.set : ∀ {ds : List D} {vs : List V} {d : D} {v : V} (i : Nat), Reps K M H ds vs → Rep K M H d v → Reps K M H (ds.set i d) (vs.set i v)
  | [], vs, _, _, _, h, _ => by
    have e : vs = [] := h
    rw [e]
    rfl
  | x :: ds, _, d, v, 0, h, g => by
    obtain ⟨y, r, e, h1, h2⟩ := h
    rw [e]
    exact ⟨v, r, rfl, g, h2⟩
  | x :: ds, _, d, v, i + 1, h, g => by
    obtain ⟨y, r, e, h1, h2⟩ := h
    rw [e]
    exact ⟨y, r.set i v, rfl, h1, Reps.set i h2 g⟩
theorem Reps.drop : ∀ {ds : List D} {vs : List V} (n : Nat), Reps K M H ds vs → Reps K M H (ds.drop n) (vs.drop n)
  | _, _, 0, h => h
  | [], vs, n + 1, h => by
    have e : vs = [] := h
    rw [e]
    rfl
  | d :: ds, _, n + 1, h => by
    obtain ⟨y, r, e, h1, h2⟩ := h
    rw [e]
    exact Reps.drop n h2
theorem Reps.take : ∀ {ds : List D} {vs : List V} (n : Nat), Reps K M H ds vs → Reps K M H (ds.take n) (vs.take n)
  | _, _, 0, h => rfl
  | [], vs, n + 1, h => by
    have e : vs = [] := h
    rw [e]
    rfl
  | d :: ds, _, n + 1, h => by
    obtain ⟨y, r, e, h1, h2⟩ := h
    rw [e]
    exact ⟨y, r.take n, rfl, h1, Reps.take n h2⟩
theorem Reps.nil : Reps K M H [] [] := rfl
theorem Reps.cons {d : D} {ds : List D} {v : V} {vs : List V} (h : Rep K M H d v) (r : Reps K M H ds vs) : Reps K M H (d :: ds) (v :: vs) := ⟨v, vs, rfl, h, r⟩
end

/-- a container's object -/
def RepO (K : PySem.W.Frag) (M : Addr → Prop) (H : Hp) : D → HO → Prop
  | .lst xs, o => ∃ vs, o = .lst vs ∧ Reps K M H xs vs
  | .dic t ks ds, o => ∃ vs, Reps K M H ds vs ∧ dicO t ks vs o
  | _, _ => False
theorem RepO.isM {K : PySem.W.Frag} {M : Addr → Prop} {H : Hp} {d : D} {o : HO} (h : RepO K M H d o) : isM o := by
  cases d with
  | lst xs =>
    obtain ⟨vs, rfl, _⟩ := h
    trivial
  | dic t ks ds =>
    obtain ⟨vs, _, h⟩ := h
    exact dicO_isM h
  | _ => exact False.elim h
theorem RepO.co {K : PySem.W.Frag} {M : Addr → Prop} {H : Hp} {d : D} {o : HO} (h : RepO K M H d o) : isCo d = true := by
  cases d <;> first | rfl | exact False.elim h
theorem RepO.liftO {K : PySem.W.Frag} {M M' O : Addr → Prop} {H H' : Hp} (k : Old O H H') (om : OM O H) (oM : ∀ a, O a → M a) (mM : ∀ a, M' a → M a ∨ H a = none) {d : D} {o : HO} (h : RepO K M H d o) : RepO K M' H' d o := by
  cases d with
  | lst xs =>
    obtain ⟨vs, e, r⟩ := h
    exact ⟨vs, e, Reps.liftO k om oM mM r⟩
  | dic t ks ds =>
    obtain ⟨vs, r, h⟩ := h
    exact ⟨vs, Reps.liftO k om oM mM r, h⟩
  | _ => exact False.elim h
theorem RepO.lift {K : PySem.W.Frag} {M M' O : Addr → Prop} {H H' : Hp} (k : Kp O H H') (om : OM O H) (oM : ∀ a, O a → M a) (mM : ∀ a, M' a → M a ∨ H a = none) {d : D} {o : HO} (h : RepO K M H d o) : RepO K M' H' d o := RepO.liftO k.old om oM mM h
theorem RepO.anti {K : PySem.W.Frag} {M M' : Addr → Prop} {H : Hp} {d : D} {o : HO} (h : RepO K M H d o) (i : ∀ a, M' a → M a) : RepO K M' H d o := h.lift (O := fun _ => False) (.ex fun _ _ e => e) (fun _ z => z.elim) (fun _ z => z.elim) fun a z => .inl (i a z)
theorem RepO.lstOf {K : PySem.W.Frag} {M : Addr → Prop} {H : Hp} {xs : List D} {o : HO} (h : RepO K M H (.lst xs) o) : ∃ vs, o = .lst vs ∧ Reps K M H xs vs := h
/-! ### slots -/
def Own (env : En) (σ : L2.St) (a : Addr) : Prop := ∃ (i : Nat) (t : Option Nat) (xs : D), env[i]? = some (.own t xs) ∧ σ[i]? = some (some (.ref a))
abbrev MM (Mo : Addr → Prop) (env : En) (σ : L2.St) : Addr → Prop := fun a => Mo a ∨ Own env σ a

structure Corr (K : PySem.W.Frag) (Mo : Addr → Prop) (pins : Nat → Addr) (env : En) (σ : L2.St) (H : Hp) : Prop where
  len : env.length = σ.length
  al : OM Mo H
  vl : ∀ (i : Nat) (d : D), env[i]? = some (.val d) → ∃ v, σ[i]? = some (some v) ∧ Rep K (MM Mo env σ) H d v
  ow : ∀ (i : Nat) (t : Option Nat) (xs : D), env[i]? = some (.own t xs) → ∃ p o, σ[i]? = some (some (.ref p)) ∧ H p = some o ∧ RepO K (MM Mo env σ) H xs o ∧ (t = none → ¬ Mo p) ∧ (∀ k, t = some k → p = pins k ∧ Mo p)
  ds : ∀ (i j : Nat) (t u : Option Nat) (xs ys : D) (p : Addr), i ≠ j → env[i]? = some (.own t xs) → env[j]? = some (.own u ys) → σ[i]? = some (some (.ref p)) → σ[j]? = some (some (.ref p)) → False

section
variable {K : PySem.W.Frag} {Mo : Addr → Prop} {pins : Nat → Addr} {env env' env'' : En} {σ σ' : L2.St} {H H' H'' : Hp}
theorem Corr.om (c : Corr K Mo pins env σ H) : OM (Own env σ) H := fun a ⟨i, t, xs, e1, e2⟩ => by
  obtain ⟨p, o, e3, e4, r, _⟩ := c.ow i t xs e1
  rw [e2] at e3
  cases e3
  exact ⟨_, e4, r.isM⟩
theorem Corr.omM (c : Corr K Mo pins env σ H) : OM (MM Mo env σ) H := fun a ha => by
  rcases ha with ha | ha
  · exact c.al a ha
  · exact c.om a ha
theorem Corr.nofresh (c : Corr K Mo pins env σ H) {a : Addr} (h : H a = none) : ¬ MM Mo env σ a := fun z => by
  obtain ⟨o, e, _⟩ := c.omM a z
  rw [h] at e; cases e

/-- an expression's step: the own lists may have changed, all else stands -/
structure Stp (env env' : En) (σ : L2.St) (H H' : Hp) : Prop where
  kp : Kp (Own env σ) H H'
  own : ∀ (i : Nat) (t : Option Nat) (xs : D), env[i]? = some (.own t xs) → ∃ ys, env'[i]? = some (.own t ys)
  oth : ∀ (i : Nat) (s : Sl), env[i]? = some s → (∀ t xs, s ≠ .own t xs) → env'[i]? = some s
  len : env'.length = env.length
theorem Stp.back (s : Stp env env' σ H H') {i : Nat} {t : Option Nat} {ys : D} (h : env'[i]? = some (.own t ys)) : ∃ xs, env[i]? = some (.own t xs) := by
  cases e : env[i]? with
  | none =>
    have h1 := List.getElem?_eq_none_iff.mp e
    have h2 := (List.getElem?_eq_some_iff.mp h).1
    rw [s.len] at h2
    omega
  | some x =>
    cases x with
    | no =>
      have := s.oth i _ e (fun t xs z => by cases z)
      rw [h] at this; cases this
    | val d =>
      have := s.oth i _ e (fun t xs z => by cases z)
      rw [h] at this; cases this
    | own u xs =>
      obtain ⟨zs, h3⟩ := s.own i u xs e
      rw [h] at h3; cases h3
      exact ⟨xs, rfl⟩
theorem Stp.ownEq (s : Stp env env' σ H H') (a : Addr) : Own env' σ a ↔ Own env σ a := by
  constructor
  · rintro ⟨i, t, xs, e1, e2⟩
    obtain ⟨zs, e3⟩ := s.back e1
    exact ⟨i, t, zs, e3, e2⟩
  · rintro ⟨i, t, xs, e1, e2⟩
    obtain ⟨zs, e3⟩ := s.own i t xs e1
    exact ⟨i, t, zs, e3, e2⟩
theorem Stp.ownFn (s : Stp env env' σ H H') : Own env' σ = Own env σ := funext fun a => propext (s.ownEq a)
theorem Stp.refl : Stp env env σ H H := ⟨.refl, fun i t xs h => ⟨xs, h⟩, fun i s h _ => h, rfl⟩
theorem Stp.trans (a : Stp env env' σ H H') (b : Stp env' env'' σ H' H'') : Stp env env'' σ H H'' where
  kp := a.kp.trans b.kp fun x hx => .inl ((a.ownEq x).mp hx)
  own := fun i t xs h => by
    obtain ⟨ys, h1⟩ := a.own i t xs h
    exact b.own i t ys h1
  oth := fun i s h n => b.oth i s (a.oth i s h n) n
  len := b.len.trans a.len
theorem Stp.ex (h : ∀ a o, H a = some o → H' a = some o) : Stp env env σ H H' := ⟨.ex h, fun i t xs h => ⟨xs, h⟩, fun i s h _ => h, rfl⟩
theorem Stp.mm (s : Stp env env' σ H H') (Mo : Addr → Prop) : MM Mo env' σ = MM Mo env σ := by
  unfold MM
  rw [s.ownFn]
theorem Corr.stpRep {d : D} {v : V} (c : Corr K Mo pins env σ H) (s : Stp env env' σ H H') (r : Rep K (MM Mo env σ) H d v) : Rep K (MM Mo env' σ) H' d v := by
  rw [s.mm Mo]
  exact Rep.lift s.kp c.om (fun a h => .inr h) (fun a h => .inl h) r
theorem Corr.stpReps {ds : List D} {vs : List V} (c : Corr K Mo pins env σ H) (s : Stp env env' σ H H') (r : Reps K (MM Mo env σ) H ds vs) : Reps K (MM Mo env' σ) H' ds vs := by
  rw [s.mm Mo]
  exact Reps.lift s.kp c.om (fun a h => .inr h) (fun a h => .inl h) r
/-- a new object is laid -/
theorem Corr.ex (c : Corr K Mo pins env σ H) (h : ∀ a o, H a = some o → H' a = some o) : Corr K Mo pins env σ H' where
  len := c.len
  al := c.al.kp (O' := fun _ => False) (.ex h)
  vl := fun i d e => by
    obtain ⟨v, e1, r⟩ := c.vl i d e
    exact ⟨v, e1, Rep.lift (.ex (O := Own env σ) h) c.om (fun a h => .inr h) (fun a h => .inl h) r⟩
  ow := fun i t xs e => by
    obtain ⟨p, vs, e1, e2, r, q⟩ := c.ow i t xs e
    exact ⟨p, vs, e1, h _ _ e2, RepO.lift (.ex (O := Own env σ) h) c.om (fun a h => .inr h) (fun a h => .inl h) r, q⟩
  ds := c.ds
end
end PC
set_option Elab.async false
set_option linter.all false
set_option maxRecDepth 100000
/-! PyCore, part 2b: dicts: what is read and written in the abstract heap. -/
namespace PC
open PySem PySem.Spec PyProof.Rows L2

section
variable {K : PySem.W.Frag} {M : Addr → Prop} {H : Hp}
theorem key_rep {d : D} {k : Key} {v : V} (h : keyD d = some k) (r : Rep K M H d v) : v = kV k := by
  cases d with
  | int i =>
    cases h
    exact r
  | str x =>
    cases h
    exact r
  | _ => cases h
theorem rep_key {d : D} {k : Key} (h : keyD d = some k) : Rep K M H d (kV k) := by
  cases d with
  | int i =>
    cases h
    exact rfl
  | str x =>
    cases h
    exact rfl
  | _ => cases h
theorem mapM_nil' {α β : Type} {f : α → Option β} {bs : List β} (h : ([] : List α).mapM f = some bs) : bs = [] := by
  simp at h
  exact h
theorem mapM_cons' {α β : Type} {f : α → Option β} {a : α} {l : List α} {bs : List β} (h : (a :: l).mapM f = some bs) : ∃ b r, f a = some b ∧ l.mapM f = some r ∧ bs = b :: r := by
  rw [List.mapM_cons] at h
  cases e1 : f a with
  | none => rw [e1] at h; cases h
  | some b =>
    cases e2 : l.mapM f with
    | none => rw [e1, e2] at h; cases h
    | some r => rw [e1, e2] at h; cases h; exact ⟨b, r, rfl, rfl, rfl⟩
theorem mapM_len {α β : Type} {f : α → Option β} : ∀ {l : List α} {bs : List β}, l.mapM f = some bs → bs.length = l.length
  | [], bs, h => by rw [mapM_nil' h]; rfl
  | a :: l, bs, h => by
    obtain ⟨b, r, _, e2, rfl⟩ := mapM_cons' h
    rw [List.length_cons, List.length_cons, mapM_len e2]
theorem keys_reps : ∀ {ds : List D} {ks : List Key} {vs : List V}, ds.mapM keyD = some ks → Reps K M H ds vs → vs = ks.map kV
  | [], ks, vs, h, r => by
    rw [mapM_nil' h]
    exact r
  | d :: ds, ks, vs, h, r => by
    obtain ⟨k, l, e1, e2, rfl⟩ := mapM_cons' h
    obtain ⟨v, w, rfl, r1, r2⟩ := r
    rw [key_rep e1 r1, keys_reps e2 r2]
    rfl
theorem reps_keys : ∀ {ds : List D} {ks : List Key}, ds.mapM keyD = some ks → Reps K M H ds (ks.map kV)
  | [], ks, h => by
    rw [mapM_nil' h]
    rfl
  | d :: ds, ks, h => by
    obtain ⟨k, l, e1, e2, rfl⟩ := mapM_cons' h
    exact ⟨_, _, rfl, rep_key e1, reps_keys e2⟩
theorem keyT_rep {d : D} {ks : List Key} {v : V} (h : keyT d = some ks) (r : Rep K M H d v) : ∃ b, v = .ref b ∧ H b = some (.tup (ks.map kV)) := by
  cases d with
  | tup xs =>
    obtain ⟨b, vs, e, s, r1⟩ := r
    rw [keys_reps h r1] at s
    exact ⟨b, e, s⟩
  | _ => cases h
theorem rep_keyT {d : D} {ks : List Key} {b : Addr} (h : keyT d = some ks) (e : H b = some (.tup (ks.map kV))) : Rep K M H d (.ref b) := by
  cases d with
  | tup xs => exact ⟨b, _, rfl, e, reps_keys h⟩
  | _ => cases h
end
section
variable {κ : Type} [DecidableEq κ]
theorem valV_getL : ∀ (js : List κ) (ws : List V) (k : κ), valV (js.zip ws) k = getL js ws k
  | [], ws, k => rfl
  | j :: js, [], k => rfl
  | j :: js, w :: ws, k => by
    by_cases h : j = k
    · rw [List.zip_cons_cons, valV_pos h, getL, if_pos h]
    · rw [List.zip_cons_cons, valV_neg h, getL, if_neg h, valV_getL js ws k]
theorem any_mem : ∀ {js : List κ} {ws : List V} (k : κ), js.length = ws.length → ((js.zip ws).any fun kv => decide (kv.1 = k)) = decide (k ∈ js)
  | [], ws, k, h => rfl
  | j :: js, [], k, h => by cases h
  | j :: js, w :: ws, k, h => by
    rw [List.zip_cons_cons, List.any_cons, any_mem k (by simpa using h)]
    by_cases e : j = k
    · simp [e]
    · have e' : ¬ k = j := fun z => e z.symm
      simp [e, e']
theorem map_setL : ∀ {js : List κ} {ws : List V} (k : κ) (w : V), js.length = ws.length → ((js.zip ws).map fun kv => if kv.1 = k then (kv.1, w) else kv) = js.zip (setL js ws k w)
  | [], ws, k, w, h => rfl
  | j :: js, [], k, w, h => by cases h
  | j :: js, x :: ws, k, w, h => by
    rw [List.zip_cons_cons, List.map_cons, map_setL k w (by simpa using h), setL, List.zip_cons_cons]
    by_cases e : j = k
    · rw [if_pos e, if_pos e]
    · rw [if_neg e, if_neg e]
theorem setL_len {α : Type} : ∀ {js : List κ} {ws : List α} (k : κ) (w : α), js.length = ws.length → (setL js ws k w).length = ws.length
  | [], ws, k, w, h => by
    cases ws with
    | nil => rfl
    | cons _ _ => cases h
  | j :: js, [], k, w, h => by cases h
  | j :: js, x :: ws, k, w, h => by rw [setL, List.length_cons, List.length_cons, setL_len k w (by simpa using h)]
theorem putK_putL {js : List κ} {ws : List V} (k : κ) (w : V) (h : js.length = ws.length) : putK (js.zip ws) k w = (putKs js js k k).zip (putL js ws k w) ∧ (putKs js js k k).length = (putL js ws k w).length := by
  unfold putK putL putKs
  rw [any_mem k h]
  by_cases e : k ∈ js
  · rw [if_pos (by simpa using e), if_pos e, if_pos e]
    exact ⟨map_setL k w h, h.trans (setL_len k w h).symm⟩
  · rw [if_neg (by simpa using e), if_neg e, if_neg e, List.zip_append h]
    exact ⟨rfl, by rw [List.length_append, List.length_append, h]; rfl⟩
variable {K : PySem.W.Frag} {M : Addr → Prop} {H : Hp}
/-- what is held, here and there -/
def OpR2 (K : PySem.W.Frag) (M : Addr → Prop) (H : Hp) : Option D → Option V → Prop
  | none, none => True
  | some d, some v => Rep K M H d v
  | _, _ => False
theorem getL_reps : ∀ {js : List κ} {ds : List D} {ws : List V} (k : κ), Reps K M H ds ws → OpR2 K M H (getL js ds k) (getL js ws k)
  | [], ds, ws, k, r => trivial
  | j :: js, [], ws, k, r => by
    have e : ws = [] := r
    rw [e]
    exact trivial
  | j :: js, d :: ds, _, k, r => by
    obtain ⟨v, w, rfl, r1, r2⟩ := r
    by_cases h : j = k
    · rw [getL, getL, if_pos h, if_pos h]
      exact r1
    · rw [getL, getL, if_neg h, if_neg h]
      exact getL_reps k r2
theorem setL_reps : ∀ {js : List κ} {ds : List D} {ws : List V} {d : D} {w : V} (k : κ), Reps K M H ds ws → Rep K M H d w → Reps K M H (setL js ds k d) (setL js ws k w)
  | [], ds, ws, d, w, k, r, q => rfl
  | j :: js, [], ws, d, w, k, r, q => by
    have e : ws = [] := r
    rw [e]
    rfl
  | j :: js, d' :: ds, _, d, w, k, r, q => by
    obtain ⟨v, u, rfl, r1, r2⟩ := r
    rw [setL, setL]
    refine ⟨_, _, rfl, ?_, setL_reps k r2 q⟩
    by_cases h : j = k
    · rw [if_pos h, if_pos h]
      exact q
    · rw [if_neg h, if_neg h]
      exact r1
theorem putL_reps {js : List κ} {ds : List D} {ws : List V} {d : D} {w : V} (k : κ) (r : Reps K M H ds ws) (q : Rep K M H d w) : Reps K M H (putL js ds k d) (putL js ws k w) := by
  unfold putL
  by_cases h : k ∈ js
  · rw [if_pos h, if_pos h]
    exact setL_reps k r q
  · rw [if_neg h, if_neg h]
    exact r.append ⟨w, [], rfl, q, rfl⟩
end
section
variable {K : PySem.W.Frag} {M : Addr → Prop} {H : Hp}
theorem omapK {α β : Type} {f : α → β} {o : Option α} {b : β} (h : o.map f = some b) : ∃ a, o = some a ∧ f a = b := by
  cases o with
  | none => cases h
  | some a => exact ⟨a, rfl, Option.some.inj h⟩
theorem obindK {α β : Type} {f : α → Option β} {o : Option α} {b : β} (h : o.bind f = some b) : ∃ a, o = some a ∧ f a = some b := by
  cases o with
  | none => cases h
  | some a => exact ⟨a, rfl, h⟩
/-- a look into a dict -/
theorem dGet_get {t : Bool} {ks ds : List D} {x : D} {o : Option D} {ws : List V} {a : Addr} {u : HO} {y : V} (h : dGet t ks ds x = some o) (e : Rd H a u) (q : dicO t ks ws u) (r : Reps K M H ds ws) (ry : Rep K M H x y) : ∃ ov, DGet H a y ov ∧ OpR2 K M H o ov := by
  cases t with
  | false =>
    obtain ⟨js, e1, hl, rfl⟩ := q
    obtain ⟨k, h1, h⟩ := obindK h
    obtain ⟨js', h2, rfl⟩ := omapK h
    rw [e1] at h2
    cases h2
    refine ⟨getL js ws k, .inl ⟨_, k, e, key_rep h1 ry, (valV_getL js ws k).symm⟩, getL_reps k r⟩
  | true =>
    obtain ⟨js, e1, hl, rfl⟩ := q
    obtain ⟨k, h1, h⟩ := obindK h
    obtain ⟨js', h2, rfl⟩ := omapK h
    rw [e1] at h2
    cases h2
    obtain ⟨b, eb, hb⟩ := keyT_rep h1 ry
    exact ⟨getL js ws k, .inr ⟨_, k, b, e, eb, hb, (valV_getL js ws k).symm⟩, getL_reps k r⟩
theorem mapM_app {α β : Type} {f : α → Option β} : ∀ {l : List α} {bs : List β} {a : α} {b : β}, l.mapM f = some bs → f a = some b → (l ++ [a]).mapM f = some (bs ++ [b])
  | [], bs, a, b, h, g => by
    rw [mapM_nil' h]
    simp [g]
  | x :: l, bs, a, b, h, g => by
    obtain ⟨c, r, e1, e2, rfl⟩ := mapM_cons' h
    rw [List.cons_append, List.mapM_cons, e1, mapM_app e2 g]
    rfl
theorem putKs_mapM {κ : Type} [DecidableEq κ] {f : D → Option κ} {ks : List D} {js : List κ} {x : D} {k : κ} (e1 : ks.mapM f = some js) (h1 : f x = some k) : (putKs js ks k x).mapM f = some (putKs js js k k) := by
  unfold putKs
  by_cases m : k ∈ js
  · rw [if_pos m, if_pos m]
    exact e1
  · rw [if_neg m, if_neg m]
    exact mapM_app e1 h1
/-- a store into a dict -/
theorem dPut_put {t : Bool} {ks ds : List D} {x d r : D} {ws : List V} {a : Addr} {u : HO} {y w : V} (h : dPut t ks ds x d = some r) (e : H a = some u) (q : dicO t ks ws u) (rs : Reps K M H ds ws) (ry : Rep K M H x y) (rd : Rep K M H d w) (hl : ks.length < LINE) :
    ∃ u', DPut H a y w (upd H a u') ∧ RepO K M H r u' := by
  have line : LINE = sizeLine := by rw [sizeLine_eq]; rfl
  cases t with
  | false =>
    obtain ⟨js, e1, hjl, rfl⟩ := q
    obtain ⟨k, h1, h⟩ := obindK h
    obtain ⟨js', h2, rfl⟩ := omapK h
    rw [e1] at h2
    cases h2
    have lj : js.length = ks.length := (mapM_len e1)
    obtain ⟨p1, p2⟩ := putK_putL k w hjl
    refine ⟨.dK (putK (js.zip ws) k w), .inl ⟨_, k, e, key_rep h1 ry, ?_, rfl⟩, putL js ws k w, putL_reps k rs rd, putKs js js k k, ?_, p2, by rw [p1]⟩
    · rw [List.length_zip, ← hjl, Nat.min_self, lj, ← line]
      exact hl
    · exact putKs_mapM e1 h1
  | true =>
    obtain ⟨js, e1, hjl, rfl⟩ := q
    obtain ⟨k, h1, h⟩ := obindK h
    obtain ⟨js', h2, rfl⟩ := omapK h
    rw [e1] at h2
    cases h2
    have lj : js.length = ks.length := (mapM_len e1)
    obtain ⟨b, eb, hb⟩ := keyT_rep h1 ry
    obtain ⟨p1, p2⟩ := putK_putL k w hjl
    refine ⟨.dT (putK (js.zip ws) k w), .inr ⟨_, k, b, e, eb, hb, ?_, rfl⟩, putL js ws k w, putL_reps k rs rd, putKs js js k k, ?_, p2, by rw [p1]⟩
    · rw [List.length_zip, ← hjl, Nat.min_self, lj, ← line]
      exact hl
    · exact putKs_mapM e1 h1
end
end PC
set_option Elab.async false
set_option linter.all false
set_option maxRecDepth 100000
set_option maxHeartbeats 4000000
namespace PC
open PySem PySem.Spec PyProof.Rows L2
theorem tuple_mulS (l : Addr) (items : Array Value) (n : Nat) (dd : Option Addr) (sl : Array (Option Value)) (x : Int) (u : Tok) (c0 : (decide (x < -(2 ^ 63)) || decide (x ≥ 2 ^ 63)) = false) (c1 : (items.isEmpty || x == 1) = true) :
    Meets (Builtin.«tuple.__mul__» ⟨[.ref l, .int x u], []⟩) (fun _ R s => s.heap.get? l = some { cls := .type "tuple", dict := dd, data := .seq items n, slots := sl } ∧
      R (.ok (.ret (Value.ref l))) s) :=
  .of_wp fun prog w A R s h => by
    obtain ⟨hp, g, d, tk, os⟩ := s
    obtain ⟨hl, h⟩ := h
    have f1 := AutoSeq1.idx_int
    wp_walk using wpAny_loadPart' hl
    refine wpAny_ite_false (decide_eq_false (by rw [c0]; exact Bool.false_ne_true)) ?_
    wp_walk using wpAny_loadPart' hl
    exact ⟨_, rfl, h⟩
theorem tuple_mulZ (l : Addr) (items : Array Value) (n : Nat) (dd : Option Addr) (sl : Array (Option Value)) (x : Int) (u : Tok) (c0 : (decide (x < -(2 ^ 63)) || decide (x ≥ 2 ^ 63)) = false) (c1 : (items.isEmpty || x == 1) = false) (c2 : (decide (x ≤ 0) || items.isEmpty) = true) :
    Meets (Builtin.«tuple.__mul__» ⟨[.ref l, .int x u], []⟩) (fun _ R s => s.heap.get? l = some { cls := .type "tuple", dict := dd, data := .seq items n, slots := sl } ∧
      R (.ok (.ret (Value.ref s.heap.objs.size))) { s with heap := s.heap.push { cls := Value.type "tuple", data := Data.seq #[] }, toks := s.toks }) :=
  .of_wp fun prog w A R s h => by
    obtain ⟨hp, g, d, tk, os⟩ := s
    obtain ⟨hl, h⟩ := h
    have f1 := AutoSeq1.idx_int
    wp_walk using wpAny_loadPart' hl
    repeat (first
      | (refine wpAny_ite_false (decide_eq_false (by rw [c0]; exact Bool.false_ne_true)) ?_; wp_walk using wpAny_loadPart' hl)
      | (refine wpAny_ite_false (decide_eq_false (by rw [c1]; exact Bool.false_ne_true)) ?_; wp_walk using wpAny_loadPart' hl))
    exact ⟨_, rfl, h⟩
def rRepTA (K : PySem.W.Frag) : R2 := fun x y H Q => ∃ l k xs, x = .ref l ∧ y = .int k ∧ SqT K H l xs ∧ 0 ≤ k ∧ k ≤ 1000 ∧ xs.length ≤ 1000 ∧ (xs = [] ∨ k = 1 → Q (.ref l) H) ∧ (¬ (xs = [] ∨ k = 1) → ∀ p, H p = none → Q (.ref p) (upd H p (.tup (List.replicate k.toNat xs).flatten)))
theorem op_repTA {X : Cx} : OpR X (binaryOp .Mult) (rRepTA X.K) := by
  intro pins s σ H x y v u Q I rx ry h
  obtain ⟨l, k, xs, rfl, rfl, hT, h1, h2, hz, q1, q2⟩ := h
  by_cases hs : xs = [] ∨ k = 1
  · cases rx
    obtain ⟨t, rfl⟩ := ry
    obtain ⟨its, r, ⟨⟨cls, dd, data, sl⟩, ho, hc, n, hd⟩, _⟩ := I.tuple hT
    simp only at hc hd
    subst hc hd
    have hle : its.length = xs.length := r.length.symm
    have c0 : (decide (k < -(2 ^ 63)) || decide (k ≥ 2 ^ 63)) = false := by
      rw [decide_eq_false (by omega), decide_eq_false (by omega)] <;> rfl
    have c1 : (its.toArray.isEmpty || k == 1) = true := by
      rcases hs with e | e
      · rw [e] at hle
        rw [List.eq_nil_of_length_eq_zero hle]
        rfl
      · rw [e]; simp
    refine wpAny_binaryOp_repeat_ref (T := "tuple") (U := "int") (by decide) ⟨_, ho, rfl⟩ (fun s' => typeIs_int s' k t) noFill_tuple_mul F.fills_int_mul F.slot_int_rmul repeat_tuple F.slot_int_index.lookup
      (call_meets F.slot_int_rmul (typeIs_int s k t) F.entry_int_rmul (F.args_int_rmul_2 _ _) (int_rmul_tuple k t l its.toArray n dd sl)
        ⟨ho, rfl, ⟨_, ho, rfl⟩, call_meets F.slot_tuple_mul ⟨_, ho, rfl⟩ F.entry_tuple_mul (F.args_tuple_mul_2 _ _) (tuple_mulS l its.toArray n dd sl k t c0 c1) ⟨ho, ?_⟩⟩)
    exact ⟨.ref l, H, I, rfl, q1 hs⟩
  · have h3 : xs ≠ [] := fun e => hs (.inl e)
    by_cases hk : k = 0
    · cases rx
      obtain ⟨t, rfl⟩ := ry
      obtain ⟨its, r, ⟨⟨cls, dd, data, sl⟩, ho, hc, n, hd⟩, _⟩ := I.tuple hT
      simp only at hc hd
      subst hc hd
      have hle : its.length = xs.length := r.length.symm
      have hi : its.toArray.isEmpty = false := by
        cases its with
        | nil => exact absurd (List.eq_nil_of_length_eq_zero hle.symm) h3
        | cons a b => rfl
      have c0 : (decide (k < -(2 ^ 63)) || decide (k ≥ 2 ^ 63)) = false := by
        rw [decide_eq_false (by omega), decide_eq_false (by omega)] <;> rfl
      have c1 : (its.toArray.isEmpty || k == 1) = false := by
        rw [hi, Bool.false_or]
        exact beq_eq_false_iff_ne.mpr (by omega)
      have c2 : (decide (k ≤ 0) || its.toArray.isEmpty) = true := by
        rw [decide_eq_true (by omega)]; rfl
      refine wpAny_binaryOp_repeat_ref (T := "tuple") (U := "int") (by decide) ⟨_, ho, rfl⟩ (fun s' => typeIs_int s' k t) noFill_tuple_mul F.fills_int_mul F.slot_int_rmul repeat_tuple F.slot_int_index.lookup
        (call_meets F.slot_int_rmul (typeIs_int s k t) F.entry_int_rmul (F.args_int_rmul_2 _ _) (int_rmul_tuple k t l its.toArray n dd sl)
          ⟨ho, rfl, ⟨_, ho, rfl⟩, call_meets F.slot_tuple_mul ⟨_, ho, rfl⟩ F.entry_tuple_mul (F.args_tuple_mul_2 _ _) (tuple_mulZ l its.toArray n dd sl k t c0 c1 c2) ⟨ho, ?_⟩⟩)
      refine ⟨.ref s.heap.objs.size, _, I.laid (t' := s.toks) (o := .tup []) (fun b ob q => Heap.get?_push_of_some _ q) (Nat.le_refl _) ?_, rfl, ?_⟩
      · exact ⟨Nat.zero_le _, _, .nil, IsTup.new _ _⟩
      · have := q2 hs _ (I.hok.fresh (Nat.le_refl _))
        rw [hk] at this
        exact this
    · exact op_repT pins s σ H _ _ v u Q I rx ry ⟨l, k, xs, rfl, rfl, hT, h3, by omega, h2, hz, q2 hs⟩
end PC
set_option Elab.async false
set_option linter.all false
set_option maxRecDepth 100000
/-! PyCore, part 3: the operators. -/
namespace PC
open PySem PySem.Spec PyProof.Rows L2

section
variable {K : PySem.W.Frag} {M M' : Addr → Prop} {H H' : Hp}
/-- a value as it is read: a list at the top may be an own one -/
def VR (K : PySem.W.Frag) (M : Addr → Prop) (H : Hp) : D → V → Prop
  | .lst ds, v => ∃ a vs, v = .ref a ∧ H a = some (.lst vs) ∧ Reps K M H ds vs
  | .dic t ks ds, v => ∃ a vs o, v = .ref a ∧ Rd H a o ∧ Reps K M H ds vs ∧ dicO t ks vs o
  | d, v => Rep K M H d v
theorem Rep.vr : ∀ {d : D} {v : V}, Rep K M H d v → VR K M H d v
  | .lst _, _, h => by
    obtain ⟨a, vs, e, _, r, q⟩ := h
    exact ⟨a, vs, e, r, q⟩
  | .non, _, h => h
  | .bl _, _, h => h
  | .int _, _, h => h
  | .str _, _, h => h
  | .tup _, _, h => h
  | .dic _ _ _, _, h => by
    obtain ⟨a, vs, o, u, e, r, q1, q2⟩ := h
    exact ⟨a, vs, u, e, .inr ⟨o, r⟩, q1, q2⟩
  | .scr _, _, h => h
def Exh (H H' : Hp) : Prop := ∀ a o, H a = some o → H' a = some o
theorem Exh.refl : Exh H H := fun _ _ h => h
theorem Exh.new {p : Addr} {o : HO} (h : H p = none) : Exh H (upd H p o) := fun a u e => by
  rw [upd_ne (ne_of_none e h)]
  exact e
theorem Exh.trans {H'' : Hp} (a : Exh H H') (b : Exh H' H'') : Exh H H'' := fun x o e => b x o (a x o e)
theorem Rep.ex {d : D} {v : V} (h : Rep K M H d v) (e : Exh H H') : Rep K M H' d v := Rep.lift (O := fun _ => False) (.ex e) (fun _ z => z.elim) (fun _ z => z.elim) (fun a z => .inl z) h
theorem Reps.ex {d : List D} {v : List V} (h : Reps K M H d v) (e : Exh H H') : Reps K M H' d v := Reps.lift (O := fun _ => False) (.ex e) (fun _ z => z.elim) (fun _ z => z.elim) (fun a z => .inl z) h
/-- a new address: in nobody's way -/
theorem Reps.fresh {d : List D} {v : List V} {p : Addr} (h : Reps K M H d v) (e : Exh H H') (hp : H p = none) : Reps K (fun a => M a ∨ a = p) H' d v :=
  Reps.lift (O := fun _ => False) (.ex e) (fun _ z => z.elim) (fun _ z => z.elim) (fun a z => by
    rcases z with z | z
    · exact .inl z
    · exact .inr (by rw [z]; exact hp)) h
theorem Reps.anti {d : List D} {v : List V} (h : Reps K M H d v) (i : ∀ a, M' a → M a) : Reps K M' H d v :=
  Reps.lift (O := fun _ => False) (.ex fun _ _ e => e) (fun _ z => z.elim) (fun _ z => z.elim) (fun a z => .inl (i a z)) h
theorem Rep.anti {d : D} {v : V} (h : Rep K M H d v) (i : ∀ a, M' a → M a) : Rep K M' H d v :=
  Rep.lift (O := fun _ => False) (.ex fun _ _ e => e) (fun _ z => z.elim) (fun _ z => z.elim) (fun a z => .inl (i a z)) h
/-- a list that is told is a new one -/
def FrL (K : PySem.W.Frag) (M : Addr → Prop) (H H' : Hp) (r : D) (v : V) : Prop := isCo r = true → ∃ p o, v = .ref p ∧ H p = none ∧ H' p = some o ∧ RepO K (fun a => M a ∨ a = p) H' r o
/-- what follows a value; a value whose lists are new -/
def RK (K : PySem.W.Frag) (M : Addr → Prop) (H : Hp) (Q : VK) (r : D) : Prop := ∀ v H', Exh H H' → Rep K M H' r v → Q v H'
def RKF (K : PySem.W.Frag) (M : Addr → Prop) (H : Hp) (Q : VK) (r : D) : Prop := ∀ v H', Exh H H' → Rep K M H' r v → FrL K M H H' r v → Q v H'
theorem rkf_lst {Q : VK} {xs : List D} {vs : List V} {p : Addr} (q : RKF K M H Q (.lst xs)) (om : OM M H) (hp : H p = none) (h : Reps K M H xs vs) : Q (.ref p) (upd H p (.lst vs)) := by
  refine q _ _ (Exh.new hp) ⟨p, vs, rfl, fun z => ?_, upd_same, h.ex (Exh.new hp)⟩ fun _ => ?_
  · obtain ⟨o, e, _⟩ := om p z
    rw [hp] at e; cases e
  · exact ⟨p, _, rfl, hp, upd_same, vs, rfl, h.fresh (Exh.new hp) hp⟩
theorem rkf_tup {Q : VK} {xs : List D} {vs : List V} {p : Addr} (q : RKF K M H Q (.tup xs)) (hp : H p = none) (h : Reps K M H xs vs) : Q (.ref p) (upd H p (.tup vs)) :=
  q _ _ (Exh.new hp) ⟨p, vs, rfl, upd_same, h.ex (Exh.new hp)⟩ fun e => by cases e
theorem rkf_at {Q : VK} {r : D} {v : V} (q : RKF K M H Q r) (h : Rep K M H r v) (n : isCo r = false) : Q v H := q v H Exh.refl h fun e => by rw [n] at e; cases e
theorem reps_ints : ∀ {ns : List Int} {ds : List D} {vs : List V}, intsOf ds = some ns → Reps K M H ds vs → vs = ns.map V.int
  | _, [], vs, h, r => by
    cases h
    exact r
  | ns, .int i :: ds, vs, h, r => by
    obtain ⟨v, w, e, h1, h2⟩ := r
    have hv : v = .int i := h1
    unfold intsOf at h
    cases q : intsOf ds with
    | none => rw [q] at h; cases h
    | some ms =>
      rw [q] at h
      cases h
      rw [e, hv, reps_ints q h2]
      rfl
  | _, .non :: _, _, h, _ => by cases h
  | _, .bl _ :: _, _, h, _ => by cases h
  | _, .str _ :: _, _, h, _ => by cases h
  | _, .tup _ :: _, _, h, _ => by cases h
  | _, .lst _ :: _, _, h, _ => by cases h
  | _, .dic _ _ _ :: _, _, h, _ => by cases h
  | _, .scr _ :: _, _, h, _ => by cases h
theorem reps_bools : ∀ {ns : List Bool} {ds : List D} {vs : List V}, boolsOf ds = some ns → Reps K M H ds vs → vs = ns.map V.bl
  | _, [], vs, h, r => by
    cases h
    exact r
  | ns, .bl i :: ds, vs, h, r => by
    obtain ⟨v, w, e, h1, h2⟩ := r
    have hv : v = .bl i := h1
    unfold boolsOf at h
    cases q : boolsOf ds with
    | none => rw [q] at h; cases h
    | some ms =>
      rw [q] at h
      cases h
      rw [e, hv, reps_bools q h2]
      rfl
  | _, .non :: _, _, h, _ => by cases h
  | _, .int _ :: _, _, h, _ => by cases h
  | _, .str _ :: _, _, h, _ => by cases h
  | _, .tup _ :: _, _, h, _ => by cases h
  | _, .lst _ :: _, _, h, _ => by cases h
  | _, .dic _ _ _ :: _, _, h, _ => by cases h
  | _, .scr _ :: _, _, h, _ => by cases h
end

section
variable {X : Cx}
theorem line_eq : LINE = sizeLine := rfl

/-- a binary operator by data -/
def rBin (K : PySem.W.Frag) (o : BOp) : R2 := fun x y H Q => ∃ M d e r, OM M H ∧ VR K M H d x ∧ VR K M H e y ∧ binD o d e = some r ∧ RKF K M H Q r
theorem lt64 {i : Int} (h : smallI i = true) : -(2 ^ 64) < i ∧ i < 2 ^ 64 := by
  unfold smallI SM at h
  exact of_decide_eq_true h
theorem op_intB {o : Operator} {b : BOp} {C : Int → Int → Prop} {g : Int → Int → Int} (ho : OpR X (binaryOp o) (rI C fun i j => .int (g i j)))
    (hC : ∀ d e r, binD b d e = some r → ∃ i j, d = .int i ∧ e = .int j ∧ C i j ∧ r = .int (g i j)) : OpR X (binaryOp o) (rBin X.K b) := by
  intro pins s σ H x y v u Q I rx ry h
  obtain ⟨M, d, e, r, om, h1, h2, hb, q⟩ := h
  obtain ⟨i, j, rfl, rfl, c, rfl⟩ := hC d e r hb
  exact ho pins s σ H x y v u Q I rx ry ⟨i, j, h1, h2, c, rkf_at q rfl rfl⟩
theorem rI0_I {f : Value → Value → Sem Value} {g : Int → Int → V} (h : OpR X f (rI0 g)) : OpR X f (rI (fun _ _ => True) g) := by
  intro pins s σ H x y v u Q I rx ry q
  obtain ⟨i, j, e1, e2, _, q⟩ := q
  exact h pins s σ H x y v u Q I rx ry ⟨i, j, e1, e2, q⟩
theorem op_or {f : Value → Value → Sem Value} {C C' : Int → Int → Prop} {g : Int → Int → V} (h : OpR X f (rI C g)) (h' : OpR X f (rI C' g)) : OpR X f (rI (fun i j => C i j ∨ C' i j) g) := by
  intro pins s σ H x y v u Q I rx ry q
  obtain ⟨i, j, e1, e2, c, q⟩ := q
  rcases c with c | c
  · exact h pins s σ H x y v u Q I rx ry ⟨i, j, e1, e2, c, q⟩
  · exact h' pins s σ H x y v u Q I rx ry ⟨i, j, e1, e2, c, q⟩
theorem op_imp {f : Value → Value → Sem Value} {r r' : R2} (h : OpR X f r) (i : ∀ x y H Q, r' x y H Q → r x y H Q) : OpR X f r' :=
  fun pins s σ H x y v u Q I rx ry q => h pins s σ H x y v u Q I rx ry (i x y H Q q)
theorem fdiv_pos {i j : Int} (h : 0 < j) : i.fdiv j = i / j := Int.fdiv_eq_ediv_of_nonneg i (by omega)
theorem binD_add {d e r : D} (h : binD .add d e = some r) : (∃ i j, d = .int i ∧ e = .int j ∧ r = .int (i + j)) ∨ (∃ xs ys, d = .tup xs ∧ e = .tup ys ∧ xs.length + ys.length ≤ LINE ∧ r = .tup (xs ++ ys)) ∨
    (∃ xs ys, d = .lst xs ∧ e = .lst ys ∧ xs.length + ys.length ≤ LINE ∧ r = .lst (xs ++ ys)) := by
  unfold binD at h
  split at h
  · cases h
    exact .inl ⟨_, _, rfl, rfl, rfl⟩
  · split at h
    · cases h
      exact .inr (.inl ⟨_, _, rfl, rfl, by assumption, rfl⟩)
    · cases h
  · split at h
    · cases h
      exact .inr (.inr ⟨_, _, rfl, rfl, by assumption, rfl⟩)
    · cases h
  all_goals first | contradiction | cases h
theorem op_bin_add : OpR X (binaryOp .Add) (rBin X.K .add) := by
  intro pins s σ H x y v u Q I rx ry h
  obtain ⟨M, d, e, r, om, h1, h2, hb, q⟩ := h
  rcases binD_add hb with ⟨i, j, rfl, rfl, rfl⟩ | ⟨xs, ys, rfl, rfl, hz, rfl⟩ | ⟨xs, ys, rfl, rfl, hz, rfl⟩
  · exact op_add pins s σ H x y v u Q I rx ry ⟨i, j, h1, h2, rkf_at q rfl rfl⟩
  · obtain ⟨a, vs, e1, s1, r1⟩ := h1
    obtain ⟨b, ws, e2, s2, r2⟩ := h2
    have l1 := r1.length
    have l2 := r2.length
    refine op_catA pins s σ H x y v u Q I rx ry ⟨a, b, vs, ws, e1, e2, .inl (.inl s1), .inl (.inl s2), by rw [← l1, ← l2, ← line_eq]; exact hz, fun z => ?_, fun _ z => ?_, fun _ _ p hp => rkf_tup q hp (r1.append r2)⟩
    · subst z
      have z2 : xs = [] := List.eq_nil_of_length_eq_zero l1
      subst z2
      exact rkf_at q ⟨b, ws, rfl, s2, r2⟩ rfl
    · subst z
      have z2 : ys = [] := List.eq_nil_of_length_eq_zero l2
      subst z2
      rw [List.append_nil] at q
      exact rkf_at q ⟨a, vs, rfl, s1, r1⟩ rfl
  · obtain ⟨a, vs, e1, s1, r1⟩ := h1
    obtain ⟨b, ws, e2, s2, r2⟩ := h2
    have l1 := r1.length
    have l2 := r2.length
    exact op_cat pins s σ H x y v u Q I rx ry ⟨a, b, vs, ws, e1, e2, s1, s2, by rw [← l1, ← l2, ← line_eq]; exact hz, fun p hp => rkf_lst q om hp (r1.append r2)⟩
theorem op_bin_sub : OpR X (binaryOp .Sub) (rBin X.K .sub) := op_intB (g := fun i j => i - j) (rI0_I op_sub) fun d e r h => by
  unfold binD at h
  split at h
  all_goals first | contradiction | skip
  all_goals first | (cases h; exact ⟨_, _, rfl, rfl, trivial, rfl⟩) | skip
theorem Reps.flat {K : PySem.W.Frag} {M : Addr → Prop} {H : Hp} {ds : List D} {vs : List V} (h : Reps K M H ds vs) : ∀ n : Nat, Reps K M H ((List.replicate n ds).flatten) ((List.replicate n vs).flatten)
  | 0 => rfl
  | n + 1 => by
    rw [List.replicate_succ, List.replicate_succ, List.flatten_cons, List.flatten_cons]
    exact h.append (Reps.flat h n)
theorem binD_mul {d e r : D} (h : binD .mul d e = some r) : (∃ i j, d = .int i ∧ e = .int j ∧ mulOk i j = true ∧ r = .int (i * j)) ∨ (∃ xs k, d = .lst xs ∧ e = .int k ∧ 0 ≤ k ∧ k ≤ 1000000 ∧ xs.length * k.toNat ≤ LINE ∧ r = .lst ((List.replicate k.toNat xs).flatten)) ∨ (∃ xs k, d = .tup xs ∧ e = .int k ∧ 0 ≤ k ∧ k ≤ 1000 ∧ xs.length ≤ 1000 ∧ r = .tup ((List.replicate k.toNat xs).flatten)) := by
  unfold binD at h
  split at h
  all_goals first | contradiction | skip
  · split at h
    · cases h
      exact .inl ⟨_, _, rfl, rfl, by assumption, rfl⟩
    · cases h
  · split at h
    · rename_i hc
      cases h
      exact .inr (.inl ⟨_, _, rfl, rfl, hc.1, hc.2.1, hc.2.2, rfl⟩)
    · cases h
  · split at h
    · rename_i hc
      cases h
      exact .inr (.inr ⟨_, _, rfl, rfl, hc.1, hc.2.1, hc.2.2, rfl⟩)
    · cases h
theorem mulOk_or {i j : Int} (h : mulOk i j = true) : CMul i j ∨ CMulW i j := by
  unfold mulOk at h
  simp only [Bool.or_eq_true, Bool.and_eq_true] at h
  rcases h with (h | h) | ⟨h1, h2⟩
  · exact .inl (.inl (lt64 h))
  · exact .inl (.inr (lt64 h))
  · unfold bigOk at h1 h2
    have a := of_decide_eq_true h1
    have b := of_decide_eq_true h2
    exact .inr (show _ < 1000000 by omega)
theorem op_bin_mul : OpR X (binaryOp .Mult) (rBin X.K .mul) := by
  intro pins s σ H x y v u Q I rx ry h
  obtain ⟨M, d, e, r, om, h1, h2, hb, q⟩ := h
  rcases binD_mul hb with ⟨i, j, rfl, rfl, c, rfl⟩ | ⟨xs, k, rfl, rfl, k0, k1, hz, rfl⟩ | ⟨xs, k, rfl, rfl, k0, k1, hz, rfl⟩
  · exact op_or op_mul op_mulW pins s σ H x y v u Q I rx ry ⟨i, j, h1, h2, mulOk_or c, rkf_at q rfl rfl⟩
  · obtain ⟨a, vs, e1, s1, r1⟩ := h1
    have l1 := r1.length
    exact op_rep pins s σ H x y v u Q I rx ry ⟨a, k, vs, e1, h2, s1, by omega, by omega, by rw [← l1, ← line_eq]; exact hz, fun p hp => rkf_lst q om hp (r1.flat _)⟩
  · obtain ⟨a, vs, e1, s1, r1⟩ := h1
    have l1 := r1.length
    refine op_repTA pins s σ H x y v u Q I rx ry ⟨a, k, vs, e1, h2, .inl (.inl s1), k0, k1, by rw [← l1]; exact hz, fun z => ?_, fun _ p hp => rkf_tup q hp (r1.flat _)⟩
    have e3 : (List.replicate k.toNat xs).flatten = xs := by
      rcases z with z | z
      · subst z
        have z2 : xs = [] := List.eq_nil_of_length_eq_zero l1
        subst z2
        simp
      · subst z
        simp
    rw [e3] at q
    exact rkf_at q ⟨a, vs, rfl, s1, r1⟩ rfl
theorem divOk_or {j : Int} (h : divOk j = true) (i : Int) : CDivN i j ∨ CDivW i j := by
  unfold divOk at h
  rw [Bool.or_eq_true] at h
  rcases h with h | h
  · exact .inl (show j ≠ 0 ∧ j.natAbs < 1073741824 from of_decide_eq_true h)
  · exact .inr (show 0 < j ∧ j.natAbs.log2 < 9000 from of_decide_eq_true h)
theorem op_fdivW' : OpR X (binaryOp .FloorDiv) (rI CDivW fun i j => .int (i.fdiv j)) := by
  intro pins s σ H x y v u Q I rx ry h
  obtain ⟨i, j, e1, e2, c, q⟩ := h
  refine op_fdivW pins s σ H x y v u Q I rx ry ⟨i, j, e1, e2, c, ?_⟩
  have q' : Q (.int (i.fdiv j)) H := q
  rw [fdiv_pos c.1] at q'
  exact q'
theorem op_bin_fdiv : OpR X (binaryOp .FloorDiv) (rBin X.K .fdiv) := op_intB (g := fun i j => i.fdiv j) (op_or op_fdivN op_fdivW') fun d e r h => by
  unfold binD at h
  split at h
  all_goals first | contradiction | skip
  split at h
  · cases h
    exact ⟨_, _, rfl, rfl, divOk_or (by assumption) _, rfl⟩
  · cases h
theorem op_bin_mod : OpR X (binaryOp .Mod) (rBin X.K .mod) := op_intB (g := fun i j => i.fmod j) op_modN fun d e r h => by
  unfold binD at h
  split at h
  all_goals first | contradiction | skip
  split at h
  · cases h
  · cases h
    exact ⟨_, _, rfl, rfl, by assumption, rfl⟩
theorem powOk_c {i j : Int} (h : powOk i j = true) : CPow i j := by
  unfold powOk at h
  have := of_decide_eq_true h
  exact ⟨this.1, this.2.1, Nat.lt_of_lt_of_le this.2.2 (by decide)⟩
theorem op_bin_pow : OpR X (binaryOp .Pow) (rBin X.K .pow) := op_intB (g := fun i j => i ^ j.toNat) op_pow fun d e r h => by
  unfold binD at h
  split at h
  all_goals first | contradiction | skip
  split at h
  · cases h
    exact ⟨_, _, rfl, rfl, powOk_c (by assumption), rfl⟩
  · cases h
theorem op_bin_shl : OpR X (binaryOp .LShift) (rBin X.K .shl) := op_intB (g := fun i j => i * 2 ^ j.toNat) op_shl fun d e r h => by
  unfold binD at h
  split at h
  all_goals first | contradiction | skip
  split at h
  · cases h
    exact ⟨_, _, rfl, rfl, powOk_c (by assumption), rfl⟩
  · cases h
theorem op_bin_shr : OpR X (binaryOp .RShift) (rBin X.K .shr) := op_intB (g := fun i j => i / 2 ^ j.toNat) op_shr fun d e r h => by
  unfold binD at h
  split at h
  all_goals first | contradiction | skip
  split at h
  · cases h
    exact ⟨_, _, rfl, rfl, by assumption, rfl⟩
  · cases h
def opOf : BOp → Operator
  | .add => .Add
  | .sub => .Sub
  | .mul => .Mult
  | .fdiv => .FloorDiv
  | .mod => .Mod
  | .pow => .Pow
  | .shl => .LShift
  | .shr => .RShift
theorem op_bin (o : BOp) : OpR X (binaryOp (opOf o)) (rBin X.K o) := by
  cases o
  · exact op_bin_add
  · exact op_bin_sub
  · exact op_bin_mul
  · exact op_bin_fdiv
  · exact op_bin_mod
  · exact op_bin_pow
  · exact op_bin_shl
  · exact op_bin_shr
end

/-! ### data as the library's own -/
mutual
def toP : D → PyData
  | .non => .none
  | .bl b => .bool b
  | .int i => .int i
  | .str s => .str s
  | .tup xs => .tuple (toPs xs)
  | .lst xs => .list (toPs xs)
  | .dic _ _ _ => .dict []
  | .scr _ => .dict []
def toPs : List D → List PyData
  | [] => []
  | x :: xs => toP x :: toPs xs
end
mutual
theorem toP_lay : ∀ {d : D} {n : Nat}, okD d n = true → (toP d).canLay0 = true ∧ (toP d).depth ≤ n
  | .non, n, _ => ⟨rfl, Nat.zero_le _⟩
  | .bl _, n, _ => ⟨rfl, Nat.zero_le _⟩
  | .int _, n, _ => ⟨rfl, Nat.zero_le _⟩
  | .str x, n, h => ⟨by simpa [okD, toP, PyData.canLay0] using h, Nat.zero_le _⟩
  | .tup xs, 0, h => by simp [okD] at h
  | .lst xs, 0, h => by simp [okD] at h
  | .tup xs, n + 1, h => by
    obtain ⟨h1, h2⟩ := toPs_lay (xs := xs) (n := n) (by simpa [okD] using h)
    exact ⟨by simpa [toP, PyData.canLay0] using h1, by simp only [toP, PyData.depth]; omega⟩
  | .lst xs, n + 1, h => by
    obtain ⟨h1, h2⟩ := toPs_lay (xs := xs) (n := n) (by simpa [okD] using h)
    exact ⟨by simpa [toP, PyData.canLay0] using h1, by simp only [toP, PyData.depth]; omega⟩
  | .dic _ _ _, n, h => by simp [okD] at h
  | .scr _, n, h => by simp [okD] at h
theorem toPs_lay : ∀ {xs : List D} {n : Nat}, okDs xs n = true → PyData.canLayAll0 (toPs xs) = true ∧ PyData.depthAll (toPs xs) ≤ n
  | [], n, _ => ⟨rfl, Nat.zero_le _⟩
  | x :: xs, n, h => by
    have h' : okD x n = true ∧ okDs xs n = true := by simpa [okDs] using h
    obtain ⟨a1, a2⟩ := toP_lay h'.1
    obtain ⟨b1, b2⟩ := toPs_lay h'.2
    exact ⟨by simp [toPs, PyData.canLayAll0, a1, b1], by simp only [toPs, PyData.depthAll]; omega⟩
end
theorem str_beq (x y : Str) : (x == y) = decide (x = y) := by
  by_cases h : x = y
  · subst h; simp
  · rw [decide_eq_false h]
    exact beq_eq_false_iff_ne.mpr h
mutual
theorem eqD_eqv : ∀ {d e : D} {n m : Nat}, okD d n = true → okD e m = true → PyData.eqv (toP d) (toP e) = eqD d e
  | .non, e, n, m, h, g => by cases e <;> first | rfl | simp [okD] at g
  | .bl a, e, n, m, h, g => by cases e <;> first | rfl | simp [okD] at g
  | .int i, e, n, m, h, g => by cases e <;> first | rfl | simp [okD] at g
  | .str x, .str y, n, m, h, g => by
    simp only [toP, PyData.eqv, eqD]
    exact str_beq x y
  | .str x, .non, n, m, h, g => rfl
  | .str x, .bl _, n, m, h, g => rfl
  | .str x, .int _, n, m, h, g => rfl
  | .str x, .tup _, n, m, h, g => rfl
  | .str x, .lst _, n, m, h, g => rfl
  | .str x, .dic _ _ _, n, m, h, g => rfl
  | .str x, .scr _, n, m, h, g => rfl
  | .tup xs, .tup ys, n + 1, m + 1, h, g => by
    simp only [toP, PyData.eqv, eqD]
    exact eqDs_eqv (n := n) (m := m) (by simpa [okD] using h) (by simpa [okD] using g)
  | .tup xs, .tup ys, 0, m, h, g => by simp [okD] at h
  | .tup xs, .tup ys, n + 1, 0, h, g => by simp [okD] at g
  | .tup xs, .non, n, m, h, g => rfl
  | .tup xs, .bl _, n, m, h, g => rfl
  | .tup xs, .int _, n, m, h, g => rfl
  | .tup xs, .str _, n, m, h, g => rfl
  | .tup xs, .lst _, n, m, h, g => rfl
  | .tup xs, .dic _ _ _, n, m, h, g => rfl
  | .tup xs, .scr _, n, m, h, g => rfl
  | .lst xs, .lst ys, n + 1, m + 1, h, g => by
    simp only [toP, PyData.eqv, eqD]
    exact eqDs_eqv (n := n) (m := m) (by simpa [okD] using h) (by simpa [okD] using g)
  | .lst xs, .lst ys, 0, m, h, g => by simp [okD] at h
  | .lst xs, .lst ys, n + 1, 0, h, g => by simp [okD] at g
  | .lst xs, .non, n, m, h, g => rfl
  | .lst xs, .bl _, n, m, h, g => rfl
  | .lst xs, .int _, n, m, h, g => rfl
  | .lst xs, .str _, n, m, h, g => rfl
  | .lst xs, .tup _, n, m, h, g => rfl
  | .lst xs, .dic _ _ _, n, m, h, g => rfl
  | .lst xs, .scr _, n, m, h, g => rfl
  | .dic _ _ _, e, n, m, h, g => by simp [okD] at h
  | .scr _, e, n, m, h, g => by simp [okD] at h
theorem eqDs_eqv : ∀ {xs ys : List D} {n m : Nat}, okDs xs n = true → okDs ys m = true → PyData.eqvAll (toPs xs) (toPs ys) = eqDs xs ys
  | [], [], _, _, _, _ => rfl
  | [], _ :: _, _, _, _, _ => rfl
  | _ :: _, [], _, _, _, _ => rfl
  | x :: xs, y :: ys, n, m, h, g => by
    have h' : okD x n = true ∧ okDs xs n = true := by simpa [okDs] using h
    have g' : okD y m = true ∧ okDs ys m = true := by simpa [okDs] using g
    simp only [toPs, PyData.eqvAll, eqDs]
    rw [eqD_eqv h'.1 g'.1, eqDs_eqv h'.2 g'.2]
end
theorem inDs_any {d : D} {n m : Nat} (h : okD d n = true) : ∀ {xs : List D}, okDs xs m = true → ((toPs xs).any fun z => PyData.eqv z (toP d)) = inDs d xs
  | [], _ => rfl
  | x :: xs, g => by
    have g' : okD x m = true ∧ okDs xs m = true := by simpa [okDs] using g
    simp only [toPs, List.any_cons, inDs]
    rw [eqD_eqv g'.1 h, inDs_any h g'.2]
section
variable {K : PySem.W.Frag} {M : Addr → Prop} {H : Hp}
mutual
theorem Rep.dp : ∀ {d : D} {v : V} {n : Nat}, okD d n = true → Rep K M H d v → Dp K H v (toP d)
  | .non, v, _, _, h => by
    have e : v = .non := h
    rw [e]; exact .non
  | .bl b, v, _, _, h => by
    have e : v = .bl b := h
    rw [e]; exact .bl b
  | .int i, v, _, _, h => by
    have e : v = .int i := h
    rw [e]; exact .int i
  | .str x, v, _, _, h => by
    have e : v = .str x := h
    rw [e]; exact .str x
  | .tup xs, v, 0, o, h => by simp [okD] at o
  | .lst xs, v, 0, o, h => by simp [okD] at o
  | .tup xs, v, n + 1, o, h => by
    obtain ⟨a, vs, e, s, r⟩ := h
    rw [e]
    exact .tup (.inl (.inl s)) (Reps.dp (n := n) (by simpa [okD] using o) r)
  | .lst xs, v, n + 1, o, h => by
    obtain ⟨a, vs, e, _, s, r⟩ := h
    rw [e]
    exact .lst (.inl (.inl s)) (Reps.dp (n := n) (by simpa [okD] using o) r)
  | .dic _ _ _, v, _, o, h => by simp [okD] at o
  | .scr _, v, _, o, h => by simp [okD] at o
theorem Reps.dp : ∀ {ds : List D} {vs : List V} {n : Nat}, okDs ds n = true → Reps K M H ds vs → DpAll K H vs (toPs ds)
  | [], vs, n, o, h => by
    have e : vs = [] := h
    rw [e]; exact .nil
  | d :: ds, _, n, o, h => by
    obtain ⟨v, r, e, h1, h2⟩ := h
    have o' : okD d n = true ∧ okDs ds n = true := by simpa [okDs] using o
    rw [e]
    exact .cons (Rep.dp o'.1 h1) (Reps.dp o'.2 h2)
end
theorem VR.dp {d : D} {v : V} {n : Nat} (o : okD d n = true) (h : VR K M H d v) : Dp K H v (toP d) := by
  cases d with
  | lst xs =>
    obtain ⟨a, vs, e, s, r⟩ := h
    cases n with
    | zero => simp [okD] at o
    | succ n =>
      rw [e]
      exact .lst (.inl (.inl s)) (Reps.dp (n := n) (by simpa [okD] using o) r)
  | non => exact Rep.dp (M := M) o h
  | bl b => exact Rep.dp (M := M) o h
  | int i => exact Rep.dp (M := M) o h
  | str s => exact Rep.dp (M := M) o h
  | tup xs => exact Rep.dp (M := M) o h
  | dic t a b => simp [okD] at o
  | scr a => exact Rep.dp (M := M) o h
end
theorem shaped_of {d : D} {n : Nat} (hn : n ≤ 64) (h : okD d n = true) : SeqAt.shaped (toP d) = true := by
  obtain ⟨a, b⟩ := toP_lay h
  unfold SeqAt.shaped
  rw [a, Bool.true_and]
  exact decide_eq_true (by omega)

section
variable {X : Cx}
/-- a comparison by data -/
def rCmp (K : PySem.W.Frag) (o : COp) : R2 := fun x y H Q => ∃ M d e c, VR K M H d x ∧ VR K M H e y ∧ cmpD o d e = some c ∧ Q (.bl c) H
theorem cmp_okk {o : COp} {d e : D} {c : Bool} {p q : Bool} {f : Bool} (h : (if p && q then some f else none) = some c) : p = true ∧ q = true ∧ c = f := by
  cases p <;> cases q <;> simp at h
  exact ⟨rfl, rfl, h.symm⟩
theorem op_cmp_eq (hu : X.A.units + 64 < cLine) : OpR X (compareOp .Eq) (rCmp X.K .eq) := by
  intro pins s σ H x y v u Q I rx ry h
  obtain ⟨M, d, e, c, h1, h2, hc, q⟩ := h
  unfold cmpD at hc
  obtain ⟨p1, p2, p3⟩ := cmp_okk (o := .eq) (d := d) (e := e) hc
  refine op_eqD hu pins s σ H x y v u Q I rx ry ⟨toP d, toP e, h1.dp p1, h2.dp p2, shaped_of (by decide) p1, shaped_of (by decide) p2, ?_⟩
  rw [eqD_eqv p1 p2, ← p3]
  exact q
theorem op_cmp_ne (hu : X.A.units + 64 < cLine) : OpR X (compareOp .NotEq) (rCmp X.K .ne) := by
  intro pins s σ H x y v u Q I rx ry h
  obtain ⟨M, d, e, c, h1, h2, hc, q⟩ := h
  unfold cmpD at hc
  obtain ⟨p1, p2, p3⟩ := cmp_okk (o := .eq) (d := d) (e := e) hc
  refine op_neD hu pins s σ H x y v u Q I rx ry ⟨toP d, toP e, h1.dp p1, h2.dp p2, shaped_of (by decide) p1, shaped_of (by decide) p2, ?_⟩
  rw [eqD_eqv p1 p2, ← p3]
  exact q
theorem op_cmp_int {op : CmpOp} {o : COp} {p : Int → Int → Bool} (ho : OpR X (compareOp op) (rI0 fun i j => .bl (p i j)))
    (hC : ∀ d e c, cmpD o d e = some c → ∃ i j, d = .int i ∧ e = .int j ∧ c = p i j) : OpR X (compareOp op) (rCmp X.K o) := by
  intro pins s σ H x y v u Q I rx ry h
  obtain ⟨M, d, e, c, h1, h2, hc, q⟩ := h
  obtain ⟨i, j, rfl, rfl, rfl⟩ := hC d e c hc
  exact ho pins s σ H x y v u Q I rx ry ⟨i, j, h1, h2, q⟩
theorem op_cmp_lt : OpR X (compareOp .Lt) (rCmp X.K .lt) := op_cmp_int op_lt fun d e c h => by
  unfold cmpD at h
  split at h <;> first | contradiction | (cases h; exact ⟨_, _, rfl, rfl, rfl⟩)
theorem op_cmp_le : OpR X (compareOp .LtE) (rCmp X.K .le) := op_cmp_int op_le fun d e c h => by
  unfold cmpD at h
  split at h <;> first | contradiction | (cases h; exact ⟨_, _, rfl, rfl, rfl⟩)
theorem op_cmp_gt : OpR X (compareOp .Gt) (rCmp X.K .gt) := op_cmp_int op_gt fun d e c h => by
  unfold cmpD at h
  split at h <;> first | contradiction | (cases h; exact ⟨_, _, rfl, rfl, rfl⟩)
theorem op_cmp_ge : OpR X (compareOp .GtE) (rCmp X.K .ge) := op_cmp_int op_ge fun d e c h => by
  unfold cmpD at h
  split at h <;> first | contradiction | (cases h; exact ⟨_, _, rfl, rfl, rfl⟩)
theorem canAll {ys : List D} {n : Nat} (h : okDs ys n = true) : PyData.canLayAll0 (toPs ys) = true := (toPs_lay h).1
theorem opr_some {K : PySem.W.Frag} {M : Addr → Prop} {H : Hp} : ∀ {o : Option D} {ov : Option V}, OpR2 K M H o ov → o.isSome = ov.isSome
  | none, none, _ => rfl
  | some _, some _, _ => rfl
  | none, some _, h => h.elim
  | some _, none, h => h.elim
/-- a key is read as a value -/
theorem dGet_rep {K : PySem.W.Frag} {M : Addr → Prop} {H : Hp} {t : Bool} {ks vs : List D} {x : D} {o : Option D} {v : V} (h : dGet t ks vs x = some o) (r : VR K M H x v) : Rep K M H x v := by
  cases t with
  | false =>
    obtain ⟨k, h1, _⟩ := obindK h
    cases x <;> first | exact r | cases h1
  | true =>
    obtain ⟨k, h1, _⟩ := obindK h
    cases x <;> first | exact r | cases h1
theorem cmpD_isin {d e : D} {c : Bool} (h : cmpD .isin d e = some c) : (∃ ys, e = .tup ys ∧ okD d 60 = true ∧ okDs ys 60 = true ∧ c = (inDs d ys)) ∨ (∃ ys, e = .lst ys ∧ okD d 60 = true ∧ okDs ys 60 = true ∧ c = (inDs d ys)) ∨ (∃ t ks vs o, e = .dic t ks vs ∧ dGet t ks vs d = some o ∧ c = (o.isSome)) := by
  cases e with
  | tup ys =>
    have h' : (if okD d 60 && okDs ys 60 then some (inDs d ys) else none) = some c := by simpa [cmpD] using h
    obtain ⟨p1, p2, p3⟩ := cmp_okk (o := .eq) (d := d) (e := d) h'
    exact .inl ⟨ys, rfl, p1, p2, p3⟩
  | lst ys =>
    have h' : (if okD d 60 && okDs ys 60 then some (inDs d ys) else none) = some c := by simpa [cmpD] using h
    obtain ⟨p1, p2, p3⟩ := cmp_okk (o := .eq) (d := d) (e := d) h'
    exact .inr (.inl ⟨ys, rfl, p1, p2, p3⟩)
  | non => simp [cmpD] at h
  | bl b => simp [cmpD] at h
  | int i => simp [cmpD] at h
  | str z => simp [cmpD] at h
  | dic t a b =>
    obtain ⟨o, h1, h2⟩ := omapK (by simpa only [cmpD] using h)
    exact .inr (.inr ⟨t, a, b, o, rfl, h1, h2.symm⟩)
  | scr a => simp [cmpD] at h
theorem cmpD_isout {d e : D} {c : Bool} (h : cmpD .notin d e = some c) : (∃ ys, e = .tup ys ∧ okD d 60 = true ∧ okDs ys 60 = true ∧ c = (!inDs d ys)) ∨ (∃ ys, e = .lst ys ∧ okD d 60 = true ∧ okDs ys 60 = true ∧ c = (!inDs d ys)) ∨ (∃ t ks vs o, e = .dic t ks vs ∧ dGet t ks vs d = some o ∧ c = (!o.isSome)) := by
  cases e with
  | tup ys =>
    have h' : (if okD d 60 && okDs ys 60 then some (!inDs d ys) else none) = some c := by simpa [cmpD] using h
    obtain ⟨p1, p2, p3⟩ := cmp_okk (o := .eq) (d := d) (e := d) h'
    exact .inl ⟨ys, rfl, p1, p2, p3⟩
  | lst ys =>
    have h' : (if okD d 60 && okDs ys 60 then some (!inDs d ys) else none) = some c := by simpa [cmpD] using h
    obtain ⟨p1, p2, p3⟩ := cmp_okk (o := .eq) (d := d) (e := d) h'
    exact .inr (.inl ⟨ys, rfl, p1, p2, p3⟩)
  | non => simp [cmpD] at h
  | bl b => simp [cmpD] at h
  | int i => simp [cmpD] at h
  | str z => simp [cmpD] at h
  | dic t a b =>
    obtain ⟨o, h1, h2⟩ := omapK (by simpa only [cmpD] using h)
    exact .inr (.inr ⟨t, a, b, o, rfl, h1, h2.symm⟩)
  | scr a => simp [cmpD] at h
theorem op_cmp_in (hu : X.A.units + 65 < cLine) : OpR X (compareOp .In) (rCmp X.K .isin) := by
  intro pins s σ H x y v u Q I rx ry h
  obtain ⟨M, d, e, c, h1, h2, hc, q⟩ := h
  rcases cmpD_isin hc with ⟨ys, rfl, p1, p2, rfl⟩ | ⟨ys, rfl, p1, p2, rfl⟩ | ⟨t, ks, vs, o, rfl, hg, rfl⟩
  · obtain ⟨as, r1⟩ := Dp.reads I (toP d) x v (h1.dp p1) rx
    obtain ⟨bs, r2⟩ := Dp.reads I (.tuple (toPs ys)) y u (by
      have := VR.dp (M := M) (n := 61) (d := .tup ys) (by simpa [okD] using p2) h2
      simpa [toP] using this) ry
    refine SeqAt.in_tuple_reads r2 r1 (canAll p2) (SeqAt.canLay_of_shaped (shaped_of (by decide) p1)) (room_in_shaped (shaped_of (by decide) p1) hu) ?_
    rw [inDs_any p1 p2]
    exact ⟨.bl _, H, I, rfl, q⟩
  · obtain ⟨as, r1⟩ := Dp.reads I (toP d) x v (h1.dp p1) rx
    obtain ⟨bs, r2⟩ := Dp.reads I (.list (toPs ys)) y u (by
      have := VR.dp (M := M) (n := 61) (d := .lst ys) (by simpa [okD] using p2) h2
      simpa [toP] using this) ry
    refine SeqAt.in_list_reads r2 r1 (canAll p2) (SeqAt.canLay_of_shaped (shaped_of (by decide) p1)) (room_in_shaped (shaped_of (by decide) p1) hu) ?_
    rw [inDs_any p1 p2]
    exact ⟨.bl _, H, I, rfl, q⟩
  · obtain ⟨a, ws, ob, rfl, hr, r1, dq⟩ := h2
    cases (show u = Value.ref a from ry)
    obtain ⟨ov, g, e⟩ := dGet_get hg hr dq r1 (dGet_rep hg h1)
    refine d_in (by omega) I g rx fun s' I' => ⟨.bl _, H, I', rfl, ?_⟩
    rw [← opr_some e]
    exact q
theorem op_cmp_out (hu : X.A.units + 65 < cLine) : OpR X (compareOp .NotIn) (rCmp X.K .notin) := by
  intro pins s σ H x y v u Q I rx ry h
  obtain ⟨M, d, e, c, h1, h2, hc, q⟩ := h
  rcases cmpD_isout hc with ⟨ys, rfl, p1, p2, rfl⟩ | ⟨ys, rfl, p1, p2, rfl⟩ | ⟨t, ks, vs, o, rfl, hg, rfl⟩
  · obtain ⟨as, r1⟩ := Dp.reads I (toP d) x v (h1.dp p1) rx
    obtain ⟨bs, r2⟩ := Dp.reads I (.tuple (toPs ys)) y u (by
      have := VR.dp (M := M) (n := 61) (d := .tup ys) (by simpa [okD] using p2) h2
      simpa [toP] using this) ry
    refine SeqAt.notIn_tuple_reads r2 r1 (canAll p2) (SeqAt.canLay_of_shaped (shaped_of (by decide) p1)) (room_in_shaped (shaped_of (by decide) p1) hu) ?_
    rw [inDs_any p1 p2]
    exact ⟨.bl _, H, I, rfl, q⟩
  · obtain ⟨as, r1⟩ := Dp.reads I (toP d) x v (h1.dp p1) rx
    obtain ⟨bs, r2⟩ := Dp.reads I (.list (toPs ys)) y u (by
      have := VR.dp (M := M) (n := 61) (d := .lst ys) (by simpa [okD] using p2) h2
      simpa [toP] using this) ry
    refine SeqAt.notIn_list_reads r2 r1 (canAll p2) (SeqAt.canLay_of_shaped (shaped_of (by decide) p1)) (room_in_shaped (shaped_of (by decide) p1) hu) ?_
    rw [inDs_any p1 p2]
    exact ⟨.bl _, H, I, rfl, q⟩
  · obtain ⟨a, ws, ob, rfl, hr, r1, dq⟩ := h2
    cases (show u = Value.ref a from ry)
    obtain ⟨ov, g, e⟩ := dGet_get hg hr dq r1 (dGet_rep hg h1)
    refine d_notIn (by omega) I g rx fun s' I' => ⟨.bl _, H, I', rfl, ?_⟩
    rw [← opr_some e]
    exact q
def copOf : COp → CmpOp
  | .eq => .Eq
  | .ne => .NotEq
  | .lt => .Lt
  | .le => .LtE
  | .gt => .Gt
  | .ge => .GtE
  | .isin => .In
  | .notin => .NotIn
theorem op_cmp (hu : X.A.units + 65 < cLine) (o : COp) : OpR X (compareOp (copOf o)) (rCmp X.K o) := by
  cases o
  · exact op_cmp_eq (by omega)
  · exact op_cmp_ne (by omega)
  · exact op_cmp_lt
  · exact op_cmp_le
  · exact op_cmp_gt
  · exact op_cmp_ge
  · exact op_cmp_in hu
  · exact op_cmp_out hu

/-! ### is -/
theorem op_is_other_bl {b : Bool} : OpR X (compareOp .Is) (fun x y H Q => y = .bl b ∧ ((x = .non) ∨ (∃ i, x = .int i) ∨ (∃ z, x = .str z) ∨ (∃ a, x = .ref a)) ∧ Q (.bl false) H) := by
  intro pins s σ H x y v u Q I rx ry h
  obtain ⟨rfl, h, q⟩ := h
  cases (show u = Value.bool b from ry)
  rcases h with rfl | ⟨i, rfl⟩ | ⟨z, rfl⟩ | ⟨a, rfl⟩
  · cases (show v = Value.none from rx)
    exact wpAny_is_other (by first | rfl | simp [plainIs]) (fun z => nomatch z) ⟨.bl false, H, I, rfl, q⟩
  · obtain ⟨t, rfl⟩ := (show ∃ t, v = Value.int i t from rx)
    exact wpAny_is_other (by first | rfl | simp [plainIs]) (fun z => nomatch z) ⟨.bl false, H, I, rfl, q⟩
  · obtain ⟨t, rfl⟩ := (show ∃ t, v = Value.str z t from rx)
    exact wpAny_is_other (by first | rfl | simp [plainIs]) (fun z => nomatch z) ⟨.bl false, H, I, rfl, q⟩
  · cases (show v = Value.ref a from rx)
    exact wpAny_is_other (by first | rfl | simp [plainIs]) (fun z => nomatch z) ⟨.bl false, H, I, rfl, q⟩
end
end PC
set_option Elab.async false
set_option linter.all false
set_option maxRecDepth 100000
/-! PyCore, part 3b: sorted(..) of a list or a tuple of data. -/
namespace PC
open PySem PySem.Spec PyProof.Rows L2 PySem.W

/-! ### the order -/
mutual
theorem alike_of : ∀ {x y : D}, likeB x y = true → alike (toP x) (toP y) = true
  | .int _, y, h => by cases y <;> first | (simp [likeB] at h; done) | simp [toP, alike]
  | .str _, y, h => by cases y <;> first | (simp [likeB] at h; done) | simp [toP, alike]
  | .tup xs, y, h => by
    cases y <;> first | (simp [likeB] at h; done) | skip
    simp only [toP, alike]
    exact alikes_of (by simpa [likeB] using h)
  | .lst xs, y, h => by
    cases y <;> first | (simp [likeB] at h; done) | skip
    simp only [toP, alike]
    exact alikes_of (by simpa [likeB] using h)
  | .non, y, h => by simp [likeB] at h
  | .bl _, y, h => by simp [likeB] at h
  | .dic _ _ _, y, h => by simp [likeB] at h
  | .scr _, y, h => by simp [likeB] at h
theorem alikes_of : ∀ {xs ys : List D}, likeBs xs ys = true → alikeAll (toPs xs) (toPs ys) = true
  | [], ys, h => by simp [toPs, alikeAll]
  | x :: xs, [], h => by simp [toPs, alikeAll]
  | x :: xs, y :: ys, h => by
    have h' : likeB x y = true ∧ likeBs xs ys = true := by simpa [likeBs] using h
    simp only [toPs, alikeAll, alike_of h'.1, alikes_of h'.2, Bool.and_self]
end
mutual
theorem ltB_eq : ∀ {x y : D} {n m : Nat}, likeB x y = true → okD x n = true → okD y m = true → dataLt (toP x) (toP y) = ltB x y
  | .int i, y, n, m, h, _, _ => by
    cases y <;> first | (simp [likeB] at h; done) | exact dataLt_int _ _
  | .str i, y, n, m, h, _, _ => by
    cases y <;> first | (simp [likeB] at h; done) | exact dataLt_str _ _
  | .tup xs, y, n, m, h, a, b => by
    cases y <;> first | (simp [likeB] at h; done) | skip
    rename_i ys
    cases n <;> first | (simp [okD] at a; done) | skip
    cases m <;> first | (simp [okD] at b; done) | skip
    exact ltBs_eq (by simpa [likeB] using h) (by simpa [okD] using a) (by simpa [okD] using b)
  | .lst xs, y, n, m, h, a, b => by
    cases y <;> first | (simp [likeB] at h; done) | skip
    rename_i ys
    cases n <;> first | (simp [okD] at a; done) | skip
    cases m <;> first | (simp [okD] at b; done) | skip
    exact ltBs_eq (by simpa [likeB] using h) (by simpa [okD] using a) (by simpa [okD] using b)
  | .non, y, _, _, h, _, _ => by simp [likeB] at h
  | .bl _, y, _, _, h, _, _ => by simp [likeB] at h
  | .dic _ _ _, y, _, _, h, _, _ => by simp [likeB] at h
  | .scr _, y, _, _, h, _, _ => by simp [likeB] at h
theorem ltBs_eq : ∀ {xs ys : List D} {n m : Nat}, likeBs xs ys = true → okDs xs n = true → okDs ys m = true → rowLt (toPs xs) (toPs ys) = ltBs xs ys
  | [], [], _, _, _, _, _ => by simp only [toPs, ltBs]; exact lex_irrefl _
  | [], y :: ys, _, _, _, _, _ => by simp only [toPs, ltBs]; rfl
  | x :: xs, [], _, _, _, _, _ => by simp only [toPs, ltBs]; rfl
  | x :: xs, y :: ys, n, m, h, a, b => by
    have h' : likeB x y = true ∧ likeBs xs ys = true := by simpa [likeBs] using h
    have a' : okD x n = true ∧ okDs xs n = true := by simpa [okDs] using a
    have b' : okD y m = true ∧ okDs ys m = true := by simpa [okDs] using b
    have e := dataLt_cons (alike_of h'.1) (toPs xs) (toPs ys)
    simp only [toPs, ltBs]
    refine e.trans ?_
    rw [eqD_eqv a'.1 b'.1, ltB_eq h'.1 a'.1 b'.1]
    have e2 := ltBs_eq h'.2 a'.2 b'.2
    unfold rowLt at e2
    rw [e2]
end
theorem toPs_map : ∀ xs : List D, toPs xs = xs.map toP
  | [] => rfl
  | x :: xs => by rw [toPs, toPs_map xs, List.map_cons]
theorem okDs_mem : ∀ {xs : List D} {n : Nat} {x : D}, okDs xs n = true → x ∈ xs → okD x n = true
  | y :: xs, n, x, h, m => by
    have h' : okD y n = true ∧ okDs xs n = true := by simpa [okDs] using h
    rcases List.mem_cons.mp m with e | m
    · rw [e]; exact h'.1
    · exact okDs_mem h'.2 m
theorem sortOk_of {xs : List D} (h : sortOk xs = true) : (∀ x ∈ xs, ∀ y ∈ xs, likeB x y = true) ∧ (xs.all isTupC = true ∨ xs.all isAtom = true) ∧ okDs xs 60 = true ∧ xs.length ≤ LINE := by
  unfold sortOk at h
  simp only [Bool.and_eq_true, Bool.or_eq_true, decide_eq_true_eq] at h
  obtain ⟨⟨⟨h1, h2⟩, h3⟩, h4⟩ := h
  refine ⟨fun x hx y hy => ?_, h2, h3, h4⟩
  exact List.all_eq_true.mp (List.all_eq_true.mp h1 x hx) y hy
theorem sortable_of {xs : List D} (h : xs.all isTupC = true ∨ xs.all isAtom = true) : Sortable (xs.map toP) := by
  rcases h with h | h
  · refine .inl fun d hd => ?_
    obtain ⟨x, hx, rfl⟩ := List.mem_map.mp hd
    have hx := List.all_eq_true.mp h x hx
    cases x with
    | tup ys =>
      cases ys with
      | nil => cases hx
      | cons y ys => exact ⟨toP y, toPs ys, by simp only [toP, toPs]⟩
    | _ => cases hx
  · refine .inr fun d hd => ?_
    obtain ⟨x, hx, rfl⟩ := List.mem_map.mp hd
    have hx := List.all_eq_true.mp h x hx
    cases x <;> first | (cases hx; done) | exact ⟨fun z => by simp [toP] at z, fun ys z => by simp [toP] at z⟩
section
variable {X : Cx} {prog : Program} {w : World} {A : Around} {E : Value → Shared → Prop}
/-- the items of a tuple, as a new list -/
theorem gather_tup {s : Shared} {l : Addr} {us : List Value} {Q : List Value → Shared → Prop} (ht : IsTup s.heap l us.toArray) (hz : us.length ≤ sizeLine)
    (q : Q us { s with heap := (s.heap.push (PyProof.Rows.seqObj "list" #[] 0)).update s.heap.objs.size (Obj.mapSeq (· ++ us.toArray)) }) : wpAny (model prog w) A (collect (.ref l)) Q E s := by
  obtain ⟨ob, e1, e2, k, e3⟩ := ht
  unfold collect
  refine wpAny_bind (wpAny_runValue (codeAny_builtin PyProof.Rows.entry_proto_collect' ?_))
  show wpAny _ _ (do again (.builtin "list.__iadd__" ⟨[← newList [], .ref l], []⟩)) _ _ s
  refine wpAny_bind (wpAny_newList (wpAny_pure ⟨Code.quiet_builtin _ (by decide +kernel), codeAny_builtin PyProof.Rows.entry_list_iadd' ?_⟩))
  show wpAny _ _ (Builtin.List.listExtendWith (.ref s.heap.objs.size) (.ref l) (.ref s.heap.objs.size)) _ _ { s with heap := s.heap.push (PyProof.Rows.seqObj "list" #[] 0) }
  unfold Builtin.List.listExtendWith
  have e4 : (s.heap.push (PyProof.Rows.seqObj "list" #[] 0)).get? l = some ob := Heap.get?_push_of_some _ e1
  refine wpAny_bind (wpAny_typeOf (T := "tuple") ⟨ob, e4, e2⟩ ?_)
  rw [if_pos (by rw [show (Value.type "tuple" == Value.type "tuple") = true from rfl, Bool.or_true])]
  refine wpAny_bind (PyProof.Rows.listItems_at e4 e3 (wpAny_bind (PyProof.Rows.listItems_at (xs := #[]) (n := 0) (Heap.get?_push_size _ rfl) rfl ?_)))
  rw [if_neg (by simp)]
  refine wpAny_bind (PyProof.Rows.listUpdate_at (xs := #[]) (n := 0) (Heap.get?_push_size _ rfl) rfl ?_ (Nat.zero_le _) (by show (#[] ++ us.toArray).size ≤ sizeLine + 1; simp only [Array.size_append, List.size_toArray, List.length_nil]; omega))
  refine wpAny_pure ?_
  show wpAny (model prog w) A (do
      let ob ← load s.heap.objs.size
      match ob.data with
      | .seq ys _ => pure ys.toList
      | _ => unsupported "internal:collect") Q E { s with heap := (s.heap.push (PyProof.Rows.seqObj "list" #[] 0)).update s.heap.objs.size (Obj.mapSeq (· ++ us.toArray)) }
  refine wpAny_bind (wpAny_load (PyProof.Rows.get?_update_seq (Heap.get?_push_size _ rfl) _) ?_)
  show wpAny _ _ (pure ((#[] : Array Value) ++ us.toArray).toList) Q E _
  rw [show ((#[] : Array Value) ++ us.toArray).toList = us by simp]
  exact wpAny_pure q
/-- sorted of a tuple, by sort of the new list -/
theorem sorted_tp {s : Shared} {κ : _} {l : Addr} {us : List Value} {Q : Value → Shared → Prop} (ht : IsTup s.heap l us.toArray) (S : SortsAt prog w A.in1.in1 { s with heap := sortingHeap (copyHeap s.heap us) (s.heap.objs.size + 1) us } κ us) (hz : us.length ≤ sizeLine)
    (q : Q (.ref (s.heap.objs.size + 1)) { s with heap := PyProof.Rows.sortedAll s.heap us (sortVals κ false us us).toArray }) : wpAny (model prog w) A (call (.builtin "sorted") [.ref l]) Q E s := by
  refine call_function_entry_kw PyProof.Rows.kind_sorted PyProof.Rows.plain_sorted PyProof.Rows.entry_sorted (PyProof.Rows.args_sorted1 _) ?_
  unfold Builtin.«sorted»
  refine wpAny_bind (m := checkCount "sorted" 1 1 _) (wpAny_pure ?_)
  refine wpAny_bind (gather_tup ht hz (wpAny_bind (wpAny_newList ?_ hz)))
  have hs : ((s.heap.push (PyProof.Rows.seqObj "list" #[] 0)).update s.heap.objs.size (Obj.mapSeq (· ++ us.toArray))).objs.size = s.heap.objs.size + 1 := by
    rw [Heap.size_update, PyProof.Rows.size_push']
  show wpAny _ _ _ _ _ { s with heap := copyHeap s.heap us }
  rw [hs]
  refine wpAny_bind (wpAny_holding (wpAny_call_entry_kw PyProof.Rows.slot_list_sort ⟨_, copyHeap_at s.heap us, rfl⟩ PyProof.Rows.entry_list_sort ?body (PyProof.Rows.args_list_sort _)))
  case body =>
    show wpAny (model prog w) A.in1.in1 (Builtin.«list.sort» ⟨[.ref (s.heap.objs.size + 1)], []⟩) _ _ _
    exact list_sort_vals (s := { s with heap := copyHeap s.heap us }) (copyHeap_at s.heap us) S hz ⟨_, rfl, wpAny_pure ⟨_, rfl, q⟩⟩
end

theorem sorted_tpD {prog : Program} {w : World} {A : Around} {E : Value → Shared → Prop} {s : Shared} {β : Type} {us : List Value} {bs : List β} {enc : β → PyData} {R : Value → β → Prop} {l : Addr} {Q : Value → Shared → Prop} (ht : IsTup s.heap l us.toArray)
    (e : EachIs R us bs) (er : EachIs (fun v b => ∃ as, Reads s.heap v (enc b) as) us bs) (hal : AllAlike (bs.map enc)) (hk : PySem.W.Sortable (bs.map enc)) (hL : bs.length ≤ sizeLine) (hu : ∀ b, b ∈ bs → A.units + 2 + (enc b).depth < cLine)
    (q : ∀ out, out.length = bs.length → EachIs R out (bs.mergeSort (dataLe false enc)) → Q (.ref (s.heap.objs.size + 1)) { s with heap := PyProof.Rows.sortedAll s.heap us (List.toArray out) }) : wpAny (model prog w) A (call (.builtin "sorted") [.ref l]) Q E s := by
  have rd : EachIs (fun v b => ∃ as, Reads (sortingHeap (copyHeap s.heap us) (s.heap.objs.size + 1) us) v (enc b) as) us bs := er.mono fun _ _ ⟨as, z⟩ => ⟨as, PyProof.Rows.Reads.keeps (fun _ _ => sorting_copy_old) z⟩
  refine sorted_tp ht (SortsAt.data (s := { s with heap := sortingHeap (copyHeap s.heap us) (s.heap.objs.size + 1) us }) (each_map (R := fun v d => ∃ as, Reads (sortingHeap (copyHeap s.heap us) (s.heap.objs.size + 1) us) v d as) enc rd) hal hk (bound_map hu)) (by rw [e.length]; exact hL) (q _ ?_ (sortVals_data false e rd hal))
  rw [sortVals_length false rfl]
  exact e.length
/-! ### by values -/
section
variable {X : Cx}
theorem reps_zip {K : PySem.W.Frag} {M : Addr → Prop} {H : Hp} : ∀ {xs : List D} {vs : List V}, Reps K M H xs vs → ∀ p ∈ xs.zip vs, Rep K M H p.1 p.2
  | [], vs, h, p, m => by simp at m
  | x :: xs, _, h, p, m => by
    obtain ⟨v, w, rfl, r1, r2⟩ := h
    rw [List.zip_cons_cons] at m
    rcases List.mem_cons.mp m with e | m
    · rw [e]; exact r1
    · exact reps_zip r2 p m
theorem reps_of_pairs {K : PySem.W.Frag} {M : Addr → Prop} {H : Hp} : ∀ {l : List (D × V)}, (∀ p ∈ l, Rep K M H p.1 p.2) → Reps K M H (l.map Prod.fst) (l.map Prod.snd)
  | [], _ => rfl
  | p :: l, h => ⟨p.2, l.map Prod.snd, rfl, h p List.mem_cons_self, reps_of_pairs fun q m => h q (List.mem_cons_of_mem _ m)⟩
theorem each_pairs {R : Value → D × V → Prop} : ∀ {xs : List D} {vs : List V} {us : List Value}, xs.length = vs.length → Vals vs us → (∀ p ∈ xs.zip vs, ∀ u, RelV p.2 u → R u p) → EachIs R us (xs.zip vs)
  | [], [], us, hl, r, h => by
    cases r
    exact .nil
  | [], _ :: _, us, hl, r, h => by cases hl
  | _ :: _, [], us, hl, r, h => by cases hl
  | x :: xs, v :: vs, us, hl, r, h => by
    cases r with
    | cons r1 r2 => exact .cons (h (x, v) (by rw [List.zip_cons_cons]; exact List.mem_cons_self) _ r1) (each_pairs (by simpa using hl) r2 fun p m => h p (by rw [List.zip_cons_cons]; exact List.mem_cons_of_mem _ m))
theorem vals_pairs : ∀ {l : List (D × V)} {us : List Value}, EachIs (fun u (p : D × V) => RelV p.2 u) us l → Vals (l.map Prod.snd) us
  | _, _, .nil => .nil
  | _, _, .cons h t => .cons h (vals_pairs t)
def rSortD (K : PySem.W.Frag) : List V → Hp → VK → Prop := fun vs H Q => ∃ M d xs y, vs = [y] ∧ OM M H ∧ VR K M H d y ∧ (d = .lst xs ∨ d = .tup xs) ∧ sortOk xs = true ∧ RKF K M H Q (.lst (xs.mergeSort leB))
theorem cr_sortD (hu : X.A.units + 64 < cLine) : CallR X (.builtin "sorted") (rSortD X.K) := by
  intro pins s σ H ys us Q I r h
  obtain ⟨M, d, xs, y, rfl, om, hv, hd, hok, q⟩ := h
  obtain ⟨o1, o2, o3, o4⟩ := sortOk_of hok
  obtain ⟨u, rfl, ru⟩ := Vals.one r
  have line : LINE = sizeLine := by rw [sizeLine_eq]; rfl
  -- the rest, from where the items lie
  have fin : ∀ {a : Addr} {vs : List V} {its : List Value}, Reps X.K M H xs vs → Vals vs its → ∃ (bs : List (D × V)) (enc : D × V → PyData), EachIs (fun u (p : D × V) => RelV p.2 u) its bs ∧ EachIs (fun v b => ∃ as, Reads s.heap v (enc b) as) its bs ∧ AllAlike (bs.map enc) ∧ PySem.W.Sortable (bs.map enc) ∧ bs.length ≤ sizeLine ∧
      (∀ b ∈ bs, X.A.units + 2 + (enc b).depth < cLine) ∧ ∀ out, out.length = bs.length → EachIs (fun u (p : D × V) => RelV p.2 u) out (bs.mergeSort (dataLe false enc)) → EP X pins σ Q (.ref (s.heap.objs.size + 1)) { s with heap := PyProof.Rows.sortedAll s.heap its (List.toArray out) } := fun {a vs its} rp rv => by
    have hl := rp.length
    have hfst : (xs.zip vs).map Prod.fst = xs := List.map_fst_zip (by omega)
    have henc : (xs.zip vs).map (fun p : D × V => toP p.1) = xs.map toP := by
      have e : (xs.zip vs).map (fun p : D × V => toP p.1) = ((xs.zip vs).map Prod.fst).map toP := by rw [List.map_map]; rfl
      rw [e, hfst]
    have hmem : ∀ p ∈ xs.zip vs, p.1 ∈ xs := fun p m => by
      have : p.1 ∈ (xs.zip vs).map Prod.fst := List.mem_map.mpr ⟨p, m, rfl⟩
      rwa [hfst] at this
    refine ⟨xs.zip vs, fun p => toP p.1, each_pairs hl rv (fun p m u h => h), each_pairs hl rv (fun p m u h => Dp.reads I (toP p.1) p.2 u ((reps_zip rp p m).vr.dp (okDs_mem o3 (hmem p m))) h), ?_, ?_, ?_, fun p m => ?_, fun out ho e => ?_⟩
    · rw [henc]
      intro d hd d' hd'
      obtain ⟨x, hx, rfl⟩ := List.mem_map.mp hd
      obtain ⟨x', hx', rfl⟩ := List.mem_map.mp hd'
      exact alike_of (o1 x hx x' hx')
    · rw [henc]
      exact sortable_of o2
    · rw [List.length_zip, ← hl, Nat.min_self, ← line]
      exact o4
    · have := (toP_lay (okDs_mem o3 (hmem p m))).2
      show X.A.units + 2 + (toP p.1).depth < cLine
      omega
    · have hperm := List.mergeSort_perm (xs.zip vs) (dataLe false fun p : D × V => toP p.1)
      have hrep := reps_of_pairs (K := X.K) (M := M) (H := H) (l := (xs.zip vs).mergeSort (dataLe false fun p : D × V => toP p.1)) fun p m => reps_zip rp p (hperm.mem_iff.mp m)
      have hsrt : ((xs.zip vs).mergeSort (dataLe false fun p : D × V => toP p.1)).map Prod.fst = xs.mergeSort leB := by
        rw [List.map_mergeSort (s := leB), hfst]
        intro p hp p' hp'
        rw [dataLe_eq]
        show (!dataLt (toP p'.1) (toP p.1)) = !ltB p'.1 p.1
        rw [ltB_eq (o1 _ (hmem p' hp') _ (hmem p hp)) (okDs_mem o3 (hmem p' hp')) (okDs_mem o3 (hmem p hp))]
      rw [hsrt] at hrep
      obtain ⟨ep, he⟩ := PyProof.Rows.sortedAll_at s.heap its out.toArray
      have hn : H (s.heap.objs.size + 1) = none := I.hok.fresh (Nat.le_succ _)
      have hlen : (((xs.zip vs).mergeSort (dataLe false fun p : D × V => toP p.1)).map Prod.snd).length ≤ sizeLine := by
        rw [List.length_map, hperm.length_eq, List.length_zip, ← hl, Nat.min_self, ← line]
        exact o4
      exact ⟨.ref _, upd H (s.heap.objs.size + 1) (.lst (((xs.zip vs).mergeSort (dataLe false fun p : D × V => toP p.1)).map Prod.snd)), I.laid (t' := s.toks) (fun _ _ => PyProof.Rows.sortedAll_old) (Nat.le_succ _) ⟨hlen, out, ep, vals_pairs e, he⟩, rfl, rkf_lst q om hn hrep⟩
  rcases hd with rfl | rfl
  · obtain ⟨a, vs, rfl, s1, r1⟩ := hv
    cases (show u = Value.ref a from ru)
    obtain ⟨its, rv, pl, hz⟩ := I.list (show SqL X.K H a vs from .inl (.inl s1))
    obtain ⟨bs, enc, f1, f2, f3, f4, f5, f6, f7⟩ := fin (a := a) r1 rv
    exact sorted_data pl.isList f1 f2 f3 f4 f5 f6 f7
  · obtain ⟨a, vs, rfl, s1, r1⟩ := hv
    cases (show u = Value.ref a from ru)
    obtain ⟨its, rv, pl, hz⟩ := I.tuple (show SqT X.K H a vs from .inl (.inl s1))
    obtain ⟨bs, enc, f1, f2, f3, f4, f5, f6, f7⟩ := fin (a := a) r1 rv
    exact sorted_tpD pl f1 f2 f3 f4 f5 f6 f7
end
end PC
set_option Elab.async false
set_option linter.all false
set_option maxRecDepth 100000
/-! PyCore, part 3g: max, min, sum of a tuple of ints. -/
namespace PC
open PySem PySem.Spec PyProof.Rows L2
section
variable {P : Program} {w : World} {A : Around} {E : Value → Shared → Prop} {s : Shared}
abbrev tiO (t : Addr) : Obj := { cls := .type "tuple_iterator", data := .fields #[.ref t, .int 0 0] }
theorem tupWalk (hh : A.handled = none) {t : Addr} {its : List Value} (ht : s.heap.IsTuple t its.toArray) {Q : Value → Shared → Prop}
    (q : Walks P w A s.heap.objs.size [s.heap.objs.size, t] [s.heap.objs.size] its.toArray.size (fun i v => its.toArray[i]? = some v) (fun i h => h.IsTupleIter s.heap.objs.size t i ∧ h.IsTuple t its.toArray) →
      ((s.heap.push (tiO t)).IsTupleIter s.heap.objs.size t 0 ∧ (s.heap.push (tiO t)).IsTuple t its.toArray) → (∀ b ∈ [s.heap.objs.size, t], b < (s.heap.push (tiO t)).objs.size) → (∀ h' : Heap, (∀ b o, b ∉ [s.heap.objs.size] → (s.heap.push (tiO t)).get? b = some o → h'.get? b = some o) → ∀ b o, s.heap.get? b = some o → h'.get? b = some o) →
      Q (.ref s.heap.objs.size) { s with heap := s.heap.push (tiO t) }) : wpAny (model P w) A (pyIter (.ref t)) Q E s := by
  have hlt : t < s.heap.objs.size := by
    obtain ⟨_, e, _⟩ := ht
    exact Heap.lt_size e
  refine wpAny_pyIter_tuple ht (q (Walks.tuple hh _ t (Nat.ne_of_lt hlt) its.toArray) ⟨⟨_, Heap.get?_push_size _ rfl, rfl, rfl⟩, ht.push _⟩ (fun b hb => ?_) fun h' hk b o e => ?_)
  · rw [Heap.size_push]
    rcases List.mem_cons.mp hb with e | hb
    · rw [e]; exact Nat.lt_succ_self _
    · rw [List.mem_singleton.mp hb]; exact Nat.lt_succ_of_lt hlt
  · refine hk b o (fun hm => ?_) (Heap.get?_push_of_some _ e)
    have e2 := Heap.lt_size e
    rw [List.mem_singleton.mp hm] at e2
    exact absurd e2 (Nat.lt_irrefl _)
theorem ints_val {its : List Value} {ns : List Int} (hi : IntsAre its ns) (i : Nat) (v : Value) (h : its.toArray[i]? = some v) : ∃ t, v = .int (ns.getD i 0) t := IntsAre.int_at hi i v (by simpa using h)
theorem maxT_raw (hh : A.handled = none) {t : Addr} {its : List Value} {ns : List Int} (ht : s.heap.IsTuple t its.toArray) (hi : IntsAre its ns) (hne : 0 < ns.length) {Q : Value → Shared → Prop}
    (q : ∀ h' tk M u, (∀ b o, s.heap.get? b = some o → h'.get? b = some o) → M ∈ ns → (∀ a ∈ ns, a ≤ M) → Q (.int M u) { s with heap := h', toks := tk }) : wpAny (model P w) A (call (.builtin "max") [.ref t]) Q E s := by
  have hl : its.toArray.size = ns.length := by simpa using IntsAre.length hi
  refine call_max_walk (tupWalk (A := A.in1) hh ht fun W st hfp hk => ?_)
  refine ⟨_, _, _, _, _, _, _, rfl, W, st, hfp, by omega, CmpOf.ints_gt (fun i => ns.getD i 0) (ints_val hi), fun v h' tk hP hk2 => ?_⟩
  obtain ⟨u, rfl⟩ := ints_val hi _ v hP
  obtain ⟨b1, b2⟩ := argBest_gt (fun i => ns.getD i 0) (its.toArray.size - 1)
  refine q h' tk _ u (hk h' hk2) ?_ fun a ha => ?_
  · have hb : argBest (fun i j => decide (ns.getD i 0 > ns.getD j 0)) (its.toArray.size - 1) < ns.length := by omega
    rw [List.getD_eq_getElem?_getD, List.getElem?_eq_getElem hb]
    exact List.getElem_mem hb
  · obtain ⟨i, hi, e⟩ := List.mem_iff_getElem.mp ha
    have e2 : ns.getD i 0 = a := by rw [List.getD_eq_getElem?_getD, List.getElem?_eq_getElem hi, ← e]; rfl
    rw [← e2]
    exact b2 i (by omega)
theorem minT_raw (hh : A.handled = none) {t : Addr} {its : List Value} {ns : List Int} (ht : s.heap.IsTuple t its.toArray) (hi : IntsAre its ns) (hne : 0 < ns.length) {Q : Value → Shared → Prop}
    (q : ∀ h' tk M u, (∀ b o, s.heap.get? b = some o → h'.get? b = some o) → M ∈ ns → (∀ a ∈ ns, M ≤ a) → Q (.int M u) { s with heap := h', toks := tk }) : wpAny (model P w) A (call (.builtin "min") [.ref t]) Q E s := by
  have hl : its.toArray.size = ns.length := by simpa using IntsAre.length hi
  refine call_min_walk (tupWalk (A := A.in1) hh ht fun W st hfp hk => ?_)
  refine ⟨_, _, _, _, _, _, _, rfl, W, st, hfp, by omega, CmpOf.ints_lt (fun i => ns.getD i 0) (ints_val hi), fun v h' tk hP hk2 => ?_⟩
  obtain ⟨u, rfl⟩ := ints_val hi _ v hP
  obtain ⟨b1, b2⟩ := argBest_lt (fun i => ns.getD i 0) (its.toArray.size - 1)
  refine q h' tk _ u (hk h' hk2) ?_ fun a ha => ?_
  · have hb : argBest (fun i j => decide (ns.getD i 0 < ns.getD j 0)) (its.toArray.size - 1) < ns.length := by omega
    rw [List.getD_eq_getElem?_getD, List.getElem?_eq_getElem hb]
    exact List.getElem_mem hb
  · obtain ⟨i, hi, e⟩ := List.mem_iff_getElem.mp ha
    have e2 : ns.getD i 0 = a := by rw [List.getD_eq_getElem?_getD, List.getElem?_eq_getElem hi, ← e]; rfl
    rw [← e2]
    exact b2 i (by omega)
theorem preSum_take (ns : List Int) : ∀ k, k ≤ ns.length → preSum (fun i => ns.getD i 0) k = (ns.take k).sum
  | 0, _ => by simp [preSum]
  | k + 1, h => by
    have hk : k < ns.length := h
    rw [preSum, preSum_take ns k (by omega), List.take_succ, List.getElem?_eq_getElem hk, List.getD_eq_getElem?_getD, List.getElem?_eq_getElem hk, List.sum_append]
    simp only [Option.getD_some, Option.toList_some, List.sum_cons, List.sum_nil, Int.add_zero]
theorem sumT_raw (hh : A.handled = none) {t : Addr} {its : List Value} {ns : List Int} (ht : s.heap.IsTuple t its.toArray) (hi : IntsAre its ns) {Q : Value → Shared → Prop}
    (q : ∀ h' tk u, (∀ b o, s.heap.get? b = some o → h'.get? b = some o) → Q (.int ns.sum u) { s with heap := h', toks := tk }) : wpAny (model P w) A (call (.builtin "sum") [.ref t]) Q E s := by
  have hl : its.toArray.size = ns.length := by simpa using IntsAre.length hi
  refine call_sum_walkG (tupWalk (A := A.in1) hh ht fun W st hfp hk => ?_)
  refine ⟨_, _, _, _, _, _, fun i => ns.getD i 0, rfl, W, st, hfp, ints_val hi, fun h' tk u hk2 => ?_⟩
  have e : preSum (fun i => ns.getD i 0) its.toArray.size = ns.sum := by rw [hl, preSum_take ns _ (Nat.le_refl _), List.take_length]
  rw [e]
  exact q h' tk u (hk h' hk2)
end
end PC
set_option Elab.async false
set_option linter.all false
set_option maxRecDepth 100000
/-! PyCore: sum of lists from []; min of data. -/
namespace PC
open PySem PySem.Spec PyProof.Rows L2
section
variable {P : Program} {w : World} {A : Around} {E : Value → Shared → Prop} {R : Result → Shared → Prop}
abbrev liO (its : List Value) (n : Nat) : Obj := { cls := .type "list", data := .seq its.toArray n }
theorem args_sum2 (a b : Value) : argsOk "sum" ⟨[a, b], []⟩ := by unfold argsOk; kernel_rfl
theorem sub_list_str' : isSubtype (.type "list") (.type "str") = pure false := by rw [isSubtype_type]; kernel_rfl
theorem sub_list_bytes' : isSubtype (.type "list") (.type "bytes") = pure false := by rw [isSubtype_type]; kernel_rfl
theorem sub_list_bytearray' : isSubtype (.type "list") (.type "bytearray") = pure false := by rw [isSubtype_type]; kernel_rfl
theorem sumL_loop (hh : A.handled = none) {I l S : Addr} {us : List Value} {ls : List (List Value)} {H0 : Heap} (hlen : us.length = ls.length)
    (hit : ∀ (i : Nat) (v : Value), us[i]? = some v → ∃ a n, v = .ref a ∧ H0.get? a = some (liO (ls.getD i []) n))
    (hI : H0.get? I = none) (hS : H0.get? S = none) (hIS : I ≠ S) {nl : Nat} (hl : H0.get? l = some (liO us nl)) (hsz : ls.flatten.length ≤ sizeLine) :
    ∀ (k i : Nat) (s : Shared) (t : Addr) (c n : Nat), us.length - i = k → i ≤ us.length → (∀ b o, H0.get? b = some o → s.heap.get? b = some o) → s.heap.IsListIter I l i →
      s.heap.get? t = some (liO (ls.take i).flatten n) → t ≠ I → t ≠ S → (0 < i → H0.objs.size ≤ t) → H0.objs.size ≤ s.heap.objs.size → I < s.heap.objs.size → S < s.heap.objs.size → s.heap.get? S = some { cls := .type "list", dict := none, data := .seq #[.ref t] c, slots := #[] } →
      (∀ h' tk t' n', (∀ b o, H0.get? b = some o → h'.get? b = some o) → h'.get? t' = some (liO ls.flatten n') → (0 < us.length → H0.objs.size ≤ t') → R (.ok (.ret (.ref t'))) { s with heap := h', toks := tk }) →
      codeAny (model P w) A (.builtin "sum.loop" ⟨[.ref I, .ref S, rawInt 2, rawInt 0], []⟩) R s := by
  have neH : ∀ {a b : Addr} {o : Obj}, H0.get? a = none → H0.get? b = some o → b ≠ a := fun e1 e2 z => by rw [z, e1] at e2; cases e2
  intro k
  induction k with
  | zero =>
    intro i s t c n hk hi hkeep hiter ht htI htS hft hsz0 hIl hSl hSo hR
    have hin : i = us.length := by omega
    refine codeAny_builtin F.entry_sum_loop ?_
    rw [Around.under_plainId F.plain_sum_loop _]
    show wpAny _ A.in1 (seqItems? (.ref S) >>= _) _ _ s
    refine wpAny_bind (wpAny_seqItems hSo rfl ?_)
    show wpAny _ A.in1 (tryCatch (pyNext (.ref I)) _ >>= _) _ _ s
    have hL : s.heap.IsList l us.toArray := ⟨_, hkeep _ _ hl, rfl, nl, rfl⟩
    refine wpAny_bind (wpAny_tryCatch (wpAny_pyNext_list_end (A := A.in1) hh hiter hL (Array.getElem?_eq_none (by rw [List.size_toArray]; omega)) fun h' he => ?_))
    refine wpAny_pure ?_
    refine hR h' s.toks t n (fun b o e => he b o (neH hI e) (hkeep b o e)) ?_ (fun h => hft (by omega))
    have : ls.take i = ls := List.take_of_length_le (by omega)
    rw [this] at ht
    exact he t _ htI ht
  | succ k ih =>
    intro i s t c n hk hi hkeep hiter ht htI htS hft hsz0 hIl hSl hSo hR
    have hlt : i < us.length := by omega
    refine codeAny_builtin F.entry_sum_loop ?_
    rw [Around.under_plainId F.plain_sum_loop _]
    show wpAny _ A.in1 (seqItems? (.ref S) >>= _) _ _ s
    refine wpAny_bind (wpAny_seqItems hSo rfl ?_)
    show wpAny _ A.in1 (tryCatch (pyNext (.ref I)) _ >>= _) _ _ s
    have hL : s.heap.IsList l us.toArray := ⟨_, hkeep _ _ hl, rfl, nl, rfl⟩
    have hui : us[i]? = some us[i] := List.getElem?_eq_getElem hlt
    obtain ⟨a, na, ea, ha⟩ := hit i _ hui
    refine wpAny_bind (wpAny_tryCatch (wpAny_pyNext_list_item (A := A.in1) (x := us[i]) hiter hL (by simp [hlt]) fun h' hit' hs' => ?_))
    rw [ea]
    have hli : ls[i]? = some (ls.getD i []) := by
      rw [List.getD_eq_getElem?_getD, List.getElem?_eq_getElem (by omega)]
      rfl
    have hpre : (ls.take (i + 1)).flatten = (ls.take i).flatten ++ ls.getD i [] := by
      rw [List.take_succ, hli, List.flatten_append]
      simp
    have hlen1 : (ls.take (i + 1)).flatten.length ≤ sizeLine := by
      refine Nat.le_trans ?_ hsz
      have : ls.flatten = (ls.take (i + 1)).flatten ++ (ls.drop (i + 1)).flatten := by rw [← List.flatten_append, List.take_append_drop]
      rw [this, List.length_append]
      omega
    have hk' : ∀ b o, H0.get? b = some o → h'.get? b = some o := fun b o e => hs'.extBut b o (neH hI e) (hkeep b o e)
    have ht' : h'.get? t = some (liO (ls.take i).flatten n) := hs'.extBut t _ htI ht
    have hS' := hs'.extBut S _ (Ne.symm hIS) hSo
    have hlen2 := hlen1
    rw [hpre, List.length_append] at hlen2
    show wpAny _ A.in1 ((holding [Value.ref a] (binaryOp .Add (.ref t) (.ref a))).attempt >>= _) _ _ _
    refine wpAny_bind (wpAny_attempt (wpAny_holding (PySem.P.add_list ht' (hk' _ _ ha) ?_ (by rw [List.size_toArray, List.size_toArray]; omega))))
    show wpAny _ A.in1 (updateSeq S (fun _ => #[.ref h'.objs.size]) >>= _) _ _ _
    have hS1 := Heap.get?_push_of_some { cls := .type "list", data := .seq ((ls.take i).flatten.toArray ++ (ls.getD i []).toArray) } hS'
    refine wpAny_bind (wpAny_updateSeq hS1 rfl ?_)
    have hS2 := Heap.get?_update_self (Obj.mapSeq fun _ => #[Value.ref h'.objs.size]) hS1 rfl
    refine wpAny_bind (wpAny_letGo ?_)
    have hsz1 : s.heap.objs.size = h'.objs.size := hs'.1.symm
    have neS : ∀ {b : Addr} {o : Obj}, H0.get? b = some o → b ≠ S := fun e => neH hS e
    have hIl' : I < h'.objs.size := hsz1 ▸ hIl
    have hSl' : S < h'.objs.size := hsz1 ▸ hSl
    have h0' : H0.objs.size ≤ h'.objs.size := hsz1 ▸ hsz0
    have hn : h'.objs.size ≠ S := Ne.symm (Nat.ne_of_lt hSl')
    have hpsz : (h'.push { cls := .type "list", data := .seq ((ls.take i).flatten.toArray ++ (ls.getD i []).toArray) }).objs.size = h'.objs.size + 1 := Heap.size_push _ _
    refine wpAny_bind (wpAny_updateSeq hS2 rfl (wpAny_pure ⟨plainId_quiet F.plain_sum_loop _, ih (i + 1) _ h'.objs.size _ 0 (by omega) hlt (fun b o e => ?_) ?_ ?_ ?_ hn (fun _ => ?_) ?_ ?_ ?_ (Heap.get?_update_self _ hS2 rfl) fun h2 tk2 t2 n2 g1 g2 g3 => hR h2 tk2 t2 n2 g1 g2 g3⟩))
    · exact (Heap.get?_update_other _ _ (Ne.symm (neS e))).trans ((Heap.get?_update_other _ _ (Ne.symm (neS e))).trans (Heap.get?_push_of_some _ (hk' b o e)))
    · refine hit'.at fun o e => ?_
      exact (Heap.get?_update_other _ _ (Ne.symm hIS)).trans ((Heap.get?_update_other _ _ (Ne.symm hIS)).trans (Heap.get?_push_of_some _ e))
    · refine (Heap.get?_update_other _ _ (Ne.symm hn)).trans ((Heap.get?_update_other _ _ (Ne.symm hn)).trans ?_)
      rw [hpre]
      refine (Heap.get?_push_size _ rfl).trans ?_
      simp [liO]
    · exact Ne.symm (Nat.ne_of_lt hIl')
    · exact h0'
    · show H0.objs.size ≤ _
      rw [Heap.size_update, Heap.size_update, hpsz]
      exact Nat.le_succ_of_le h0'
    · show I < _
      rw [Heap.size_update, Heap.size_update, hpsz]
      exact Nat.lt_succ_of_lt hIl'
    · show S < _
      rw [Heap.size_update, Heap.size_update, hpsz]
      exact Nat.lt_succ_of_lt hSl'
theorem sumL_raw {s : Shared} (hh : A.handled = none) {l b : Addr} {us : List Value} {ls : List (List Value)} {nl nb : Nat} (hlen : us.length = ls.length)
    (hit : ∀ (i : Nat) (v : Value), us[i]? = some v → ∃ a n, v = .ref a ∧ s.heap.get? a = some (liO (ls.getD i []) n))
    (hl : s.heap.get? l = some (liO us nl)) (hb : s.heap.get? b = some (liO [] nb)) (hne : 0 < us.length) (hsz : ls.flatten.length ≤ sizeLine) {Q : Value → Shared → Prop}
    (q : ∀ h' tk t' n', (∀ b o, s.heap.get? b = some o → h'.get? b = some o) → s.heap.objs.size ≤ t' → h'.get? t' = some (liO ls.flatten n') → Q (.ref t') { s with heap := h', toks := tk }) :
    wpAny (model P w) A (call (.builtin "sum") [.ref l, .ref b]) Q E s := by
  refine call_function_tree F.kind_sum F.plain_sum F.entry_sum (args_sum2 _ _) ?_
  unfold Builtin.«sum»
  simp only [List.length_cons, List.length_nil]
  rw [if_neg (by decide)]
  refine wpAny_bind (wpAny_of_eq (show Builtin.Builtins.bindParams "sum" ["start"] 0 ⟨[.ref b], []⟩ = pure [some (.ref b)] from rfl) ?_)
  have hL : s.heap.IsList l us.toArray := ⟨_, hl, rfl, nl, rfl⟩
  refine wpAny_bind (wpAny_pyIter_list hL ?_)
  refine wpAny_bind (wpAny_pure ?_)
  simp only [List.forIn_cons, List.forIn_nil]
  have hb1 := Heap.get?_push_of_some ({ cls := .type "list_iterator", data := .fields #[.ref l, .int 0 0] } : Obj) hb
  have ty : Shared.TypeIs { s with heap := s.heap.push { cls := .type "list_iterator", data := .fields #[.ref l, .int 0 0] } } (.ref b) "list" := ⟨_, hb1, rfl⟩
  refine wpAny_bind (wpAny_bind (wpAny_bind (wpAny_isInstance (T := "list") (b := false) ty sub_list_str' ?_)))
  simp only [Bool.false_eq_true, if_false]
  refine wpAny_pure (wpAny_bind (wpAny_bind (wpAny_isInstance (T := "list") (b := false) ty sub_list_bytes' ?_)))
  simp only [Bool.false_eq_true, if_false]
  refine wpAny_pure (wpAny_bind (wpAny_bind (wpAny_isInstance (T := "list") (b := false) ty sub_list_bytearray' ?_)))
  simp only [Bool.false_eq_true, if_false]
  refine wpAny_pure (wpAny_pure ?_)
  refine wpAny_bind (wpAny_newObj_type ?_)
  have s1 : (s.heap.push { cls := .type "list_iterator", data := .fields #[.ref l, .int 0 0] }).objs.size = s.heap.objs.size + 1 := Heap.size_push _ _
  have hSn : s.heap.get? (s.heap.push { cls := .type "list_iterator", data := .fields #[.ref l, .int 0 0] }).objs.size = none := Heap.get?_none_of_le (by rw [s1]; exact Nat.le_succ _)
  have hSI : s.heap.objs.size ≠ (s.heap.push { cls := .type "list_iterator", data := .fields #[.ref l, .int 0 0] }).objs.size := by rw [s1]; exact Nat.ne_of_lt (Nat.lt_succ_self _)
  refine wpAny_pure ⟨plainId_quiet F.plain_sum_loop _, sumL_loop (A := A) (H0 := s.heap) (l := l) (us := us) (ls := ls) hh hlen hit (Heap.get?_none_of_le (Nat.le_refl _)) hSn hSI hl hsz us.length 0 _ b 0 nb rfl (Nat.zero_le _)
    (fun b' o e => Heap.get?_push_of_some _ (Heap.get?_push_of_some _ e)) ?_ ?_ ?_ ?_ (fun h => absurd h (Nat.lt_irrefl _)) ?_ ?_ ?_ (Heap.get?_push_size _ rfl) fun h' tk t' n' g1 g2 g3 => q h' tk t' n' g1 (g3 hne) g2⟩
  · exact ⟨_, Heap.get?_push_of_some _ (Heap.get?_push_size _ rfl), rfl, rfl⟩
  · exact Heap.get?_push_of_some _ hb1
  · exact Nat.ne_of_lt (Heap.lt_size hb)
  · have h1 := Heap.lt_size hb
    exact fun z => absurd h1 (by rw [z]; exact Nat.not_lt.mpr (by rw [s1]; exact Nat.le_succ _))
  · show _ ≤ ((s.heap.push _).push _).objs.size
    rw [Heap.size_push]
    exact Nat.le_succ_of_le (by rw [s1]; exact Nat.le_succ _)
  · show _ < ((s.heap.push _).push _).objs.size
    rw [Heap.size_push]
    exact Nat.lt_succ_of_lt (by rw [s1]; exact Nat.lt_succ_self _)
  · show _ < ((s.heap.push _).push _).objs.size
    exact Nat.lt_of_lt_of_eq (Nat.lt_succ_self _) (Heap.size_push _ _).symm
end

section
variable {X : Cx} {pins : List (Addr × Obj)} {σ : L2.St} {H : Hp} {s : Shared}
theorem lstsOf_some : ∀ {xs : List D} {ys : List (List D)}, lstsOf xs = some ys → xs = ys.map .lst
  | [], ys, h => by cases h; rfl
  | .lst z :: xs, ys, h => by
    unfold lstsOf at h
    cases q : lstsOf xs with
    | none => rw [q] at h; cases h
    | some w =>
      rw [q] at h
      cases h
      rw [lstsOf_some q]
      rfl
  | .non :: _, _, h => by cases h
  | .bl _ :: _, _, h => by cases h
  | .str _ :: _, _, h => by cases h
  | .tup _ :: _, _, h => by cases h
  | .int _ :: _, _, h => by cases h
  | .dic _ _ _ :: _, _, h => by cases h
  | .scr _ :: _, _, h => by cases h
/-- lists of data, as they lie -/
theorem reps_lists (I : Inv X pins σ H s) {M : Addr → Prop} : ∀ {yss : List (List D)} {vs : List V} {us : List Value}, Reps X.K M H (yss.map .lst) vs → Vals vs us →
    ∃ (ls : List (List Value)) (wss : List (List V)), us.length = ls.length ∧ (∀ (i : Nat) (v : Value), us[i]? = some v → ∃ a n, v = .ref a ∧ s.heap.get? a = some (liO (ls.getD i []) n)) ∧ Reps X.K M H yss.flatten wss.flatten ∧ Vals wss.flatten ls.flatten
  | [], vs, us, h, r => by
    have e : vs = [] := h
    subst e
    cases r
    exact ⟨[], [], rfl, fun i v z => by simp at z, rfl, .nil⟩
  | y :: yss, vs, us, h, r => by
    obtain ⟨v, w, rfl, ⟨a, ws, rfl, _, hH, r1⟩, r2⟩ := h
    cases r with
    | cons q t =>
      rename_i u us
      obtain ⟨ls, wss, e1, e2, e3, e4⟩ := reps_lists I r2 t
      obtain ⟨z, its, n, rv, hl, e⟩ := I.lstM hH
      cases (show u = Value.ref a from q)
      refine ⟨its :: ls, ws :: wss, by rw [List.length_cons, List.length_cons, e1], fun i v hi => ?_, ?_, ?_⟩
      · cases i with
        | zero =>
          cases hi
          exact ⟨a, n, rfl, e⟩
        | succ i => exact e2 i v (by simpa using hi)
      · rw [List.flatten_cons, List.flatten_cons]
        exact r1.append e3
      · rw [List.flatten_cons, List.flatten_cons]
        exact rv.append e4
theorem vals_two {x y : V} {us : List Value} {a b : Addr} (r : Vals [V.ref a, V.ref b] us) : us = [Value.ref a, Value.ref b] := by
  obtain ⟨u, v, rfl, e1, e2⟩ := Vals.two r
  cases (show u = Value.ref a from e1)
  cases (show v = Value.ref b from e2)
  rfl
theorem call_sumL (hc : X.calm = true) {M : Addr → Prop} {yss : List (List D)} {vs : List V} {a b : Addr} {us : List Value} {Q : VK} (I : Inv X pins σ H s) (om : OM M H) (r : Vals [V.ref a, V.ref b] us) (h1 : H a = some (.lst vs)) (h2 : H b = some (.lst [])) (r1 : Reps X.K M H (yss.map .lst) vs) (hne : yss.length ≠ 0) (hz : yss.flatten.length ≤ LINE)
    (q : RKF X.K M H Q (.lst yss.flatten)) : wpAny (model X.prog X.w) X.A (call (.builtin "sum") us) (EP X pins σ Q) X.xe s := by
  rw [vals_two (x := .non) (y := .non) r]
  have line : LINE = sizeLine := by rw [sizeLine_eq]; rfl
  obtain ⟨z1, its, n1, rv, hl, e1⟩ := I.lstM h1
  obtain ⟨z2, its2, n2, rv2, hl2, e2⟩ := I.lstM h2
  cases rv2
  obtain ⟨ls, wss, k1, k2, k3, k4⟩ := reps_lists I r1 rv
  have hl0 : 0 < its.length := by
    have := r1.length
    rw [List.length_map] at this
    have := rv.length
    omega
  have hfl : ls.flatten.length = yss.flatten.length := by rw [k3.length, k4.length]
  refine sumL_raw (s := s) (I.ok.hd hc) k1 k2 e1 e2 hl0 (by rw [hfl, ← line]; exact hz) fun h' tk t' n' g1 g2 g3 => ?_
  have hn : H t' = none := I.hok.fresh g2
  have hlen : wss.flatten.length ≤ sizeLine := by rw [k4.length, hfl, ← line]; exact hz
  exact ⟨.ref t', upd H t' (.lst wss.flatten), I.laid (t' := tk) g1 g2 ⟨hlen, ls.flatten, n', k4, g3⟩, rfl, rkf_lst q om hn k3⟩
/-- two data, compared, in a later heap -/
theorem lt_rep (I : Inv X pins σ H s) {M1 M2 : Addr → Prop} {d1 d2 : D} {v1 v2 : V} {u1 u2 : Value} (r1 : Rep X.K M1 H d1 v1) (r2 : Rep X.K M2 H d2 v2) (e1 : RelV v1 u1) (e2 : RelV v2 u2) (hl : likeB d1 d2 = true) (o1 : okD d1 60 = true) (o2 : okD d2 60 = true) {A : Around} (hu : A.units + 61 < cLine)
    {s' : Shared} (hk : ∀ b o, s.heap.get? b = some o → s'.heap.get? b = some o) {Q E : Value → Shared → Prop} (q : Q (.bool (ltB d1 d2)) s') : wpAny (model X.prog X.w) A (richCompare .Lt u1 u2) Q E s' := by
  obtain ⟨as1, g1⟩ := Dp.reads I (toP d1) v1 u1 (r1.vr.dp o1) e1
  obtain ⟨as2, g2⟩ := Dp.reads I (toP d2) v2 u2 (r2.vr.dp o2) e2
  refine PySem.W.rcLt_alike _ _ A s' u1 u2 _ _ (PyProof.Rows.Reads.keeps hk g1) (PyProof.Rows.Reads.keeps hk g2) (alike_of hl) ?_ ?_ X.prog X.w E Q (by rw [ltB_eq hl o1 o2]; exact q)
  · cases d1 <;> first | (simp [likeB] at hl; done) | exact fun z => by simp [toP] at z
  · have d := (toP_lay o1).2
    have := Nat.min_le_left (toP d1).depth (toP d2).depth
    omega
theorem call_minT (hc : X.calm = true) (hu : X.A.units + 65 < cLine) {M : Addr → Prop} {x : D} {xs : List D} {vs : List V} {a : Addr} {us : List Value} {Q : VK} (I : Inv X pins σ H s) (r : Vals [V.ref a] us) (h1 : H a = some (.lst vs)) (r1 : Reps X.K M H (x :: xs) vs) (hok : sortOk (x :: xs) = true) (hco : ∀ d ∈ x :: xs, isCo d = false)
    (q : RKF X.K M H Q (minB x xs)) : wpAny (model X.prog X.w) X.A (call (.builtin "min") us) (EP X pins σ Q) X.xe s := by
  rw [Vals.ref1 r]
  obtain ⟨o1, o2, o3, o4⟩ := sortOk_of hok
  obtain ⟨z1, its, n1, rv, hl, e1⟩ := I.lstM h1
  have hlen : its.length = xs.length + 1 := by rw [← rv.length, ← r1.length]; rfl
  have hL : s.heap.IsList a its.toArray := ⟨_, e1, rfl, n1, rfl⟩
  have getI : ∀ {i : Nat} {v : Value}, its.toArray[i]? = some v → ∃ d w, (x :: xs)[i]? = some d ∧ d ∈ x :: xs ∧ Rep X.K M H d w ∧ RelV w v := fun {i v} hi => by
    have hi' : its[i]? = some v := by simpa using hi
    have hlt : i < (x :: xs).length := by
      have := (List.getElem?_eq_some_iff.mp hi').1
      rw [List.length_cons]; omega
    obtain ⟨w, g1, g2⟩ := r1.get (List.getElem?_eq_getElem hlt)
    obtain ⟨u, g3, g4⟩ := rv.get g1
    rw [hi'] at g3
    cases g3
    exact ⟨_, w, List.getElem?_eq_getElem hlt, List.getElem_mem hlt, g2, g4⟩
  have getD : ∀ {i : Nat} {d : D}, (x :: xs)[i]? = some d → (x :: xs).getD i .non = d := fun {i d} h => by rw [List.getD_eq_getElem?_getD, h]; rfl
  refine call_min_walkH (PySem.W.iter_listW (A := X.A.in1) (I.ok.hd hc) hL fun s₂ e W st hfp hw hk => ?_)
  refine ⟨_, _, _, _, _, _, _, s.heap, fun i j => ltB ((x :: xs).getD i .non) ((x :: xs).getD j .non), rfl, W, st, hfp, by rw [List.size_toArray]; omega, hw, hk, fun i j vi vj s' Q' E' hk' hi hj hq => ?_, fun v s' hP m => ?_⟩
  · obtain ⟨d1, w1, a1, m1, b1, c1⟩ := getI hi
    obtain ⟨d2, w2, a2, m2, b2, c2⟩ := getI hj
    dsimp only at hq
    rw [getD a1, getD a2] at hq
    exact lt_rep I b1 b2 c1 c2 (o1 _ m1 _ m2) (okDs_mem o3 m1) (okDs_mem o3 m2) (by show X.A.units + 1 + 61 < cLine; omega) hk' hq
  · obtain ⟨h', tk, rfl, hk'⟩ := PySem.W.moved_old e rfl m
    obtain ⟨d1, w1, a1, m1, b1, c1⟩ := getI hP
    have ee := (PySem.W.argBest_fold ltB D.non x xs xs.length (Nat.le_refl _)).2
    rw [List.take_length] at ee
    have e2 : its.toArray.size - 1 = xs.length := by rw [List.size_toArray]; omega
    rw [e2] at a1
    have e3 : d1 = minB x xs := by
      rw [← getD a1]
      exact ee
    exact ⟨w1, H, I.kept hk', c1, rkf_at q (e3 ▸ b1) (e3 ▸ hco _ m1)⟩
end
end PC
set_option Elab.async false
set_option linter.all false
set_option maxRecDepth 100000
/-! PyCore, part 3c: sorted(set(..)) of ints and of tuples of ints. -/
namespace PC
open PySem PySem.Spec PyProof.Rows L2 PySem.W

/-! ### rows of ints in order -/
def tupI (ns : List Int) : D := .tup (ns.map .int)
def ltI : List Int → List Int → Bool
  | [], [] => false
  | [], _ :: _ => true
  | _ :: _, [] => false
  | x :: xs, y :: ys => if x = y then ltI xs ys else decide (x < y)
def leI (a b : List Int) : Bool := !ltI b a
theorem ltBs_ints : ∀ xs ys : List Int, ltBs (xs.map .int) (ys.map .int) = ltI xs ys
  | [], [] => rfl
  | [], _ :: _ => rfl
  | _ :: _, [] => rfl
  | x :: xs, y :: ys => by
    simp only [List.map_cons, ltBs, ltI, eqD, ltB, ltBs_ints xs ys]
    by_cases h : x = y <;> simp [h]
theorem ltI_irr : ∀ xs : List Int, ltI xs xs = false
  | [] => rfl
  | x :: xs => by simp [ltI, ltI_irr xs]
theorem ltI_tri : ∀ xs ys : List Int, ltI xs ys = false → ltI ys xs = false → xs = ys
  | [], [], _, _ => rfl
  | [], _ :: _, h, _ => by simp [ltI] at h
  | _ :: _, [], _, h => by simp [ltI] at h
  | x :: xs, y :: ys, h, g => by
    by_cases e : x = y
    · subst e
      simp [ltI] at h g
      rw [ltI_tri xs ys h g]
    · have e' : ¬ y = x := fun z => e z.symm
      simp [ltI, e, e'] at h g
      omega
theorem ltI_trans : ∀ xs ys zs : List Int, ltI xs ys = true → ltI ys zs = true → ltI xs zs = true
  | [], [], _, h, _ => by simp [ltI] at h
  | [], _ :: _, [], _, g => by simp [ltI] at g
  | [], _ :: _, _ :: _, _, _ => rfl
  | _ :: _, [], _, h, _ => by simp [ltI] at h
  | _ :: _, _ :: _, [], _, g => by simp [ltI] at g
  | x :: xs, y :: ys, z :: zs, h, g => by
    by_cases e : x = y
    · subst e
      by_cases e2 : x = z
      · subst e2
        simp [ltI] at h g ⊢
        exact ltI_trans xs ys zs h g
      · simp [ltI, e2] at h g ⊢
        exact g
    · by_cases e2 : y = z
      · subst e2
        simp [ltI, e] at h g ⊢
        exact h
      · simp [ltI, e, e2] at h g
        have e3 : ¬ x = z := by omega
        simp [ltI, e3]
        omega
theorem ltI_asym {xs ys : List Int} (h : ltI xs ys = true) : ltI ys xs = false := by
  cases g : ltI ys xs with
  | false => rfl
  | true => rw [← ltI_irr xs, ltI_trans xs ys xs h g]
theorem leI_total (a b : List Int) : (leI a b || leI b a) = true := by
  unfold leI
  cases h : ltI a b with
  | false => simp
  | true => simp [ltI_asym h]
theorem leI_trans (a b c : List Int) (h : leI a b = true) (g : leI b c = true) : leI a c = true := by
  unfold leI at h g ⊢
  simp only [Bool.not_eq_true'] at h g ⊢
  cases z : ltI c a with
  | false => rfl
  | true =>
    -- c < a, not b < a: so c < b or..
    by_cases e : a = b
    · subst e
      rw [z] at g; cases g
    · cases k : ltI a b with
      | false => exact absurd (ltI_tri a b k h) e
      | true =>
        rw [ltI_trans c a b z k] at g
        cases g
theorem leI_anti {a b : List Int} (h : leI a b = true) (g : leI b a = true) : a = b := by
  unfold leI at h g
  simp only [Bool.not_eq_true'] at h g
  exact ltI_tri a b g h
theorem leB_tupI (a b : List Int) : leB (tupI a) (tupI b) = leI a b := by
  unfold leB leI tupI
  simp only [ltB, ltBs_ints]
theorem srt_uniq {α : Type} {r : α → α → Prop} (anti : ∀ a b, r a b → r b a → a = b) (refl : ∀ a, r a a) : ∀ {xs ys : List α}, xs.Perm ys → xs.Pairwise r → ys.Pairwise r → xs = ys
  | [], ys, p, _, _ => p.nil_eq
  | x :: xs, [], p, _, _ => absurd p.length_eq (by simp)
  | x :: xs, y :: ys, p, h, g => by
    have h' := List.pairwise_cons.mp h
    have g' := List.pairwise_cons.mp g
    have a : r y x := by
      rcases List.mem_cons.mp (p.mem_iff.mp List.mem_cons_self) with e | e
      · rw [e]; exact refl _
      · exact g'.1 x e
    have b : r x y := by
      rcases List.mem_cons.mp (p.mem_iff.mpr List.mem_cons_self) with e | e
      · rw [e]; exact refl _
      · exact h'.1 y e
    have e : x = y := anti _ _ b a
    subst e
    rw [srt_uniq anti refl p.cons_inv h'.2 g'.2]
/-! ### what is left of a list when doubles go -/
def ded {κ : Type} [DecidableEq κ] : List κ → List κ
  | [] => []
  | x :: xs => if x ∈ xs then ded xs else x :: ded xs
theorem ded_mem {κ : Type} [DecidableEq κ] {k : κ} : ∀ {xs : List κ}, k ∈ ded xs ↔ k ∈ xs
  | [] => .rfl
  | x :: xs => by
    unfold ded
    split
    · rename_i h
      rw [ded_mem, List.mem_cons]
      exact ⟨.inr, fun z => z.elim (fun e => e ▸ h) id⟩
    · rw [List.mem_cons, List.mem_cons, ded_mem]
theorem ded_nd {κ : Type} [DecidableEq κ] : ∀ xs : List κ, (ded xs).Nodup
  | [] => .nil
  | x :: xs => by
    unfold ded
    split
    · exact ded_nd xs
    · rename_i h
      exact List.nodup_cons.mpr ⟨fun z => h (ded_mem.mp z), ded_nd xs⟩
theorem inDs_map {κ : Type} [DecidableEq κ] {f : κ → D} (hf : ∀ a b, eqD (f a) (f b) = decide (a = b)) (k : κ) : ∀ xs : List κ, inDs (f k) (xs.map f) = decide (k ∈ xs)
  | [] => by simp [inDs]
  | x :: xs => by
    rw [List.map_cons, inDs, hf, inDs_map hf k xs]
    by_cases h : x = k
    · simp [h]
    · have h' : ¬ k = x := fun z => h z.symm
      simp [h, h']
theorem dedD_map {κ : Type} [DecidableEq κ] {f : κ → D} (hf : ∀ a b, eqD (f a) (f b) = decide (a = b)) : ∀ xs : List κ, dedD (xs.map f) = (ded xs).map f
  | [] => rfl
  | x :: xs => by
    rw [List.map_cons, dedD, ded, inDs_map hf, dedD_map hf xs]
    by_cases h : x ∈ xs <;> simp [h]
theorem eqD_int (a b : Int) : eqD (.int a) (.int b) = decide (a = b) := by
  simp only [eqD]
  by_cases h : a = b <;> simp [h]
theorem eqDs_ints : ∀ a b : List Int, eqDs (a.map .int) (b.map .int) = decide (a = b)
  | [], [] => rfl
  | [], _ :: _ => rfl
  | _ :: _, [] => rfl
  | x :: xs, y :: ys => by
    rw [List.map_cons, List.map_cons, eqDs, eqD_int, eqDs_ints xs ys]
    by_cases h : x = y <;> simp [h]
theorem eqD_tupI (a b : List Int) : eqD (tupI a) (tupI b) = decide (a = b) := by
  unfold tupI
  rw [eqD, eqDs_ints]
theorem intsOf_map : ∀ {ds : List D} {ns : List Int}, intsOf ds = some ns → ds = ns.map D.int
  | [], ns, h => by cases h; rfl
  | d :: ds, ns, h => by
    cases d with
    | int i =>
      unfold intsOf at h
      cases q : intsOf ds with
      | none => rw [q] at h; cases h
      | some ms =>
        rw [q] at h
        cases h
        rw [intsOf_map q]
        rfl
    | _ => cases h
theorem ints_intsOf : ∀ ns : List Int, intsOf (ns.map D.int) = some ns
  | [] => rfl
  | n :: ns => by rw [List.map_cons, intsOf, ints_intsOf ns]; rfl
theorem tupsOf_map : ∀ {ds : List D} {ks : List (List Int)}, tupsOf ds = some ks → ds = ks.map tupI
  | [], ks, h => by cases h; rfl
  | d :: ds, ks, h => by
    cases d with
    | tup xs =>
      unfold tupsOf at h
      cases q1 : intsOf xs with
      | none => rw [q1] at h; cases h
      | some ns =>
        cases q2 : tupsOf ds with
        | none => rw [q1, q2] at h; cases h
        | some ms =>
          rw [q1, q2] at h
          cases h
          rw [tupsOf_map q2, intsOf_map q1]
          rfl
    | _ => cases h
theorem tups_tupsOf : ∀ ks : List (List Int), tupsOf (ks.map tupI) = some ks
  | [] => rfl
  | n :: ns => by rw [List.map_cons, tupI, tupsOf, ints_intsOf, tups_tupsOf ns]; rfl
theorem sset_tups {ks : List (List Int)} {L1 : List (List Int)} (hn : L1.Nodup) (hm : ∀ k, k ∈ L1 ↔ k ∈ ks) : (L1.mergeSort leI).map tupI = (dedD (ks.map tupI)).mergeSort leB := by
  rw [dedD_map eqD_tupI]
  have e : ((ded ks).mergeSort leI).map tupI = ((ded ks).map tupI).mergeSort leB := List.map_mergeSort (fun a _ b _ => (leB_tupI a b).symm)
  rw [← e]
  refine congrArg (List.map tupI) ?_
  refine srt_uniq (r := fun a b => leI a b = true) (fun _ _ => leI_anti) (fun a => by unfold leI; rw [ltI_irr]; rfl) ?_ (List.pairwise_mergeSort leI_trans leI_total _) (List.pairwise_mergeSort leI_trans leI_total _)
  refine (List.mergeSort_perm _ _).trans (List.Perm.trans ?_ (List.mergeSort_perm _ _).symm)
  exact (List.perm_ext_iff_of_nodup hn (ded_nd ks)).mpr fun k => by rw [hm, ded_mem]
theorem leB_int (a b : Int) : leB (.int a) (.int b) = decide (a ≤ b) := by
  unfold leB
  simp only [ltB]
  by_cases h : a ≤ b
  · have : ¬ b < a := by omega
    simp [h, this]
  · have : b < a := by omega
    simp [h, this]
theorem sset_ints {ks L1 : List Int} (hs : L1.Pairwise (· < ·)) (hm : ∀ k, k ∈ L1 ↔ k ∈ ks) : L1.map D.int = (dedD (ks.map D.int)).mergeSort leB := by
  rw [dedD_map eqD_int]
  have e : ((ded ks).mergeSort (fun a b => decide (a ≤ b))).map D.int = ((ded ks).map D.int).mergeSort leB := List.map_mergeSort (fun a _ b _ => (leB_int a b).symm)
  rw [← e]
  refine congrArg (List.map D.int) ?_
  have hn : L1.Nodup := hs.imp fun h e => by subst e; exact absurd h (Int.lt_irrefl _)
  have hp := List.pairwise_mergeSort (le := fun a b : Int => decide (a ≤ b)) (fun a b c h g => by simp at h g ⊢; omega) (fun a b => by simp; omega) (ded ks)
  refine srt_uniq (r := fun a b : Int => a ≤ b) (fun _ _ => Int.le_antisymm) (fun a => Int.le_refl a) ?_ (hs.imp fun h => Int.le_of_lt h) (hp.imp fun h => by simpa using h)
  refine List.Perm.trans ?_ (List.mergeSort_perm _ _).symm
  exact (List.perm_ext_iff_of_nodup hn (ded_nd ks)).mpr fun k => by rw [hm, ded_mem]
end PC
set_option Elab.async false
set_option linter.all false
set_option maxRecDepth 100000
/-! PyCore, part 3d: set(..) of a list of ints; a set of tuples in order. -/
namespace PC
open PySem PySem.Spec PyProof.Rows L2
/-- the object of a new set -/
abbrev nuS (w : World) : Obj := { cls := .type "set", dict := none, data := .set #[] 0 (.fresh 0 0 (!w.params.followText "set-order")) }
section
variable {P : Program} {w : World} {A : Around} {E : Value → Shared → Prop} {s : Shared}
/-- what a filled set leaves behind -/
def Filled (w : World) (s : Shared) (ns : List Int) (r : Value) (t : Shared) : Prop := r = .none ∧ ∃ h' tk c, t = { s with heap := h', toks := tk } ∧
  SetR w h' s.heap.objs.size (fun j => decide (j ∈ ns)) c ∧ c ≤ ns.length ∧ ∀ b o, s.heap.get? b = some o → h'.get? b = some o
set_option maxHeartbeats 3200000 in
/-- the fill: set.__init__ of the new set, by a list of ints -/
theorem fill_listI {l : Addr} {its : Array Value} (ns : List Int) (hh : A.handled = none) (hl : s.heap.IsList l its) (hit : IntsAre its.toList ns) (hb : ns.length + 1 < scanBound) :
    codeAny (model P w) A (.call (.builtin "set.__init__") ⟨[.ref s.heap.objs.size, .ref l], []⟩) (wants (Filled w s ns) E) { s with heap := s.heap.push (nuS w) } := by
  have hlen : its.size = ns.length := by simpa using IntsAre.length hit
  have hnew : (s.heap.push (nuS w)).get? s.heap.objs.size = some (nuS w) := Heap.get?_push_size _ rfl
  have hty : Shared.TypeIs { s with heap := s.heap.push (nuS w) } (.ref s.heap.objs.size) "set" := ⟨_, hnew, rfl⟩
  refine codeAny_call_builtin F.called_set.init.plain F.entry_set_init (check_set_init_1 hty ?_)
  obtain ⟨⟨c1, d1, d2, sl⟩, g1, g2, n1, g3⟩ := hl
  dsimp only at g2 g3
  subst g2 g3
  have g4 := Heap.get?_push_of_some (nuS w) g1
  have il : (s.heap.push (nuS w)).IsList l its := ⟨_, g4, rfl, n1, rfl⟩
  have a1 := F.sub_list_set
  have a2 := F.sub_list_frozenset
  have a3 : (Value.type "list" == Value.type "dict") = false := by decide
  unfold Builtin.«set.__init__» noKeywords Builtin.Frozenset.updateFrom
  generalize hPI : pyIter = PI
  wp_walk
  subst hPI
  refine wpAny_pyIter_list il (wpAny_bind (wpAny_runValue ?_))
  have lt : l < s.heap.objs.size := Heap.lt_size g1
  have sz : (s.heap.push (nuS w)).objs.size = s.heap.objs.size + 1 := Heap.size_push ..
  have h3 : A.in1.in1.handled = none := by simp [hh]
  have d : l ≠ (s.heap.push (nuS w)).objs.size := by rw [sz]; exact Nat.ne_of_lt (Nat.lt_succ_of_lt lt)
  have nf : s.heap.objs.size ∉ [(s.heap.push (nuS w)).objs.size, l] := by
    rw [sz]
    simp only [List.mem_cons, List.not_mem_nil, or_false, not_or]
    exact ⟨Nat.ne_of_lt (Nat.lt_succ_self _), Nat.ne_of_gt lt⟩
  have val : ∀ (i : Nat) (v : Value), its[i]? = some v → ∃ k t, ns[i]? = some k ∧ v = .int k t := fun i v hv => by
    have hi : i < ns.length := hlen ▸ (Array.getElem?_eq_some_iff.mp hv).1
    obtain ⟨t, e⟩ := IntsAre.int_at hit i v (by simpa using hv)
    exact ⟨ns[i], t, List.getElem?_eq_getElem hi, by rw [e, List.getD_eq_getElem?_getD, List.getElem?_eq_getElem hi]; rfl⟩
  refine set_update_ints ((Walks.list h3 _ l d its).toS) s.heap.objs.size nf ns hlen hb val (its.size - 0) 0 _ (by omega) (Nat.zero_le _) ?h0 ?hs ?hr
  case h0 => exact ⟨⟨_, Heap.get?_push_size _ rfl, rfl, rfl⟩, il.push _⟩
  case hs => exact ⟨0, Nat.le_refl 0, setR_new_at (Heap.get?_push_of_some _ hnew)⟩
  case hr =>
    intro t' c' hm hc hS
    obtain ⟨q1, q2, q3, q4, q5⟩ := t'
    obtain rfl : q2 = s.gens := hm.gens
    obtain rfl : q3 = s.drawn := hm.drawn
    obtain rfl : q5 = s.os := hm.os
    show wpAny _ _ _ _ _ _
    refine wpAny_pure ?_
    show wpAny _ _ (ret Value.none) _ _ _
    refine wpAny_pure ⟨rfl, q1, q4, c', rfl, hS, hlen ▸ hc, fun b o e => ?_⟩
    have b0 : b < s.heap.objs.size := Heap.lt_size e
    refine hm.heap b o ?_ (Heap.get?_push_of_some _ (Heap.get?_push_of_some _ e))
    rw [sz]
    simp only [List.mem_cons, List.not_mem_nil, or_false, not_or]
    exact ⟨Nat.ne_of_lt b0, Nat.ne_of_lt (Nat.lt_succ_of_lt b0)⟩
set_option maxHeartbeats 3200000 in
/-- set(xs), xs a list of ints -/
theorem set_listI {l : Addr} {its : Array Value} (ns : List Int) {Q : Value → Shared → Prop} (hh : A.handled = none) (hl : s.heap.IsList l its) (hit : IntsAre its.toList ns) (hb : ns.length + 1 < scanBound)
    (q : ∀ t, Filled w s ns .none t → Q (.ref s.heap.objs.size) t) : wpAny (model P w) A (call (.type "set") [.ref l]) Q E s := by
  obtain ⟨mc, ml, m1⟩ := F.called_set.mro
  have m2 := F.called_set.made
  have m3 := F.called_set.sub
  refine wpAny_call (codeAny_of_tree ?_)
  show wpAny _ _ (callAny (.type "set") _) _ _ _
  refine wpAny_pure ⟨Code.quiet_builtin _ (by decide +kernel), codeAny_builtin F.entry_type_call ?_⟩
  rw [Around.under_plain (weight_type_call_type "set" [.ref l] []) rfl]
  have m4 := F.called_set.notType
  have m5 := F.called_set.canCreate
  have m6 := F.typeCall_set_1 (.ref l)
  repeat (any_goals (first | assumption | wp_step))
  refine codeAny_mono (code_set_led1 (.ref l) (E := E) (Q₁ := fun o t => o = .ref s.heap.objs.size ∧ t = { s with heap := s.heap.push (nuS w) }) ⟨rfl, rfl⟩) fun r t hr => ?_
  rcases r with e | fl
  · exact hr
  · cases fl with
    | ret o =>
      obtain ⟨rfl, rfl⟩ := hr
      have n1 : (s.heap.push (nuS w)).get? s.heap.objs.size = some (nuS w) := Heap.get?_push_size _ rfl
      have n2 : Shared.TypeIs { s with heap := s.heap.push (nuS w) } (.ref s.heap.objs.size) "set" := ⟨_, n1, rfl⟩
      have n3 := F.called_set.init.lookup
      have n4 := F.called_set.init.bind (.ref s.heap.objs.size)
      repeat (any_goals (first | assumption | wp_step))
      refine codeAny_mono (fill_listI (E := E) ns ?_ hl hit hb) fun r2 t2 hr2 => ?_
      case _ => simp [hh]
      rcases r2 with e | fl2
      · exact hr2
      · cases fl2 with
        | ret r =>
          obtain ⟨rfl, h', tk, c, rfl, z⟩ := hr2
          repeat (any_goals (first | assumption | wp_step))
          exact q _ ⟨rfl, h', tk, c, rfl, z⟩
        | _ => exact hr2.elim
    | _ => exact hr.elim
end
end PC
set_option Elab.async false
set_option linter.all false
set_option maxRecDepth 100000
/-! PyCore, part 3e: the rules of sorted(set(..)). -/
namespace PC
open PySem PySem.Spec PyProof.Rows L2 PySem.W
section
variable {P : Program} {w : World} {A : Around} {E : Value → Shared → Prop} {s : Shared}
theorem depth_tupI (ns : List Int) : (PyData.tuple (ns.map .int)).depth ≤ 1 := by
  simp only [PyData.depth, depth_ints]
  omega
theorem reads_ints {h : Heap} : ∀ {ns : List Int} {vs : List Value}, IntsAre vs ns → ReadsAll h vs (ns.map .int) []
  | _, _, .nil => .nil
  | _, _, .cons k t r => .cons (as := []) (.int k t) (reads_ints r)
theorem reads_tupI {h : Heap} {k : List Int} {b : Addr} (x : IsT P w h k b) : Reads h (.ref b) (.tuple (k.map .int)) [] := by
  obtain ⟨o, items, n, ho, hc, hd, hi⟩ := x
  exact .tuple ho hc hd (reads_ints (ints_of_items hi))
theorem refs_list {L : List (Addr × List Int)} : ∀ vs : List Value, (∀ v ∈ vs, ∃ q ∈ L, v = Value.ref q.1) → ∃ L1 : List (Addr × List Int), vs = L1.map (fun q => Value.ref q.1) ∧ ∀ q ∈ L1, q ∈ L
  | [], _ => ⟨[], rfl, fun q h => by cases h⟩
  | v :: vs, h => by
    obtain ⟨q, hq, rfl⟩ := h v List.mem_cons_self
    obtain ⟨L1, rfl, g⟩ := refs_list vs fun u hu => h u (List.mem_cons_of_mem _ hu)
    exact ⟨q :: L1, rfl, fun r hr => (List.mem_cons.mp hr).elim (fun e => e ▸ hq) (g r)⟩
theorem each_refs {h : Heap} : ∀ L1 : List (Addr × List Int), EachIs (fun v (q : Addr × List Int) => v = Value.ref q.1) (L1.map fun q => Value.ref q.1) L1
  | [] => .nil
  | _ :: L => .cons rfl (each_refs (h := h) L)
theorem refs_each : ∀ {out : List Value} {L1 : List (Addr × List Int)}, EachIs (fun v (q : Addr × List Int) => v = Value.ref q.1) out L1 → out = L1.map fun q => Value.ref q.1
  | _, _, .nil => rfl
  | _, _, .cons e t => by rw [e, refs_each t]; rfl
theorem each_reads {h : Heap} : ∀ L1 : List (Addr × List Int), (∀ q ∈ L1, IsT P w h q.2 q.1) → EachIs (fun v (q : Addr × List Int) => ∃ as, Reads h v (.tuple (q.2.map .int)) as ∧ (∀ a, a ∉ as)) (L1.map fun q => Value.ref q.1) L1
  | [], _ => .nil
  | q :: L, g => .cons ⟨[], reads_tupI (g q List.mem_cons_self), fun _ z => by cases z⟩ (each_reads L fun r hr => g r (List.mem_cons_of_mem _ hr))
set_option maxHeartbeats 3200000 in
/-- sorted(xs), xs a set of tuples of ints, none of them empty -/
theorem sort_setU {a : Addr} {L : List (Addr × List Int)} {es : Array (Int × Value)} {ep : Nat} {t : SetTable} {Q : Value → Shared → Prop} (T : SetTR P w s.heap a L es ep t) (hh : A.handled = none) (hu : A.units + 64 < cLine) (hne : ∀ q ∈ L, q.2 ≠ [])
    (q : ∀ s' p c (L' : List (Addr × List Int)), (∀ b o, s.heap.get? b = some o → s'.heap.get? b = some o) → s'.gens = s.gens → s'.os = s.os → s.heap.objs.size ≤ p → s'.heap.get? p = some (seqObj "list" (L'.map fun q : Addr × List Int => Value.ref q.1).toArray c) →
      (∀ r ∈ L', r ∈ L) → (∃ L1 : List (Addr × List Int), (L1.map (·.2)).Nodup ∧ (∀ k, k ∈ L1.map (·.2) ↔ k ∈ L.map (·.2)) ∧ L'.map (·.2) = (L1.map (·.2)).mergeSort leI) → L'.length < 64 → Q (.ref p) s') :
    wpAny (model P w) A (call (.builtin "sorted") [.ref a]) Q E s := by
  obtain ⟨ob, b1, b2, b3⟩ := T.ob
  have few := T.few
  have size := T.size
  refine Calls.call_function_entry kind_sorted plain_sorted entry_sorted (args_sorted1 _) ?_
  unfold Builtin.«sorted»
  refine wpAny_bind (m := checkCount "sorted" 1 1 _) (wpAny_pure ?_)
  refine wpAny_bind (collect_set (A := A.in1) hh ⟨ob, b1, b2.1, b3⟩ T.fits (by unfold scanBound; omega) T.tab.ris T.led fun s1 vs k1 hz g1 o1 pm => ?_)
  have hes : es.toList.map (·.2) = L.map fun q => Value.ref q.1 := by
    rw [T.rows]
    show (L.map _).map _ = _
    rw [List.map_map]
    rfl
  rw [hes] at pm
  obtain ⟨L1, rfl, hs1⟩ := refs_list (L := L) vs fun v hv => by
    obtain ⟨r, hr, e⟩ := List.mem_map.mp (pm.mem_iff.mp hv)
    exact ⟨r, hr, e.symm⟩
  have inj : ∀ x ∈ L, ∀ y ∈ L, x.1 = y.1 → x.2 = y.2 := fun x hx y hy e => by
    have i1 := T.tup x hx
    rw [e] at i1
    exact i1.inj (T.tup y hy)
  have nd1 : (L1.map (·.2)).Nodup := by
    have hL : L.Pairwise fun x y => x.2 ≠ y.2 := List.pairwise_map.mp T.nd
    have hr : (L.map fun r => Value.ref r.1).Nodup := List.pairwise_map.mpr (List.Pairwise.imp_of_mem (fun {x y} hx hy hn e => by
      injection e with e
      exact hn (inj x hx y hy e)) hL)
    have hr1 := List.pairwise_map.mp (pm.nodup_iff.mpr hr)
    refine List.pairwise_map.mpr (List.Pairwise.imp_of_mem (fun {x y} hx hy hn e => ?_) (List.Pairwise.and hr1 (List.pairwise_of_forall (R := fun _ _ => True) fun _ _ => trivial)))
    -- equal keys: the same entry of L, so the same address
    have hkey : ∀ (l : List (Addr × List Int)), (l.Pairwise fun x y => x.2 ≠ y.2) → ∀ x ∈ l, ∀ y ∈ l, x.2 = y.2 → x = y := by
      intro l
      induction l with
      | nil => intro _ x hx; cases hx
      | cons z l ih =>
        intro hp x hx y hy e
        obtain ⟨p1, p2⟩ := List.pairwise_cons.mp hp
        rcases List.mem_cons.mp hx with ex | hx'
        · rcases List.mem_cons.mp hy with ey | hy'
          · rw [ex, ey]
          · rw [ex] at e
            exact absurd e (p1 y hy')
        · rcases List.mem_cons.mp hy with ey | hy'
          · rw [ey] at e
            exact absurd e.symm (p1 x hx')
          · exact ih p2 x hx' y hy' e
    exact hn.1 (congrArg (fun r : Addr × List Int => Value.ref r.1) (hkey L hL x (hs1 x hx) y (hs1 y hy) e))
  have hlen : L1.length < 64 := by
    have z := pm.length_eq
    simp only [List.length_map] at z
    omega
  refine wpAny_bind (wpAny_newList ?_ (by rw [List.length_map, sizeLine_eq]; omega))
  have hob : (s1.heap.push (seqObj "list" (L1.map fun q : Addr × List Int => Value.ref q.1).toArray 0)).get? s1.heap.objs.size = some (seqObj "list" (L1.map fun q : Addr × List Int => Value.ref q.1).toArray 0) := Heap.get?_push_size _ rfl
  have hrd := each_reads (P := P) (w := w) (h := s1.heap.push (seqObj "list" (L1.map fun q : Addr × List Int => Value.ref q.1).toArray 0)) L1 fun r hr => isT_keep (T.tup r (hs1 r hr)) fun b u e => Heap.get?_push_of_some _ (k1 b u e)
  refine wpAny_bind (wpAny_holding (list_sort_data (s := { s1 with heap := s1.heap.push (seqObj "list" (L1.map fun q : Addr × List Int => Value.ref q.1).toArray 0) }) (bs := L1) (enc := fun r => .tuple (r.2.map .int)) (R := fun v r => v = Value.ref r.1) hob (each_refs (h := s1.heap) L1) (hrd.mono fun _ _ ⟨as, z1, z2⟩ => ⟨as, z1, z2 _⟩) ?_ ?_ ?_ ?_ fun out ho e => ?_))
  · refine AllAlike.of fun b b' => ?_
    simp [alike, alike_ints]
  · refine .inl fun d hd => ?_
    obtain ⟨r, hr, rfl⟩ := List.mem_map.mp hd
    cases hk : r.2 with
    | nil => exact absurd hk (hne r (hs1 r hr))
    | cons x xs => exact ⟨.int x, xs.map .int, rfl⟩
  · rw [sizeLine_eq]; omega
  · intro b hb
    have := depth_tupI b.2
    show A.units + 1 + 1 + (PyData.tuple (b.2.map .int)).depth < cLine
    omega
  · have eo := refs_each e
    obtain ⟨c, hc⟩ := sortedHeap_at (vs := L1.map fun q : Addr × List Int => Value.ref q.1) (out := out.toArray) hob
    have hp := List.mergeSort_perm L1 (dataLe false fun r : Addr × List Int => PyData.tuple (r.2.map .int))
    have hc' : (sortedHeap (s1.heap.push (seqObj "list" (L1.map fun q : Addr × List Int => Value.ref q.1).toArray 0)) s1.heap.objs.size (L1.map fun q : Addr × List Int => Value.ref q.1) out.toArray).get? s1.heap.objs.size = some (seqObj "list" ((L1.mergeSort (dataLe false fun r : Addr × List Int => PyData.tuple (r.2.map .int))).map fun q : Addr × List Int => Value.ref q.1).toArray c) := by
      rw [hc, eo]
    refine wpAny_pure ⟨_, rfl, q { s1 with heap := sortedHeap (s1.heap.push (seqObj "list" (L1.map fun q : Addr × List Int => Value.ref q.1).toArray 0)) s1.heap.objs.size (L1.map fun q : Addr × List Int => Value.ref q.1) out.toArray } s1.heap.objs.size c _ (fun b u e1 => ?_) g1 o1 hz hc' (fun r hr => hs1 r (hp.mem_iff.mp hr)) ⟨L1, nd1, fun k => ?_, ?_⟩ ?_⟩
    · have e2 := k1 b u e1
      have lt := Heap.lt_size e2
      show (sortedHeap (s1.heap.push (seqObj "list" (L1.map fun q : Addr × List Int => Value.ref q.1).toArray 0)) s1.heap.objs.size (L1.map fun q : Addr × List Int => Value.ref q.1) out.toArray).get? b = some u
      rw [sortedHeap_old (Nat.ne_of_lt lt) (by rw [size_push']; exact Nat.lt_succ_of_lt lt)]
      exact Heap.get?_push_of_some _ e2
    · constructor
      · intro hk
        obtain ⟨r, hr, rfl⟩ := List.mem_map.mp hk
        exact List.mem_map.mpr ⟨r, hs1 r hr, rfl⟩
      · intro hk
        obtain ⟨r, hr, rfl⟩ := List.mem_map.mp hk
        obtain ⟨r', hr', e'⟩ := List.mem_map.mp (pm.mem_iff.mpr (List.mem_map.mpr ⟨r, hr, rfl⟩))
        injection e' with e'
        exact List.mem_map.mpr ⟨r', hr', inj r' (hs1 r' hr') r hr e'⟩
    · refine List.map_mergeSort fun x _ y _ => ?_
      rw [dataLe_eq]
      show (!dataLt (PyData.tuple (y.2.map .int)) (PyData.tuple (x.2.map .int))) = !ltI y.2 x.2
      have h1 : ∀ ns : List Int, PyData.tuple (ns.map .int) = toP (tupI ns) := fun ns => by
        unfold tupI
        rw [toP, toPs_map, List.map_map]
        rfl
      have lk : ∀ xs ys : List Int, likeBs (xs.map .int) (ys.map .int) = true := fun xs => by
        induction xs with
        | nil => intro ys; cases ys <;> rfl
        | cons x xs ih =>
          intro ys
          cases ys with
          | nil => rfl
          | cons y ys => simp [likeBs, likeB, ih]
      have ok : ∀ xs : List Int, okDs (xs.map .int) 60 = true := fun xs => by
        induction xs with
        | nil => rfl
        | cons x xs ih => simp [okDs, okD, ih]
      rw [h1, h1, ltB_eq (n := 61) (m := 61) (by unfold tupI; simp [likeB, lk]) (by unfold tupI; simp [okD, ok]) (by unfold tupI; simp [okD, ok])]
      unfold tupI
      simp only [ltB, ltBs_ints]
    · rw [hp.length_eq]; exact hlen
end
end PC
set_option Elab.async false
set_option linter.all false
set_option maxRecDepth 100000
/-! PyCore, part 4: built-ins, subscripts, slices, is, isinstance. -/
namespace PC
open PySem PySem.Spec PyProof.Rows L2

/-! ### ints: least, greatest, sorted -/
theorem minL_spec : ∀ (xs : List Int) (m : Int), (minL xs m = m ∨ minL xs m ∈ xs) ∧ minL xs m ≤ m ∧ ∀ y ∈ xs, minL xs m ≤ y
  | [], m => ⟨.inl rfl, Int.le_refl _, fun y h => by cases h⟩
  | x :: xs, m => by
    unfold minL
    obtain ⟨h1, h2, h3⟩ := minL_spec xs (if x < m then x else m)
    by_cases c : x < m
    · rw [if_pos c] at h1 h2 h3 ⊢
      refine ⟨.inr ?_, by omega, fun y hy => ?_⟩
      · rcases h1 with h1 | h1
        · rw [h1]; exact List.mem_cons_self
        · exact List.mem_cons_of_mem _ h1
      · rcases List.mem_cons.mp hy with e | hy
        · rw [e]; exact h2
        · exact h3 y hy
    · rw [if_neg c] at h1 h2 h3 ⊢
      refine ⟨?_, h2, fun y hy => ?_⟩
      · rcases h1 with h1 | h1
        · exact .inl h1
        · exact .inr (List.mem_cons_of_mem _ h1)
      · rcases List.mem_cons.mp hy with e | hy
        · rw [e]; omega
        · exact h3 y hy
theorem maxL_spec : ∀ (xs : List Int) (m : Int), (maxL xs m = m ∨ maxL xs m ∈ xs) ∧ m ≤ maxL xs m ∧ ∀ y ∈ xs, y ≤ maxL xs m
  | [], m => ⟨.inl rfl, Int.le_refl _, fun y h => by cases h⟩
  | x :: xs, m => by
    unfold maxL
    obtain ⟨h1, h2, h3⟩ := maxL_spec xs (if m < x then x else m)
    by_cases c : m < x
    · rw [if_pos c] at h1 h2 h3 ⊢
      refine ⟨.inr ?_, by omega, fun y hy => ?_⟩
      · rcases h1 with h1 | h1
        · rw [h1]; exact List.mem_cons_self
        · exact List.mem_cons_of_mem _ h1
      · rcases List.mem_cons.mp hy with e | hy
        · rw [e]; exact h2
        · exact h3 y hy
    · rw [if_neg c] at h1 h2 h3 ⊢
      refine ⟨?_, h2, fun y hy => ?_⟩
      · rcases h1 with h1 | h1
        · exact .inl h1
        · exact .inr (List.mem_cons_of_mem _ h1)
      · rcases List.mem_cons.mp hy with e | hy
        · rw [e]; omega
        · exact h3 y hy
theorem minI_spec {xs : List Int} {m : Int} (h : minI xs = some m) : m ∈ xs ∧ ∀ y ∈ xs, m ≤ y := by
  cases xs with
  | nil => cases h
  | cons x xs =>
    have h' : minL xs x = m := Option.some.inj h
    subst h'
    obtain ⟨h1, h2, h3⟩ := minL_spec xs x
    refine ⟨?_, fun y hy => ?_⟩
    · rcases h1 with h1 | h1
      · rw [h1]; exact List.mem_cons_self
      · exact List.mem_cons_of_mem _ h1
    · rcases List.mem_cons.mp hy with e | hy
      · rw [e]; exact h2
      · exact h3 y hy
theorem maxI_spec {xs : List Int} {m : Int} (h : maxI xs = some m) : m ∈ xs ∧ ∀ y ∈ xs, y ≤ m := by
  cases xs with
  | nil => cases h
  | cons x xs =>
    have h' : maxL xs x = m := Option.some.inj h
    subst h'
    obtain ⟨h1, h2, h3⟩ := maxL_spec xs x
    refine ⟨?_, fun y hy => ?_⟩
    · rcases h1 with h1 | h1
      · rw [h1]; exact List.mem_cons_self
      · exact List.mem_cons_of_mem _ h1
    · rcases List.mem_cons.mp hy with e | hy
      · rw [e]; exact h2
      · exact h3 y hy
theorem insI_perm (x : Int) : ∀ xs : List Int, (insI x xs).Perm (x :: xs)
  | [] => .refl _
  | y :: ys => by
    unfold insI
    by_cases c : x ≤ y
    · rw [if_pos c]
    · rw [if_neg c]
      exact ((insI_perm x ys).cons y).trans (List.Perm.swap x y ys)
theorem insI_srt (x : Int) : ∀ xs : List Int, xs.Pairwise (· ≤ ·) → (insI x xs).Pairwise (· ≤ ·)
  | [], _ => List.pairwise_singleton _ _
  | y :: ys, h => by
    unfold insI
    have h' := List.pairwise_cons.mp h
    by_cases c : x ≤ y
    · rw [if_pos c]
      refine List.pairwise_cons.mpr ⟨fun z hz => ?_, h⟩
      rcases List.mem_cons.mp hz with e | hz
      · rw [e]; exact c
      · exact Int.le_trans c (h'.1 z hz)
    · rw [if_neg c]
      refine List.pairwise_cons.mpr ⟨fun z hz => ?_, insI_srt x ys h'.2⟩
      rcases List.mem_cons.mp ((insI_perm x ys).mem_iff.mp hz) with e | hz
      · rw [e]; omega
      · exact h'.1 z hz
theorem sortI_perm : ∀ xs : List Int, (sortI xs).Perm xs
  | [] => .refl _
  | x :: xs => (insI_perm x (sortI xs)).trans ((sortI_perm xs).cons x)
theorem sortI_srt : ∀ xs : List Int, (sortI xs).Pairwise (· ≤ ·)
  | [] => .nil
  | x :: xs => insI_srt x _ (sortI_srt xs)
theorem srt_eq : ∀ {xs ys : List Int}, xs.Perm ys → xs.Pairwise (· ≤ ·) → ys.Pairwise (· ≤ ·) → xs = ys
  | [], ys, p, _, _ => p.nil_eq
  | x :: xs, [], p, _, _ => absurd p.length_eq (by simp)
  | x :: xs, y :: ys, p, h, g => by
    have h' := List.pairwise_cons.mp h
    have g' := List.pairwise_cons.mp g
    have a : y ≤ x := by
      rcases List.mem_cons.mp (p.mem_iff.mp List.mem_cons_self) with e | e
      · omega
      · exact g'.1 x e
    have b : x ≤ y := by
      rcases List.mem_cons.mp (p.mem_iff.mpr List.mem_cons_self) with e | e
      · omega
      · exact h'.1 y e
    have e : x = y := Int.le_antisymm b a
    subst e
    rw [srt_eq p.cons_inv h'.2 g'.2]

section
variable {K : PySem.W.Frag} {M : Addr → Prop} {H : Hp}
def VRs (K : PySem.W.Frag) (M : Addr → Prop) (H : Hp) : List D → List V → Prop
  | [], vs => vs = []
  | d :: ds, vs => ∃ v r, vs = v :: r ∧ VR K M H d v ∧ VRs K M H ds r
theorem VRs.one {d : D} {vs : List V} (h : VRs K M H [d] vs) : ∃ v, vs = [v] ∧ VR K M H d v := by
  obtain ⟨v, r, e, h1, h2⟩ := h
  have e2 : r = [] := h2
  rw [e2] at e
  exact ⟨v, e, h1⟩
theorem VRs.two {d e : D} {vs : List V} (h : VRs K M H [d, e] vs) : ∃ v w, vs = [v, w] ∧ VR K M H d v ∧ VR K M H e w := by
  obtain ⟨v, r, e1, h1, h2⟩ := h
  obtain ⟨w, e2, h3⟩ := h2.one
  rw [e2] at e1
  exact ⟨v, w, e1, h1, h3⟩
theorem reps_of_ints : ∀ ns : List Int, Reps K M H (ns.map D.int) (ns.map V.int)
  | [] => rfl
  | n :: ns => ⟨_, _, rfl, rfl, reps_of_ints ns⟩
theorem ints_map : ∀ {ds : List D} {ns : List Int}, intsOf ds = some ns → ds = ns.map D.int
  | [], ns, h => by cases h; rfl
  | .int i :: ds, ns, h => by
    unfold intsOf at h
    cases q : intsOf ds with
    | none => rw [q] at h; cases h
    | some ms =>
      rw [q] at h
      cases h
      rw [ints_map q]
      rfl
  | .non :: _, _, h => by cases h
  | .bl _ :: _, _, h => by cases h
  | .str _ :: _, _, h => by cases h
  | .tup _ :: _, _, h => by cases h
  | .lst _ :: _, _, h => by cases h
  | .dic _ _ _ :: _, _, h => by cases h
  | .scr _ :: _, _, h => by cases h
end
section
variable {X : Cx}
/-- a built-in by data -/
def rBi (K : PySem.W.Frag) (b : Bi) : List V → Hp → VK → Prop := fun vs H Q => ∃ M ds r, OM M H ∧ VRs K M H ds vs ∧ biD b ds = some r ∧ RKF K M H Q r
def biVal : Bi → Value
  | .len => .builtin "len"
  | .tuple => .type "tuple"
  | .list => .type "list"
  | .abs => .builtin "abs"
  | .int => .type "int"
  | .sum => .builtin "sum"
  | .min => .builtin "min"
  | .max => .builtin "max"
  | .sorted => .builtin "sorted"
  | .any => .builtin "any"
  | .all => .builtin "all"
  | .max2 => .builtin "max"
  | .min2 => .builtin "min"
  | .minT => .builtin "min"
  | .sumL => .builtin "sum"
def biName : Bi → Str
  | .len => "len"
  | .tuple => "tuple"
  | .list => "list"
  | .abs => "abs"
  | .int => "int"
  | .sum => "sum"
  | .min => "min"
  | .max => "max"
  | .sorted => "sorted"
  | .any => "any"
  | .all => "all"
  | .max2 => "max"
  | .min2 => "min"
  | .minT => "min"
  | .sumL => "sum"
theorem bi_boot (b : Bi) : bootBuiltins (biName b) = some (biVal b) := by
  cases b
  · exact PySem.boot_len
  · exact PyProof.Rows.boot_tuple
  · exact PyProof.Rows.boot_list
  · exact PyProof.Rows.boot_abs
  · exact PyProof.Rows.boot_int
  · exact PyProof.Rows.boot_sum
  · exact PyProof.Rows.boot_min
  · exact PyProof.Rows.boot_max
  · exact PyProof.Rows.boot_sorted
  · exact PyProof.Rows.boot_any
  · exact PyProof.Rows.boot_all
  · exact PyProof.Rows.boot_max
  · exact PyProof.Rows.boot_min
  · exact PyProof.Rows.boot_min
  · exact PyProof.Rows.boot_sum
theorem reps_keysT {K : PySem.W.Frag} {M : Addr → Prop} {H : Hp} : ∀ {ks : List D} {js : List (List Key)} {ws : List V} {bs : List Addr}, ks.mapM keyT = some js → js.length = ws.length → IsKeys H (js.zip ws) bs → Reps K M H ks (bs.map V.ref)
  | [], js, ws, bs, h, hl, p => by
    have e := mapM_nil' h
    subst e
    have p' : Paired (fun (p : List Key × V) b => H b = some (.tup (p.1.map kV))) [] bs := p
    cases p'
    rfl
  | k :: ks, js, ws, bs, h, hl, p => by
    obtain ⟨j, l, e1, e2, rfl⟩ := mapM_cons' h
    cases ws with
    | nil => cases hl
    | cons w ws =>
      have p' : Paired (fun (p : List Key × V) b => H b = some (.tup (p.1.map kV))) ((j, w) :: l.zip ws) bs := p
      cases p' with
      | cons q t => exact ⟨_, _, rfl, rep_keyT e1 q, reps_keysT e2 (by simpa using hl) t⟩
/-- list(d), whether d is written further or not -/
theorem list_dk (hc : X.calm = true) : CallR X (.type "list") (fun xs H Q => ∃ p kvs, xs = [V.ref p] ∧ Rd H p (.dK kvs) ∧ ∀ q, H q = none → Q (.ref q) (upd H q (.lst (kvs.map fun kv => kV kv.1)))) := by
  intro pins s σ H xs us Q I r h
  obtain ⟨p, kvs, rfl, hk, q⟩ := h
  obtain ⟨u, rfl, ru⟩ := Vals.one r
  cases (show u = Value.ref p from ru)
  obtain ⟨hz, hm, vs, hv, hd⟩ := dk_rd I.hok hk
  obtain ⟨ep, ha⟩ := hd.dictAt
  have hl : kvs.length = vs.length := hv.length
  refine PySem.W.kdl_call (PySem.W.kdl_dict (knd := mixKind X.prog X.w) (kvs := vs) (ep := ep) hm) (I.ok.hd hc) ha (by omega) fun h' tk acc n hkeep hnew hacc => ?_
  have hsize : acc.toList.length = kvs.length := by rw [Array.length_toList, hacc.1, hl]
  have hvals : Vals (kvs.map fun kv => kV kv.1) acc.toList := vals_of_at (by rw [List.length_map, hsize]) fun j x w h1 h2 => by
    obtain ⟨k, y, h3, h4⟩ := hacc.2 j w (by rw [← Array.getElem?_toList]; exact h2)
    have hk2 : (kvs.map Prod.fst)[j]? = some k := by
      rw [KV.keys hv, List.getElem?_map, h3]
      rfl
    have hx : x = kV k := by
      rw [List.getElem?_map] at h1 hk2
      cases hj : kvs[j]? with
      | none => rw [hj] at h1; cases h1
      | some kv =>
        rw [hj] at h1 hk2
        cases h1
        cases hk2
        rfl
    rw [hx]
    exact keyIs_rel h4
  refine ⟨.ref s.heap.objs.size, _, I.laid hkeep (Nat.le_refl _) (show ObjOk X.prog X.w _ _ _ (.lst (kvs.map fun kv => kV kv.1)) from ⟨by rw [List.length_map]; exact hz, acc.toList, n, hvals, by rw [Array.toArray_toList]; exact hnew⟩), rfl, q _ (I.hok.fresh (Nat.le_refl _))⟩
theorem bi_len : CallR X (biVal .len) (rBi X.K .len) := by
  intro pins s σ H xs us Q I r h
  obtain ⟨M, ds, d, om, hv, hb, q⟩ := h
  unfold biD at hb
  split at hb
  all_goals first | contradiction | skip
  · cases hb
    obtain ⟨v, rfl, a, vs, rfl, s1, r1⟩ := hv.one
    exact call_len_seq pins s σ H _ us Q I r ⟨a, vs, rfl, .inr (.inl (.inl s1)), by rw [← r1.length]; exact rkf_at q rfl rfl⟩
  · cases hb
    obtain ⟨v, rfl, a, vs, rfl, s1, r1⟩ := hv.one
    exact call_len_seq pins s σ H _ us Q I r ⟨a, vs, rfl, .inl (.inl (.inl s1)), by rw [← r1.length]; exact rkf_at q rfl rfl⟩
  · cases hb
    obtain ⟨v, rfl, a, vs, rfl, s1, r1⟩ := hv.one
    exact call_len_seq pins s σ H _ us Q I r ⟨a, vs, rfl, .inl s1.sq, by rw [← r1.length]; exact rkf_at q rfl rfl⟩
  · cases hb
    obtain ⟨v, rfl, a, ws, ob, rfl, hr, r1, dq⟩ := hv.one
    obtain ⟨js, e1, hl, rfl⟩ := dq
    obtain ⟨u, rfl, ru⟩ := Vals.one r
    cases (show u = Value.ref a from ru)
    refine d_len I hr fun t s' I' => ⟨.int _, H, I', ⟨t, rfl⟩, ?_⟩
    have e3 : (js.zip ws).length = js.length := by rw [List.length_zip, ← hl, Nat.min_self]
    rw [e3, mapM_len e1]
    exact rkf_at q rfl rfl
theorem bi_tuple : CallR X (biVal .tuple) (rBi X.K .tuple) := by
  intro pins s σ H xs us Q I r h
  obtain ⟨M, ds, d, om, hv, hb, q⟩ := h
  unfold biD at hb
  split at hb
  all_goals first | contradiction | skip
  · cases hb
    obtain ⟨v, rfl, a, vs, rfl, s1, r1⟩ := hv.one
    exact call_tuple_of pins s σ H _ us Q I r ⟨a, vs, rfl, .inr ⟨.inl (.inl s1), rkf_at q ⟨a, vs, rfl, s1, r1⟩ rfl⟩⟩
  · cases hb
    obtain ⟨v, rfl, a, vs, rfl, s1, r1⟩ := hv.one
    exact call_tuple_of pins s σ H _ us Q I r ⟨a, vs, rfl, .inl ⟨.inl (.inl s1), fun p hp => rkf_tup q hp r1⟩⟩
theorem bi_list (hc : X.calm = true) : CallR X (biVal .list) (rBi X.K .list) := by
  intro pins s σ H xs us Q I r h
  obtain ⟨M, ds, d, om, hv, hb, q⟩ := h
  unfold biD at hb
  split at hb
  all_goals first | contradiction | skip
  · cases hb
    obtain ⟨v, rfl, a, vs, rfl, s1, r1⟩ := hv.one
    exact call_list_of pins s σ H _ us Q I r ⟨a, vs, rfl, .inr (.inl (.inl s1)), fun p hp => rkf_lst q om hp r1⟩
  · cases hb
    obtain ⟨v, rfl, a, vs, rfl, s1, r1⟩ := hv.one
    exact call_list_of pins s σ H _ us Q I r ⟨a, vs, rfl, .inl (.inl (.inl s1)), fun p hp => rkf_lst q om hp r1⟩
  · cases hb
    obtain ⟨v, rfl, a, ws, ob, rfl, hr, r1, dq⟩ := hv.one
    rename Bool => t
    cases t with
    | false =>
      obtain ⟨js, e1, hl, rfl⟩ := dq
      refine list_dk hc pins s σ H _ us Q I r ⟨a, _, rfl, hr, fun p hp => ?_⟩
      have e3 : ((js.zip ws).map fun kv => kV kv.1) = js.map kV := by
        have e4 : ((js.zip ws).map fun kv => kV kv.1) = ((js.zip ws).map Prod.fst).map kV := by rw [List.map_map]; rfl
        rw [e4, List.map_fst_zip (by rw [hl]; exact Nat.le_refl _)]
      rw [e3]
      exact rkf_lst q om hp (reps_keys e1)
    | true =>
      obtain ⟨js, e1, hl, rfl⟩ := dq
      refine call_list_dT hc pins s σ H _ us Q I r ⟨a, _, rfl, hr, fun p bs hp hk => ?_⟩
      exact rkf_lst q om hp (reps_keysT e1 hl hk)
theorem bi_abs : CallR X (biVal .abs) (rBi X.K .abs) := by
  intro pins s σ H xs us Q I r h
  obtain ⟨M, ds, d, om, hv, hb, q⟩ := h
  unfold biD at hb
  split at hb
  all_goals first | contradiction | skip
  cases hb
  obtain ⟨v, rfl, e⟩ := hv.one
  have e' : v = .int _ := e
  subst e'
  exact call_abs pins s σ H _ us Q I r ⟨_, rfl, rkf_at q rfl rfl⟩
theorem bi_int : CallR X (biVal .int) (rBi X.K .int) := by
  intro pins s σ H xs us Q I r h
  obtain ⟨M, ds, d, om, hv, hb, q⟩ := h
  unfold biD at hb
  split at hb
  all_goals first | contradiction | skip
  cases hb
  obtain ⟨v, rfl, e⟩ := hv.one
  have e' : v = .int _ := e
  subst e'
  exact call_int1 pins s σ H _ us Q I r (.inl ⟨_, rfl, rkf_at q rfl rfl⟩)
theorem omap {α β : Type} {f : α → β} {o : Option α} {b : β} (h : o.map f = some b) : ∃ a, o = some a ∧ f a = b := by
  cases o with
  | none => cases h
  | some a => exact ⟨a, rfl, Option.some.inj h⟩
theorem obind {α β : Type} {f : α → Option β} {o : Option α} {b : β} (h : o.bind f = some b) : ∃ a, o = some a ∧ f a = some b := by
  cases o with
  | none => cases h
  | some a => exact ⟨a, rfl, h⟩
theorem bi_sum (hc : X.calm = true) : CallR X (biVal .sum) (rBi X.K .sum) := by
  intro pins s σ H xs us Q I r h
  obtain ⟨M, ds, d, om, hv, hb, q⟩ := h
  unfold biD at hb
  split at hb
  all_goals first | contradiction | skip
  · obtain ⟨ns, e1, rfl⟩ := omap hb
    obtain ⟨v, rfl, a, vs, rfl, s1, r1⟩ := hv.one
    have e2 := reps_ints e1 r1
    subst e2
    exact cr_sum hc pins s σ H _ us Q I r ⟨a, ns, rfl, .inl (.inl s1), rkf_at q rfl rfl⟩
  · obtain ⟨ns, e1, rfl⟩ := omap hb
    obtain ⟨v, rfl, a, vs, rfl, s1, r1⟩ := hv.one
    have e2 := reps_ints e1 r1
    subst e2
    rw [Vals.ref1 r]
    obtain ⟨its, rv, pl, hz⟩ := I.tuple (show SqT X.K H a (ns.map V.int) from .inl (.inl s1))
    exact sumT_raw (I.ok.hd hc) pl rv.ints fun h' tk t' hk => ⟨.int _, H, I.kept hk, ⟨_, rfl⟩, rkf_at q rfl rfl⟩
theorem bi_min (hc : X.calm = true) : CallR X (biVal .min) (rBi X.K .min) := by
  intro pins s σ H xs us Q I r h
  obtain ⟨M, ds, d, om, hv, hb, q⟩ := h
  unfold biD at hb
  split at hb
  all_goals first | contradiction | skip
  · obtain ⟨m, e0, rfl⟩ := omap hb
    obtain ⟨ns, e1, e3⟩ := obind e0
    obtain ⟨v, rfl, a, vs, rfl, s1, r1⟩ := hv.one
    have e2 := reps_ints e1 r1
    subst e2
    obtain ⟨p1, p2⟩ := minI_spec e3
    refine cr_min hc pins s σ H _ us Q I r ⟨a, ns, rfl, .inl (.inl s1), List.length_pos_of_mem p1, fun m' h1 h2 => ?_⟩
    have e4 : m' = m := Int.le_antisymm (h2 m p1) (p2 m' h1)
    rw [e4]
    exact rkf_at q rfl rfl
  · obtain ⟨m, e0, rfl⟩ := omap hb
    obtain ⟨ns, e1, e3⟩ := obind e0
    obtain ⟨v, rfl, a, vs, rfl, s1, r1⟩ := hv.one
    have e2 := reps_ints e1 r1
    subst e2
    obtain ⟨p1, p2⟩ := minI_spec e3
    rw [Vals.ref1 r]
    obtain ⟨its, rv, pl, hz⟩ := I.tuple (show SqT X.K H a (ns.map V.int) from .inl (.inl s1))
    refine minT_raw (I.ok.hd hc) pl rv.ints (List.length_pos_of_mem p1) fun h' tk m' t' hk h1 h2 => ⟨.int _, H, I.kept hk, ⟨_, rfl⟩, ?_⟩
    have e4 : m' = m := Int.le_antisymm (h2 m p1) (p2 m' h1)
    rw [e4]
    exact rkf_at q rfl rfl
theorem bi_max (hc : X.calm = true) : CallR X (biVal .max) (rBi X.K .max) := by
  intro pins s σ H xs us Q I r h
  obtain ⟨M, ds, d, om, hv, hb, q⟩ := h
  unfold biD at hb
  split at hb
  all_goals first | contradiction | skip
  · obtain ⟨m, e0, rfl⟩ := omap hb
    obtain ⟨ns, e1, e3⟩ := obind e0
    obtain ⟨v, rfl, a, vs, rfl, s1, r1⟩ := hv.one
    have e2 := reps_ints e1 r1
    subst e2
    obtain ⟨p1, p2⟩ := maxI_spec e3
    refine cr_max hc pins s σ H _ us Q I r ⟨a, ns, rfl, .inl (.inl s1), List.length_pos_of_mem p1, fun m' h1 h2 => ?_⟩
    have e4 : m' = m := Int.le_antisymm (p2 m' h1) (h2 m p1)
    rw [e4]
    exact rkf_at q rfl rfl
  · obtain ⟨m, e0, rfl⟩ := omap hb
    obtain ⟨ns, e1, e3⟩ := obind e0
    obtain ⟨v, rfl, a, vs, rfl, s1, r1⟩ := hv.one
    have e2 := reps_ints e1 r1
    subst e2
    obtain ⟨p1, p2⟩ := maxI_spec e3
    rw [Vals.ref1 r]
    obtain ⟨its, rv, pl, hz⟩ := I.tuple (show SqT X.K H a (ns.map V.int) from .inl (.inl s1))
    refine maxT_raw (I.ok.hd hc) pl rv.ints (List.length_pos_of_mem p1) fun h' tk m' t' hk h1 h2 => ⟨.int _, H, I.kept hk, ⟨_, rfl⟩, ?_⟩
    have e4 : m' = m := Int.le_antisymm (p2 m' h1) (h2 m p1)
    rw [e4]
    exact rkf_at q rfl rfl
theorem bi_max2 (hc : X.calm = true) : CallR X (biVal .max2) (rBi X.K .max2) := by
  intro pins s σ H xs us Q I r h
  obtain ⟨M, ds, d, om, hv, hb, q⟩ := h
  unfold biD at hb
  split at hb
  all_goals first | contradiction | skip
  cases hb
  obtain ⟨v, w, rfl, e, e2⟩ := hv.two
  have e' : v = .int _ := e
  have e2' : w = .int _ := e2
  subst e' e2'
  exact call_max2 hc pins s σ H _ us Q I r ⟨_, _, rfl, rkf_at q rfl rfl⟩
theorem bi_min2 (hc : X.calm = true) : CallR X (biVal .min2) (rBi X.K .min2) := by
  intro pins s σ H xs us Q I r h
  obtain ⟨M, ds, d, om, hv, hb, q⟩ := h
  unfold biD at hb
  split at hb
  all_goals first | contradiction | skip
  cases hb
  obtain ⟨v, w, rfl, e, e2⟩ := hv.two
  have e' : v = .int _ := e
  have e2' : w = .int _ := e2
  subst e' e2'
  exact call_min2 hc pins s σ H _ us Q I r ⟨_, _, rfl, rkf_at q rfl rfl⟩
theorem bi_sorted (hu : X.A.units + 65 < cLine) : CallR X (biVal .sorted) (rBi X.K .sorted) := by
  intro pins s σ H xs us Q I r h
  obtain ⟨M, ds, d, om, hv, hb, q⟩ := h
  unfold biD at hb
  split at hb
  all_goals first | contradiction | skip
  all_goals
    split at hb
    · cases hb
      obtain ⟨v, rfl, h1⟩ := hv.one
      exact cr_sortD (by omega) pins s σ H _ us Q I r ⟨M, _, _, v, rfl, om, h1, by first | exact .inl rfl | exact .inr rfl, by assumption, q⟩
    · cases hb
theorem bi_any (hc : X.calm = true) : CallR X (biVal .any) (rBi X.K .any) := by
  intro pins s σ H xs us Q I r h
  obtain ⟨M, ds, d, om, hv, hb, q⟩ := h
  unfold biD at hb
  split at hb
  all_goals first | contradiction | skip
  obtain ⟨ns, e1, rfl⟩ := omap hb
  obtain ⟨v, rfl, a, vs, rfl, s1, r1⟩ := hv.one
  have e2 := reps_bools e1 r1
  subst e2
  exact cr_any hc pins s σ H _ us Q I r ⟨a, ns, rfl, .inl (.inl s1), rkf_at q rfl rfl⟩
theorem bi_all (hc : X.calm = true) : CallR X (biVal .all) (rBi X.K .all) := by
  intro pins s σ H xs us Q I r h
  obtain ⟨M, ds, d, om, hv, hb, q⟩ := h
  unfold biD at hb
  split at hb
  all_goals first | contradiction | skip
  obtain ⟨ns, e1, rfl⟩ := omap hb
  obtain ⟨v, rfl, a, vs, rfl, s1, r1⟩ := hv.one
  have e2 := reps_bools e1 r1
  subst e2
  exact cr_all hc pins s σ H _ us Q I r ⟨a, ns, rfl, .inl (.inl s1), rkf_at q rfl rfl⟩
theorem bi_minT (hc : X.calm = true) (hu : X.A.units + 65 < cLine) : CallR X (biVal .minT) (rBi X.K .minT) := by
  intro pins s σ H xs us Q I r h
  obtain ⟨M, ds, d, om, hv, hb, q⟩ := h
  unfold biD at hb
  split at hb
  all_goals first | contradiction | skip
  split at hb
  · rename_i hok
    cases hb
    simp only [Bool.and_eq_true] at hok
    obtain ⟨v, rfl, a, vs, rfl, s1, r1⟩ := hv.one
    exact call_minT hc hu I r s1 r1 hok.1 (fun d hd => by simpa using List.all_eq_true.mp hok.2 d hd) q
  · cases hb
theorem bi_sumL (hc : X.calm = true) : CallR X (biVal .sumL) (rBi X.K .sumL) := by
  intro pins s σ H xs us Q I r h
  obtain ⟨M, ds, d, om, hv, hb, q⟩ := h
  unfold biD at hb
  split at hb
  all_goals first | contradiction | skip
  obtain ⟨yss, e1, hb⟩ := obind hb
  have e2 := lstsOf_some e1
  subst e2
  split at hb
  · rename_i hok
    cases hb
    obtain ⟨v, w, rfl, ⟨a, vs, rfl, s1, r1⟩, b, ws, rfl, s2, r2⟩ := hv.two
    cases r2
    exact call_sumL hc I om r s1 s2 r1 (by simpa using hok.1) hok.2 q
  · cases hb
theorem bi_ok (hc : X.calm = true) (hu : X.A.units + 65 < cLine) (b : Bi) : CallR X (biVal b) (rBi X.K b) := by
  cases b
  · exact bi_len
  · exact bi_tuple
  · exact bi_list hc
  · exact bi_abs
  · exact bi_int
  · exact bi_sum hc
  · exact bi_min hc
  · exact bi_max hc
  · exact bi_sorted hu
  · exact bi_any hc
  · exact bi_all hc
  · exact bi_max2 hc
  · exact bi_min2 hc
  · exact bi_minT hc hu
  · exact bi_sumL hc

/-! ### subscripts, slices -/
theorem atD_atI {K : PySem.W.Frag} {M : Addr → Prop} {H : Hp} {ds : List D} {vs : List V} {i : Int} {d : D} (r : Reps K M H ds vs) (h : atD ds i = some d) : ∃ v, atI vs i = some v ∧ Rep K M H d v := by
  have hl := r.length
  unfold atD at h
  unfold atI ixN
  by_cases h0 : 0 ≤ i
  · rw [if_pos h0] at h ⊢
    obtain ⟨v, e1, e2⟩ := r.get h
    have hlt := (List.getElem?_eq_some_iff.mp h).1
    rw [if_pos (by omega)]
    exact ⟨v, e1, e2⟩
  · rw [if_neg h0] at h ⊢
    by_cases h1 : 0 ≤ i + ds.length
    · rw [if_pos h1] at h
      obtain ⟨v, e1, e2⟩ := r.get h
      rw [if_pos (by omega)]
      refine ⟨v, ?_, e2⟩
      rw [← hl]
      exact e1
    · rw [if_neg h1] at h; cases h
def rIdx (K : PySem.W.Frag) : R2 := fun x y H Q => ∃ M d i r, OM M H ∧ VR K M H d x ∧ Rep K M H i y ∧ idxD d i = some r ∧ RK K M H Q r
theorem ix_data (hu : X.A.units + 1 < cLine) : IxR X (rIdx X.K) := by
  intro value slice pins s σ H x y v u Q I rx ry h hs
  obtain ⟨M, d, i, r, om, hv, hy, hd, q⟩ := h
  unfold idxD at hd
  split at hd
  all_goals first | contradiction | skip
  · rename_i xs j
    cases (show y = .int _ from hy)
    obtain ⟨a, vs, rfl, s1, r1⟩ := hv
    obtain ⟨w, e1, e2⟩ := atD_atI r1 hd
    exact ix_tup value slice pins s σ H _ _ v u Q I rx ry ⟨a, vs, _, w, rfl, rfl, .inl (.inl s1), e1, q w H Exh.refl e2⟩ hs
  · rename_i xs j
    cases (show y = .int _ from hy)
    obtain ⟨a, vs, rfl, s1, r1⟩ := hv
    obtain ⟨w, e1, e2⟩ := atD_atI r1 hd
    exact ix_list value slice pins s σ H _ _ v u Q I rx ry ⟨a, vs, _, w, rfl, rfl, .inl (.inl s1), e1, q w H Exh.refl e2⟩ hs
  · rename_i xs j
    cases (show y = .int _ from hy)
    obtain ⟨a, vs, rfl, s1, r1⟩ := hv
    obtain ⟨w, e1, e2⟩ := atD_atI r1 hd
    exact ix_list value slice pins s σ H _ _ v u Q I rx ry ⟨a, vs, _, w, rfl, rfl, s1.sq, e1, q w H Exh.refl e2⟩ hs
  · rename_i t ks vs x0
    obtain ⟨o, h1, h2⟩ := obindK hd
    cases (show o = some r from h2)
    obtain ⟨a, ws, ob, rfl, hr, r1, dq⟩ := hv
    cases (show v = Value.ref a from rx)
    obtain ⟨ov, g, e⟩ := dGet_get h1 hr dq r1 hy
    cases ov with
    | none => exact e.elim
    | some w =>
      have ty := dict_typeIs I g
      have go : wpAny (model X.prog X.w) X.A (getItem (.ref a) u) (fun z s' => EP X pins σ Q z s') X.xe s := d_getItem hu I g ry fun w' s' I' rw' => ⟨w, H, I', rw', q w H Exh.refl e⟩
      unfold subscriptTail
      refine wpAny_bind ?_
      rw [getitemInPython_of_ne ty.not_modules]
      refine wpAny_bind (wpAny_specialOf ty PySem.F.slot_dict_getitem.lookup ?_)
      have fin : wpAny (model X.prog X.w) X.A (subscripted slice false (.ref a) u) (fun r s₃ => wpAny (model X.prog X.w) X.A (letTemporaryGo value (.ref a) r >>= fun _ => pure r) (EP X pins σ Q) X.xe s₃) X.xe s := by
        rw [hs]
        exact wpAny_operating (wpAny_mono go (fun r s₃ h₃ => wpAny_bind (wpAny_letTemporaryGo (wpAny_pure h₃))) fun _ _ x => x)
      first
        | exact wpAny_pure (wpAny_bind fin)
        | exact wpAny_bind (wpAny_pure (wpAny_bind fin))
        | exact wpAny_bind fin
theorem endOf_sIx (n d : Nat) (i : Int) : endOf n i = HT.sIx n d (some i) := by
  unfold endOf HT.sIx
  by_cases h : 0 ≤ i
  · rw [if_pos h]
    simp only
    rw [if_neg (by omega)]
  · rw [if_neg h]
    simp only
    rw [if_pos (by omega)]
theorem endO_sIx (n d : Nat) (o : Option Int) : endO n d o = HT.sIx n d o := by
  cases o with
  | none => rfl
  | some i => exact endOf_sIx n d i
theorem slc_reps {K : PySem.W.Frag} {M : Addr → Prop} {H : Hp} {ds : List D} {vs : List V} (lo hi : Option Int) (r : Reps K M H ds vs) : Reps K M H (slcL ds lo hi) (cutV vs lo hi) := by
  have hl := r.length
  unfold slcL cutV
  rw [endO_sIx, endO_sIx, hl]
  exact (r.drop _).take _
theorem slc_whole {K : PySem.W.Frag} {M : Addr → Prop} {H : Hp} {ds : List D} {vs : List V} {lo hi : Option Int} (r : Reps K M H ds vs) (h : HT.sIx vs.length 0 lo = 0 ∧ HT.sIx vs.length vs.length hi = vs.length) : slcL ds lo hi = ds := by
  have hl := r.length
  unfold slcL
  rw [endO_sIx, endO_sIx, hl, h.1, h.2, List.drop_zero, ← hl, Nat.sub_zero, List.take_length]
def rSlc (K : PySem.W.Frag) : V → Option Int → Option Int → Hp → VK → Prop := fun x lo hi H Q => ∃ M d r, OM M H ∧ VR K M H d x ∧ slcD lo hi d = some r ∧ RKF K M H Q r
theorem sl_data : SlR X (rSlc X.K) := by
  intro pins s σ H x v vl vu lo hi sl Q I rx hs pl pu h
  obtain ⟨M, d, r, om, hv, hd, q⟩ := h
  unfold slcD at hd
  split at hd
  all_goals first | contradiction | skip
  · cases hd
    obtain ⟨a, vs, rfl, s1, r1⟩ := hv
    refine sl_tupA pins s σ H _ v vl vu lo hi sl Q I rx hs pl pu ⟨a, vs, rfl, .inl (.inl s1), fun hw => ?_, fun _ p hp => rkf_tup q hp (slc_reps lo hi r1)⟩
    rw [slc_whole r1 hw] at q
    exact rkf_at q ⟨a, vs, rfl, s1, r1⟩ rfl
  · cases hd
    obtain ⟨a, vs, rfl, s1, r1⟩ := hv
    exact sl_list pins s σ H _ v vl vu lo hi sl Q I rx hs pl pu ⟨a, vs, rfl, .inl (.inl s1), fun p hp => rkf_lst q om hp (slc_reps lo hi r1)⟩

/-! ### is, isinstance -/
def rIs (K : PySem.W.Frag) (ng : Bool) : R2 := fun x y H Q => ∃ M d e c, VR K M H d x ∧ VR K M H e y ∧ isD d e = some c ∧ Q (.bl (if ng then !c else c)) H
theorem plain_bl (u : Value) (b : Bool) (h : u = .none ∨ (∃ i t, u = .int i t) ∨ (∃ z t, u = .str z t) ∨ (∃ a, u = .ref a)) : ∀ {M : Model} {A : Around} {E : Value → Shared → Prop} {s : Shared} {Q : Value → Shared → Prop},
    (Q (.bool false) s → wpAny M A (compareOp .Is u (.bool b)) Q E s) ∧ (Q (.bool true) s → wpAny M A (compareOp .IsNot u (.bool b)) Q E s) := by
  intro M A E s Q
  rcases h with rfl | ⟨i, t, rfl⟩ | ⟨z, t, rfl⟩ | ⟨a, rfl⟩
  · exact ⟨fun q => wpAny_is_other rfl (fun z => nomatch z) q, fun q => wpAny_isNot_other rfl (fun z => nomatch z) q⟩
  · exact ⟨fun q => wpAny_is_other rfl (fun z => nomatch z) q, fun q => wpAny_isNot_other rfl (fun z => nomatch z) q⟩
  · exact ⟨fun q => wpAny_is_other rfl (fun z => nomatch z) q, fun q => wpAny_isNot_other rfl (fun z => nomatch z) q⟩
  · exact ⟨fun q => wpAny_is_other rfl (fun z => nomatch z) q, fun q => wpAny_isNot_other rfl (fun z => nomatch z) q⟩
def isNon : D → Bool
  | .non => true
  | _ => false
theorem isD_cases {d e : D} {c : Bool} (h : isD d e = some c) : (e = .non ∧ c = isNon d) ∨ (∃ b, e = .bl b ∧ ((∃ a, d = .bl a ∧ c = (a == b)) ∨ ((∀ a, d ≠ .bl a) ∧ (∀ t k v, d ≠ .dic t k v) ∧ c = false))) := by
  cases e with
  | non =>
    refine .inl ⟨rfl, ?_⟩
    cases d <;> first | (simp only [isD, Option.some.injEq] at h; rw [← h]; rfl) | simp [isD] at h
  | bl b =>
    refine .inr ⟨b, rfl, ?_⟩
    cases d with
    | bl a =>
      simp only [isD, Option.some.injEq] at h
      exact .inl ⟨a, rfl, h.symm⟩
    | dic _ _ _ => simp [isD] at h
    | scr _ => simp [isD] at h
    | _ =>
      simp only [isD, Option.some.injEq] at h
      exact .inr ⟨(fun a z => nomatch z), (fun t k v z => nomatch z), h.symm⟩
  | int _ => cases d <;> simp [isD] at h
  | str _ => cases d <;> simp [isD] at h
  | tup _ => cases d <;> simp [isD] at h
  | lst _ => cases d <;> simp [isD] at h
  | dic _ _ _ => cases d <;> simp [isD] at h
  | scr _ => cases d <;> simp [isD] at h
theorem vr_non {K : PySem.W.Frag} {M : Addr → Prop} {H : Hp} {d : D} {x : V} (h : VR K M H d x) : decide (x = .non) = isNon d := by
  cases d with
  | non =>
    have e : x = .non := h
    rw [e]; rfl
  | bl b =>
    have e : x = .bl b := h
    rw [e]; rfl
  | int b =>
    have e : x = .int b := h
    rw [e]; rfl
  | str b =>
    have e : x = .str b := h
    rw [e]; rfl
  | tup b =>
    obtain ⟨a, vs, e, _⟩ := h
    rw [e]; rfl
  | lst b =>
    obtain ⟨a, vs, e, _⟩ := h
    rw [e]; rfl
  | dic t a b =>
    obtain ⟨a, vs, o, e, _⟩ := h
    rw [e]; rfl
  | scr b =>
    obtain ⟨a, vs, e, _⟩ := h
    rw [e]; rfl
theorem vr_kind {K : PySem.W.Frag} {M : Addr → Prop} {H : Hp} {d : D} {x : V} {v : Value} (h : VR K M H d x) (rx : RelV x v) (n : ∀ a, d ≠ .bl a) : v = .none ∨ (∃ i t, v = .int i t) ∨ (∃ z t, v = .str z t) ∨ (∃ a, v = .ref a) := by
  cases d with
  | non =>
    have e : x = .non := h
    subst e
    exact .inl rx
  | bl b => exact absurd rfl (n b)
  | int b =>
    have e : x = .int b := h
    subst e
    obtain ⟨t, e⟩ := rx
    exact .inr (.inl ⟨b, t, e⟩)
  | str b =>
    have e : x = .str b := h
    subst e
    obtain ⟨t, e⟩ := rx
    exact .inr (.inr (.inl ⟨b, t, e⟩))
  | tup b =>
    obtain ⟨a, vs, e, _⟩ := h
    subst e
    exact .inr (.inr (.inr ⟨a, rx⟩))
  | lst b =>
    obtain ⟨a, vs, e, _⟩ := h
    subst e
    exact .inr (.inr (.inr ⟨a, rx⟩))
  | dic t a b =>
    obtain ⟨a, vs, o, e, _⟩ := h
    subst e
    exact .inr (.inr (.inr ⟨a, rx⟩))
  | scr b =>
    obtain ⟨a, vs, e, _⟩ := h
    subst e
    exact .inr (.inr (.inr ⟨a, rx⟩))
theorem op_isD : OpR X (compareOp .Is) (rIs X.K false) := by
  intro pins s σ H x y v u Q I rx ry h
  obtain ⟨M, d, e, c, h1, h2, hc, q⟩ := h
  rcases isD_cases hc with ⟨rfl, rfl⟩ | ⟨b, rfl, h⟩
  · have e2 : y = .non := h2
    refine op_isN pins s σ H x y v u Q I rx ry ⟨e2, ?_⟩
    rw [vr_non h1]
    exact q
  · have e2 : y = .bl b := h2
    subst e2
    rcases h with ⟨a, rfl, rfl⟩ | ⟨n, _, rfl⟩
    · have e1 : x = .bl a := h1
      subst e1
      refine op_is_bl pins s σ H _ _ v u Q I rx ry ⟨a, b, rfl, rfl, ?_⟩
      rw [← Bool.beq_eq_decide_eq]
      exact q
    · cases (show u = Value.bool b from ry)
      exact (plain_bl v b (vr_kind h1 rx n)).1 ⟨.bl false, H, I, rfl, q⟩
theorem op_isnotD : OpR X (compareOp .IsNot) (rIs X.K true) := by
  intro pins s σ H x y v u Q I rx ry h
  obtain ⟨M, d, e, c, h1, h2, hc, q⟩ := h
  rcases isD_cases hc with ⟨rfl, rfl⟩ | ⟨b, rfl, h⟩
  · have e2 : y = .non := h2
    refine op_notN pins s σ H x y v u Q I rx ry ⟨e2, ?_⟩
    rw [vr_non h1]
    exact q
  · have e2 : y = .bl b := h2
    subst e2
    rcases h with ⟨a, rfl, rfl⟩ | ⟨n, _, rfl⟩
    · have e1 : x = .bl a := h1
      subst e1
      refine op_isnot_bl pins s σ H _ _ v u Q I rx ry ⟨a, b, rfl, rfl, ?_⟩
      rw [← Bool.beq_eq_decide_eq]
      exact q
    · cases (show u = Value.bool b from ry)
      exact (plain_bl v b (vr_kind h1 rx n)).2 ⟨.bl true, H, I, rfl, q⟩
def tyName : Ty → String
  | .int => "int"
  | .bool => "bool"
  | .str => "str"
  | .tuple => "tuple"
  | .list => "list"
def tyOfD : D → String
  | .non => "NoneType"
  | .bl _ => "bool"
  | .int _ => "int"
  | .str _ => "str"
  | .tup _ => "tuple"
  | .lst _ => "list"
  | .dic _ _ _ => "dict"
  | .scr _ => "list"
theorem vr_ty {K : PySem.W.Frag} {M : Addr → Prop} {H : Hp} {d : D} {x : V} (h : VR K M H d x) (nd : ∀ t a b, d ≠ .dic t a b) : TyX K H x (.type (tyOfD d)) := by
  cases d with
  | non =>
    have e : x = .non := h
    rw [e]; exact .base .non
  | bl b =>
    have e : x = .bl b := h
    rw [e]; exact .base (.bl b)
  | int b =>
    have e : x = .int b := h
    rw [e]; exact .base (.int b)
  | str b =>
    have e : x = .str b := h
    rw [e]; exact .base (.str b)
  | tup b =>
    obtain ⟨a, vs, e, s, _⟩ := h
    rw [e]
    exact .base (.tup s)
  | lst b =>
    obtain ⟨a, vs, e, s, _⟩ := h
    rw [e]
    exact .base (.lst s)
  | dic t a b => exact absurd rfl (nd t a b)
  | scr b =>
    obtain ⟨a, vs, e, s, _⟩ := h
    rw [e]
    rcases s with ⟨o, s⟩ | (s | ⟨o, s⟩) | ⟨o, its, n, l, c, _⟩
    · exact .base (.frz s)
    · cases s
    · cases s
    · exact .kList l c
theorem isi_kit {t : Ty} {d : D} {c : Bool} (h : isiD t d = some c) : kitB (tyOfD d) (tyName t) = some c := by
  cases t <;> cases d <;> simp [isiD] at h <;> subst h <;> simp only [tyOfD, tyName] <;> decide +kernel
def rIsiD (K : PySem.W.Frag) (t : Ty) : List V → Hp → VK → Prop := fun vs H Q => ∃ M d x c, vs = [x, .ty (tyName t)] ∧ VR K M H d x ∧ isiD t d = some c ∧ Q (.bl c) H
theorem call_isiD {t : Ty} : CallR X (.builtin "isinstance") (rIsiD X.K t) := by
  intro pins s σ H xs us Q I r h
  obtain ⟨M, d, x, c, rfl, hv, hc, q⟩ := h
  exact call_isi pins s σ H _ us Q I r ⟨x, _, _, _, c, rfl, .ty _, vr_ty hv (fun t' a b z => by subst z; cases t <;> simp [isiD] at hc), kit_ty (isi_kit hc), q⟩
theorem un_negD : UnR X (unaryOp .USub) (fun x H Q => ∃ i, x = .int i ∧ Q (.int (-i)) H) := un_neg
end
end PC
set_option Elab.async false
set_option linter.all false
set_option maxRecDepth 100000
/-! PyCore, part 5: is the given text the core text? The frame's facts; what a text's meaning asks. -/
namespace PC
open PySem PySem.Spec PyProof.Rows L2

mutual
def sameD : D → D → Bool
  | .non, .non => true
  | .bl a, .bl b => a == b
  | .int i, .int j => decide (i = j)
  | .str x, .str y => decide (x = y)
  | .tup xs, .tup ys => sameDs xs ys
  | .lst xs, .lst ys => sameDs xs ys
  | _, _ => false
def sameDs : List D → List D → Bool
  | [], [] => true
  | x :: xs, y :: ys => sameD x y && sameDs xs ys
  | _, _ => false
end
mutual
theorem sameD_eq : ∀ {d e : D}, sameD d e = true → d = e
  | .non, e, h => by cases e <;> first | rfl | simp [sameD] at h
  | .bl a, e, h => by cases e <;> first | (simp [sameD] at h; rw [h]) | simp [sameD] at h
  | .int a, e, h => by cases e <;> first | (simp [sameD] at h; rw [h]) | simp [sameD] at h
  | .str a, e, h => by cases e <;> first | (simp [sameD] at h; rw [h]) | simp [sameD] at h
  | .tup xs, .tup ys, h => by rw [sameDs_eq (xs := xs) (ys := ys) (by simpa [sameD] using h)]
  | .lst xs, .lst ys, h => by rw [sameDs_eq (xs := xs) (ys := ys) (by simpa [sameD] using h)]
  | .tup xs, .non, h => by simp [sameD] at h
  | .tup xs, .bl _, h => by simp [sameD] at h
  | .tup xs, .int _, h => by simp [sameD] at h
  | .tup xs, .str _, h => by simp [sameD] at h
  | .tup xs, .lst _, h => by simp [sameD] at h
  | .tup xs, .dic _ _ _, h => by simp [sameD] at h
  | .tup xs, .scr _, h => by simp [sameD] at h
  | .lst xs, .non, h => by simp [sameD] at h
  | .lst xs, .bl _, h => by simp [sameD] at h
  | .lst xs, .int _, h => by simp [sameD] at h
  | .lst xs, .str _, h => by simp [sameD] at h
  | .lst xs, .tup _, h => by simp [sameD] at h
  | .lst xs, .dic _ _ _, h => by simp [sameD] at h
  | .lst xs, .scr _, h => by simp [sameD] at h
  | .scr _, e, h => by cases e <;> simp [sameD] at h
  | .dic _ _ _, e, h => by cases e <;> simp [sameD] at h
theorem sameDs_eq : ∀ {xs ys : List D}, sameDs xs ys = true → xs = ys
  | [], [], _ => rfl
  | [], _ :: _, h => by simp [sameDs] at h
  | _ :: _, [], h => by simp [sameDs] at h
  | x :: xs, y :: ys, h => by
    have h' : sameD x y = true ∧ sameDs xs ys = true := by simpa [sameDs] using h
    rw [sameD_eq h'.1, sameDs_eq h'.2]
end
def flatV : D → V
  | .bl b => .bl b
  | .int i => .int i
  | .str s => .str s
  | _ => .non
def isFlat : D → Bool
  | .non => true
  | .bl _ => true
  | .int _ => true
  | .str _ => true
  | _ => false
theorem flat_rep {K : PySem.W.Frag} {M : Addr → Prop} {H : Hp} {d : D} (h : isFlat d = true) : Rep K M H d (flatV d) := by
  cases d <;> first | rfl | simp [isFlat] at h

/-! ### what a def of the program promises -/
def ARs (K : PySem.W.Frag) (Mo : Addr → Prop) (H : Hp) : List Sl → List V → Prop
  | [], vs => vs = []
  | .val d :: as, vs => ∃ v r, vs = v :: r ∧ Rep K Mo H d v ∧ ARs K Mo H as r
  | .own _ xs :: as, vs => ∃ p ws r, vs = .ref p :: r ∧ Mo p ∧ H p = some ws ∧ RepO K Mo H xs ws ∧ ARs K Mo H as r
  | .no :: _, _ => False
def OwnA (as : List Sl) (vs : List V) (a : Addr) : Prop := ∃ (i : Nat) (t : Option Nat) (xs : D), as[i]? = some (.own t xs) ∧ vs[i]? = some (.ref a)
def DisA (as : List Sl) (vs : List V) : Prop := ∀ (i j : Nat) (t u : Option Nat) (xs ys : D) (p : Addr), i ≠ j → as[i]? = some (.own t xs) → as[j]? = some (.own u ys) → vs[i]? = some (.ref p) → vs[j]? = some (.ref p) → False
structure CPost (K : PySem.W.Frag) (Mo : Addr → Prop) (as : List Sl) (vs : List V) (outs : List Sl) (r : D) (H : Hp) (v : V) (H' : Hp) : Prop where
  kp : Kp (OwnA as vs) H H'
  ou : ∀ (i : Nat) (t : Option Nat) (xs : D), as[i]? = some (.own t xs) → ∃ (u : Option Nat) (ys : D) (p : Addr) (ws : HO), outs[i]? = some (.own u ys) ∧ vs[i]? = some (.ref p) ∧ H' p = some ws ∧ RepO K Mo H' ys ws
  len : outs.length = as.length
  rep : Rep K Mo H' r v
/-- the list that is handed back is a new one -/
def FrC (K : PySem.W.Frag) (Mo : Addr → Prop) (as : List Sl) (vs : List V) (outs : List Sl) (r : D) (H : Hp) (v : V) (H' : Hp) : Prop := isCo r = true → ∃ (p : Addr) (ws : HO), v = .ref p ∧ H p = none ∧ H' p = some ws ∧ RepO K (fun a => Mo a ∨ a = p) H' r ws ∧
  ∀ (i : Nat) (t : Option Nat) (xs : D), as[i]? = some (.own t xs) → ∃ (u : Option Nat) (ys : D) (q : Addr) (ws : HO), outs[i]? = some (.own u ys) ∧ vs[i]? = some (.ref q) ∧ H' q = some ws ∧ RepO K (fun a => Mo a ∨ a = p) H' ys ws
def spOf (K : PySem.W.Frag) (F : List Sl → Option (D × List Sl)) (n : Nat) (fr : Bool) : Sp := fun vs H Q _ => ∃ (Mo : Addr → Prop) (as : List Sl) (r : D) (outs : List Sl), as.length = n ∧ OM Mo H ∧ ARs K Mo H as vs ∧ DisA as vs ∧ F as = some (r, outs) ∧
  ∀ v H', CPost K Mo as vs outs r H v H' → (fr = true → FrC K Mo as vs outs r H v H') → Q v H'
theorem ARs.length {K : PySem.W.Frag} {Mo : Addr → Prop} {H : Hp} : ∀ {as : List Sl} {vs : List V}, ARs K Mo H as vs → vs.length = as.length
  | [], vs, h => by
    have e : vs = [] := h
    rw [e]; rfl
  | .val d :: as, vs, h => by
    obtain ⟨v, r, e, _, h2⟩ := h
    rw [e, List.length_cons, List.length_cons, h2.length]
  | .own t xs :: as, vs, h => by
    obtain ⟨p, ws, r, e, _, _, _, h2⟩ := h
    rw [e, List.length_cons, List.length_cons, h2.length]
  | .no :: _, _, h => False.elim h
theorem ARs.own {K : PySem.W.Frag} {Mo : Addr → Prop} {H : Hp} : ∀ {as : List Sl} {vs : List V} {i : Nat} {t : Option Nat} {xs : D}, ARs K Mo H as vs → as[i]? = some (.own t xs) → ∃ p ws, vs[i]? = some (.ref p) ∧ Mo p ∧ H p = some ws ∧ RepO K Mo H xs ws
  | [], vs, i, t, xs, h, e => by simp at e
  | .val d :: as, vs, 0, t, xs, h, e => by simp at e
  | .val d :: as, vs, i + 1, t, xs, h, e => by
    obtain ⟨v, r, e1, _, h2⟩ := h
    obtain ⟨p, ws, q⟩ := h2.own (i := i) (t := t) (xs := xs) (by simpa using e)
    exact ⟨p, ws, by rw [e1]; simpa using q.1, q.2⟩
  | .own u ys :: as, vs, 0, t, xs, h, e => by
    obtain ⟨p, ws, r, e1, q1, q2, q3, h2⟩ := h
    cases e
    exact ⟨p, ws, by rw [e1]; rfl, q1, q2, q3⟩
  | .own u ys :: as, vs, i + 1, t, xs, h, e => by
    obtain ⟨p, ws, r, e1, q1, q2, q3, h2⟩ := h
    obtain ⟨p', ws', q⟩ := h2.own (i := i) (t := t) (xs := xs) (by simpa using e)
    exact ⟨p', ws', by rw [e1]; simpa using q.1, q.2⟩
  | .no :: _, _, _, _, _, h, _ => False.elim h
theorem ARs.val {K : PySem.W.Frag} {Mo : Addr → Prop} {H : Hp} : ∀ {as : List Sl} {vs : List V} {i : Nat} {d : D}, ARs K Mo H as vs → as[i]? = some (.val d) → ∃ v, vs[i]? = some v ∧ Rep K Mo H d v
  | [], vs, i, d, h, e => by simp at e
  | .val d :: as, vs, 0, x, h, e => by
    obtain ⟨v, r, e1, h1, h2⟩ := h
    cases e
    exact ⟨v, by rw [e1]; rfl, h1⟩
  | .val d :: as, vs, i + 1, x, h, e => by
    obtain ⟨v, r, e1, _, h2⟩ := h
    obtain ⟨y, q⟩ := h2.val (i := i) (d := x) (by simpa using e)
    exact ⟨y, by rw [e1]; simpa using q.1, q.2⟩
  | .own u ys :: as, vs, 0, x, h, e => by simp at e
  | .own u ys :: as, vs, i + 1, x, h, e => by
    obtain ⟨p, ws, r, e1, q1, q2, q3, h2⟩ := h
    obtain ⟨y, q⟩ := h2.val (i := i) (d := x) (by simpa using e)
    exact ⟨y, by rw [e1]; simpa using q.1, q.2⟩
  | .no :: _, _, _, _, h, _ => False.elim h

/-- a def as callers know it: name, how many parameters, the last ones' defaults -/
structure FnS where
  name : Str
  ar : Nat
  dfl : List D
  fr : Bool
  kw : List (List Str × List Nat)

def biNames : List Str := ["len", "tuple", "list", "abs", "int", "sum", "min", "max", "sorted", "any", "all", "range", "enumerate", "zip", "reversed", "isinstance", "bool", "str", "set"]

/-- the facts of a frame: S, G: the program's defs and constants; F: what the defs mean; n: how deep calls may go -/
structure SX (S : List FnS) (G : List (Str × D)) (F : CallF) (N : List Str) (sc : Scope) (tn : List Str) (n : Nat) (X : Cx) : Prop where
  calm : X.calm = true
  nd : X.N.Nodup
  hN : X.N = N
  hsc : X.env.scope = sc
  fk : sc.kind = .function
  room : Room n X.A
  room1 : Room n X.A.in1
  fns : ∀ (f : Nat) (s : FnS), S[f]? = some s → ∃ (fa : Addr) (fd : FuncData) (ps : List Str), X.mg s.name = some (.ref fa) ∧ PySem.W.keepIn X.K (.ref fa) = true ∧ ps.length = s.ar ∧
    FnOk X.prog X.w X.K X.mg X.base CX0 n fa fd ps (spOf X.K (F f) s.ar s.fr) ∧ (∀ j, j ≤ s.dfl.length → ∃ ds, Vals ((s.dfl.drop j).map flatV) ds ∧ Binds X.K fd ps ds) ∧ ∀ q ∈ s.kw, KBn X.K fd ps 0 q.1 (fun _ ws => permR q.2 ws) (fun _ zs => permR q.2 zs)
  glo : ∀ p ∈ G, ∃ u v, X.mg p.1 = some u ∧ RelV v u ∧ ∀ M H, Rep X.K M H p.2 v
  bi : ∀ x ∈ biNames, X.mg x = none
  fn : ∀ x ∈ tn, X.fn x = true ∨ X.env.scope.names.lookup x = some .local
  xe : X.xe = fun _ _ => False

/-! ### the text -/
def okN (x : Str) : Bool := !(x == ("__debug__" : Str)) && !(x == ("__classdict__" : Str))
def visK (sc : Scope) (x : Str) : Bool := match sc.names.lookup x with
  | some .local => true
  | some .cell => true
  | some .free => true
  | _ => false
def locK (sc : Scope) (x : Str) : Bool := match sc.names.lookup x with
  | some .local => true
  | some .cell => true
  | _ => false
def glK (sc : Scope) (x : Str) : Bool := match sc.names.lookup x with
  | some .globalImplicit => true
  | _ => false
def conK : Const → D → Bool
  | .none, .non => true
  | .bool a, .bl b => a == b
  | .int i, .int j => decide (i = j)
  | .str x, .str y => decide (x = y)
  | _, _ => false
def opK : Operator → BOp → Bool
  | .Add, .add => true
  | .Sub, .sub => true
  | .Mult, .mul => true
  | .FloorDiv, .fdiv => true
  | .Mod, .mod => true
  | .Pow, .pow => true
  | .LShift, .shl => true
  | .RShift, .shr => true
  | _, _ => false
def copK : CmpOp → COp → Bool
  | .Eq, .eq => true
  | .NotEq, .ne => true
  | .Lt, .lt => true
  | .LtE, .le => true
  | .Gt, .gt => true
  | .GtE, .ge => true
  | .In, .isin => true
  | .NotIn, .notin => true
  | _, _ => false
def nameIs (sc : Scope) (e : Expr) (x : Str) : Bool := match e with
  | .Name y _ => decide (y = x) && glK sc x && okN x
  | _ => false
def tyStr : Ty → Str
  | .int => "int"
  | .bool => "bool"
  | .str => "str"
  | .tuple => "tuple"
  | .list => "list"
/-- the scope of a comprehension's block -/
def blkSc (scope sc : Scope) : Scope := relS scope sc

mutual
def slTg : Tg → List Nat
  | .name i => [i]
  | .tup ts => slTgs ts
def slTgs : List Tg → List Nat
  | [] => []
  | t :: ts => slTg t ++ slTgs ts
end
mutual
def chkT (tn : List Str) (N : List Str) (sc : Scope) : Tg → Expr → Bool
  | .name i, e => match e with
    | .Name x _ => decide (N[i]? = some x) && locK sc x && decide (x ∈ tn)
    | _ => false
  | .tup ts, e => match e with
    | .Tuple es _ _ => chkTs tn N sc ts es
    | _ => false
def chkTs (tn : List Str) (N : List Str) (sc : Scope) : List Tg → List Expr → Bool
  | [], es => match es with
    | [] => true
    | _ => false
  | t :: ts, es => match es with
    | e :: es => chkT tn N sc t e && chkTs tn N sc ts es
    | _ => false
end
def isTup : Expr → Bool
  | .Tuple _ _ _ => true
  | _ => false

section
variable (S : List FnS) (G : List (Str × D)) (N : List Str)
def nmK (N : List Str) (i : Nat) (sc : Scope) : Expr → Bool
  | .Name x _ => decide (N[i]? = some x) && visK sc x && okN x
  | _ => false
mutual
def chkE : Ex → Scope → Expr → Bool
  | .var i, sc, e => match e with
    | .Name x _ => decide (N[i]? = some x) && visK sc x && okN x
    | _ => false
  | .con d, sc, e => match e with
    | .Constant k _ _ => conK k d
    | _ => false
  | .glo x d, sc, e => nameIs sc e x && G.any fun p => decide (p.1 = x) && sameD p.2 d
  | .bin o a b, sc, e => match e with
    | .BinOp l op r _ => opK op o && chkE a sc l && chkE b sc r
    | _ => false
  | .neg a, sc, e => match e with
    | .UnaryOp .USub l _ => chkE a sc l
    | _ => false
  | .cmp o a b, sc, e => match e with
    | .Compare l [op] [r] _ => copK op o && chkE a sc l && chkE b sc r
    | _ => false
  | .cmp2 o p a b c, sc, e => match e with
    | .Compare l [op, op'] [r, r'] _ => copK op o && copK op' p && chkE a sc l && chkE b sc r && chkE c sc r'
    | _ => false
  | .isC ng a d, sc, e => match e with
    | .Compare l [op] [.Constant k _ _] _ => (match op with | .Is => !ng | .IsNot => ng | _ => false) && chkE a sc l && conK k d
    | _ => false
  | .ands es, sc, e => match e with
    | .BoolOp .And xs _ => chkEs es sc xs && !xs.isEmpty
    | _ => false
  | .ors es, sc, e => match e with
    | .BoolOp .Or xs _ => chkEs es sc xs && !xs.isEmpty
    | _ => false
  | .nt a, sc, e => match e with
    | .UnaryOp .Not l _ => chkE a sc l
    | _ => false
  | .ite c a b, sc, e => match e with
    | .IfExp t l r _ => chkE c sc t && chkE a sc l && chkE b sc r
    | _ => false
  | .tup es, sc, e => match e with
    | .Tuple xs _ _ => chkEs es sc xs
    | _ => false
  | .lst es, sc, e => match e with
    | .List xs _ => chkEs es sc xs
    | _ => false
  | .dic0 _, sc, e => false
  | .index i b, sc, e => match e with
    | .Call (.Attribute (.Name x _) m ap) [y] [] cp => decide (N[i]? = some x) && visK sc x && okN x && decide (m = ("index" : Str)) && (ap.endLine == cp.line) && chkE b sc y
    | _ => false
  | .pop i, sc, e => match e with
    | .Call (.Attribute (.Name x _) m ap) [] [] cp => decide (N[i]? = some x) && visK sc x && okN x && decide (m = ("pop" : Str)) && (ap.endLine == cp.line)
    | _ => false
  | .popA i a, sc, e => match e with
    | .Call (.Attribute (.Name x _) m ap) [y] [] cp => decide (N[i]? = some x) && visK sc x && okN x && decide (m = ("pop" : Str)) && (ap.endLine == cp.line) && chkE a sc y
    | _ => false
  | .rl1 tp b, sc, e => match e with
    | .Call fe [.Call ge [y] [] _] [] _ => nameIs sc fe (if tp then "tuple" else "list") && nameIs sc ge "range" && chkE b sc y
    | _ => false
  | .rl2 tp a b, sc, e => match e with
    | .Call fe [.Call ge [x, y] [] _] [] _ => nameIs sc fe (if tp then "tuple" else "list") && nameIs sc ge "range" && chkE a sc x && chkE b sc y
    | _ => false
  | .idx a i, sc, e => match e with
    | .Subscript l r _ => chkE a sc l && chkE i sc r
    | _ => false
  | .slc a lo hi, sc, e => match e with
    | .Subscript l (.Slice x y none _) _ => chkE a sc l && chkO lo sc x && chkO hi sc y
    | _ => false
  | .slcS a lo hi st, sc, e => match e with
    | .Subscript l (.Slice x y (some z) _) _ => chkE a sc l && chkO lo sc x && chkO hi sc y && chkO st sc (some z)
    | _ => false
  | .call fr f es ds, sc, e => match e with
    | .Call fe xs [] _ => match S[f]? with
      | some s => nameIs sc fe s.name && chkEs es sc xs && decide (xs.length + ds.length = s.ar) && decide (ds.length ≤ s.dfl.length) && (sameDs (s.dfl.drop (s.dfl.length - ds.length)) ds && ds.all isFlat) && !xs.isEmpty && (!fr || s.fr)
      | none => false
    | _ => false
  | .callK fr f pm es, sc, e => match e with
    | .Call fe [] kws _ => match S[f]? with
      | some s => nameIs sc fe s.name && (s.kw.any fun q => decide (q.2 = pm) && chkK es sc kws q.1 && decide ((permR pm q.1).length = s.ar)) && (!fr || s.fr)
      | none => false
    | _ => false
  | .bi b es, sc, e => match e with
    | .Call fe xs [] _ => nameIs sc fe (biName b) && chkEs es sc xs && !xs.isEmpty
    | _ => false
  | .sset a, sc, e => match e with
    | .Call fe [.Call ge [y] [] _] [] _ => nameIs sc fe "sorted" && nameIs sc ge "set" && chkE a sc y
    | _ => false
  | .minK f a, sc, e => match e with
    | .Call fe [y] [⟨some kn, ge, _⟩] _ => match S[f]? with
      | some s => nameIs sc fe "min" && nameIs sc ge s.name && decide (kn = ("key" : Str)) && chkE a sc y && decide (s.ar = 1)
      | none => false
    | _ => false
  | .isi a t, sc, e => match e with
    | .Call fe [x, .Name y _] [] _ => nameIs sc fe "isinstance" && chkE a sc x && decide (y = tyStr t) && glK sc y
    | _ => false
  | .comp own tg it cs elt, sc, e => match e with
    | .ListComp el [⟨t, i, ifs, 0⟩] scope _ => chkI it sc t i && blkC N sc scope (own.map fun i => (N.getD i "", i)) && chkT (own.map fun i => N.getD i "") N (blkSc scope sc) tg t && chkEs cs (blkSc scope sc) ifs && chkE elt (blkSc scope sc) el && decide (ifs.length ≤ 1) && (own.all fun i => locK scope (N.getD i "")) && (slTg tg).all (fun i => decide (i ∈ own))
    | _ => false
  | .compO i own tg cs elt, sc, e => match e with
    | .ListComp el [⟨t, it, ifs, 0⟩] scope _ => nmK N i sc it && blkC N sc scope (own.map fun i => (N.getD i "", i)) && chkT (own.map fun i => N.getD i "") N (blkSc scope sc) tg t && chkEs cs (blkSc scope sc) ifs && chkE elt (blkSc scope sc) el && decide (ifs.length ≤ 1) && (own.all fun i => locK scope (N.getD i "")) && (slTg tg).all (fun i => decide (i ∈ own))
    | _ => false
  | .comp2 own tg it own1 tg1 it1 cs elt, sc, e => match e with
    | .ListComp el [⟨t, i, [], 0⟩, ⟨t1, i1, ifs, 0⟩] scope _ => chkI it sc t i && blkC N sc scope (own.map fun i => (N.getD i "", i)) && chkT (own.map fun i => N.getD i "") N (blkSc scope sc) tg t && chkI it1 (blkSc scope sc) t1 i1 && chkT (own.map fun i => N.getD i "") N (blkSc scope sc) tg1 t1 && chkEs cs (blkSc scope sc) ifs && chkE elt (blkSc scope sc) el && decide (ifs.length ≤ 1) && (own.all fun i => locK scope (N.getD i "")) && (slTg tg).all (fun i => decide (i ∈ own)) && (slTg tg1).all (fun i => decide (i ∈ own1)) && own1.all (fun i => decide (i ∈ own))
    | _ => false
def chkEs : Es → Scope → List Expr → Bool
  | .nil, sc, es => match es with
    | [] => true
    | _ => false
  | .cons a r, sc, es => match es with
    | e :: es => chkE a sc e && chkEs r sc es
    | _ => false
def chkK : Es → Scope → List Keyword → List Str → Bool
  | .nil, sc, kws, ks => match kws, ks with
    | [], [] => true
    | _, _ => false
  | .cons a r, sc, kws, ks => match kws, ks with
    | ⟨some x, e, _⟩ :: l, y :: ks => decide (x = y) && chkE a sc e && chkK r sc l ks
    | _, _ => false
def chkO : Oe → Scope → Option Expr → Bool
  | .none, sc, e => match e with
    | none => true
    | _ => false
  | .some a, sc, e => match e with
    | some x => chkE a sc x
    | _ => false
def chkI : It → Scope → Expr → Expr → Bool
  | .seq a, sc, t, e => chkE a sc e
  | .rng1 a, sc, t, e => match e with
    | .Call fe [x] [] _ => nameIs sc fe "range" && chkE a sc x
    | _ => false
  | .rng2 a b, sc, t, e => match e with
    | .Call fe [x, y] [] _ => nameIs sc fe "range" && chkE a sc x && chkE b sc y
    | _ => false
  | .enum a, sc, t, e => isTup t && match e with
    | .Call fe [x] [] _ => nameIs sc fe "enumerate" && chkE a sc x
    | _ => false
  | .zip a b, sc, t, e => isTup t && match e with
    | .Call fe [x, y] [] _ => nameIs sc fe "zip" && chkE a sc x && chkE b sc y
    | _ => false
  | .zip3 a b c, sc, t, e => isTup t && match e with
    | .Call fe [x, y, z] [] _ => nameIs sc fe "zip" && (chkE a sc x && (chkE b sc y && chkE c sc z))
    | _ => false
  | .rev a, sc, t, e => match e with
    | .Call fe [x] [] _ => nameIs sc fe "reversed" && chkE a sc x
    | _ => false
end
end

/-! ### what is asked -/
/-- a list that this text tells is a new one -/
def isF : Ex → Bool
  | .bin _ _ _ => true
  | .lst _ => true
  | .slc _ _ _ => true
  | .bi _ _ => true
  | .sset _ => true
  | .comp _ _ _ _ _ => true
  | .compO _ _ _ _ _ => true
  | .comp2 _ _ _ _ _ _ _ _ => true
  | .ite _ a b => isF a && isF b
  | .call fr _ _ _ => fr
  | .callK fr _ _ _ => fr
  | .rl1 tp _ => !tp
  | .rl2 tp _ _ => !tp
  | _ => false
def RR (K : PySem.W.Frag) (Mo : Addr → Prop) (env : En) (σ : L2.St) (H : Hp) : R → V → Prop
  | .v d, v => Rep K (MM Mo env σ) H d v
  | .b i, v => σ[i]? = some (some v) ∧ ∃ t xs, env[i]? = some (.own t xs)
def FR (K : PySem.W.Frag) (Mo : Addr → Prop) (pins : Nat → Addr) (env' : En) (σ : L2.St) (H H' : Hp) (r : R) (v : V) : Prop := ∀ d, r = .v d → isCo d = true → ∃ p o, v = .ref p ∧ H p = none ∧ H' p = some o ∧
  Corr K (fun a => Mo a ∨ a = p) pins env' σ H' ∧ RepO K (MM (fun a => Mo a ∨ a = p) env' σ) H' d o
section
variable (F : CallF) (K : PySem.W.Frag)
def tE (c : Ex) : TE := fun σ H Q => ∃ Mo pins env r env', Corr K Mo pins env σ H ∧ denE F c env = some (r, env') ∧
  ∀ v H', Corr K Mo pins env' σ H' → Stp env env' σ H H' → RR K Mo env' σ H' r v → (isF c = true → FR K Mo pins env' σ H H' r v) → Q v H'
def RRs (Mo : Addr → Prop) (env : En) (σ : L2.St) (H : Hp) : List R → List V → Prop
  | [], vs => vs = []
  | r :: rs, vs => ∃ v w, vs = v :: w ∧ RR K Mo env σ H r v ∧ RRs Mo env σ H rs w
def tA (c : Es) : TA := fun σ H Q => ∃ Mo pins env rs env', Corr K Mo pins env σ H ∧ denA F c env = some (rs, env') ∧
  ∀ vs H', Corr K Mo pins env' σ H' → Stp env env' σ H H' → RRs K Mo env' σ H' rs vs → Q vs H'
/-- a test -/
def tT (c : Ex) : TT := fun σ H Q => ∃ Mo pins env k env', Corr K Mo pins env σ H ∧ denE F c env = some (.v (.bl k), env') ∧
  ∀ H', Corr K Mo pins env' σ H' → Stp env env' σ H H' → Q k H'
end
end PC
set_option Elab.async false
set_option linter.all false
set_option maxRecDepth 100000
/-! PyCore, part 6: walks of lists and tuples alike; enumerate and zip over both. -/
namespace PC
open PySem PySem.Spec PyProof.Rows L2

/-- k: a tuple, else a list -/
def SqK (K : PySem.W.Frag) (H : Hp) (k : Bool) (a : Addr) (xs : List V) : Prop := if k then SqT K H a xs else SqL K H a xs
def ItK (h : Heap) (k : Bool) (it a : Addr) (i : Nat) : Prop := if k then h.IsTupleIter it a i else h.IsListIter it a i
def StK (h : Heap) (k : Bool) (a : Addr) (its : Array Value) : Prop := if k then h.IsTuple a its else h.IsList a its
theorem ItK.obj {h : Heap} {k : Bool} {it a : Addr} {i : Nat} (x : ItK h k it a i) : ∃ o, h.get? it = some o ∧ (o.cls = .type "tuple_iterator" ∨ o.cls = .type "list_iterator") ∧ ∃ fs, o.data = .fields fs := by
  cases k with
  | true => obtain ⟨o, e, c, d⟩ := (show h.IsTupleIter it a i from x); exact ⟨o, e, .inl c, _, d⟩
  | false => obtain ⟨o, e, c, d⟩ := (show h.IsListIter it a i from x); exact ⟨o, e, .inr c, _, d⟩
theorem StK.obj {h : Heap} {k : Bool} {a : Addr} {its : Array Value} (x : StK h k a its) : ∃ o, h.get? a = some o ∧ (o.cls = .type "tuple" ∨ o.cls = .type "list") := by
  cases k with
  | true => obtain ⟨o, e, c, _⟩ := (show h.IsTuple a its from x); exact ⟨o, e, .inl c⟩
  | false => obtain ⟨o, e, c, _⟩ := (show h.IsList a its from x); exact ⟨o, e, .inr c⟩
theorem ItK.keep {h h' : Heap} {k : Bool} {it a : Addr} {i : Nat} (x : ItK h k it a i) (e : ∀ o, h.get? it = some o → h'.get? it = some o) : ItK h' k it a i := by
  cases k with
  | true => obtain ⟨o, q, c⟩ := (show h.IsTupleIter it a i from x); exact ⟨o, e o q, c⟩
  | false => obtain ⟨o, q, c⟩ := (show h.IsListIter it a i from x); exact ⟨o, e o q, c⟩
theorem kinds_apart {c : Value} (h : c = .type "tuple" ∨ c = .type "list") (g : c = .type "tuple_iterator" ∨ c = .type "list_iterator" ∨ c = .type "enumerate" ∨ c = .type "zip") : False := by
  have key : ∀ a b : String, (Value.type a = Value.type b) → a = b := fun a b e => Value.type.inj e
  rcases h with h | h <;> rcases g with g | g | g | g <;> (rw [h] at g; exact absurd (key _ _ g) (by decide))
theorem ap_it {h : Heap} {k k' : Bool} {it a b : Addr} {i : Nat} {its : Array Value} (x : ItK h k it a i) (y : StK h k' b its) : b ≠ it := fun e => by
  obtain ⟨o, q, c, _⟩ := x.obj
  obtain ⟨o', q', c'⟩ := y.obj
  rw [e, q] at q'
  cases q'
  exact kinds_apart c' (by rcases c with c | c; exact .inl c; exact .inr (.inl c))
theorem drawsK {prog : Program} {w : World} {A : Around} (hh : A.handled = none) (k : Bool) (it a : Addr) (hne : a ≠ it) (its : Array Value) :
    Draws prog w A it [it, a] its.size (fun i v => its[i]? = some v) (fun i h => ItK h k it a i ∧ StK h k a its) := by
  cases k with
  | true => exact Draws.tuple hh it a hne its
  | false => exact Draws.list hh it a hne its
section
variable {X : Cx} {pins : List (Addr × Obj)} {σ : L2.St} {H : Hp} {s : Shared}
theorem seqK {k : Bool} {a : Addr} {xs : List V} (I : Inv X pins σ H s) (h : SqK X.K H k a xs) : ∃ its : List Value, Vals xs its ∧ StK s.heap k a its.toArray := by
  cases k with
  | true =>
    obtain ⟨its, r, p, _⟩ := I.tuple (show SqT X.K H a xs from h)
    exact ⟨its, r, p⟩
  | false =>
    obtain ⟨its, r, p, _⟩ := I.list (show SqL X.K H a xs from h)
    exact ⟨its, r, p.isList⟩
theorem injK {k : Bool} {a : Addr} {xs ys : List V} (I : Inv X pins σ H s) (h : SqK X.K H k a xs) (g : SqK X.K H k a ys) : xs = ys := by
  cases k with
  | true => exact I.tuple_inj (show SqT X.K H a xs from h) g
  | false => exact I.list_inj (show SqL X.K H a xs from h) g
end

/-! ### enumerate -/
def IteK (K : PySem.W.Frag) (k : Bool) (a : Addr) : L2.It :=
  ⟨fun i H => ∃ (xs : List V) (x : V), SqK K H k a xs ∧ xs[i]? = some x,
   fun i H v H' => ∃ T x, v = .ref T ∧ H T = none ∧ H' = upd H T (.tup [.int (i : Nat), x]) ∧ ∀ xs, SqK K H k a xs → xs[i]? = some x,
   fun i H => ∃ xs : List V, SqK K H k a xs ∧ xs.length = i⟩
def EnSt (k : Bool) (a e it : Addr) (i : Nat) (h : Heap) : Prop := (∃ old, IsEnum h e it ((i : Nat) : Int) old) ∧ ItK h k it a i ∧ e ≠ it
theorem en_ne {h : Heap} {k k' : Bool} {a b e it : Addr} {i : Nat} {its : Array Value} (st : EnSt k a e it i h) (y : StK h k' b its) : b ≠ e := fun q => by
  obtain ⟨⟨old, he⟩, _⟩ := st
  obtain ⟨o', q', c'⟩ := y.obj
  rw [q, he] at q'
  cases q'
  exact kinds_apart c' (.inr (.inr (.inl rfl)))
theorem turn_enK {P : Program} {w : World} {K : PySem.W.Frag} {elts : List Expr} {kk : Nat} {tpos : Pos} (k : Bool) (a e it : Addr) :
    Turn P w K (.Tuple elts kk tpos) (IteK K k a) [e, it] e (EnSt k a e it) where
  mem := List.mem_cons_self
  obj := fun i h st b hb => by
    obtain ⟨⟨old, he⟩, hi, _⟩ := st
    rcases List.mem_cons.mp hb with q | hb
    · refine ⟨_, by rw [q]; exact he, fun v z => ?_⟩
      cases z
    · obtain ⟨o, q, _, fs, d⟩ := hi.obj
      exact ⟨o, by rw [List.mem_singleton.mp hb]; exact q, fun v z => by rw [d] at z; cases z⟩
  keep := fun i h h' st q => ⟨let ⟨old, he⟩ := st.1; ⟨old, q e List.mem_cons_self _ he⟩, st.2.1.keep fun o z => q it (List.mem_cons_of_mem _ List.mem_cons_self) o z, st.2.2⟩
  item := by
    intro X hP hw hK hc i pins s σ H E I hf st hg
    subst hP hw hK
    obtain ⟨xs, x, hq, hx⟩ := hg
    obtain ⟨its, rv, p⟩ := seqK I hq
    obtain ⟨u, hu, ru⟩ := rv.get hx
    have ni := ap_it st.2.1 p
    have ne := en_ne st p
    have hh : X.A.in1.handled = none := I.ok.hd hc
    have D := drawsK (prog := X.prog) (w := X.w) hh k it a ni its.toArray
    have G := GoesN.enumFrom (elts := elts) (x1 := kk) (pos := tpos) 0 D e st.2.2 (fun z => by
      rcases List.mem_cons.mp z with z | z
      · exact st.2.2 z
      · exact ne (List.mem_singleton.mp z).symm) List.mem_cons_self
    have hlt : i < its.toArray.size := by
      have := (List.getElem?_eq_some_iff.mp hu).1
      rw [List.size_toArray]; exact this
    refine G.goes i s _ E hlt ⟨?_, st.2.1, p⟩ fun v h' tk hY st' hk htk => ?_
    · obtain ⟨old, he⟩ := st.1
      exact ⟨old, by rw [Int.zero_add]; exact he⟩
    · obtain ⟨T, t, y, rfl, hT, hy, o, ho, hoc, n, hod⟩ := hY
      have ey : y = u := by
        have e1 : its.toArray[i]? = some u := by simpa using hu
        exact Option.some.inj (hy.symm.trans e1)
      subst ey
      have e0 : (0 : Int) + (i : Int) = (i : Int) := Int.zero_add _
      rw [e0] at hod
      have hnew : ObjOk X.prog X.w (upd H T (.tup [.int (i : Nat), x])) h' T (.tup [.int (i : Nat), x]) :=
        ⟨show 2 ≤ sizeLine from by decide, [.int i t, y], .cons ⟨_, rfl⟩ (.cons ru .nil), ⟨o, ho, hoc, n, hod⟩⟩
      have I1 := I.turnedNew (t' := tk) (ch := [e, it]) hk hf hT hnew
      have hn := I.hok.fresh hT
      refine ⟨.ref T, _, I1, rfl, ⟨T, x, rfl, hn, rfl, fun ys hy => by rw [injK I hy hq]; exact hx⟩, ⟨?_, st'.2.1, st.2.2⟩, fun b hb => ?_⟩
      · obtain ⟨old, he⟩ := st'.1
        refine ⟨old, ?_⟩
        rw [Int.zero_add] at he
        exact he
      · have hbT : b ≠ T := fun z => by
          have hlt : b < s.heap.objs.size := by
            rcases List.mem_cons.mp hb with q | hb
            · obtain ⟨old, he⟩ := st.1
              rw [q]; exact Heap.lt_size he
            · obtain ⟨o2, q, _⟩ := st.2.1.obj
              rw [List.mem_singleton.mp hb]; exact Heap.lt_size q
          rw [z] at hlt
          exact absurd (Nat.lt_of_lt_of_le hlt hT) (Nat.lt_irrefl _)
        rw [upd_ne hbT]
        exact (hf b hb).1
  done := by
    intro X hP hw hK hc i pins s σ H E I hf st hg
    subst hP hw hK
    obtain ⟨xs, hq, hx⟩ := hg
    obtain ⟨its, rv, p⟩ := seqK I hq
    have ni := ap_it st.2.1 p
    have ne := en_ne st p
    have hh : X.A.handled = none := I.ok.hd hc
    have hl := rv.length
    obtain ⟨old, he⟩ := st.1
    have D := drawsK (prog := X.prog) (w := X.w) (A := X.A.in1) hh k it a ni its.toArray
    have G := GoesN.enumFrom (elts := elts) (x1 := kk) (pos := tpos) 0 D e st.2.2 (fun z => by
      rcases List.mem_cons.mp z with z | z
      · exact st.2.2 z
      · exact ne (List.mem_singleton.mp z).symm) List.mem_cons_self
    have hi : i = its.toArray.size := by rw [List.size_toArray]; omega
    subst hi
    exact G.stops s _ E ⟨⟨old, by rw [Int.zero_add]; exact he⟩, st.2.1, p⟩ fun h' tk hk htk => I.turnedL (t' := tk) (ch := [e, it]) hk hf
  self := fun A i s Q E st h => by
    obtain ⟨old, he⟩ := st.1
    exact wpAny_pyIter_enum he h
set_option maxHeartbeats 1000000 in
theorem enum_new1 {v : Value} {o : Obj} {H : Heap → Prop} (B : Begins v o H) :
    Meets (Builtin.«enumerate.__new__» ⟨[.type "enumerate", v], []⟩) (fun _ R s => H s.heap ∧
      R (.ok (.ret (.ref (s.heap.push o).objs.size))) { s with heap := (s.heap.push o).push { cls := .type "enumerate", data := .fields #[.none, .bool false, .ref s.heap.objs.size, rawInt 0, .none, .none] } }) :=
  .of_wp fun prog w A R s h => by
    obtain ⟨hp, g, d, tk, os⟩ := s
    obtain ⟨h1, h⟩ := h
    have hsub := sub_enumerate
    have q1 : ∀ {A' : Around} {E : Value → Shared → Prop} {Q : Value → Shared → Prop}, Q (.ref hp.objs.size) ⟨hp.push o, g, d, tk, os⟩ → wpAny (model prog w) A' (pyIter v) Q E ⟨hp, g, d, tk, os⟩ :=
      fun q => B.iter prog w _ _ ⟨hp, g, d, tk, os⟩ _ h1 q
    wp_walk using q1
    refine wpAny_stack_any fun st => wpAny_pure ?_
    split
    · rename_i c _ _ _ _ _
      cases (c == Value.type "enumerate") <;> (wp_walk using q1; exact ⟨_, rfl, h⟩)
    · wp_walk using q1
      exact ⟨_, rfl, h⟩
def itObj (k : Bool) (a : Addr) : Obj := if k then { cls := .type "tuple_iterator", data := .fields #[.ref a, .int 0 0] } else { cls := .type "list_iterator", data := .fields #[.ref a, .int 0 0] }
theorem beginsK (k : Bool) (a : Addr) (its : Array Value) : Begins (.ref a) (itObj k a) fun h => StK h k a its := by
  cases k with
  | true => exact begins_tuple a its
  | false => exact begins_list a its
theorem itK_of {h : Heap} {k : Bool} {it a : Addr} (e : h.get? it = some (itObj k a)) : ItK h k it a 0 := by
  cases k with
  | true => exact ⟨_, e, rfl, rfl⟩
  | false => exact ⟨_, e, rfl, rfl⟩
section
variable {X : Cx} {pins : List (Addr × Obj)} {σ : L2.St} {H : Hp} {s : Shared}
theorem enum_made {k : Bool} {a : Addr} {xs : List V} {elts : List Expr} {kk : Nat} {tpos : Pos} {R : L2.It → Hp → Prop} (I : Inv X pins σ H s) (hq : SqK X.K H k a xs) (q : R (IteK X.K k a) H) :
    wpAny (model X.prog X.w) X.A (call (.type "enumerate") [.ref a]) (fun v s1 => wpAny (model X.prog X.w) X.A (pyIter v) (PIE X pins σ (.Tuple elts kk tpos) R) X.xe s1) X.xe s := by
  obtain ⟨its, rv, p⟩ := seqK I hq
  have B := beginsK k a its.toArray
  refine callType_new F.called_enumerate (by decide) (F.typeCall_enumerate_1 _) (F.newCall_enumerate_1 _) (fun obj => F.args_object_init_2 obj _) F.entry_enumerate_new (enum_new1 B) ⟨p, ?_⟩
  have hz : (s.heap.push (itObj k a)).objs.size = s.heap.objs.size + 1 := Heap.size_push ..
  show _ ∧ _
  rw [hz]
  have he : IsEnum ((s.heap.push (itObj k a)).push { cls := .type "enumerate", data := .fields #[.none, .bool false, .ref s.heap.objs.size, rawInt 0, .none, .none] }) (s.heap.objs.size + 1) s.heap.objs.size 0 .none := by
    have z := Heap.get?_push_size (s.heap.push (itObj k a)) (o := { cls := .type "enumerate", data := .fields #[.none, .bool false, .ref s.heap.objs.size, rawInt 0, .none, .none] }) rfl
    rw [hz] at z
    exact z
  refine ⟨⟨_, he, rfl⟩, wpAny_pyIter_enum he ?_⟩
  have hk : ∀ b o, s.heap.get? b = some o → ((s.heap.push (itObj k a)).push { cls := .type "enumerate", data := .fields #[.none, .bool false, .ref s.heap.objs.size, rawInt 0, .none, .none] }).get? b = some o :=
    fun b o x => Heap.get?_push_of_some _ (Heap.get?_push_of_some _ x)
  refine ⟨s.heap.objs.size + 1, [s.heap.objs.size + 1, s.heap.objs.size], _, _, H, rfl, I.kept (t' := s.toks) hk, turn_enK k a (s.heap.objs.size + 1) s.heap.objs.size, ⟨⟨.none, he⟩, itK_of (Heap.get?_push_of_some _ (Heap.get?_push_size _ B.free)), Nat.succ_ne_self _⟩, fun b hb => ?_, q⟩
  have hle : s.heap.objs.size ≤ b := by
    rcases List.mem_cons.mp hb with z | hb
    · rw [z]; exact Nat.le_succ _
    · rw [List.mem_singleton.mp hb]; exact Nat.le_refl _
  exact I.fpOk hle (I.hok.fresh hle)
end

/-! ### zip of two -/
def ItzK (K : PySem.W.Frag) (k l : Bool) (a b : Addr) : L2.It :=
  ⟨fun i H => ∃ (xs ys : List V) (x y : V), SqK K H k a xs ∧ SqK K H l b ys ∧ xs[i]? = some x ∧ ys[i]? = some y,
   fun i H v H' => ∃ T x y, v = .ref T ∧ H T = none ∧ H' = upd H T (.tup [x, y]) ∧ (∀ xs, SqK K H k a xs → xs[i]? = some x) ∧ ∀ ys, SqK K H l b ys → ys[i]? = some y,
   fun i H => ∃ xs ys : List V, SqK K H k a xs ∧ SqK K H l b ys ∧ i = min xs.length ys.length⟩
def ZiSt (k l : Bool) (a b z TI TO i1 i2 : Addr) (i : Nat) (h : Heap) : Prop :=
  IsZip h z TI TO .none ∧ IsTupOf2 h TI (.ref i1) (.ref i2) ∧ (∃ a1 a2, IsTupOf2 h TO a1 a2) ∧ ItK h k i1 a i ∧ ItK h l i2 b i
theorem turn_ziK {P : Program} {w : World} {K : PySem.W.Frag} {elts : List Expr} {kk : Nat} {tpos : Pos} {k l : Bool} {a b z TI TO i1 i2 : Addr} (S : ZipSep2 z TI TO i1 i2 [i1, a] [i2, b]) (na : a ≠ i1) (nb : b ≠ i2) :
    Turn P w K (.Tuple elts kk tpos) (ItzK K k l a b) [z, TI, TO, i1, i2] z (ZiSt k l a b z TI TO i1 i2) where
  mem := List.mem_cons_self
  obj := fun i h st c hc => by
    obtain ⟨h1, h2, ⟨a1, a2, h3⟩, h4, h5⟩ := st
    simp only [List.mem_cons, List.not_mem_nil, or_false] at hc
    rcases hc with q | q | q | q | q
    · exact ⟨_, by rw [q]; exact h1, fun v z => by cases z⟩
    · exact ⟨_, by rw [q]; exact h2, fun v z => by cases z⟩
    · exact ⟨_, by rw [q]; exact h3, fun v z => by cases z⟩
    · obtain ⟨o, e, _, fs, d⟩ := h4.obj
      exact ⟨o, by rw [q]; exact e, fun v z => by rw [d] at z; cases z⟩
    · obtain ⟨o, e, _, fs, d⟩ := h5.obj
      exact ⟨o, by rw [q]; exact e, fun v z => by rw [d] at z; cases z⟩
  keep := fun i h h' st q => by
    obtain ⟨h1, h2, ⟨a1, a2, h3⟩, h4, h5⟩ := st
    exact ⟨q z (by simp) _ h1, q TI (by simp) _ h2, ⟨a1, a2, q TO (by simp) _ h3⟩, h4.keep fun o e => q i1 (by simp) o e, h5.keep fun o e => q i2 (by simp) o e⟩
  item := by
    intro X hP hw hK hc i pins s σ H E I hf st hg
    subst hP hw hK
    obtain ⟨xs, ys, x, y, hqx, hqy, hx, hy⟩ := hg
    obtain ⟨its, rv, p⟩ := seqK I hqx
    obtain ⟨its2, rv2, p2⟩ := seqK I hqy
    obtain ⟨u, hu, ru⟩ := rv.get hx
    obtain ⟨u2, hu2, ru2⟩ := rv2.get hy
    have hh : X.A.in1.handled = none := I.ok.hd hc
    have D1 := drawsK (prog := X.prog) (w := X.w) hh k i1 a na its.toArray
    have D2 := drawsK (prog := X.prog) (w := X.w) hh l i2 b nb its2.toArray
    have G := GoesN.zip2 (elts := elts) (x1 := kk) (pos := tpos) S D1 D2
    obtain ⟨h1, h2, h3, h4, h5⟩ := st
    have hlt : i < min its.toArray.size its2.toArray.size := by
      have e1 := (List.getElem?_eq_some_iff.mp hu).1
      have e2 := (List.getElem?_eq_some_iff.mp hu2).1
      rw [List.size_toArray, List.size_toArray]
      omega
    refine G.goes i s _ E hlt ⟨h1, h2, h3, ⟨h4, p⟩, ⟨h5, p2⟩⟩ fun v h' tk hY st' hk htk => ?_
    obtain ⟨T, v1, v2, rfl, hT, e1, e2, o, ho, hoc, n, hod⟩ := hY
    have q1 : v1 = u := by
      have e3 : its.toArray[i]? = some u := by simpa using hu
      exact Option.some.inj (e1.symm.trans e3)
    have q2 : v2 = u2 := by
      have e3 : its2.toArray[i]? = some u2 := by simpa using hu2
      exact Option.some.inj (e2.symm.trans e3)
    subst q1 q2
    have hnew : ObjOk X.prog X.w (upd H T (.tup [x, y])) h' T (.tup [x, y]) := ⟨show 2 ≤ sizeLine from by decide, [v1, v2], .cons ru (.cons ru2 .nil), ⟨o, ho, hoc, n, hod⟩⟩
    have hkk : ∀ c o, c ∉ [z, TI, TO, i1, i2] → s.heap.get? c = some o → h'.get? c = some o := fun c o hc e => hk c o (fun m => hc (by
      simp only [List.mem_cons, List.not_mem_nil, or_false] at m ⊢
      rcases m with m | m | m | m
      · exact .inl m
      · exact .inr (.inr (.inl m))
      · exact .inr (.inr (.inr (.inl m)))
      · exact .inr (.inr (.inr (.inr m))))) e
    have I1 := I.turnedNew (t' := tk) (ch := [z, TI, TO, i1, i2]) hkk hf hT hnew
    have hn := I.hok.fresh hT
    refine ⟨.ref T, _, I1, rfl, ⟨T, x, y, rfl, hn, rfl, fun ls hl => by rw [injK I hl hqx]; exact hx, fun ls hl => by rw [injK I hl hqy]; exact hy⟩, ⟨st'.1, st'.2.1, st'.2.2.1, st'.2.2.2.1.1, st'.2.2.2.2.1⟩, fun c hcm => ?_⟩
    have hcT : c ≠ T := fun q => by
      have hlt : c < s.heap.objs.size := by
        have hcm' := hcm
        simp only [List.mem_cons, List.not_mem_nil, or_false] at hcm'
        rcases hcm' with m | m | m | m | m
        · rw [m]; exact Heap.lt_size h1
        · rw [m]; exact Heap.lt_size h2
        · obtain ⟨a1, a2, h3⟩ := h3
          rw [m]; exact Heap.lt_size h3
        · obtain ⟨o3, e3, _⟩ := h4.obj
          rw [m]; exact Heap.lt_size e3
        · obtain ⟨o3, e3, _⟩ := h5.obj
          rw [m]; exact Heap.lt_size e3
      rw [q] at hlt
      exact absurd (Nat.lt_of_lt_of_le hlt hT) (Nat.lt_irrefl _)
    rw [upd_ne hcT]
    exact (hf c hcm).1
  done := by
    intro X hP hw hK hc i pins s σ H E I hf st hg
    subst hP hw hK
    obtain ⟨xs, ys, hqx, hqy, hend⟩ := hg
    obtain ⟨its, rv, p⟩ := seqK I hqx
    obtain ⟨its2, rv2, p2⟩ := seqK I hqy
    have l1 := rv.length
    have l2 := rv2.length
    have hh : X.A.in1.handled = none := I.ok.hd hc
    have D1 := drawsK (prog := X.prog) (w := X.w) hh k i1 a na its.toArray
    have D2 := drawsK (prog := X.prog) (w := X.w) hh l i2 b nb its2.toArray
    have G := GoesN.zip2 (elts := elts) (x1 := kk) (pos := tpos) S D1 D2
    obtain ⟨h1, h2, h3, h4, h5⟩ := st
    have hi : i = min its.toArray.size its2.toArray.size := by rw [List.size_toArray, List.size_toArray]; omega
    subst hi
    refine G.stops s _ E ⟨h1, h2, h3, ⟨h4, p⟩, ⟨h5, p2⟩⟩ fun h' tk hk htk => I.turnedL (t' := tk) (ch := [z, TI, TO, i1, i2]) (fun c o hc e => hk c o (fun m => hc (by
      simp only [List.mem_cons, List.not_mem_nil, or_false] at m ⊢
      rcases m with m | m | m | m
      · exact .inl m
      · exact .inr (.inr (.inl m))
      · exact .inr (.inr (.inr (.inl m)))
      · exact .inr (.inr (.inr (.inr m))))) e) hf
  self := fun A i s Q E st h => wpAny_pyIter_zip st.1 h
section
variable {X : Cx} {pins : List (Addr × Obj)} {σ : L2.St} {H : Hp} {s : Shared}
theorem seqK_lt {k : Bool} {a : Addr} {xs : List V} (I : Inv X pins σ H s) (h : SqK X.K H k a xs) : a < s.heap.objs.size := by
  obtain ⟨its, _, p⟩ := seqK I h
  obtain ⟨o, e, _⟩ := p.obj
  exact Heap.lt_size e
theorem zip_made {k l : Bool} {a b : Addr} {xs ys : List V} {elts : List Expr} {kk : Nat} {tpos : Pos} {R : L2.It → Hp → Prop} (I : Inv X pins σ H s) (hqx : SqK X.K H k a xs) (hqy : SqK X.K H l b ys) (q : R (ItzK X.K k l a b) H) :
    wpAny (model X.prog X.w) X.A (call (.type "zip") [.ref a, .ref b]) (fun v s1 => wpAny (model X.prog X.w) X.A (pyIter v) (PIE X pins σ (.Tuple elts kk tpos) R) X.xe s1) X.xe s := by
  obtain ⟨its, rv, p⟩ := seqK I hqx
  obtain ⟨its2, rv2, p2⟩ := seqK I hqy
  have la := seqK_lt I hqx
  have lb := seqK_lt I hqy
  refine zip_begins2 (beginsK k a its.toArray) (beginsK l b its2.toArray) p p2 fun h' hz h1 h2 e1 e2 hsz hk => wpAny_pyIter_zip hz ?_
  have S : ZipSep2 (s.heap.objs.size + 4) (s.heap.objs.size + 2) (s.heap.objs.size + 3) s.heap.objs.size (s.heap.objs.size + 1) [s.heap.objs.size, a] [s.heap.objs.size + 1, b] :=
    zip_sep2 (fp1 := [a]) (fp2 := [b]) (fun c hc => by rw [List.mem_singleton.mp hc]; exact la) (fun c hc => by rw [List.mem_singleton.mp hc]; exact lb)
  refine ⟨s.heap.objs.size + 4, [s.heap.objs.size + 4, s.heap.objs.size + 2, s.heap.objs.size + 3, s.heap.objs.size, s.heap.objs.size + 1], _, _, H, rfl, I.kept (t' := s.toks) hk,
    turn_ziK S (Nat.ne_of_lt la) (Nat.ne_of_lt (Nat.lt_succ_of_lt lb)), ⟨hz, h1, ⟨_, _, h2⟩, itK_of e1, itK_of e2⟩, fun c hc => ?_, q⟩
  have hle : s.heap.objs.size ≤ c := by
    simp only [List.mem_cons, List.not_mem_nil, or_false] at hc
    rcases hc with z | z | z | z | z <;> rw [z]
    · exact Nat.le_add_right _ _
    · exact Nat.le_add_right _ _
    · exact Nat.le_add_right _ _
    · exact Nat.le_refl _
    · exact Nat.le_add_right _ _
  exact I.fpOk hle (I.hok.fresh hle)
end

/-! ### what is walked, for the texts -/
section
variable {X : Cx}
theorem pi_enumK {e : Expr} {ta : TA} {p pos tpos : Pos} {elts : List Expr} {kk : Nat} (hg : Gl X "enumerate") (hm : X.mg "enumerate" = none) (ha : PA X [e] ta) (hs : starEach [e] X.env = [(false, eval e X.env)]) :
    PI X (.Tuple elts kk tpos) (.Call (.Name "enumerate" p) [e] [] pos) (fun σ H R => ta σ H fun vs H1 => ∃ a k xs, vs = [.ref a] ∧ SqK X.K H1 k a xs ∧ R (IteK X.K k a) H1) := by
  refine ⟨fun pins s σ H R I h => ?_⟩
  refine Call_ (ld_blt I hg hm boot_enumerate (PyProof.Rows.callWith_type1 (thn (ha.run pos pins s σ H _ I h) fun us s1 ⟨vs, H1, I1, r1, q1⟩ => ?_) hs rfl))
  obtain ⟨a, k, xs, rfl, hq, q⟩ := q1
  obtain ⟨u, rfl, r⟩ := vals1 r1
  cases r
  exact enum_made I1 hq q
theorem pi_zipK {e e2 : Expr} {ta : TA} {p pos tpos : Pos} {elts : List Expr} {kk : Nat} (hg : Gl X "zip") (hm : X.mg "zip" = none) (ha : PA X [e, e2] ta)
    (hs : starEach [e, e2] X.env = (false, eval e X.env) :: starEach [e2] X.env) (hpl : (backTo pos (starEach [e2] X.env)).any (·.1) = false) :
    PI X (.Tuple elts kk tpos) (.Call (.Name "zip" p) [e, e2] [] pos) (fun σ H R => ta σ H fun vs H1 => ∃ a b k l xs ys, vs = [.ref a, .ref b] ∧ SqK X.K H1 k a xs ∧ SqK X.K H1 l b ys ∧ R (ItzK X.K k l a b) H1) := by
  refine ⟨fun pins s σ H R I h => ?_⟩
  refine Call_ (ld_blt I hg hm PyProof.Rows.boot_zip (PyProof.Rows.callWith_type1 (thn (ha.run pos pins s σ H _ I h) fun us s1 ⟨vs, H1, I1, r1, q1⟩ => ?_) hs hpl))
  obtain ⟨a, b, k, l, xs, ys, rfl, hx, hy, q⟩ := q1
  obtain ⟨u, u2, rfl, r, r2⟩ := vals2 r1
  cases r
  cases r2
  exact zip_made I1 hx hy q
end
/-! ### as walks -/
section
variable {K : PySem.W.Frag} {a b : Addr} {xs ys : List V} {k l : Bool}
theorem walk_enK : Walk (IteK K k a) xs.length (fun H => SqK K H k a xs) (YPair (fun i => some (.int (i : Nat))) (fun i => xs[i]?)) := by
  refine ⟨fun i _ hi q => ⟨xs, xs[i], q, by simp [hi]⟩, fun _ q => ⟨xs, q, rfl⟩, fun i H v H' _ q y => ?_⟩
  obtain ⟨T, x, h1, h2, h3, h4⟩ := y
  exact ⟨T, .int (i : Nat), x, h1, h2, h3, rfl, h4 xs q⟩
theorem walk_ziK : Walk (ItzK K k l a b) (min xs.length ys.length) (fun H => SqK K H k a xs ∧ SqK K H l b ys) (YPair (fun i => xs[i]?) (fun i => ys[i]?)) := by
  refine ⟨fun i _ hi q => ?_, fun _ q => ⟨xs, ys, q.1, q.2, rfl⟩, fun i H v H' _ q y => ?_⟩
  · have h1 : i < xs.length := by omega
    have h2 : i < ys.length := by omega
    exact ⟨xs, ys, xs[i], ys[i], q.1, q.2, by simp [h1], by simp [h2]⟩
  · obtain ⟨T, x, z, h1, h2, h3, h4, h5⟩ := y
    exact ⟨T, x, z, h1, h2, h3, h4 xs q.1, h5 ys q.2⟩
end

/-! ### zip of three -/
def YTrip (xs ys zs : Nat → Option V) : Nat → Hp → V → Hp → Prop := fun i H v H' => ∃ T x y z, v = .ref T ∧ H T = none ∧ H' = upd H T (.tup [x, y, z]) ∧ xs i = some x ∧ ys i = some y ∧ zs i = some z
def ItzK3 (K : PySem.W.Frag) (k l m : Bool) (a b c : Addr) : L2.It :=
  ⟨fun i H => ∃ (xs ys zs : List V) (x y z : V), SqK K H k a xs ∧ SqK K H l b ys ∧ SqK K H m c zs ∧ xs[i]? = some x ∧ ys[i]? = some y ∧ zs[i]? = some z,
   fun i H v H' => ∃ T x y z, v = .ref T ∧ H T = none ∧ H' = upd H T (.tup [x, y, z]) ∧ (∀ xs, SqK K H k a xs → xs[i]? = some x) ∧ (∀ ys, SqK K H l b ys → ys[i]? = some y) ∧ ∀ zs, SqK K H m c zs → zs[i]? = some z,
   fun i H => ∃ xs ys zs : List V, SqK K H k a xs ∧ SqK K H l b ys ∧ SqK K H m c zs ∧ i = min (min xs.length ys.length) zs.length⟩
def ZiSt3 (k l m : Bool) (a b c z TI TO i1 i2 i3 : Addr) (i : Nat) (h : Heap) : Prop :=
  IsZip h z TI TO .none ∧ IsTupOf3 h TI (.ref i1) (.ref i2) (.ref i3) ∧ (∃ a1 a2 a3, IsTupOf3 h TO a1 a2 a3) ∧ ItK h k i1 a i ∧ ItK h l i2 b i ∧ ItK h m i3 c i
theorem turn_ziK3 {P : Program} {w : World} {K : PySem.W.Frag} {elts : List Expr} {kk : Nat} {tpos : Pos} {k l m : Bool} {a b c z TI TO i1 i2 i3 : Addr} (S : ZipSep3 z TI TO i1 i2 i3 [i1, a] [i2, b] [i3, c]) (na : a ≠ i1) (nb : b ≠ i2) (nc : c ≠ i3) :
    Turn P w K (.Tuple elts kk tpos) (ItzK3 K k l m a b c) [z, TI, TO, i1, i2, i3] z (ZiSt3 k l m a b c z TI TO i1 i2 i3) where
  mem := List.mem_cons_self
  obj := fun i h st q hc => by
    obtain ⟨h1, h2, ⟨a1, a2, a3, h3⟩, h4, h5, h6⟩ := st
    simp only [List.mem_cons, List.not_mem_nil, or_false] at hc
    rcases hc with q | q | q | q | q | q
    · exact ⟨_, by rw [q]; exact h1, fun v z => by cases z⟩
    · exact ⟨_, by rw [q]; exact h2, fun v z => by cases z⟩
    · exact ⟨_, by rw [q]; exact h3, fun v z => by cases z⟩
    · obtain ⟨o, e, _, fs, d⟩ := h4.obj
      exact ⟨o, by rw [q]; exact e, fun v z => by rw [d] at z; cases z⟩
    · obtain ⟨o, e, _, fs, d⟩ := h5.obj
      exact ⟨o, by rw [q]; exact e, fun v z => by rw [d] at z; cases z⟩
    · obtain ⟨o, e, _, fs, d⟩ := h6.obj
      exact ⟨o, by rw [q]; exact e, fun v z => by rw [d] at z; cases z⟩
  keep := fun i h h' st q => by
    obtain ⟨h1, h2, ⟨a1, a2, a3, h3⟩, h4, h5, h6⟩ := st
    exact ⟨q z (by simp) _ h1, q TI (by simp) _ h2, ⟨a1, a2, a3, q TO (by simp) _ h3⟩, h4.keep fun o e => q i1 (by simp) o e, h5.keep fun o e => q i2 (by simp) o e, h6.keep fun o e => q i3 (by simp) o e⟩
  item := by
    intro X hP hw hK hc i pins s σ H E I hf st hg
    subst hP hw hK
    obtain ⟨xs, ys, zs, x, y, z3, hqx, hqy, hqz, hx, hy, hz⟩ := hg
    obtain ⟨its, rv, p⟩ := seqK I hqx
    obtain ⟨its2, rv2, p2⟩ := seqK I hqy
    obtain ⟨its3, rv3, p3⟩ := seqK I hqz
    obtain ⟨u, hu, ru⟩ := rv.get hx
    obtain ⟨u2, hu2, ru2⟩ := rv2.get hy
    obtain ⟨u3, hu3, ru3⟩ := rv3.get hz
    have hh : X.A.in1.handled = none := I.ok.hd hc
    have D1 := drawsK (prog := X.prog) (w := X.w) hh k i1 a na its.toArray
    have D2 := drawsK (prog := X.prog) (w := X.w) hh l i2 b nb its2.toArray
    have D3 := drawsK (prog := X.prog) (w := X.w) hh m i3 c nc its3.toArray
    have G := GoesN.zip3 (elts := elts) (x1 := kk) (pos := tpos) S D1 D2 D3
    obtain ⟨h1, h2, h3, h4, h5, h6⟩ := st
    have hlt : i < min (min its.toArray.size its2.toArray.size) its3.toArray.size := by
      have e1 := (List.getElem?_eq_some_iff.mp hu).1
      have e2 := (List.getElem?_eq_some_iff.mp hu2).1
      have e3 := (List.getElem?_eq_some_iff.mp hu3).1
      rw [List.size_toArray, List.size_toArray, List.size_toArray]
      omega
    refine G.goes i s _ E hlt ⟨h1, h2, h3, ⟨h4, p⟩, ⟨h5, p2⟩, ⟨h6, p3⟩⟩ fun v h' tk hY st' hk htk => ?_
    obtain ⟨T, v1, v2, v3, rfl, hT, e1, e2, e3, o, ho, hoc, n, hod⟩ := hY
    have q1 : v1 = u := by
      have e3 : its.toArray[i]? = some u := by simpa using hu
      exact Option.some.inj (e1.symm.trans e3)
    have q2 : v2 = u2 := by
      have e3 : its2.toArray[i]? = some u2 := by simpa using hu2
      exact Option.some.inj (e2.symm.trans e3)
    have q3 : v3 = u3 := by
      have e4 : its3.toArray[i]? = some u3 := by simpa using hu3
      exact Option.some.inj (e3.symm.trans e4)
    subst q1 q2 q3
    have hnew : ObjOk X.prog X.w (upd H T (.tup [x, y, z3])) h' T (.tup [x, y, z3]) := ⟨show 3 ≤ sizeLine from by decide, [v1, v2, v3], .cons ru (.cons ru2 (.cons ru3 .nil)), ⟨o, ho, hoc, n, hod⟩⟩
    have hkk : ∀ c o, c ∉ [z, TI, TO, i1, i2, i3] → s.heap.get? c = some o → h'.get? c = some o := fun c o hc e => hk c o (fun m => hc (by
      simp only [List.mem_cons, List.not_mem_nil, or_false] at m ⊢
      rcases m with m | m | m | m | m
      · exact .inl m
      · exact .inr (.inr (.inl m))
      · exact .inr (.inr (.inr (.inl m)))
      · exact .inr (.inr (.inr (.inr (.inl m))))
      · exact .inr (.inr (.inr (.inr (.inr m)))))) e
    have I1 := I.turnedNew (t' := tk) (ch := [z, TI, TO, i1, i2, i3]) hkk hf hT hnew
    have hn := I.hok.fresh hT
    refine ⟨.ref T, _, I1, rfl, ⟨T, x, y, z3, rfl, hn, rfl, fun ls hl => by rw [injK I hl hqx]; exact hx, fun ls hl => by rw [injK I hl hqy]; exact hy, fun ls hl => by rw [injK I hl hqz]; exact hz⟩, ⟨st'.1, st'.2.1, st'.2.2.1, st'.2.2.2.1.1, st'.2.2.2.2.1.1, st'.2.2.2.2.2.1⟩, fun c hcm => ?_⟩
    have hcT : c ≠ T := fun q => by
      have hlt : c < s.heap.objs.size := by
        have hcm' := hcm
        simp only [List.mem_cons, List.not_mem_nil, or_false] at hcm'
        rcases hcm' with m | m | m | m | m | m
        · rw [m]; exact Heap.lt_size h1
        · rw [m]; exact Heap.lt_size h2
        · obtain ⟨a1, a2, a3, h3⟩ := h3
          rw [m]; exact Heap.lt_size h3
        · obtain ⟨o3, e3, _⟩ := h4.obj
          rw [m]; exact Heap.lt_size e3
        · obtain ⟨o3, e3, _⟩ := h5.obj
          rw [m]; exact Heap.lt_size e3
        · obtain ⟨o3, e3, _⟩ := h6.obj
          rw [m]; exact Heap.lt_size e3
      rw [q] at hlt
      exact absurd (Nat.lt_of_lt_of_le hlt hT) (Nat.lt_irrefl _)
    rw [upd_ne hcT]
    exact (hf c hcm).1
  done := by
    intro X hP hw hK hc i pins s σ H E I hf st hg
    subst hP hw hK
    obtain ⟨xs, ys, zs, hqx, hqy, hqz, hend⟩ := hg
    obtain ⟨its, rv, p⟩ := seqK I hqx
    obtain ⟨its2, rv2, p2⟩ := seqK I hqy
    obtain ⟨its3, rv3, p3⟩ := seqK I hqz
    have l1 := rv.length
    have l2 := rv2.length
    have l3 := rv3.length
    have hh : X.A.in1.handled = none := I.ok.hd hc
    have D1 := drawsK (prog := X.prog) (w := X.w) hh k i1 a na its.toArray
    have D2 := drawsK (prog := X.prog) (w := X.w) hh l i2 b nb its2.toArray
    have D3 := drawsK (prog := X.prog) (w := X.w) hh m i3 c nc its3.toArray
    have G := GoesN.zip3 (elts := elts) (x1 := kk) (pos := tpos) S D1 D2 D3
    obtain ⟨h1, h2, h3, h4, h5, h6⟩ := st
    have hi : i = min (min its.toArray.size its2.toArray.size) its3.toArray.size := by rw [List.size_toArray, List.size_toArray, List.size_toArray]; omega
    subst hi
    refine G.stops s _ E ⟨h1, h2, h3, ⟨h4, p⟩, ⟨h5, p2⟩, ⟨h6, p3⟩⟩ fun h' tk hk htk => I.turnedL (t' := tk) (ch := [z, TI, TO, i1, i2, i3]) (fun c o hc e => hk c o (fun m => hc (by
      simp only [List.mem_cons, List.not_mem_nil, or_false] at m ⊢
      rcases m with m | m | m | m | m
      · exact .inl m
      · exact .inr (.inr (.inl m))
      · exact .inr (.inr (.inr (.inl m)))
      · exact .inr (.inr (.inr (.inr (.inl m))))
      · exact .inr (.inr (.inr (.inr (.inr m)))))) e) hf
  self := fun A i s Q E st h => wpAny_pyIter_zip st.1 h
section
variable {X : Cx} {pins : List (Addr × Obj)} {σ : L2.St} {H : Hp} {s : Shared}
theorem zip_made3 {k l m : Bool} {a b c : Addr} {xs ys zs : List V} {elts : List Expr} {kk : Nat} {tpos : Pos} {R : L2.It → Hp → Prop} (I : Inv X pins σ H s) (hqx : SqK X.K H k a xs) (hqy : SqK X.K H l b ys) (hqz : SqK X.K H m c zs) (q : R (ItzK3 X.K k l m a b c) H) :
    wpAny (model X.prog X.w) X.A (call (.type "zip") [.ref a, .ref b, .ref c]) (fun v s1 => wpAny (model X.prog X.w) X.A (pyIter v) (PIE X pins σ (.Tuple elts kk tpos) R) X.xe s1) X.xe s := by
  obtain ⟨its, rv, p⟩ := seqK I hqx
  obtain ⟨its2, rv2, p2⟩ := seqK I hqy
  obtain ⟨its3, rv3, p3⟩ := seqK I hqz
  have la := seqK_lt I hqx
  have lb := seqK_lt I hqy
  have lc := seqK_lt I hqz
  refine zip_begins3 (beginsK k a its.toArray) (beginsK l b its2.toArray) (beginsK m c its3.toArray) p p2 p3 fun h' hz h1 h2 e1 e2 e3 hsz hk => wpAny_pyIter_zip hz ?_
  have S : ZipSep3 (s.heap.objs.size + 5) (s.heap.objs.size + 3) (s.heap.objs.size + 4) s.heap.objs.size (s.heap.objs.size + 1) (s.heap.objs.size + 2) [s.heap.objs.size, a] [s.heap.objs.size + 1, b] [s.heap.objs.size + 2, c] :=
    zip_sep3 (fp1 := [a]) (fp2 := [b]) (fp3 := [c]) (fun c hc => by rw [List.mem_singleton.mp hc]; exact la) (fun c hc => by rw [List.mem_singleton.mp hc]; exact lb) (fun c hc => by rw [List.mem_singleton.mp hc]; exact lc)
  refine ⟨s.heap.objs.size + 5, [s.heap.objs.size + 5, s.heap.objs.size + 3, s.heap.objs.size + 4, s.heap.objs.size, s.heap.objs.size + 1, s.heap.objs.size + 2], _, _, H, rfl, I.kept (t' := s.toks) hk,
    turn_ziK3 S (Nat.ne_of_lt la) (Nat.ne_of_lt (Nat.lt_succ_of_lt lb)) (Nat.ne_of_lt (Nat.lt_succ_of_lt (Nat.lt_succ_of_lt lc))), ⟨hz, h1, ⟨_, _, _, h2⟩, itK_of e1, itK_of e2, itK_of e3⟩, fun c hc => ?_, q⟩
  have hle : s.heap.objs.size ≤ c := by
    simp only [List.mem_cons, List.not_mem_nil, or_false] at hc
    rcases hc with z | z | z | z | z | z <;> rw [z]
    · exact Nat.le_add_right _ _
    · exact Nat.le_add_right _ _
    · exact Nat.le_add_right _ _
    · exact Nat.le_refl _
    · exact Nat.le_add_right _ _
    · exact Nat.le_add_right _ _
  exact I.fpOk hle (I.hok.fresh hle)
theorem valsT {x y z : V} {us : List Value} (r : Vals [x, y, z] us) : ∃ u w' t', us = [u, w', t'] ∧ RelV x u ∧ RelV y w' ∧ RelV z t' := by
  cases r with
  | cons r1 r2 =>
    obtain ⟨u, w', rfl, r3, r4⟩ := vals2 r2
    exact ⟨_, u, w', rfl, r1, r3, r4⟩
theorem pi_zipK3 {X : Cx} {e e2 e3 : Expr} {ta : TA} {p pos tpos : Pos} {elts : List Expr} {kk : Nat} (hg : Gl X "zip") (hm : X.mg "zip" = none) (ha : PA X [e, e2, e3] ta)
    (hs : starEach [e, e2, e3] X.env = (false, eval e X.env) :: starEach [e2, e3] X.env) (hpl : (backTo pos (starEach [e2, e3] X.env)).any (·.1) = false) :
    PI X (.Tuple elts kk tpos) (.Call (.Name "zip" p) [e, e2, e3] [] pos) (fun σ H R => ta σ H fun vs H1 => ∃ a b c k l m xs ys zs, vs = [.ref a, .ref b, .ref c] ∧ SqK X.K H1 k a xs ∧ SqK X.K H1 l b ys ∧ SqK X.K H1 m c zs ∧ R (ItzK3 X.K k l m a b c) H1) := by
  refine ⟨fun pins s σ H R I h => ?_⟩
  refine Call_ (ld_blt I hg hm PyProof.Rows.boot_zip (PyProof.Rows.callWith_type1 (thn (ha.run pos pins s σ H _ I h) fun us s1 ⟨vs, H1, I1, r1, q1⟩ => ?_) hs hpl))
  obtain ⟨a, b, c, k, l, m, xs, ys, zs, rfl, hx, hy, hz, q⟩ := q1
  obtain ⟨u, u2, u3, rfl, r, r2, r3⟩ := valsT r1
  cases r
  cases r2
  cases r3
  exact zip_made3 I1 hx hy hz q
end
section
variable {K : PySem.W.Frag} {a b c : Addr} {xs ys zs : List V} {k l m : Bool}
theorem walk_ziK3 : Walk (ItzK3 K k l m a b c) (min (min xs.length ys.length) zs.length) (fun H => SqK K H k a xs ∧ SqK K H l b ys ∧ SqK K H m c zs) (YTrip (fun i => xs[i]?) (fun i => ys[i]?) (fun i => zs[i]?)) := by
  refine ⟨fun i _ hi q => ?_, fun _ q => ⟨xs, ys, zs, q.1, q.2.1, q.2.2, rfl⟩, fun i H v H' _ q y => ?_⟩
  · have h1 : i < xs.length := by omega
    have h2 : i < ys.length := by omega
    have h3 : i < zs.length := by omega
    exact ⟨xs, ys, zs, xs[i], ys[i], zs[i], q.1, q.2.1, q.2.2, by simp [h1], by simp [h2], by simp [h3]⟩
  · obtain ⟨T, x, z, t, h1, h2, h3, h4, h5, h6⟩ := y
    exact ⟨T, x, z, t, h1, h2, h3, h4 xs q.1, h5 ys q.2.1, h6 zs q.2.2⟩
end
end PC
set_option Elab.async false
set_option linter.all false
set_option maxRecDepth 100000
/-! PyCore, part 7: the texts of expressions mean what denE says. -/
namespace PC
open PySem PySem.Spec PyProof.Rows L2

section
variable {K : PySem.W.Frag} {Mo : Addr → Prop} {pins : Nat → Addr} {env env' env'' : En} {σ : L2.St} {H H' H'' : Hp} {r : R} {d : D} {v : V}
theorem Kp.back {O : Addr → Prop} (k : Kp O H H') (om : OM O H) {p : Addr} (h : H' p = none) : H p = none := by
  cases e : H p with
  | none => rfl
  | some o =>
    by_cases ho : O p
    · obtain ⟨o1, e1, m1⟩ := om p ho
      obtain ⟨o2, e2, _⟩ := k.wri p o1 ho e1 m1
      rw [h] at e2; cases e2
    · have := k.old p o ho e
      rw [h] at this; cases this
theorem Corr.none_back (c : Corr K Mo pins env σ H) (s : Stp env env' σ H H') {p : Addr} (h : H' p = none) : H p = none := s.kp.back c.om h
theorem rr_lift (c : Corr K Mo pins env σ H) (s : Stp env env' σ H H') (h : RR K Mo env σ H r v) : RR K Mo env' σ H' r v := by
  cases r with
  | v d => exact c.stpRep s h
  | b i =>
    obtain ⟨e, t, xs, e2⟩ := h
    obtain ⟨ys, e3⟩ := s.own i t xs e2
    exact ⟨e, t, ys, e3⟩
theorem rr_view (c : Corr K Mo pins env σ H) (h : RR K Mo env σ H r v) (hv : view env r = some d) : VR K (MM Mo env σ) H d v := by
  cases r with
  | v e =>
    cases hv
    exact Rep.vr h
  | b i =>
    obtain ⟨e, t, xs, e2⟩ := h
    simp only [view, e2] at hv
    cases hv
    obtain ⟨p, o, e3, e4, e5, _⟩ := c.ow i t d e2
    rw [e] at e3
    cases e3
    cases d with
    | lst ys =>
      obtain ⟨vs, rfl, e6⟩ := e5
      exact ⟨p, vs, rfl, e4, e6⟩
    | dic t ks ds =>
      obtain ⟨vs, e6, e7⟩ := e5
      exact ⟨p, vs, o, rfl, .inl e4, e6, e7⟩
    | non => exact False.elim e5
    | bl _ => exact False.elim e5
    | int _ => exact False.elim e5
    | str _ => exact False.elim e5
    | tup _ => exact False.elim e5
    | scr _ => exact False.elim e5
theorem rr_sol (h : RR K Mo env σ H r v) (hv : sol r = some d) : Rep K (MM Mo env σ) H d v := by
  cases r with
  | v e => cases hv; exact h
  | b i => cases hv
theorem Corr.plus (c : Corr K Mo pins env σ H) {p : Addr} (hp : H p = none) (ex : Exh H H') {o : HO} (h : H' p = some o) (hm : isM o) : Corr K (fun a => Mo a ∨ a = p) pins env σ H' where
  len := c.len
  al := fun a ha => by
    rcases ha with ha | ha
    · obtain ⟨o1, e, m⟩ := c.al a ha
      exact ⟨o1, ex a o1 e, m⟩
    · rw [ha]; exact ⟨o, h, hm⟩
  vl := fun i d e => by
    obtain ⟨v, e1, r⟩ := c.vl i d e
    refine ⟨v, e1, Rep.lift (O := Own env σ) (.ex ex) c.om (fun a h => .inr h) (fun a h => ?_) r⟩
    rcases h with (h | h) | h
    · exact .inl (.inl h)
    · exact .inr (by rw [h]; exact hp)
    · exact .inl (.inr h)
  ow := fun i t xs e => by
    obtain ⟨q, vs, e1, e2, r, n, tg⟩ := c.ow i t xs e
    refine ⟨q, vs, e1, ex _ _ e2, RepO.lift (O := Own env σ) (.ex ex) c.om (fun a h => .inr h) (fun a h => ?_) r, fun z y => ?_, fun k z => ⟨(tg k z).1, .inl (tg k z).2⟩⟩
    · rcases h with (h | h) | h
      · exact .inl (.inl h)
      · exact .inr (by rw [h]; exact hp)
      · exact .inl (.inr h)
    · rcases y with y | y
      · exact n z y
      · rw [y, hp] at e2; cases e2
  ds := c.ds
theorem Corr.frFrom (c : Corr K Mo pins env σ H) (s : Stp env env' σ H H') (c' : Corr K Mo pins env' σ H') (h : FR K Mo pins env'' σ H' H'' r v) : FR K Mo pins env'' σ H H'' r v := fun xs e hc => by
  obtain ⟨p, vs, e1, e2, e3⟩ := h xs e hc
  exact ⟨p, vs, e1, c.none_back s e2, e3⟩
theorem fr_of (c : Corr K Mo pins env σ H) (ex : Exh H H') (h : FrL K (MM Mo env σ) H H' d v) : FR K Mo pins env σ H H' (.v d) v := fun xs e hc => by
  cases e
  obtain ⟨p, o, e1, e2, e3, e4⟩ := h hc
  refine ⟨p, o, e1, e2, e3, c.plus e2 ex e3 e4.isM, e4.lift (O := fun _ => False) (.ex fun _ _ e => e) (fun _ z => z.elim) (fun _ z => z.elim) fun a z => .inl ?_⟩
  rcases z with (z | z) | z
  · exact .inl (.inl z)
  · exact .inr z
  · exact .inl (.inr z)
end
theorem PE.imp {X : Cx} {e : Expr} {t t' : TE} (h : PE X e t) (w : ∀ σ H Q, t' σ H Q → t σ H Q) : PE X e t' := ⟨fun pins s σ H Q I q => h.run pins s σ H Q I (w σ H Q q)⟩
theorem PA.imp {X : Cx} {e : List Expr} {t t' : TA} (h : PA X e t) (w : ∀ σ H Q, t' σ H Q → t σ H Q) : PA X e t' := ⟨fun pos pins s σ H Q I q => h.run pos pins s σ H Q I (w σ H Q q)⟩
theorem PT.imp {X : Cx} {e : Expr} {t t' : TT} (h : PT X e t) (w : ∀ σ H Q, t' σ H Q → t σ H Q) : PT X e t' := ⟨fun pins s σ H Q I q => h.run pins s σ H Q I (w σ H Q q)⟩

/-! ### the checks, read -/
theorem and3 {a b c : Bool} (h : (a && b && c) = true) : a = true ∧ b = true ∧ c = true := by
  cases a <;> cases b <;> cases c <;> first | exact ⟨rfl, rfl, rfl⟩ | cases h
theorem and2 {a b : Bool} (h : (a && b) = true) : a = true ∧ b = true := by
  cases a <;> cases b <;> first | exact ⟨rfl, rfl⟩ | cases h
theorem and4 {a b c d : Bool} (h : (a && b && c && d) = true) : a = true ∧ b = true ∧ c = true ∧ d = true := by
  cases a <;> cases b <;> cases c <;> cases d <;> first | exact ⟨rfl, rfl, rfl, rfl⟩ | cases h
theorem okN_1 {x : Str} (h : okN x = true) : (x == ("__debug__" : Str)) = false := by
  unfold okN at h
  have := (and2 h).1
  simpa using this
theorem okN_2 {x : Str} (h : okN x = true) : (x == ("__classdict__" : Str)) = false := by
  unfold okN at h
  have := (and2 h).2
  simpa using this
theorem visK_vis {sc : Scope} {x : Str} (h : visK sc x = true) : Vis sc x := by
  unfold visK at h
  split at h
  · exact .inl (by assumption)
  · exact .inr (.inl (by assumption))
  · exact .inr (.inr (by assumption))
  · cases h
theorem locK_loc {sc : Scope} {x : Str} (h : locK sc x = true) : Loc sc x := by
  unfold locK at h
  split at h
  · exact .inl (by assumption)
  · exact .inr (by assumption)
  · cases h
theorem glK_gl {X : Cx} {sc : Scope} {x : Str} (hsc : X.env.scope = sc) (h : glK sc x = true) : Gl X x := by
  unfold glK at h
  split at h
  · show X.env.scope.names.lookup x = _
    rw [hsc]
    assumption
  · cases h
theorem nameIs_of {sc : Scope} {e : Expr} {x : Str} (h : nameIs sc e x = true) : ∃ p, e = .Name x p ∧ glK sc x = true ∧ okN x = true := by
  unfold nameIs at h
  split at h
  · obtain ⟨h1, h2, h3⟩ := and3 h
    have e1 := of_decide_eq_true h1
    subst e1
    exact ⟨_, rfl, h2, h3⟩
  · cases h
section
variable {S : List FnS} {G : List (Str × D)} {N : List Str}
theorem chk_star {c : Ex} {sc : Scope} {x : Expr} {p : Pos} : chkE S G N c sc (.Starred x p) = false := by
  cases c <;> first | rfl | simp [chkE, nameIs]
theorem chk_slice {c : Ex} {sc : Scope} {x y z : Option Expr} {p : Pos} : chkE S G N c sc (.Slice x y z p) = false := by
  cases c <;> first | rfl | simp [chkE, nameIs]
theorem chk_set {c : Ex} {sc : Scope} {xs : List Expr} {k : Nat} {p : Pos} : chkE S G N c sc (.Set xs k p) = false := by
  cases c <;> first | rfl | simp [chkE, nameIs]
theorem star_cons {e : Expr} {es : List Expr} {env : Env} (h : ∀ x p, e ≠ .Starred x p) : starEach (e :: es) env = (false, eval e env) :: starEach es env := by
  cases e <;> first | rfl | exact absurd rfl (h _ _)
theorem chk_ns {c : Ex} {sc : Scope} {e : Expr} (h : chkE S G N c sc e = true) : ∀ x p, e ≠ .Starred x p := fun x p z => by
  rw [z, chk_star] at h
  cases h
theorem chk_plain {c : Ex} {sc : Scope} {e : Expr} (h : chkE S G N c sc e = true) : PlainIx e := fun o i => by
  cases e <;> first | rfl | (rw [chk_slice] at h; cases h)
theorem chk_nomark {c : Ex} {sc : Scope} {e : Expr} (h : chkE S G N c sc e = true) (op : CmpOp) : behindInMarks op e = false := by
  cases e <;> first | rfl | (rw [chk_set] at h; cases h)
theorem chk_fold {c : Ex} {sc : Scope} {e : Expr} (h : chkE S G N c sc e = true) (env : Env) : ∀ x, foldedSetIterable e env x = pure x := fun x => by
  cases e <;> first | rfl | (rw [chk_set] at h; cases h)
theorem chkEs_cons {a : Ex} {r : Es} {sc : Scope} {es : List Expr} (h : chkEs S G N (.cons a r) sc es = true) : ∃ e l, es = e :: l ∧ chkE S G N a sc e = true ∧ chkEs S G N r sc l = true := by
  cases es with
  | nil => simp [chkEs] at h
  | cons e l =>
    have h' : (chkE S G N a sc e && chkEs S G N r sc l) = true := by simpa [chkEs] using h
    exact ⟨e, l, rfl, (and2 h').1, (and2 h').2⟩
theorem chkEs_nil {sc : Scope} {es : List Expr} (h : chkEs S G N .nil sc es = true) : es = [] := by
  cases es with
  | nil => rfl
  | cons e l => simp [chkEs] at h
theorem chkEs_star : ∀ {c : Es} {sc : Scope} {es : List Expr}, chkEs S G N c sc es = true → ∀ (env : Env) (pos : Pos), (backTo pos (starEach es env)).any (·.1) = false
  | .nil, sc, es, h, env, pos => by
    rw [chkEs_nil h]
    rfl
  | .cons a r, sc, es, h, env, pos => by
    obtain ⟨e, l, rfl, h1, h2⟩ := chkEs_cons h
    have ih := chkEs_star h2 env pos
    rw [star_cons (chk_ns h1)]
    show ((false : Bool) || (backTo pos (starEach l env)).any (·.1)) = false
    rw [ih]
    rfl
end
theorem conK_v {k : Const} {d : D} (h : conK k d = true) : (k = .none ∧ d = .non) ∨ (∃ b, k = .bool b ∧ d = .bl b) ∨ (∃ i, k = .int i ∧ d = .int i) ∨ (∃ x, k = .str x ∧ d = .str x) := by
  unfold conK at h
  split at h
  · exact .inl ⟨rfl, rfl⟩
  · exact .inr (.inl ⟨_, rfl, by rw [beq_iff_eq.mp h]⟩)
  · exact .inr (.inr (.inl ⟨_, rfl, by rw [of_decide_eq_true h]⟩))
  · exact .inr (.inr (.inr ⟨_, rfl, by rw [of_decide_eq_true h]⟩))
  · cases h
theorem pe_con {X : Cx} {k : Const} {d : D} {j : Nat} {pos : Pos} (h : conK k d = true) : PE X (.Constant k j pos) (tC (flatV d)) ∧ isFlat d = true := by
  rcases conK_v h with ⟨rfl, rfl⟩ | ⟨b, rfl, rfl⟩ | ⟨i, rfl, rfl⟩ | ⟨x, rfl, rfl⟩
  · exact ⟨pe_non, rfl⟩
  · exact ⟨pe_bl, rfl⟩
  · exact ⟨pe_int, rfl⟩
  · exact ⟨pe_str, rfl⟩
theorem opK_eq {op : Operator} {o : BOp} (h : opK op o = true) : op = opOf o := by
  cases op <;> cases o <;> first | rfl | cases h
theorem copK_eq {op : CmpOp} {o : COp} (h : copK op o = true) : op = copOf o := by
  cases op <;> cases o <;> first | rfl | cases h

section
variable {F : CallF} {K : PySem.W.Frag} {Mo : Addr → Prop} {pins : Nat → Addr} {env env' : En} {σ : L2.St} {H H' : Hp}
theorem rrs_lift (c : Corr K Mo pins env σ H) (s : Stp env env' σ H H') : ∀ {rs : List R} {vs : List V}, RRs K Mo env σ H rs vs → RRs K Mo env' σ H' rs vs
  | [], _, h => h
  | r :: rs, _, h => by
    obtain ⟨v, w, e, h1, h2⟩ := h
    exact ⟨v, w, e, rr_lift c s h1, rrs_lift c s h2⟩
theorem rrs_len : ∀ {rs : List R} {vs : List V}, RRs K Mo env σ H rs vs → vs.length = rs.length
  | [], vs, h => by
    have e : vs = [] := h
    rw [e]; rfl
  | r :: rs, _, h => by
    obtain ⟨v, w, e, _, h2⟩ := h
    rw [e, List.length_cons, List.length_cons, rrs_len h2]
theorem mapM_cons {α β : Type} {f : α → Option β} {a : α} {l : List α} {bs : List β} (h : (a :: l).mapM f = some bs) : ∃ b r, f a = some b ∧ l.mapM f = some r ∧ bs = b :: r := by
  rw [List.mapM_cons] at h
  obtain ⟨b, e1, h⟩ := obind h
  obtain ⟨r, e2, h⟩ := obind h
  exact ⟨b, r, e1, e2, by cases h; rfl⟩
theorem rrs_sol : ∀ {rs : List R} {vs : List V} {ds : List D}, RRs K Mo env σ H rs vs → rs.mapM sol = some ds → Reps K (MM Mo env σ) H ds vs
  | [], vs, ds, h, e => by
    rw [List.mapM_nil] at e
    cases e
    exact h
  | r :: rs, _, ds, h, e => by
    obtain ⟨v, w, e0, h1, h2⟩ := h
    obtain ⟨d, l, e1, e2, rfl⟩ := mapM_cons e
    exact ⟨v, w, e0, rr_sol h1 e1, rrs_sol h2 e2⟩
theorem rrs_view (c : Corr K Mo pins env σ H) : ∀ {rs : List R} {vs : List V} {ds : List D}, RRs K Mo env σ H rs vs → rs.mapM (view env) = some ds → VRs K (MM Mo env σ) H ds vs
  | [], vs, ds, h, e => by
    rw [List.mapM_nil] at e
    cases e
    exact h
  | r :: rs, _, ds, h, e => by
    obtain ⟨v, w, e0, h1, h2⟩ := h
    obtain ⟨d, l, e1, e2, rfl⟩ := mapM_cons e
    exact ⟨v, w, e0, rr_view c h1 e1, rrs_view c h2 e2⟩
end
/-! ### a call's arguments, and what they are behind it -/
section
variable {K : PySem.W.Frag} {Mo : Addr → Prop} {pins : Nat → Addr} {env env' : En} {σ : L2.St} {H H' : Hp}
theorem argOf_v {e : En} {d : D} {a : Sl} (h : argOf e (.v d) = some a) : a = .val d := by
  cases h; rfl
theorem argOf_b {e : En} {i : Nat} {a : Sl} (h : argOf e (.b i) = some a) : ∃ t xs, e[i]? = some (.own t xs) ∧ a = .own none xs := by
  unfold argOf at h
  simp only at h
  split at h
  · cases h
    exact ⟨_, _, by assumption, rfl⟩
  · cases h
theorem argsOf_cons {e : En} {r : R} {rs : List R} {as : List Sl} (h : argsOf e (r :: rs) = some as) : ∃ a l, argOf e r = some a ∧ argsOf e rs = some l ∧ as = a :: l := by
  unfold argsOf at h
  obtain ⟨a, e1, h⟩ := obind h
  obtain ⟨l, e2, h⟩ := omap h
  exact ⟨a, l, e1, e2, h.symm⟩
theorem argsOf_len {e : En} : ∀ {rs : List R} {as : List Sl}, argsOf e rs = some as → as.length = rs.length
  | [], as, h => by cases h; rfl
  | r :: rs, as, h => by
    obtain ⟨a, l, _, h2, rfl⟩ := argsOf_cons h
    rw [List.length_cons, List.length_cons, argsOf_len h2]
theorem argsOf_rep (c : Corr K Mo pins env σ H) : ∀ {rs : List R} {as : List Sl} {vs : List V}, argsOf env rs = some as → RRs K Mo env σ H rs vs → ARs K (MM Mo env σ) H as vs
  | [], as, vs, h, g => by
    cases h
    exact g
  | r :: rs, as, vs, h, g => by
    obtain ⟨a, l, h1, h2, rfl⟩ := argsOf_cons h
    obtain ⟨v, w, e, g1, g2⟩ := g
    have ih := argsOf_rep c h2 g2
    cases r with
    | v d =>
      rw [argOf_v h1]
      exact ⟨v, w, e, g1, ih⟩
    | b i =>
      obtain ⟨t, xs, e1, e2⟩ := argOf_b h1
      rw [e2]
      obtain ⟨p, ws, e3, e4, e5, _⟩ := c.ow i t xs e1
      obtain ⟨e6, _⟩ := g1
      rw [e3] at e6
      have e7 : v = .ref p := (Option.some.inj (Option.some.inj e6)).symm
      exact ⟨p, ws, w, by rw [e, e7], .inr ⟨i, t, xs, e1, e3⟩, e4, e5, ih⟩
/-- an own argument: which slot -/
theorem argsOf_own {e : En} : ∀ {rs : List R} {as : List Sl} {k : Nat} {t : Option Nat} {xs : D}, argsOf e rs = some as → as[k]? = some (.own t xs) → ∃ i, rs[k]? = some (.b i)
  | [], as, k, t, xs, h, g => by
    cases h
    simp at g
  | r :: rs, as, 0, t, xs, h, g => by
    obtain ⟨a, l, h1, h2, rfl⟩ := argsOf_cons h
    cases r with
    | v d => rw [argOf_v h1] at g; simp at g
    | b i => exact ⟨i, rfl⟩
  | r :: rs, as, k + 1, t, xs, h, g => by
    obtain ⟨a, l, h1, h2, rfl⟩ := argsOf_cons h
    obtain ⟨i, e⟩ := argsOf_own h2 (k := k) (t := t) (xs := xs) (by simpa using g)
    exact ⟨i, by simpa using e⟩
theorem argsOf_at {e : En} : ∀ {rs : List R} {as : List Sl} {k i : Nat}, argsOf e rs = some as → rs[k]? = some (.b i) → ∃ t xs, e[i]? = some (.own t xs) ∧ as[k]? = some (.own none xs)
  | [], as, k, i, h, g => by simp at g
  | r :: rs, as, 0, i, h, g => by
    obtain ⟨a, l, h1, h2, rfl⟩ := argsOf_cons h
    cases g
    obtain ⟨t, xs, e1, e2⟩ := argOf_b h1
    exact ⟨t, xs, e1, by rw [e2]; rfl⟩
  | r :: rs, as, k + 1, i, h, g => by
    obtain ⟨a, l, h1, h2, rfl⟩ := argsOf_cons h
    obtain ⟨t, xs, e1, e2⟩ := argsOf_at h2 (k := k) (i := i) (by simpa using g)
    exact ⟨t, xs, e1, by simpa using e2⟩
theorem rrs_at : ∀ {rs : List R} {vs : List V} {k i : Nat}, RRs K Mo env σ H rs vs → rs[k]? = some (.b i) → ∃ v, vs[k]? = some v ∧ σ[i]? = some (some v)
  | [], vs, k, i, h, g => by simp at g
  | r :: rs, _, 0, i, h, g => by
    obtain ⟨v, w, e, h1, h2⟩ := h
    cases g
    exact ⟨v, by rw [e]; rfl, h1.1⟩
  | r :: rs, _, k + 1, i, h, g => by
    obtain ⟨v, w, e, h1, h2⟩ := h
    obtain ⟨u, e1, e2⟩ := rrs_at h2 (k := k) (i := i) (by simpa using g)
    exact ⟨u, by rw [e]; simpa using e1, e2⟩
theorem slots_mem : ∀ {rs : List R} {k i : Nat}, rs[k]? = some (.b i) → i ∈ slotsOf rs
  | [], k, i, h => by simp at h
  | r :: rs, 0, i, h => by
    cases h
    exact List.mem_cons_self
  | .v d :: rs, k + 1, i, h => slots_mem (rs := rs) (k := k) (by simpa using h)
  | .b j :: rs, k + 1, i, h => List.mem_cons_of_mem _ (slots_mem (rs := rs) (k := k) (by simpa using h))
theorem slots_at : ∀ {rs : List R} {i : Nat}, i ∈ slotsOf rs → ∃ k : Nat, rs[k]? = some (R.b i)
  | [], i, h => by cases h
  | .v d :: rs, i, h => by
    obtain ⟨k, e⟩ := slots_at (rs := rs) h
    exact ⟨k + 1, by simpa using e⟩
  | .b j :: rs, i, h => by
    rcases List.mem_cons.mp h with e | h
    · exact ⟨0, by rw [e]; rfl⟩
    · obtain ⟨k, e⟩ := slots_at (rs := rs) h
      exact ⟨k + 1, by simpa using e⟩
theorem slots_inj : ∀ {rs : List R} {k l i : Nat}, (slotsOf rs).Nodup → rs[k]? = some (.b i) → rs[l]? = some (.b i) → k = l
  | [], k, l, i, _, h, _ => by simp at h
  | .v d :: rs, 0, l, i, _, h, _ => by cases h
  | .v d :: rs, k + 1, 0, i, _, _, g => by cases g
  | .v d :: rs, k + 1, l + 1, i, n, h, g => congrArg (· + 1) (slots_inj (rs := rs) (k := k) (l := l) (i := i) n (by simpa using h) (by simpa using g))
  | .b j :: rs, 0, 0, i, _, _, _ => rfl
  | .b j :: rs, 0, l + 1, i, n, h, g => by
    cases h
    exact absurd (slots_mem (rs := rs) (by simpa using g)) (List.nodup_cons.mp n).1
  | .b j :: rs, k + 1, 0, i, n, h, g => by
    cases g
    exact absurd (slots_mem (rs := rs) (by simpa using h)) (List.nodup_cons.mp n).1
  | .b j :: rs, k + 1, l + 1, i, n, h, g => congrArg (· + 1) (slots_inj (rs := rs) (k := k) (l := l) (i := i) (List.nodup_cons.mp n).2 (by simpa using h) (by simpa using g))
theorem argsOf_dis (c : Corr K Mo pins env σ H) {rs : List R} {as : List Sl} {vs : List V} (h : argsOf env rs = some as) (g : RRs K Mo env σ H rs vs) (n : (slotsOf rs).Nodup) : DisA as vs := by
  intro k l t u xs ys p hne e1 e2 f1 f2
  obtain ⟨i, r1⟩ := argsOf_own h e1
  obtain ⟨j, r2⟩ := argsOf_own h e2
  obtain ⟨t1, xs1, o1, _⟩ := argsOf_at h r1
  obtain ⟨t2, xs2, o2, _⟩ := argsOf_at h r2
  obtain ⟨v1, a1, b1⟩ := rrs_at g r1
  obtain ⟨v2, a2, b2⟩ := rrs_at g r2
  rw [f1] at a1
  rw [f2] at a2
  cases a1
  cases a2
  by_cases hij : i = j
  · subst hij
    exact hne (slots_inj n r1 r2)
  · exact c.ds i j t1 t2 xs1 xs2 p hij o1 o2 b1 b2
theorem backs_spec : ∀ {rs : List R} {ss : List Sl} {e e2 : En}, backs rs ss e = some e2 → (slotsOf rs).Nodup → e2.length = e.length ∧ ∀ (j : Nat) (s : Sl), e[j]? = some s → (j ∉ slotsOf rs → e2[j]? = some s) ∧
    (j ∈ slotsOf rs → ∃ (k : Nat) (t u : Option Nat) (xs ys : D), s = .own t xs ∧ rs[k]? = some (.b j) ∧ ss[k]? = some (.own u ys) ∧ e2[j]? = some (.own t ys))
  | [], [], e, e2, h, _ => by
    cases h
    exact ⟨rfl, fun j s hs => ⟨fun _ => hs, fun z => by cases z⟩⟩
  | [], _ :: _, e, e2, h, _ => by cases h
  | .v d :: rs, [], e, e2, h, _ => by cases h
  | .b i :: rs, [], e, e2, h, _ => by cases h
  | .v d :: rs, s :: ss, e, e2, h, n => by
    obtain ⟨h1, h2⟩ := backs_spec (rs := rs) (ss := ss) (e := e) (e2 := e2) (by simpa [backs] using h) n
    refine ⟨h1, fun j s' hs => ⟨(h2 j s' hs).1, fun hm => ?_⟩⟩
    obtain ⟨k, t, u, xs, ys, q1, q2, q3, q4⟩ := (h2 j s' hs).2 hm
    exact ⟨k + 1, t, u, xs, ys, q1, by simpa using q2, by simpa using q3, q4⟩
  | .b i :: rs, .no :: ss, e, e2, h, _ => by cases h
  | .b i :: rs, .val d :: ss, e, e2, h, _ => by cases h
  | .b i :: rs, .own u ys :: ss, e, e2, h, n => by
    unfold backs at h
    have n' := List.nodup_cons.mp n
    cases hi : e[i]? with
    | none => simp [hi] at h
    | some s0 =>
      cases s0 with
      | no => simp [hi] at h
      | val d => simp [hi] at h
      | own t xs =>
        simp only [hi] at h
        obtain ⟨h1, h2⟩ := backs_spec (rs := rs) (ss := ss) (e := e.set i (.own t ys)) (e2 := e2) h n'.2
        have hlt := (List.getElem?_eq_some_iff.mp hi).1
        refine ⟨by rw [h1, List.length_set], fun j s' hs => ?_⟩
        by_cases hj : j = i
        · subst hj
          rw [hi] at hs
          cases hs
          refine ⟨fun z => absurd List.mem_cons_self z, fun _ => ?_⟩
          have q := (h2 j (.own t ys) (by rw [List.getElem?_set_self hlt])).1 n'.1
          exact ⟨0, t, u, xs, ys, rfl, rfl, rfl, q⟩
        · have hs' : (e.set i (.own t ys))[j]? = some s' := by
            rw [List.getElem?_set_ne (Ne.symm hj)]
            exact hs
          refine ⟨fun z => (h2 j s' hs').1 fun y => z (List.mem_cons_of_mem _ y), fun hm => ?_⟩
          rcases List.mem_cons.mp hm with q | hm
          · exact absurd q hj
          · obtain ⟨k, t', u', xs', ys', q1, q2, q3, q4⟩ := (h2 j s' hs').2 hm
            exact ⟨k + 1, t', u', xs', ys', q1, by simpa using q2, by simpa using q3, q4⟩
theorem Kp.more {O O' : Addr → Prop} (k : Kp O H H') (i : ∀ a, O a → O' a) : Kp O' H H' where
  old := fun a o n e => k.old a o (fun z => n (i a z)) e
  wri := fun a o _ e m => by
    by_cases h : O a
    · exact k.wri a o h e m
    · exact ⟨o, k.old a o h e, m⟩
theorem call_backM {M' : Addr → Prop} (c : Corr K Mo pins env σ H) {rs : List R} {as xs : List Sl} {vs ws : List V} {outs : List Sl} (ha : argsOf env rs = some as) (hr : RRs K Mo env σ H rs vs) (n : (slotsOf rs).Nodup)
    (hx : ∀ (i : Nat) (t : Option Nat) (ys : D), xs[i]? ≠ some (.own t ys)) (m0 : ∀ a, M' a → Mo a ∨ H a = none) (m1 : ∀ a, Mo a → M' a) (al : OM M' H') (pk : Kp (OwnA (as ++ xs) (vs ++ ws)) H H')
    (po : ∀ (i : Nat) (t : Option Nat) (zs : D), (as ++ xs)[i]? = some (.own t zs) → ∃ (u : Option Nat) (ys : D) (p : Addr) (us : HO), outs[i]? = some (.own u ys) ∧ (vs ++ ws)[i]? = some (.ref p) ∧ H' p = some us ∧ RepO K (fun a => M' a ∨ Own env σ a) H' ys us) (hb : backs rs (outs.take rs.length) env = some env') :
    Corr K M' pins env' σ H' ∧ Stp env env' σ H H' := by
  obtain ⟨hl, sp⟩ := backs_spec hb n
  have la := argsOf_len ha
  have lv := rrs_len hr
  -- an own argument's place
  have pl : ∀ (k : Nat) (t : Option Nat) (ys : D), (as ++ xs)[k]? = some (.own t ys) → ∃ (i : Nat) (t' : Option Nat) (zs : D) (q : V), rs[k]? = some (.b i) ∧ env[i]? = some (.own t' zs) ∧ (vs ++ ws)[k]? = some q ∧ σ[i]? = some (some q) := fun k t ys e => by
    by_cases hk : k < as.length
    · rw [List.getElem?_append_left hk] at e
      obtain ⟨i, e1⟩ := argsOf_own ha e
      obtain ⟨t', zs, e2, _⟩ := argsOf_at ha e1
      obtain ⟨q, e3, e4⟩ := rrs_at hr e1
      exact ⟨i, t', zs, q, e1, e2, by rw [List.getElem?_append_left (by omega)]; exact e3, e4⟩
    · rw [List.getElem?_append_right (by omega)] at e
      exact absurd e (hx _ _ _)
  have sub : ∀ a, OwnA (as ++ xs) (vs ++ ws) a → Own env σ a := fun a ⟨k, t, ys, e1, e2⟩ => by
    obtain ⟨i, t', zs, q, _, q2, q3, q4⟩ := pl k t ys e1
    rw [e2] at q3
    cases q3
    exact ⟨i, t', zs, q2, q4⟩
  have kp : Kp (Own env σ) H H' := pk.more sub
  have shape : ∀ (i : Nat) (t : Option Nat) (ys : D), env[i]? = some (.own t ys) → ∃ zs, env'[i]? = some (.own t zs) := fun i t ys e => by
    by_cases hm : i ∈ slotsOf rs
    · obtain ⟨k, t', u, xs', ys', q1, _, _, q4⟩ := (sp i _ e).2 hm
      cases q1
      exact ⟨ys', q4⟩
    · exact ⟨ys, (sp i _ e).1 hm⟩
  have st : Stp env env' σ H H' := ⟨kp, shape, fun i s e hs => by
    refine (sp i s e).1 fun hm => ?_
    obtain ⟨k, t', u, xs', ys', q1, _⟩ := (sp i s e).2 hm
    exact hs _ _ q1, hl⟩
  have hmm : MM M' env' σ = fun a => M' a ∨ Own env σ a := by
    unfold MM
    rw [st.ownFn]
  have sb : ∀ a, MM M' env' σ a → MM Mo env σ a ∨ H a = none := fun a z => by
    rw [hmm] at z
    rcases z with z | z
    · exact (m0 a z).elim (fun y => .inl (.inl y)) .inr
    · exact .inl (.inr z)
  refine ⟨⟨by rw [hl]; exact c.len, al, fun i d e => ?_, fun i t ys e => ?_, fun i j t u ys zs q hij e1 e2 f1 f2 => ?_⟩, st⟩
  · have e0 : env[i]? = some (.val d) := by
      cases q : env[i]? with
      | none =>
        have h1 := List.getElem?_eq_none_iff.mp q
        have h2 := (List.getElem?_eq_some_iff.mp e).1
        omega
      | some s =>
        by_cases hs : ∀ t xs, s ≠ .own t xs
        · rw [st.oth i s q hs] at e
          exact e
        · have hs' : ∃ t xs, s = .own t xs := Classical.byContradiction fun z => hs fun t xs y => z ⟨t, xs, y⟩
          obtain ⟨t, xs', rfl⟩ := hs'
          obtain ⟨zs, q2⟩ := shape i t xs' q
          rw [e] at q2; cases q2
    obtain ⟨v', e1, r1⟩ := c.vl i d e0
    exact ⟨v', e1, Rep.lift kp c.om (fun a h => .inr h) sb r1⟩
  · obtain ⟨zs, e0⟩ := st.back e
    obtain ⟨q, us, e1, e2, e3, e4⟩ := c.ow i t zs e0
    have e4 : (t = none → ¬ M' q) ∧ ∀ k, t = some k → q = pins k ∧ M' q := ⟨fun z y => (m0 q y).elim (e4.1 z) (fun w => by rw [e2] at w; cases w), fun k z => ⟨(e4.2 k z).1, m1 q (e4.2 k z).2⟩⟩
    by_cases hm : i ∈ slotsOf rs
    · obtain ⟨k, t', u, xs', ys', q1, q2, q3, q4⟩ := (sp i _ e0).2 hm
      cases q1
      rw [q4] at e
      cases e
      obtain ⟨t2, xs2, o1, o2⟩ := argsOf_at ha q2
      have hk : k < as.length := (List.getElem?_eq_some_iff.mp o2).1
      obtain ⟨u', ys2, p', ws', a1, a2, a3, a4⟩ := po k none xs2 (by rw [List.getElem?_append_left hk]; exact o2)
      have q3' : outs[k]? = some (.own u ys) := by
        have hk2 : k < rs.length := by omega
        rw [List.getElem?_take, if_pos hk2] at q3
        exact q3
      rw [q3'] at a1
      cases a1
      obtain ⟨vv, b1, b2⟩ := rrs_at hr q2
      rw [List.getElem?_append_left (by omega), b1] at a2
      cases a2
      rw [e1] at b2
      cases b2
      refine ⟨q, ws', e1, a3, ?_, e4⟩
      rw [hmm]
      exact a4
    · rw [(sp i _ e0).1 hm] at e
      cases e
      refine ⟨q, us, e1, ?_, RepO.lift kp c.om (fun a h => .inr h) sb e3, e4⟩
      refine pk.old q _ (fun ⟨k, t', ys', f1, f2⟩ => ?_) e2
      obtain ⟨i', t'', zs', q', g1, g2, g3, g4⟩ := pl k t' ys' f1
      rw [f2] at g3
      cases g3
      by_cases hii : i' = i
      · subst hii
        exact hm (slots_mem g1)
      · exact c.ds i' i t'' t zs' ys q hii g2 e0 g4 e1
  · obtain ⟨ys', e1'⟩ := st.back e1
    obtain ⟨zs', e2'⟩ := st.back e2
    exact c.ds i j t u ys' zs' q hij e1' e2' f1 f2
theorem call_back (c : Corr K Mo pins env σ H) {rs : List R} {as xs : List Sl} {vs ws : List V} {outs : List Sl} {r : D} {v : V} (ha : argsOf env rs = some as) (hr : RRs K Mo env σ H rs vs) (n : (slotsOf rs).Nodup)
    (hx : ∀ (i : Nat) (t : Option Nat) (ys : D), xs[i]? ≠ some (.own t ys)) (p : CPost K (MM Mo env σ) (as ++ xs) (vs ++ ws) outs r H v H') (hb : backs rs (outs.take rs.length) env = some env') :
    Corr K Mo pins env' σ H' ∧ Stp env env' σ H H' := by
  have k : Kp (Own env σ) H H' := p.kp.more fun a ⟨k, t, ys, e1, e2⟩ => by
    have la := argsOf_len ha
    have lv := rrs_len hr
    by_cases hk : k < as.length
    · rw [List.getElem?_append_left hk] at e1
      rw [List.getElem?_append_left (by omega)] at e2
      obtain ⟨i, g1⟩ := argsOf_own ha e1
      obtain ⟨t', zs, g2, _⟩ := argsOf_at ha g1
      obtain ⟨q, g3, g4⟩ := rrs_at hr g1
      rw [e2] at g3
      cases g3
      exact ⟨i, t', zs, g2, g4⟩
    · rw [List.getElem?_append_right (by omega)] at e1
      exact absurd e1 (hx _ _ _)
  exact call_backM c ha hr n hx (fun a z => .inl z) (fun a z => z) (c.al.kp k) p.kp p.ou hb
end
end PC
set_option Elab.async false
set_option linter.all false
set_option maxRecDepth 100000
/-! PyCore, part 8: one lemma a construct. -/
namespace PC
open PySem PySem.Spec PyProof.Rows L2

section
variable {X : Cx} {F : CallF} {e l r : Expr} {a b c : Ex} {pos : Pos}
theorem obind2 {α β γ : Type} {f : α × β → Option γ} {o : Option (α × β)} {g : γ} (h : o.bind f = some g) : ∃ x y, o = some (x, y) ∧ f (x, y) = some g := by
  obtain ⟨⟨x, y⟩, h1, h2⟩ := obind h
  exact ⟨x, y, h1, h2⟩
theorem e_var {i : Nat} {x : Str} (hN : X.N[i]? = some x) (hv : Vis X.env.scope x) (h1 : (x == ("__debug__" : Str)) = false) (h2 : (x == ("__classdict__" : Str)) = false) : PE X (.Name x pos) (tE F X.K (.var i)) := by
  refine PE.imp (pe_var hN hv h1 h2) fun σ H Q h => ?_
  obtain ⟨Mo, pins, env, rr, env', C, hd, q⟩ := h
  simp only [denE] at hd
  obtain ⟨w, hw, e1⟩ := omap hd
  cases e1
  unfold varR at hw
  split at hw
  · cases hw
    obtain ⟨v, e1, r1⟩ := C.vl i _ (by assumption)
    exact ⟨v, e1, q v H C .refl r1 fun z => by cases z⟩
  · cases hw
    obtain ⟨p, vs, e1, _⟩ := C.ow i _ _ (by assumption)
    exact ⟨.ref p, e1, q _ H C .refl ⟨e1, _, _, by assumption⟩ fun z => by cases z⟩
  · cases hw
theorem e_con {k : Const} {d : D} {j : Nat} (h : conK k d = true) : PE X (.Constant k j pos) (tE F X.K (.con d)) := by
  obtain ⟨h1, h2⟩ := pe_con (X := X) (j := j) (pos := pos) h
  refine PE.imp h1 fun σ H Q h => ?_
  obtain ⟨Mo, pins, env, rr, env', C, hd, q⟩ := h
  simp only [denE] at hd
  cases hd
  exact q _ H C .refl (flat_rep h2) fun z => by cases z
theorem e_glo {x : Str} {d : D} {u : Value} {v : V} (hg : Gl X x) (hm : X.mg x = some u) (rv : RelV v u) (hr : ∀ M H, Rep X.K M H d v) (hdb : (x == ("__debug__" : Str)) = false) : PE X (.Name x pos) (tE F X.K (.glo x d)) := by
  refine PE.imp (pe_glob hg hm rv hdb) fun σ H Q h => ?_
  obtain ⟨Mo, pins, env, rr, env', C, hd, q⟩ := h
  simp only [denE] at hd
  cases hd
  exact q v H C .refl (hr _ _) fun z => by cases z
theorem e_bin {o : BOp} (ha : PE X l (tE F X.K a)) (hb : PE X r (tE F X.K b)) : PE X (.BinOp l (opOf o) r pos) (tE F X.K (.bin o a b)) := by
  refine PE.imp (pe_op (op_bin o) ha hb) fun σ H Q h => ?_
  obtain ⟨Mo, pins, env, rr, env', C, hd, q⟩ := h
  simp only [denE] at hd
  obtain ⟨x, e1, d1, hd⟩ := obind2 hd
  obtain ⟨y, e2, d2, hd⟩ := obind2 hd
  obtain ⟨u, v1, hd⟩ := obind hd
  obtain ⟨w, v2, hd⟩ := obind hd
  obtain ⟨d, d3, hd⟩ := omap hd
  cases hd
  refine ⟨Mo, pins, env, x, e1, C, d1, fun v H1 C1 S1 r1 _ => ⟨Mo, pins, e1, y, e2, C1, d2, fun v' H2 C2 S2 r2 _ => ?_⟩⟩
  refine ⟨MM Mo e2 σ, u, w, d, C2.omM, rr_view C2 (rr_lift C1 S2 r1) v1, rr_view C2 r2 v2, d3, fun z H3 ex rep fr => ?_⟩
  exact q z H3 (C2.ex ex) ((S1.trans S2).trans (.ex ex)) rep fun _ => C.frFrom (S1.trans S2) C2 (fr_of C2 ex fr)
theorem e_neg (ha : PE X l (tE F X.K a)) : PE X (.UnaryOp .USub l pos) (tE F X.K (.neg a)) := by
  refine PE.imp (pe_un un_neg ha) fun σ H Q h => ?_
  obtain ⟨Mo, pins, env, rr, env', C, hd, q⟩ := h
  simp only [denE] at hd
  obtain ⟨x, e1, d1, hd⟩ := obind2 hd
  obtain ⟨u, v1, hd⟩ := obind hd
  obtain ⟨d, d3, hd⟩ := omap hd
  cases hd
  refine ⟨Mo, pins, env, x, e1, C, d1, fun v H1 C1 S1 r1 _ => ?_⟩
  unfold negD at d3
  split at d3
  · cases d3
    have h1 := rr_sol r1 v1
    exact ⟨_, h1, q _ H1 C1 S1 rfl fun z => by cases z⟩
  · cases d3
theorem e_cmp {o : COp} (hu : X.A.units + 65 < cLine) (ha : PE X l (tE F X.K a)) (hb : PE X r (tE F X.K b)) (hm : behindInMarks (copOf o) r = false) : PE X (.Compare l [copOf o] [r] pos) (tE F X.K (.cmp o a b)) := by
  refine PE.imp (pe_cmpR (op_cmp hu o) ha hb hm) fun σ H Q h => ?_
  obtain ⟨Mo, pins, env, rr, env', C, hd, q⟩ := h
  simp only [denE] at hd
  obtain ⟨x, e1, d1, hd⟩ := obind2 hd
  obtain ⟨y, e2, d2, hd⟩ := obind2 hd
  obtain ⟨u, v1, hd⟩ := obind hd
  obtain ⟨w, v2, hd⟩ := obind hd
  obtain ⟨d, d3, hd⟩ := omap hd
  cases hd
  refine ⟨Mo, pins, env, x, e1, C, d1, fun v H1 C1 S1 r1 _ => ⟨Mo, pins, e1, y, e2, C1, d2, fun v' H2 C2 S2 r2 _ => ?_⟩⟩
  exact ⟨MM Mo e2 σ, u, w, d, rr_view C2 (rr_lift C1 S2 r1) v1, rr_view C2 r2 v2, d3, q _ H2 C2 (S1.trans S2) rfl fun z => by cases z⟩
theorem t_cmp {o : COp} (hu : X.A.units + 65 < cLine) (ha : PE X l (tE F X.K a)) (hb : PE X r (tE F X.K b)) (hm : behindInMarks (copOf o) r = false) : PT X (.Compare l [copOf o] [r] pos) (tT F X.K (.cmp o a b)) := by
  refine PT.imp (pt_cmpR (op_cmp hu o) ha hb hm) fun σ H Q h => ?_
  obtain ⟨Mo, pins, env, rr, env', C, hd, q⟩ := h
  simp only [denE] at hd
  obtain ⟨x, e1, d1, hd⟩ := obind2 hd
  obtain ⟨y, e2, d2, hd⟩ := obind2 hd
  obtain ⟨u, v1, hd⟩ := obind hd
  obtain ⟨w, v2, hd⟩ := obind hd
  obtain ⟨d, d3, hd⟩ := omap hd
  cases hd
  refine ⟨Mo, pins, env, x, e1, C, d1, fun v H1 C1 S1 r1 _ => ⟨Mo, pins, e1, y, e2, C1, d2, fun v' H2 C2 S2 r2 _ => ?_⟩⟩
  exact ⟨MM Mo e2 σ, u, w, rr, rr_view C2 (rr_lift C1 S2 r1) v1, rr_view C2 r2 v2, d3, rr, rfl, q H2 C2 (S1.trans S2)⟩
theorem e_cmp2 {o p : COp} {r' : Expr} (hu : X.A.units + 65 < cLine) (ha : PE X l (tE F X.K a)) (hb : PE X r (tE F X.K b)) (hc : PE X r' (tE F X.K c)) (hm : lastMarks [copOf o, copOf p] [r, r'] = false) :
    PE X (.Compare l [copOf o, copOf p] [r, r'] pos) (tE F X.K (.cmp2 o p a b c)) := by
  refine PE.imp (pe_chain (op_cmp hu o) (op_cmp hu p) ha hb hc hm) fun σ H Q h => ?_
  obtain ⟨Mo, pins, env, rr, env', C, hd, q⟩ := h
  simp only [denE] at hd
  obtain ⟨x, e1, d1, hd⟩ := obind2 hd
  obtain ⟨y, e2, d2, hd⟩ := obind2 hd
  obtain ⟨u, v1, hd⟩ := obind hd
  obtain ⟨w, v2, hd⟩ := obind hd
  obtain ⟨k, d3, hd⟩ := obind hd
  refine ⟨Mo, pins, env, x, e1, C, d1, fun v H1 C1 S1 r1 _ => ⟨Mo, pins, e1, y, e2, C1, d2, fun v' H2 C2 S2 r2 _ => ?_⟩⟩
  refine ⟨MM Mo e2 σ, u, w, k, (rr_sol (rr_lift C1 S2 r1) v1).vr, (rr_sol r2 v2).vr, d3, k, rfl, ?_⟩
  cases k with
  | false =>
    simp only [Bool.false_eq_true, if_false] at hd ⊢
    cases hd
    exact q _ H2 C2 (S1.trans S2) rfl fun z => by cases z
  | true =>
    simp only [if_true] at hd ⊢
    obtain ⟨z, e3, d4, hd⟩ := obind2 hd
    obtain ⟨m, v3, hd⟩ := obind hd
    obtain ⟨d, d5, hd⟩ := omap hd
    cases hd
    refine ⟨Mo, pins, e2, z, e3, C2, d4, fun v3' H3 C3 S3 r3 _ => ?_⟩
    exact ⟨MM Mo e3 σ, w, m, d, (rr_sol (rr_lift C2 S3 r2) v2).vr, (rr_sol r3 v3).vr, d5, q _ H3 C3 ((S1.trans S2).trans S3) rfl fun z => by cases z⟩
theorem t_cmp2 {o p : COp} {r' : Expr} (hu : X.A.units + 65 < cLine) (ha : PE X l (tE F X.K a)) (hb : PE X r (tE F X.K b)) (hc : PE X r' (tE F X.K c)) (hm : lastMarks [copOf o, copOf p] [r, r'] = false) :
    PT X (.Compare l [copOf o, copOf p] [r, r'] pos) (tT F X.K (.cmp2 o p a b c)) := by
  refine PT.imp (pt_chain (op_cmp hu o) (op_cmp hu p) ha hb hc hm) fun σ H Q h => ?_
  obtain ⟨Mo, pins, env, rr, env', C, hd, q⟩ := h
  simp only [denE] at hd
  obtain ⟨x, e1, d1, hd⟩ := obind2 hd
  obtain ⟨y, e2, d2, hd⟩ := obind2 hd
  obtain ⟨u, v1, hd⟩ := obind hd
  obtain ⟨w, v2, hd⟩ := obind hd
  obtain ⟨k, d3, hd⟩ := obind hd
  refine ⟨Mo, pins, env, x, e1, C, d1, fun v H1 C1 S1 r1 _ => ⟨Mo, pins, e1, y, e2, C1, d2, fun v' H2 C2 S2 r2 _ => ?_⟩⟩
  refine ⟨MM Mo e2 σ, u, w, k, (rr_sol (rr_lift C1 S2 r1) v1).vr, (rr_sol r2 v2).vr, d3, k, rfl, ?_⟩
  cases k with
  | false =>
    simp only [Bool.false_eq_true, if_false] at hd ⊢
    cases hd
    exact ⟨_, rfl, q H2 C2 (S1.trans S2)⟩
  | true =>
    simp only [if_true] at hd ⊢
    obtain ⟨z, e3, d4, hd⟩ := obind2 hd
    obtain ⟨m, v3, hd⟩ := obind hd
    obtain ⟨d, d5, hd⟩ := omap hd
    cases hd
    refine ⟨Mo, pins, e2, z, e3, C2, d4, fun v3' H3 C3 S3 r3 _ => ?_⟩
    exact ⟨MM Mo e3 σ, w, m, rr, (rr_sol (rr_lift C2 S3 r2) v2).vr, (rr_sol r3 v3).vr, d5, _, rfl, q H3 C3 ((S1.trans S2).trans S3)⟩
def isOp (ng : Bool) : CmpOp := if ng then .IsNot else .Is
theorem op_isNg (ng : Bool) : OpR X (compareOp (isOp ng)) (rIs X.K ng) := by
  cases ng
  · exact op_isD
  · exact op_isnotD
theorem mark_is (ng : Bool) (e : Expr) : behindInMarks (isOp ng) e = false := by
  cases ng <;> exact nomark e
theorem e_isC {ng : Bool} {d : D} {k : Const} {j : Nat} {pos' : Pos} (ha : PE X l (tE F X.K a)) (hk : conK k d = true) : PE X (.Compare l [isOp ng] [.Constant k j pos'] pos) (tE F X.K (.isC ng a d)) := by
  obtain ⟨h1, h2⟩ := pe_con (X := X) (j := j) (pos := pos') hk
  refine PE.imp (pe_cmpR (op_isNg ng) ha h1 (mark_is _ _)) fun σ H Q h => ?_
  obtain ⟨Mo, pins, env, rr, env', C, hd, q⟩ := h
  simp only [denE] at hd
  obtain ⟨x, e1, d1, hd⟩ := obind2 hd
  obtain ⟨u, v1, hd⟩ := obind hd
  obtain ⟨cc, d3, hd⟩ := omap hd
  cases hd
  refine ⟨Mo, pins, env, x, e1, C, d1, fun v H1 C1 S1 r1 _ => ?_⟩
  exact ⟨MM Mo e1 σ, u, d, cc, (rr_sol r1 v1).vr, (flat_rep h2).vr, d3, q _ H1 C1 S1 rfl fun z => by cases z⟩
theorem t_isC {ng : Bool} {d : D} {k : Const} {j : Nat} {pos' : Pos} (ha : PE X l (tE F X.K a)) (hk : conK k d = true) : PT X (.Compare l [isOp ng] [.Constant k j pos'] pos) (tT F X.K (.isC ng a d)) := by
  obtain ⟨h1, h2⟩ := pe_con (X := X) (j := j) (pos := pos') hk
  refine PT.imp (pt_cmpR (op_isNg ng) ha h1 (mark_is _ _)) fun σ H Q h => ?_
  obtain ⟨Mo, pins, env, rr, env', C, hd, q⟩ := h
  simp only [denE] at hd
  obtain ⟨x, e1, d1, hd⟩ := obind2 hd
  obtain ⟨u, v1, hd⟩ := obind hd
  obtain ⟨cc, d3, hd⟩ := omap hd
  cases hd
  refine ⟨Mo, pins, env, x, e1, C, d1, fun v H1 C1 S1 r1 _ => ?_⟩
  exact ⟨MM Mo e1 σ, u, d, cc, (rr_sol r1 v1).vr, (flat_rep h2).vr, d3, _, rfl, q H1 C1 S1⟩
/-- a test by its value -/
theorem t_val (h : PE X e (tE F X.K c)) (he : ∀ whole, isTrue e X.env whole = (do let v ← whole; standAt e.pos; holding [v] (truthy v))) : PT X e (tT F X.K c) := by
  refine PT.imp (pt_val h he) fun σ H Q h => ?_
  obtain ⟨Mo, pins, env, k, env', C, hd, q⟩ := h
  exact ⟨Mo, pins, env, _, env', C, hd, fun v H1 C1 S1 r1 _ => ⟨k, r1, q H1 C1 S1⟩⟩
theorem t_not (ha : PT X l (tT F X.K a)) : PT X (.UnaryOp .Not l pos) (tT F X.K (.nt a)) := by
  refine PT.imp (pt_not ha) fun σ H Q h => ?_
  obtain ⟨Mo, pins, env, k, env', C, hd, q⟩ := h
  simp only [denE] at hd
  obtain ⟨x, e1, d1, hd⟩ := obind2 hd
  dsimp only at hd
  split at hd
  · cases hd
    exact ⟨Mo, pins, env, _, _, C, d1, fun H1 C1 S1 => q H1 C1 S1⟩
  · cases hd
theorem e_not (ha : PE X l (tE F X.K a)) : PE X (.UnaryOp .Not l pos) (tE F X.K (.nt a)) := by
  refine PE.imp (pe_not ha) fun σ H Q h => ?_
  obtain ⟨Mo, pins, env, rr, env', C, hd, q⟩ := h
  simp only [denE] at hd
  obtain ⟨x, e1, d1, hd⟩ := obind2 hd
  dsimp only at hd
  split at hd
  · cases hd
    exact ⟨Mo, pins, env, _, _, C, d1, fun v H1 C1 S1 r1 _ => ⟨_, r1, q _ H1 C1 S1 rfl fun z => by cases z⟩⟩
  · cases hd
theorem e_ite {t : Expr} (hc : PT X t (tT F X.K c)) (ha : PE X l (tE F X.K a)) (hb : PE X r (tE F X.K b)) : PE X (.IfExp t l r pos) (tE F X.K (.ite c a b)) := by
  refine PE.imp (pe_ifExp hc ha hb) fun σ H Q h => ?_
  obtain ⟨Mo, pins, env, rr, env', C, hd, q⟩ := h
  simp only [denE] at hd
  obtain ⟨x, e1, d1, hd⟩ := obind2 hd
  dsimp only at hd
  split at hd
  · rename_i k
    refine ⟨Mo, pins, env, k, e1, C, d1, fun H1 C1 S1 => ?_⟩
    cases k with
    | true =>
      simp only [if_true] at hd ⊢
      exact ⟨Mo, pins, e1, rr, env', C1, hd, fun v H2 C2 S2 r2 f2 => q v H2 C2 (S1.trans S2) r2 fun z => C.frFrom S1 C1 (f2 (and2 z).1)⟩
    | false =>
      simp only [Bool.false_eq_true, if_false] at hd ⊢
      exact ⟨Mo, pins, e1, rr, env', C1, hd, fun v H2 C2 S2 r2 f2 => q v H2 C2 (S1.trans S2) r2 fun z => C.frFrom S1 C1 (f2 (and2 z).2)⟩
  · cases hd
theorem t_ite {t : Expr} (hc : PT X t (tT F X.K c)) (ha : PT X l (tT F X.K a)) (hb : PT X r (tT F X.K b)) : PT X (.IfExp t l r pos) (tT F X.K (.ite c a b)) := by
  refine ⟨fun pins' s σ H Q I h => ?_⟩
  obtain ⟨Mo, pins, env, k0, env', C, hd, q⟩ := h
  simp only [denE] at hd
  obtain ⟨x, e1, d1, hd⟩ := obind2 hd
  show wpAny _ _ (do if ← isTrue t X.env (eval t X.env) then isTrue l X.env (eval l X.env) else isTrue r X.env (eval r X.env)) _ _ s
  dsimp only at hd
  split at hd
  · rename_i k
    refine wpAny_bind (thn (hc.run pins' s σ H (fun b H1 => b = k ∧ Corr X.K Mo pins e1 σ H1 ∧ Stp env e1 σ H H1) I ⟨Mo, pins, env, k, e1, C, d1, fun H1 C1 S1 => ⟨rfl, C1, S1⟩⟩) fun k' s1 hk => ?_)
    obtain ⟨H1, I1, ek, C1, S1⟩ := hk
    subst ek
    cases k' with
    | true =>
      simp only [if_true] at hd ⊢
      exact ha.run pins' s1 σ H1 Q I1 ⟨Mo, pins, e1, k0, env', C1, hd, fun H2 C2 S2 => q H2 C2 (S1.trans S2)⟩
    | false =>
      simp only [Bool.false_eq_true, if_false] at hd ⊢
      exact hb.run pins' s1 σ H1 Q I1 ⟨Mo, pins, e1, k0, env', C1, hd, fun H2 C2 S2 => q H2 C2 (S1.trans S2)⟩
  · cases hd
theorem e_tup {xs : List Expr} {es : Es} {x1 : Nat} (h : PA X xs (tA F X.K es)) : PE X (.Tuple xs x1 pos) (tE F X.K (.tup es)) := by
  refine PE.imp (pe_tup h) fun σ H Q h => ?_
  obtain ⟨Mo, pins, env, rr, env', C, hd, q⟩ := h
  simp only [denE] at hd
  obtain ⟨rs, e1, d1, hd⟩ := obind2 hd
  obtain ⟨ds, d2, hd⟩ := obind hd
  dsimp only at hd
  split at hd
  · cases hd
    refine ⟨Mo, pins, env, rs, env', C, d1, fun vs H1 C1 S1 r1 => ?_⟩
    have rp := rrs_sol r1 d2
    refine ⟨by rw [← rp.length, ← line_eq]; assumption, fun p hp => ?_⟩
    exact q _ _ (C1.ex (Exh.new hp)) (S1.trans (.ex (Exh.new hp))) ⟨p, vs, rfl, upd_same, rp.ex (Exh.new hp)⟩ fun z => by cases z
  · cases hd
theorem e_lst {xs : List Expr} {es : Es} (h : PA X xs (tA F X.K es)) : PE X (.List xs pos) (tE F X.K (.lst es)) := by
  refine PE.imp (pe_lst h) fun σ H Q h => ?_
  obtain ⟨Mo, pins, env, rr, env', C, hd, q⟩ := h
  simp only [denE] at hd
  obtain ⟨rs, e1, d1, hd⟩ := obind2 hd
  obtain ⟨ds, d2, hd⟩ := obind hd
  dsimp only at hd
  split at hd
  · cases hd
    refine ⟨Mo, pins, env, rs, env', C, d1, fun vs H1 C1 S1 r1 => ?_⟩
    have rp := rrs_sol r1 d2
    refine ⟨by rw [← rp.length, ← line_eq]; assumption, fun p hp => ?_⟩
    refine rkf_lst (K := X.K) (M := MM Mo env' σ) (xs := ds) (fun v H' ex rep fr => ?_) C1.omM hp rp
    exact q v H' (C1.ex ex) (S1.trans (.ex ex)) rep fun _ => C.frFrom S1 C1 (fr_of C1 ex fr)
  · cases hd
/-- list(range(..)), tuple(range(..)) -/
theorem rg_reps {K : PySem.W.Frag} {M : Addr → Prop} {H : Hp} (m n : Int) : Reps K M H (rngL m n) (rgV m n) := by
  unfold rngL rgV
  induction (List.range (n - m).toNat) with
  | nil => exact rfl
  | cons i l ih => exact ⟨_, _, rfl, rfl, ih⟩
theorem RgOk.of_big {a b : Int} (h1 : -1000000000 ≤ a) (h2 : a ≤ 1000000000) (h3 : -1000000000 ≤ b) (h4 : b ≤ 1000000000) (h5 : b - a ≤ 16777216) : RgOk a b := by
  have : -(2 : Int) ^ 62 ≤ -1000000000 := by decide
  have : (1000000000 : Int) < 2 ^ 62 := by decide
  have : (2 : Nat) ^ 24 = 16777216 := by decide
  exact ⟨by omega, by omega, by omega, by omega, by omega⟩
theorem e_rl1 {tp : Bool} {b : Ex} {p p2 pos2 : Pos} (hc : X.calm = true) (hg : Gl X (if tp then "tuple" else "list")) (hm : X.mg (if tp then "tuple" else "list") = none) (hgr : Gl X "range") (hmr : X.mg "range" = none) (hb : PE X r (tE F X.K b)) (hx : ∀ z q, r ≠ .Starred z q) :
    PE X (.Call (.Name (if tp then "tuple" else "list") p) [.Call (.Name "range" p2) [r] [] pos2] [] pos) (tE F X.K (.rl1 tp b)) := by
  have hs : ∀ z q, Expr.Call (.Name "range" p2) [r] [] pos2 ≠ .Starred z q := fun z q e => by cases e
  cases tp with
  | true =>
    refine PE.imp (pe_tupRg hc hg hm (prg_1 hgr hmr hb (star_cons hx)) (star_cons hs)) fun σ H Q h => ?_
    obtain ⟨Mo, pins, env, rr, env', C, hd, q⟩ := h
    simp only [denE] at hd
    obtain ⟨y, e2, d2, hd⟩ := obind2 hd
    dsimp only at hd
    split at hd
    · split at hd
      · rename_i n hn
        cases hd
        refine ⟨Mo, pins, env, _, env', C, d2, fun w H2 C2 S2 r2 _ => ?_⟩
        have hw : w = .int _ := r2
        subst hw
        refine ⟨_, rfl, RgOk.of_big (by omega) (by omega) (by omega) (by omega) (by omega), fun p hp => ?_⟩
        exact q _ _ (C2.ex (Exh.new hp)) (S2.trans (.ex (Exh.new hp))) ⟨p, _, rfl, upd_same, rg_reps _ _⟩ fun z => by cases z
      · cases hd
    · cases hd
  | false =>
    refine PE.imp (pe_listRg hc hg hm (prg_1 hgr hmr hb (star_cons hx)) (star_cons hs)) fun σ H Q h => ?_
    obtain ⟨Mo, pins, env, rr, env', C, hd, q⟩ := h
    simp only [denE] at hd
    obtain ⟨y, e2, d2, hd⟩ := obind2 hd
    dsimp only at hd
    split at hd
    · split at hd
      · rename_i n hn
        cases hd
        refine ⟨Mo, pins, env, _, env', C, d2, fun w H2 C2 S2 r2 _ => ?_⟩
        have hw : w = .int _ := r2
        subst hw
        refine ⟨_, rfl, RgOk.of_big (by omega) (by omega) (by omega) (by omega) (by omega), fun p hp => ?_⟩
        refine rkf_lst (K := X.K) (M := MM Mo env' σ) (fun v H' ex rep fr => ?_) C2.omM hp (rg_reps _ _)
        exact q v H' (C2.ex ex) (S2.trans (.ex ex)) rep fun _ => C.frFrom S2 C2 (fr_of C2 ex fr)
      · cases hd
    · cases hd
theorem e_rl2 {tp : Bool} {b : Ex} {p p2 pos2 : Pos} (hc : X.calm = true) (hg : Gl X (if tp then "tuple" else "list")) (hm : X.mg (if tp then "tuple" else "list") = none) (hgr : Gl X "range") (hmr : X.mg "range" = none) (ha : PE X l (tE F X.K a)) (hy : ∀ z q, l ≠ .Starred z q) (hb : PE X r (tE F X.K b)) (hx : ∀ z q, r ≠ .Starred z q) :
    PE X (.Call (.Name (if tp then "tuple" else "list") p) [.Call (.Name "range" p2) [l, r] [] pos2] [] pos) (tE F X.K (.rl2 tp a b)) := by
  have hs : ∀ z q, Expr.Call (.Name "range" p2) [l, r] [] pos2 ≠ .Starred z q := fun z q e => by cases e
  cases tp with
  | true =>
    refine PE.imp (pe_tupRg hc hg hm (prg_2 hgr hmr ha hb (star_cons hy) (star_cons hx) (by rw [star_cons hx]; rfl)) (star_cons hs)) fun σ H Q h => ?_
    obtain ⟨Mo, pins, env, rr, env', C, hd, q⟩ := h
    simp only [denE] at hd
    obtain ⟨x, e1, d1, hd⟩ := obind2 hd
    obtain ⟨y, e2, d2, hd⟩ := obind2 hd
    dsimp only at hd
    split at hd
    · split at hd
      · rename_i hn
        cases hd
        refine ⟨Mo, pins, env, _, e1, C, d1, fun v H1 C1 S1 r1 _ => ⟨Mo, pins, e1, _, env', C1, d2, fun w H2 C2 S2 r2 _ => ?_⟩⟩
        have hv : v = .int _ := r1
        have hw : w = .int _ := r2
        subst hv hw
        refine ⟨_, _, rfl, rfl, RgOk.of_big (by omega) (by omega) (by omega) (by omega) (by omega), fun p hp => ?_⟩
        exact q _ _ (C2.ex (Exh.new hp)) ((S1.trans S2).trans (.ex (Exh.new hp))) ⟨p, _, rfl, upd_same, rg_reps _ _⟩ fun z => by cases z
      · cases hd
    · cases hd
  | false =>
    refine PE.imp (pe_listRg hc hg hm (prg_2 hgr hmr ha hb (star_cons hy) (star_cons hx) (by rw [star_cons hx]; rfl)) (star_cons hs)) fun σ H Q h => ?_
    obtain ⟨Mo, pins, env, rr, env', C, hd, q⟩ := h
    simp only [denE] at hd
    obtain ⟨x, e1, d1, hd⟩ := obind2 hd
    obtain ⟨y, e2, d2, hd⟩ := obind2 hd
    dsimp only at hd
    split at hd
    · split at hd
      · rename_i hn
        cases hd
        refine ⟨Mo, pins, env, _, e1, C, d1, fun v H1 C1 S1 r1 _ => ⟨Mo, pins, e1, _, env', C1, d2, fun w H2 C2 S2 r2 _ => ?_⟩⟩
        have hv : v = .int _ := r1
        have hw : w = .int _ := r2
        subst hv hw
        refine ⟨_, _, rfl, rfl, RgOk.of_big (by omega) (by omega) (by omega) (by omega) (by omega), fun p hp => ?_⟩
        refine rkf_lst (K := X.K) (M := MM Mo env' σ) (fun v H' ex rep fr => ?_) C2.omM hp (rg_reps _ _)
        exact q v H' (C2.ex ex) ((S1.trans S2).trans (.ex ex)) rep fun _ => C.frFrom (S1.trans S2) C2 (fr_of C2 ex fr)
      · cases hd
    · cases hd
/-- {} -/
def tNew (t : Bool) : TE := fun _ H Q => ∀ p o, H p = none → dicO t [] [] o → Q (.ref p) (upd H p o)
theorem e_new {t : Bool} : PE X (.Dict [] [] pos) (tNew t) := by
  cases t with
  | false => exact PE.imp pe_dnewK fun σ H Q h p hp => h p _ hp ⟨[], rfl, rfl, rfl⟩
  | true => exact PE.imp pe_dnewT fun σ H Q h p hp => h p _ hp ⟨[], rfl, rfl, rfl⟩
theorem e_idx {i : Ex} (hu : X.A.units + 1 < cLine) (ha : PE X l (tE F X.K a)) (hb : PE X r (tE F X.K i)) (hp : PlainIx r) : PE X (.Subscript l r pos) (tE F X.K (.idx a i)) := by
  refine PE.imp (pe_ix (ix_data hu) ha hb hp) fun σ H Q h => ?_
  obtain ⟨Mo, pins, env, rr, env', C, hd, q⟩ := h
  simp only [denE] at hd
  obtain ⟨x, e1, d1, hd⟩ := obind2 hd
  obtain ⟨y, e2, d2, hd⟩ := obind2 hd
  obtain ⟨u, v1, hd⟩ := obind hd
  obtain ⟨w, v2, hd⟩ := obind hd
  obtain ⟨d, d3, hd⟩ := omap hd
  cases hd
  refine ⟨Mo, pins, env, x, e1, C, d1, fun v H1 C1 S1 r1 _ => ⟨Mo, pins, e1, y, e2, C1, d2, fun v' H2 C2 S2 r2 _ => ?_⟩⟩
  refine ⟨MM Mo e2 σ, u, w, d, C2.omM, rr_view C2 (rr_lift C1 S2 r1) v1, rr_sol r2 v2, d3, fun z H3 ex rep => ?_⟩
  exact q z H3 (C2.ex ex) ((S1.trans S2).trans (.ex ex)) rep fun z => by cases z
def tO' (F : CallF) (K : PySem.W.Frag) (o : Oe) : TO := fun σ H Q => ∃ Mo pins env i env', Corr K Mo pins env σ H ∧ denO F o env = some (i, env') ∧
  ∀ H', Corr K Mo pins env' σ H' → Stp env env' σ H H' → Q i H'
theorem PO.imp {X : Cx} {e : Option Expr} {t t' : TO} (h : PO X e t) (w : ∀ σ H Q, t' σ H Q → t σ H Q) : PO X e t' := ⟨fun pins s σ H Q I q => h.run pins s σ H Q I (w σ H Q q)⟩
theorem o_none : PO X none (tO' F X.K .none) := by
  refine PO.imp po_none fun σ H Q h => ?_
  obtain ⟨Mo, pins, env, i, env', C, hd, q⟩ := h
  simp only [denO] at hd
  cases hd
  exact q H C .refl
theorem o_some (ha : PE X l (tE F X.K a)) : PO X (some l) (tO' F X.K (.some a)) := by
  refine PO.imp (po_some ha) fun σ H Q h => ?_
  obtain ⟨Mo, pins, env, i, env', C, hd, q⟩ := h
  simp only [denO] at hd
  obtain ⟨x, e1, d1, hd⟩ := obind2 hd
  dsimp only at hd
  split at hd
  · cases hd
    exact ⟨Mo, pins, env, _, _, C, d1, fun v H1 C1 S1 r1 _ => ⟨_, r1, q H1 C1 S1⟩⟩
  · cases hd
theorem e_slc {lo hi : Oe} {x y : Option Expr} {p2 : Pos} (ha : PE X l (tE F X.K a)) (hl : PO X x (tO' F X.K lo)) (hh : PO X y (tO' F X.K hi)) : PE X (.Subscript l (.Slice x y none p2) pos) (tE F X.K (.slc a lo hi)) := by
  refine PE.imp (pe_slice sl_data ha hl hh) fun σ H Q h => ?_
  obtain ⟨Mo, pins, env, rr, env', C, hd, q⟩ := h
  simp only [denE] at hd
  obtain ⟨x, e1, d1, hd⟩ := obind2 hd
  obtain ⟨li, e2, d2, hd⟩ := obind2 hd
  obtain ⟨hi', e3, d3, hd⟩ := obind2 hd
  obtain ⟨u, v1, hd⟩ := obind hd
  obtain ⟨d, d4, hd⟩ := omap hd
  cases hd
  refine ⟨Mo, pins, env, x, e1, C, d1, fun v H1 C1 S1 r1 _ => ⟨Mo, pins, e1, li, e2, C1, d2, fun H2 C2 S2 => ⟨Mo, pins, e2, hi', e3, C2, d3, fun H3 C3 S3 => ?_⟩⟩⟩
  refine ⟨MM Mo e3 σ, u, d, C3.omM, rr_view C3 (rr_lift C1 (S2.trans S3) r1) v1, d4, fun z H4 ex rep fr => ?_⟩
  exact q z H4 (C3.ex ex) (((S1.trans S2).trans S3).trans (.ex ex)) rep fun _ => C.frFrom ((S1.trans S2).trans S3) C3 (fr_of C3 ex fr)
theorem e_isi {t : Ty} {x : Expr} {p p2 : Pos} {y : Str} (hg : Gl X "isinstance") (hm : X.mg "isinstance" = none) (hgy : Gl X (tyStr t)) (hmy : X.mg (tyStr t) = none) (ha : PE X x (tE F X.K a)) (hx : ∀ z q, x ≠ .Starred z q) :
    PE X (.Call (.Name "isinstance" p) [x, .Name (tyStr t) p2] [] pos) (tE F X.K (.isi a t)) := by
  have hb : bootBuiltins (tyStr t) = some (.type (tyName t)) := by
    cases t
    · exact PyProof.Rows.boot_int
    · exact PyProof.Rows.boot_bool
    · exact PyProof.Rows.boot_str
    · exact PyProof.Rows.boot_tuple
    · exact PyProof.Rows.boot_list
  have hn : tyStr t ≠ "__name__" ∧ (tyStr t == ("__debug__" : Str)) = false := by cases t <;> exact ⟨by decide, by decide⟩
  have h1 : PE X (.Name (tyStr t) p2) (tC (.ty (tyName t))) := pe_bltn (v := .ty (tyName t)) hgy hmy hb rfl hn.1 hn.2
  have ha2 : PA X [x, .Name (tyStr t) p2] (tCons (tE F X.K a) (tCons (tC (.ty (tyName t))) tNil)) := pa_cons ha (pa_cons h1 pa_nil (star_cons fun z q => nofun)) (star_cons hx)
  refine PE.imp (pe_callB (call_isiD (t := t)) hg hm PyProof.Rows.boot_isinstance ha2 (by decide) (by decide) (star_cons hx) rfl) fun σ H Q h => ?_
  obtain ⟨Mo, pins, env, rr, env', C, hd, q⟩ := h
  simp only [denE] at hd
  obtain ⟨x, e1, d1, hd⟩ := obind2 hd
  obtain ⟨u, v1, hd⟩ := obind hd
  obtain ⟨d, d3, hd⟩ := omap hd
  cases hd
  refine ⟨Mo, pins, env, x, e1, C, d1, fun v H1 C1 S1 r1 _ => ?_⟩
  exact ⟨MM Mo e1 σ, u, v, d, rfl, rr_view C1 r1 v1, d3, q _ H1 C1 S1 rfl fun z => by cases z⟩
theorem e_bi {b : Bi} {es : Es} {x : Expr} {xs : List Expr} {p : Pos} (hc : X.calm = true) (hu : X.A.units + 65 < cLine) (hg : Gl X (biName b)) (hm : X.mg (biName b) = none) (ha : PA X (x :: xs) (tA F X.K es)) (hx : starEach (x :: xs) X.env = (false, eval x X.env) :: starEach xs X.env)
    (hpl : (backTo pos (starEach xs X.env)).any (·.1) = false) : PE X (.Call (.Name (biName b) p) (x :: xs) [] pos) (tE F X.K (.bi b es)) := by
  have hn : biName b ≠ "__name__" ∧ (biName b == ("__debug__" : Str)) = false := by cases b <;> exact ⟨by decide, by decide⟩
  have key : PE X (.Call (.Name (biName b) p) (x :: xs) [] pos) (tCB (rBi X.K b) (tA F X.K es)) := by
    have hcall := bi_ok hc hu b
    have hb := bi_boot b
    cases hv : biVal b with
    | builtin id => rw [hv] at hcall hb; exact pe_callB hcall hg hm hb ha hn.1 hn.2 hx hpl
    | type T => rw [hv] at hcall hb; exact pe_callTy hcall hg hm hb ha hn.1 hn.2 hx hpl
    | _ => exact absurd hv (by cases b <;> exact fun z => nomatch z)
  refine PE.imp key fun σ H Q h => ?_
  obtain ⟨Mo, pins, env, rr, env', C, hd, q⟩ := h
  simp only [denE] at hd
  obtain ⟨rs, e1, d1, hd⟩ := obind2 hd
  obtain ⟨ds, d2, hd⟩ := obind hd
  obtain ⟨d, d3, hd⟩ := omap hd
  cases hd
  refine ⟨Mo, pins, env, rs, e1, C, d1, fun vs H1 C1 S1 r1 => ?_⟩
  refine ⟨MM Mo e1 σ, ds, d, C1.omM, rrs_view C1 r1 d2, d3, fun z H4 ex rep fr => ?_⟩
  exact q z H4 (C1.ex ex) (S1.trans (.ex ex)) rep fun _ => C.frFrom S1 C1 (fr_of C1 ex fr)
theorem flat_ars {K : PySem.W.Frag} {Mo : Addr → Prop} {H : Hp} : ∀ {ds : List D}, ds.all isFlat = true → ARs K Mo H (ds.map .val) (ds.map flatV)
  | [], _ => rfl
  | d :: ds, h => by
    have h' : isFlat d = true ∧ ds.all isFlat = true := by simpa using h
    exact ⟨_, _, rfl, flat_rep h'.1, flat_ars h'.2⟩
theorem ARs.app {K : PySem.W.Frag} {Mo : Addr → Prop} {H : Hp} : ∀ {as bs : List Sl} {vs ws : List V}, ARs K Mo H as vs → ARs K Mo H bs ws → ARs K Mo H (as ++ bs) (vs ++ ws)
  | [], bs, vs, ws, h, g => by
    have e : vs = [] := h
    rw [e]; exact g
  | .val d :: as, bs, _, ws, h, g => by
    obtain ⟨v, r, e, h1, h2⟩ := h
    rw [e]
    exact ⟨v, r ++ ws, rfl, h1, h2.app g⟩
  | .own t xs :: as, bs, _, ws, h, g => by
    obtain ⟨p, us, r, e, h1, h2, h3, h4⟩ := h
    rw [e]
    exact ⟨p, us, r ++ ws, rfl, h1, h2, h3, h4.app g⟩
  | .no :: _, _, _, _, h, _ => False.elim h
theorem sp_call {K : PySem.W.Frag} {Mo : Addr → Prop} {pins : Nat → Addr} {env e1 env' : En} {σ : L2.St} {H H1 : Hp} {Q : VK} {E : XK} {fr sf : Bool} {G : List Sl → Option (D × List Sl)} {n : Nat} {rs : List R} {as : List Sl} {vs : List V} {ds : List D} {d : D} {outs : List Sl} (C : Corr K Mo pins env σ H) (C1 : Corr K Mo pins e1 σ H1) (S1 : Stp env e1 σ H H1) (r1 : RRs K Mo e1 σ H1 rs vs) (hnd : (slotsOf rs).Nodup)
    (d2 : argsOf e1 rs = some as) (d3 : G (as ++ ds.map .val) = some (d, outs)) (d4 : backs rs (outs.take rs.length) e1 = some env') (hfl : ds.all isFlat = true) (hl : rs.length + ds.length = n) (hfr : (!fr || sf) = true)
    (q : ∀ v H', Corr K Mo pins env' σ H' → Stp env env' σ H H' → RR K Mo env' σ H' (.v d) v → (fr = true → FR K Mo pins env' σ H H' (.v d) v) → Q v H') : spOf K G n sf (vs ++ ds.map flatV) H1 Q E := by
  have la := argsOf_len d2
  have hno : ∀ (i : Nat) (t : Option Nat) (ys : D), (ds.map Sl.val)[i]? ≠ some (.own t ys) := fun i t ys z => by
    rw [List.getElem?_map] at z
    cases q2 : ds[i]? with
    | none => rw [q2] at z; cases z
    | some d0 => rw [q2] at z; cases z
  refine ⟨MM Mo e1 σ, as ++ ds.map .val, d, outs, by rw [List.length_append, List.length_map, la]; exact hl, C1.omM, (argsOf_rep C1 d2 r1).app (flat_ars hfl), ?_, d3, fun v H2 P PF => ?_⟩
  · intro i j t u ys zs pp hij a1 a2 b1 b2
    have dis := argsOf_dis C1 d2 r1 hnd
    have lv := rrs_len r1
    have lt : ∀ (i : Nat) (t : Option Nat) (ys : D), (as ++ ds.map Sl.val)[i]? = some (.own t ys) → i < as.length := fun i t ys z => by
      by_cases hi : i < as.length
      · exact hi
      · rw [List.getElem?_append_right (by omega)] at z
        exact absurd z (hno _ _ _)
    have i1 := lt i t ys a1
    have i2 := lt j u zs a2
    rw [List.getElem?_append_left i1] at a1
    rw [List.getElem?_append_left i2] at a2
    rw [List.getElem?_append_left (by omega)] at b1 b2
    exact dis i j t u ys zs pp hij a1 a2 b1 b2
  · obtain ⟨C2, S2⟩ := call_back C1 d2 r1 hnd hno P d4
    refine q v H2 C2 (S1.trans S2) ?_ fun z ys hy hc => ?_
    · show Rep K (MM Mo env' σ) H2 d v
      rw [S2.mm Mo]
      exact P.rep
    · cases hy
      have hs : sf = true := by
        have z' : fr = true := z
        rw [z'] at hfr
        simpa using hfr
      obtain ⟨pp, us, k1, k2, k3, k4, k5⟩ := PF hs hc
      have kp : Kp (Own e1 σ) H1 H2 := S2.kp
      obtain ⟨C3, S3⟩ := call_backM (M' := fun a => Mo a ∨ a = pp) C1 d2 r1 hnd hno (fun a z => z.elim .inl fun y => .inr (by rw [y]; exact k2)) (fun a z => .inl z)
        (fun a z => z.elim (fun y => (C1.al.kp kp) a y) fun y => ⟨us, y ▸ k3, k4.isM⟩) P.kp (fun i t zs e => by
          obtain ⟨u, ys', q', us', m1, m2, m3, m4⟩ := k5 i t zs e
          exact ⟨u, ys', q', us', m1, m2, m3, m4.anti fun a z => by
            rcases z with (z | z) | z
            · exact .inl (.inl z)
            · exact .inr z
            · exact .inl (.inr z)⟩) d4
      refine ⟨pp, us, k1, C.none_back S1 k2, k3, C3, k4.anti fun a z => ?_⟩
      rcases z with (z | z) | z
      · exact .inl (.inl z)
      · exact .inr z
      · exact .inl (.inr ((S2.ownEq a).mp z))
theorem e_call {fr sf : Bool} {f : Nat} {es : Es} {ds : List D} {x : Expr} {xs : List Expr} {p : Pos} {nm : Str} {fa : Addr} {fd : FuncData} {ps : List Str} {n : Nat} {dsV : List Value} (hr : Room n X.A) (hg : Gl X nm) (hm : X.mg nm = some (.ref fa)) (hk : PySem.W.keepIn X.K (.ref fa) = true)
    (Fo : FnOk X.prog X.w X.K X.mg X.base CX0 n fa fd ps (spOf X.K (F f) ps.length sf)) (hfr : (!fr || sf) = true) (hb : Binds X.K fd ps dsV) (hv : Vals (ds.map flatV) dsV) (hfl : ds.all isFlat = true) (hl : (x :: xs).length + ds.length = ps.length)
    (ha : PA X (x :: xs) (tA F X.K es)) (hes : ∀ env rs env', denA F es env = some (rs, env') → rs.length = (x :: xs).length) (hdb : (nm == ("__debug__" : Str)) = false) (hx : starEach (x :: xs) X.env = (false, eval x X.env) :: starEach xs X.env)
    (hpl : (backTo pos (starEach xs X.env)).any (·.1) = false) : PE X (.Call (.Name nm p) (x :: xs) [] pos) (tE F X.K (.call fr f es ds)) := by
  refine PE.imp (pe_call Fo hr hg hm hk hb hv pass0 ha hdb hx hpl) fun σ H Q h => ?_
  obtain ⟨Mo, pins, env, rr, env', C, hd, q⟩ := h
  simp only [denE] at hd
  obtain ⟨rs, e1, d1, hd⟩ := obind2 hd
  dsimp only at hd
  split at hd
  · rename_i hnd
    obtain ⟨as, d2, hd⟩ := obind hd
    obtain ⟨d, outs, d3, hd⟩ := obind2 hd
    obtain ⟨e2, d4, hd⟩ := omap hd
    cases hd
    refine ⟨Mo, pins, env, rs, e1, C, d1, fun vs H1 C1 S1 r1 => ?_⟩
    exact sp_call (fr := fr) C C1 S1 r1 hnd d2 d3 d4 hfl (by rw [hes _ _ _ d1]; exact hl) hfr q
  · cases hd
/-! ### f(k = v, ..) -/
theorem perm_vals {pm : List Nat} {vs : List V} {us : List Value} (r : Vals vs us) : Vals (permR pm vs) (permR pm us) := by
  unfold permR
  induction pm with
  | nil => exact .nil
  | cons i pm ih =>
    rw [List.filterMap_cons, List.filterMap_cons]
    cases e : vs[i]? with
    | none =>
      have : us[i]? = none := by
        have h1 := List.getElem?_eq_none_iff.mp e
        exact List.getElem?_eq_none_iff.mpr (by rw [← r.length]; exact h1)
      rw [this]
      exact ih
    | some v =>
      obtain ⟨u, h1, h2⟩ := r.get e
      rw [h1]
      exact .cons h2 ih
theorem rrs_get {K : PySem.W.Frag} {Mo : Addr → Prop} {env : En} {σ : L2.St} {H : Hp} : ∀ {rs : List R} {vs : List V} {i : Nat} {r : R}, RRs K Mo env σ H rs vs → rs[i]? = some r → ∃ v, vs[i]? = some v ∧ RR K Mo env σ H r v
  | [], _, _, _, _, e => by simp at e
  | r :: rs, _, 0, x, h, e => by
    obtain ⟨v, w, rfl, h1, _⟩ := h
    cases e
    exact ⟨v, rfl, h1⟩
  | r :: rs, _, i + 1, x, h, e => by
    obtain ⟨v, w, rfl, _, h2⟩ := h
    obtain ⟨y, h3, h4⟩ := rrs_get h2 (i := i) (by simpa using e)
    exact ⟨y, by simpa using h3, h4⟩
theorem perm_rrs {K : PySem.W.Frag} {Mo : Addr → Prop} {env : En} {σ : L2.St} {H : Hp} {pm : List Nat} {rs : List R} {vs : List V} (r : RRs K Mo env σ H rs vs) : RRs K Mo env σ H (permR pm rs) (permR pm vs) := by
  unfold permR
  induction pm with
  | nil => exact rfl
  | cons i pm ih =>
    rw [List.filterMap_cons, List.filterMap_cons]
    cases e : rs[i]? with
    | none =>
      have : vs[i]? = none := List.getElem?_eq_none_iff.mpr (by rw [rrs_len r]; exact List.getElem?_eq_none_iff.mp e)
      rw [this]
      exact ih
    | some x =>
      obtain ⟨v, h1, h2⟩ := rrs_get r e
      rw [h1]
      exact ⟨v, _, rfl, h2, ih⟩
theorem perm_len {α β : Type} {pm : List Nat} {l : List α} {m : List β} (h : l.length = m.length) : (permR pm l).length = (permR pm m).length := by
  unfold permR
  induction pm with
  | nil => rfl
  | cons i pm ih =>
    rw [List.filterMap_cons, List.filterMap_cons]
    cases e : l[i]? with
    | none =>
      have : m[i]? = none := List.getElem?_eq_none_iff.mpr (by rw [← h]; exact List.getElem?_eq_none_iff.mp e)
      rw [this]
      exact ih
    | some x =>
      have hi : i < m.length := by rw [← h]; exact (List.getElem?_eq_some_iff.mp e).1
      rw [List.getElem?_eq_getElem hi]
      show (permR pm l).length + 1 = (permR pm m).length + 1
      unfold permR
      rw [ih]
theorem pk_imp {X : Cx} {e : List Keyword} {t t' : TA} (h : PK X e t) (w : ∀ σ H Q, t' σ H Q → t σ H Q) : PK X e t' := ⟨fun pos pins s σ H Q I q => h.run pos pins s σ H Q I (w σ H Q q)⟩
theorem k_nil : PK X [] (tA F X.K .nil) := by
  refine pk_imp pk_nil fun σ H Q h => ?_
  obtain ⟨Mo, pins, env, rs, env', C, hd, q⟩ := h
  simp only [denA] at hd
  cases hd
  exact q [] H C .refl rfl
theorem k_cons {kws : List Keyword} {es : Es} {nm : Option Str} {kp : Pos} (h1 : PE X e (tE F X.K a)) (h2 : PK X kws (tA F X.K es)) : PK X (⟨nm, e, kp⟩ :: kws) (tA F X.K (.cons a es)) := by
  refine pk_imp (pk_cons h1 h2) fun σ H Q h => ?_
  obtain ⟨Mo, pins, env, rs, env', C, hd, q⟩ := h
  simp only [denA] at hd
  obtain ⟨x, e1, d1, hd⟩ := obind2 hd
  obtain ⟨⟨ys, e2⟩, d2, hd⟩ := omap hd
  cases hd
  refine ⟨Mo, pins, env, x, e1, C, d1, fun v H1 C1 S1 r1 _ => ⟨Mo, pins, e1, ys, e2, C1, d2, fun vs H2 C2 S2 r2 => ?_⟩⟩
  exact q (v :: vs) H2 C2 (S1.trans S2) ⟨v, vs, rfl, rr_lift C1 S2 r1, r2⟩
theorem pe_allK {CX : CXT} {k : Nat} {f : Addr} {fd : FuncData} {ps ks : List Str} {sp : Sp} {E : XK} {x : Str} {p : Pos} {kws : List Keyword} {tk : TA} {g : List Value → List Value → List Value} {gV : List V → List V → List V} (Fo : FnOk X.prog X.w X.K X.mg X.base CX k f fd ps sp) (hr : Room k X.A) (hg : Gl X x) (hm : X.mg x = some (.ref f)) (hk : PySem.W.keepIn X.K (.ref f) = true) (hb : KBn X.K fd ps 0 ks g gV) (hx : Passes CX X E)
    (hkw : PK X kws tk) (hall : (backToKw pos (keywordEach kws X.env)).all (·.1.isSome) = true) (hany : (backToKw pos (keywordEach kws X.env)).any (·.1.isNone) = false) (hks : (backToKw pos (keywordEach kws X.env)).filterMap (·.1) = ks) (hdb : (x == ("__debug__" : Str)) = false) :
    PE X (.Call (.Name x p) [] kws pos) (fun σ H Q => tk σ H fun zs H2 => zs.length = ks.length ∧ sp (gV [] zs) H2 Q E) := by
  refine ⟨fun pins s σ H Q I h => ?_⟩
  refine wpAny_Call_Name_kw (ld_glob I hg hm ?_ hdb)
  refine PySem.W.callWith_KW0 (h₀ := s.heap) I.kIn hk hall (thn (hkw.run pos pins s σ H _ I h) fun ws s2 ⟨zs, H2, I2, rz, l2, q2⟩ => ⟨I2.kIn, ?_⟩) (by rw [hany] <;> rfl)
  rw [hks]
  exact run_fnN Fo hr hb hx I2 .nil rz rfl l2 q2
theorem e_callK {fr sf : Bool} {f : Nat} {pm : List Nat} {es : Es} {kws : List Keyword} {p : Pos} {nm : Str} {fa : Addr} {fd : FuncData} {ps ks : List Str} {n : Nat} (hr : Room n X.A) (hg : Gl X nm) (hm : X.mg nm = some (.ref fa)) (hk : PySem.W.keepIn X.K (.ref fa) = true)
    (Fo : FnOk X.prog X.w X.K X.mg X.base CX0 n fa fd ps (spOf X.K (F f) ps.length sf)) (hfr : (!fr || sf) = true) (hb : KBn X.K fd ps 0 ks (fun _ ws => permR pm ws) (fun _ zs => permR pm zs)) (hl : (permR pm ks).length = ps.length) (hkl : kws.length = ks.length)
    (ha : PK X kws (tA F X.K es)) (hes : ∀ env rs env', denA F es env = some (rs, env') → rs.length = kws.length) (hall : (backToKw pos (keywordEach kws X.env)).all (·.1.isSome) = true) (hany : (backToKw pos (keywordEach kws X.env)).any (·.1.isNone) = false) (hks : (backToKw pos (keywordEach kws X.env)).filterMap (·.1) = ks) (hdb : (nm == ("__debug__" : Str)) = false) :
    PE X (.Call (.Name nm p) [] kws pos) (tE F X.K (.callK fr f pm es)) := by
  refine PE.imp (pe_allK Fo hr hg hm hk hb pass0 ha hall hany hks hdb) fun σ H Q h => ?_
  obtain ⟨Mo, pins, env, rr, env', C, hd, q⟩ := h
  simp only [denE] at hd
  obtain ⟨rs, e1, d1, hd⟩ := obind2 hd
  dsimp only at hd
  split at hd
  · rename_i hnd
    obtain ⟨as, d2, hd⟩ := obind hd
    obtain ⟨d, outs, d3, hd⟩ := obind2 hd
    obtain ⟨e2, d4, hd⟩ := omap hd
    cases hd
    refine ⟨Mo, pins, env, rs, e1, C, d1, fun vs H1 C1 S1 r1 => ⟨by rw [rrs_len r1, hes _ _ _ d1, hkl], ?_⟩⟩
    have e := sp_call (fr := fr) (sf := sf) (n := ps.length) (ds := []) (E := E0) C C1 S1 (perm_rrs (pm := pm) r1) hnd d2 d3 d4 rfl (by
      rw [← hl]
      exact perm_len (by rw [hes _ _ _ d1, hkl])) hfr q
    rwa [List.map_nil, List.append_nil] at e
  · cases hd
theorem ch_kw {S : List FnS} {G : List (Str × D)} {N : List Str} {sc : Scope} : ∀ {es : Es} {kws : List Keyword} {ks : List Str} (env : Env) (pos : Pos), chkK S G N es sc kws ks = true → (backToKw pos (keywordEach kws env)).all (·.1.isSome) = true ∧ (backToKw pos (keywordEach kws env)).any (·.1.isNone) = false ∧ (backToKw pos (keywordEach kws env)).filterMap (·.1) = ks ∧ kws.length = ks.length ∧
    ∀ e rs e', denA F es e = some (rs, e') → rs.length = kws.length
  | .nil, kws, ks, env, pos, h => by
    unfold chkK at h
    split at h
    · exact ⟨rfl, rfl, rfl, rfl, fun e rs e' g => by
        simp only [denA] at g
        cases g
        rfl⟩
    · cases h
  | .cons a es, kws, ks, env, pos, h => by
    unfold chkK at h
    split at h
    · rename_i x e kp l y ks'
      obtain ⟨h1, h2, h3⟩ := and3 h
      obtain ⟨i1, i2, i3, i4, i5⟩ := ch_kw (es := es) env pos h3
      have ex := of_decide_eq_true h1
      subst ex
      refine ⟨?_, ?_, ?_, by rw [List.length_cons, List.length_cons, i4], fun e rs e' g => ?_⟩
      · show (true && (backToKw pos (keywordEach l env)).all (·.1.isSome)) = true
        rw [i1]
        rfl
      · show (false || (backToKw pos (keywordEach l env)).any (·.1.isNone)) = false
        rw [i2]
        rfl
      · show x :: (backToKw pos (keywordEach l env)).filterMap (·.1) = x :: ks'
        rw [i3]
      · simp only [denA] at g
        obtain ⟨z, e1, d1, g⟩ := obind2 g
        obtain ⟨⟨ys, e2⟩, d2, g⟩ := omap g
        cases g
        rw [List.length_cons, List.length_cons, i5 _ _ _ d2]
    · cases h
theorem a_nil : PA X [] (tA F X.K .nil) := by
  refine PA.imp pa_nil fun σ H Q h => ?_
  obtain ⟨Mo, pins, env, rs, env', C, hd, q⟩ := h
  simp only [denA] at hd
  cases hd
  exact q [] H C .refl rfl
theorem a_cons {xs : List Expr} {es : Es} (h1 : PE X e (tE F X.K a)) (h2 : PA X xs (tA F X.K es)) (hs : starEach (e :: xs) X.env = (false, eval e X.env) :: starEach xs X.env) : PA X (e :: xs) (tA F X.K (.cons a es)) := by
  refine PA.imp (pa_cons h1 h2 hs) fun σ H Q h => ?_
  obtain ⟨Mo, pins, env, rs, env', C, hd, q⟩ := h
  simp only [denA] at hd
  obtain ⟨x, e1, d1, hd⟩ := obind2 hd
  obtain ⟨⟨ys, e2⟩, d2, hd⟩ := omap hd
  cases hd
  refine ⟨Mo, pins, env, x, e1, C, d1, fun v H1 C1 S1 r1 _ => ⟨Mo, pins, e1, ys, e2, C1, d2, fun vs H2 C2 S2 r2 => ?_⟩⟩
  exact q (v :: vs) H2 C2 (S1.trans S2) ⟨v, vs, rfl, rr_lift C1 S2 r1, r2⟩
theorem denA_len : ∀ {es : Es} {S : List FnS} {G : List (Str × D)} {N : List Str} {sc : Scope} {xs : List Expr} {env : En} {rs : List R} {env' : En}, chkEs S G N es sc xs = true → denA F es env = some (rs, env') → rs.length = xs.length
  | .nil, S, G, N, sc, xs, env, rs, env', h, g => by
    rw [chkEs_nil h]
    simp only [denA] at g
    cases g
    rfl
  | .cons a r, S, G, N, sc, xs, env, rs, env', h, g => by
    obtain ⟨e, l, rfl, _, h2⟩ := chkEs_cons h
    simp only [denA] at g
    obtain ⟨x, e1, d1, g⟩ := obind2 g
    obtain ⟨⟨ys, e2⟩, d2, g⟩ := omap g
    cases g
    rw [List.length_cons, List.length_cons, denA_len h2 d2]
end
end PC
set_option Elab.async false
set_option linter.all false
set_option maxRecDepth 100000
/-! PyCore: min(list, key = a def of the program). -/
namespace PC
open PySem PySem.Spec PyProof.Rows L2
section
variable {X : Cx} {pins : List (Addr × Obj)} {σ : L2.St} {F : CallF}
theorem mapM_get {α β : Type} {f : α → Option β} : ∀ {xs : List α} {ks : List β}, xs.mapM f = some ks → ks.length = xs.length ∧ ∀ (i : Nat) (x : α), xs[i]? = some x → ∃ k, ks[i]? = some k ∧ f x = some k
  | [], ks, h => by
    have e : ks = [] := by simpa using h.symm
    subst e
    exact ⟨rfl, fun i x z => by simp at z⟩
  | x :: xs, ks, h => by
    rw [List.mapM_cons] at h
    cases q : f x with
    | none => rw [q] at h; cases h
    | some k =>
      rw [q] at h
      cases q2 : xs.mapM f with
      | none => rw [q2] at h; cases h
      | some r =>
        rw [q2] at h
        have e : ks = k :: r := by simpa using h.symm
        subst e
        obtain ⟨e1, e2⟩ := mapM_get q2
        refine ⟨by rw [List.length_cons, List.length_cons, e1], fun i y hy => ?_⟩
        cases i with
        | zero =>
          cases hy
          exact ⟨k, rfl, q⟩
        | succ i => exact e2 i y (by simpa using hy)
theorem OM.exh {M : Addr → Prop} {H H' : Hp} (om : OM M H) (e : Exh H H') : OM M H' := fun a ha => by
  obtain ⟨o, h1, h2⟩ := om a ha
  exact ⟨o, e a o h1, h2⟩
/-- what the loop of min needs of the list and the keys -/
structure KJob (X : Cx) (F : CallF) (f : Nat) (fa : Addr) (M : Addr → Prop) (H0 : Hp) (l : Addr) (xs ks : List D) (vs : List V) : Prop where
  hd : X.A.handled = none
  un : X.A.units + 65 < cLine
  fn : ∃ (n : Nat) (fd : FuncData) (ps : List Str) (sf : Bool), FnOk X.prog X.w X.K X.mg X.base CX0 n fa fd ps (spOf X.K (F f) ps.length sf) ∧ Room n X.A.in1 ∧ Binds X.K fd ps [] ∧ ps.length = 1
  om : OM M H0
  at_ : H0 l = some (.lst vs)
  rep : Reps X.K M H0 xs vs
  len : ks.length = xs.length
  key : ∀ (i : Nat) (x : D), xs[i]? = some x → ∃ k outs, ks[i]? = some k ∧ F f [.val x] = some (k, outs)
  ok : sortOk ks = true
/-- one key -/
theorem KJob.one {f : Nat} {fa : Addr} {M : Addr → Prop} {H0 : Hp} {l : Addr} {xs ks : List D} {vs : List V} (J : KJob X F f fa M H0 l xs ks vs) {H : Hp} {s : Shared} (I : Inv X pins σ H s) (ex : Exh H0 H) {i : Nat} {x : D} (hx : xs[i]? = some x) {w : V} {u : Value} (rw_ : Rep X.K M H0 x w) (ru : RelV w u) {Q E : Value → Shared → Prop}
    (q : ∀ (k : D) (v : V) (u' : Value) (H' : Hp) (s' : Shared), ks[i]? = some k → Inv X pins σ H' s' → Exh H H' → Rep X.K M H' k v → RelV v u' → (∀ b o, s.heap.get? b = some o → H b = none → b ∉ frs X.stack → s'.heap.get? b = some o ∧ H' b = none) → Q u' s') :
    wpAny (model X.prog X.w) X.A.in1 (call (.ref fa) [u]) Q E s := by
  obtain ⟨n, fd, ps, sf, Fo, hr, hb, hl⟩ := J.fn
  obtain ⟨k, outs, hk, hF⟩ := J.key i x hx
  have hsp : spOf X.K (F f) ps.length sf [w] H (fun v H' => Exh H H' ∧ Rep X.K M H' k v) E0 := by
    refine ⟨M, [.val x], k, outs, hl.symm, J.om.exh ex, ⟨w, [], rfl, rw_.ex ex, rfl⟩, ?_, hF, fun v H' P _ => ⟨?_, P.rep⟩⟩
    · intro a b t u xs ys p hij e1
      cases a with
      | zero => cases e1
      | succ a => simp at e1
    · refine fun a o e => P.kp.old a o ?_ e
      rintro ⟨i, t, xs, e1, _⟩
      cases i with
      | zero => cases e1
      | succ i => simp at e1
  refine wpAny_call (codeAny_mono (Fo.run X.A.in1 X.stack s H ⟨[u], []⟩ [u] [w] _ E0 hr I.env0.in1 (by simpa using hb s [u] I.kIn (by simpa using hl.symm)) (.cons ru .nil) hsp) fun r s' hq => ?_)
  cases r with
  | error e => exact False.elim hq
  | ok fl =>
    cases fl with
    | ret u' =>
      obtain ⟨v, H', os, bare, un, hok, rr, ex', rep'⟩ := hq
      obtain ⟨hh, g, d, t, os'⟩ := s'
      obtain rfl : os' = s.os := os
      have I' := I.call (h' := hh) (g' := g) (d' := d) (t' := t) (ch := []) un hok bare (fun b z => absurd z (by simp))
      exact q k v u' H' _ hk I' ex' rep' rr fun b o e1 e2 e3 => ⟨un.keep b o e1 e2 e3 (by simp), un.free b o e1 e2 (by simp)⟩
    | next => exact False.elim hq
    | brk => exact False.elim hq
    | cont => exact False.elim hq
theorem fp_turned {H : Hp} {s : Shared} {it : Addr} (fp : FpOk X pins H it) (I : Inv X pins σ H s) {h' : Heap} {t' : Nat} (k : ∀ b o, b ≠ it → s.heap.get? b = some o → h'.get? b = some o) : Inv X pins σ H { s with heap := h', toks := t' } :=
  I.turned k fp.1 fp.2.1 fp.2.2.2.1 fp.2.2.2.2.1 fp.2.2.2.2.2
theorem fp_stk {H : Hp} {s : Shared} {it : Addr} (fp : FpOk X pins H it) (I : Inv X pins σ H s) : it ∉ frs X.stack := fun hb => by
  rcases List.mem_cons.mp (I.stkSub it hb) with z | z
  · exact fp.2.1 z
  · exact fp.2.2.1 z
theorem fp_to {H H' : Hp} {it : Addr} (fp : FpOk X pins H it) (hn : H' it = none) : FpOk X pins H' it := ⟨hn, fp.2⟩
def kbt (ks : List D) (i j : Nat) : Bool := ltB (ks.getD i .non) (ks.getD j .non)
theorem getD_of {ks : List D} {i : Nat} {k : D} (h : ks[i]? = some k) : ks.getD i .non = k := by rw [List.getD_eq_getElem?_getD, h]; rfl
def KBest (X : Cx) (M : Addr → Prop) (H : Hp) (xs ks : List D) (j : Nat) (vb kb : Value) : Prop := ∃ d w kd kw, xs[argBest (kbt ks) j]? = some d ∧ Rep X.K M H d w ∧ RelV w vb ∧ ks[argBest (kbt ks) j]? = some kd ∧ Rep X.K M H kd kw ∧ RelV kw kb
theorem KBest.ex {M : Addr → Prop} {H H' : Hp} {xs ks : List D} {j : Nat} {vb kb : Value} (h : KBest X M H xs ks j vb kb) (e : Exh H H') : KBest X M H' xs ks j vb kb := by
  obtain ⟨d, w, kd, kw, h1, h2, h3, h4, h5, h6⟩ := h
  exact ⟨d, w, kd, kw, h1, h2.ex e, h3, h4, h5.ex e, h6⟩
section
variable {f : Nat} {fa : Addr} {M : Addr → Prop} {H0 : Hp} {l : Addr} {xs ks : List D} {vs : List V} {R : Result → Shared → Prop}
theorem KJob.loop (J : KJob X F f fa M H0 l xs ks vs) {Ia S : Addr} (hIS : Ia ≠ S) (kw : List (Str × Value)) :
    ∀ (k j : Nat) (s : Shared) (H : Hp) (vb kb : Value) (c : Nat), xs.length - (j + 1) = k → j + 1 ≤ xs.length → Inv X pins σ H s → Exh H0 H → FpOk X pins H Ia → FpOk X pins H S → s.heap.IsListIter Ia l (j + 1) →
      s.heap.get? S = some { cls := .type "list", dict := none, data := .seq #[vb, kb] c, slots := #[] } → KBest X M H xs ks j vb kb →
      (∀ v s' H' d w, Inv X pins σ H' s' → Exh H0 H' → xs[argBest (kbt ks) (xs.length - 1)]? = some d → Rep X.K M H' d w → RelV w v → R (.ok (.ret v)) s') →
      codeAny (model X.prog X.w) X.A (.builtin "min.loop" ⟨[.ref Ia, (.ref fa), .ref S], kw⟩) R s := by
  have hname : (toString "min" ++ toString ".loop" : String) = "min.loop" := by decide
  intro k
  induction k with
  | zero =>
    intro j s H vb kb c hk hj I ex fI fS hit hS hB hR
    have hin : j + 1 = xs.length := by omega
    refine codeAny_builtin PySem.F.entry_min_loop ?_
    rw [Around.under_plainId PySem.F.plain_min_loop _]
    show wpAny _ X.A.in1 (seqItems? (.ref S) >>= _) _ _ s
    refine wpAny_bind (wpAny_seqItems hS rfl ?_)
    show wpAny _ X.A.in1 (tryCatch (pyNext (.ref Ia)) _ >>= _) _ _ s
    obtain ⟨z1, its, n1, rv, hl, e1⟩ := I.lstM (ex _ _ J.at_)
    have hL : s.heap.IsList l its.toArray := ⟨_, e1, rfl, n1, rfl⟩
    have hlen : its.length = xs.length := by rw [← rv.length, ← J.rep.length]
    refine wpAny_bind (wpAny_tryCatch (wpAny_pyNext_list_end (A := X.A.in1) J.hd hit hL (Array.getElem?_eq_none (by rw [List.size_toArray]; omega)) fun h' he => ?_))
    have hS' := he S _ (Ne.symm hIS) hS
    have I1 := fp_turned fI (t' := s.toks) I he
    show wpAny _ X.A.in1 (updateSeq S (fun _ => #[]) >>= _) _ _ _
    refine wpAny_bind ?_
    refine wpAny_updateSeq hS' rfl (wpAny_bind (wpAny_letGo (wpAny_pure ?_)))
    have I2 := fp_turned fS (t' := s.toks) I1 (h' := h'.update S (Obj.mapSeq fun _ => #[])) fun b o hb e => (Heap.get?_update_other _ _ (Ne.symm hb)).trans e
    obtain ⟨d, w, kd, kw, b1, b2, b3, _⟩ := hB
    have ej : xs.length - 1 = j := by omega
    exact hR vb _ H d w I2 ex (by rw [ej]; exact b1) b2 b3
  | succ k ih =>
    intro j s H vb kb c hk hj I ex fI fS hit hS hB hR
    have hlt : j + 1 < xs.length := by omega
    refine codeAny_builtin PySem.F.entry_min_loop ?_
    rw [Around.under_plainId PySem.F.plain_min_loop _]
    show wpAny _ X.A.in1 (seqItems? (.ref S) >>= _) _ _ s
    refine wpAny_bind (wpAny_seqItems hS rfl ?_)
    show wpAny _ X.A.in1 (tryCatch (pyNext (.ref Ia)) _ >>= _) _ _ s
    obtain ⟨z1, its, n1, rv, hl, e1⟩ := I.lstM (ex _ _ J.at_)
    have hL : s.heap.IsList l its.toArray := ⟨_, e1, rfl, n1, rfl⟩
    have hx : xs[j + 1]? = some xs[j + 1] := List.getElem?_eq_getElem hlt
    obtain ⟨w, g1, g2⟩ := J.rep.get hx
    obtain ⟨u, g3, g4⟩ := rv.get g1
    refine wpAny_bind (wpAny_tryCatch (wpAny_pyNext_list_item (A := X.A.in1) (x := u) hit hL (by simpa using g3) fun h' hit' hs' => ?_))
    have hS' := hs'.extBut S _ (Ne.symm hIS) hS
    have I1 := fp_turned fI (t' := s.toks) I hs'.extBut
    show wpAny _ X.A.in1 (tryCatch (holding [u] (call (.ref fa) [u])) _ >>= _) _ _ _
    refine wpAny_bind (wpAny_tryCatch (wpAny_holding (J.one I1 ex hx g2 g4 fun kd kv ku H2 s2 c1 I2 ex2 c2 c3 c4 => ?_)))
    have ex02 := Exh.trans ex ex2
    obtain ⟨hS2, nS2⟩ := c4 S _ hS' fS.1 (fp_stk fS I1)
    obtain ⟨oI, hoI, rI⟩ := id hit'
    obtain ⟨hI2, nI2⟩ := c4 Ia _ hoI fI.1 (fp_stk fI I1)
    have hit2 : s2.heap.IsListIter Ia l (j + 1 + 1) := ⟨oI, hI2, rI⟩
    have fI2 := fp_to fI nI2
    have fS2 := fp_to fS nS2
    have hB2 := KBest.ex hB ex2
    obtain ⟨bd, bw, bk, bkw, b1, b2, b3, b4, b5, b6⟩ := hB2
    obtain ⟨o1, o2, o3, o4⟩ := sortOk_of J.ok
    have mk1 : kd ∈ ks := List.mem_of_getElem? c1
    have mk2 : bk ∈ ks := List.mem_of_getElem? b4
    show wpAny _ X.A.in1 (tryCatch (holding [u, ku] (richCompare .Lt ku kb >>= _)) _ >>= _) _ _ _
    refine wpAny_bind (wpAny_tryCatch (wpAny_holding (wpAny_bind (lt_rep I2 c2 b5 c3 b6 (o1 _ mk1 _ mk2) (okDs_mem o3 mk1) (okDs_mem o3 mk2) (by show X.A.units + 1 + 61 < cLine; have := J.un; omega) (fun _ _ e => e) ?_))))
    refine wpAny_bind (wpAny_holding (wpAny_truthy_bool ?_))
    refine wpAny_bind (wpAny_letGo (wpAny_pure ?_))
    have hbt : kbt ks (j + 1) (argBest (kbt ks) j) = ltB kd bk := by
      show ltB (ks.getD (j + 1) .non) (ks.getD (argBest (kbt ks) j) .non) = _
      rw [getD_of c1, getD_of b4]
    cases hb : ltB kd bk with
    | true =>
      rw [hb] at hbt
      have ea : argBest (kbt ks) (j + 1) = j + 1 := if_pos hbt
      simp only [if_true]
      refine wpAny_bind ?_
      refine wpAny_updateSeq hS2 rfl (wpAny_bind (wpAny_letGo ?_))
      rw [hname]
      have I3 := fp_turned fS2 (t' := s2.toks) I2 (h' := s2.heap.update S (Obj.mapSeq fun _ => #[u, ku])) fun b o hb e => (Heap.get?_update_other _ _ (Ne.symm hb)).trans e
      refine wpAny_pure ⟨plainId_quiet PySem.F.plain_min_loop _, ih (j + 1) _ H2 u ku _ (by omega) hlt I3 ex02 fI2 fS2 ?_ (Heap.get?_update_self _ hS2 rfl) ?_ hR⟩
      · exact ⟨oI, (Heap.get?_update_other _ _ (Ne.symm hIS)).trans hI2, rI⟩
      · exact ⟨_, w, kd, kv, by rw [ea]; exact hx, (g2.ex ex02), g4, by rw [ea]; exact c1, c2, c3⟩
    | false =>
      rw [hb] at hbt
      have ea : argBest (kbt ks) (j + 1) = argBest (kbt ks) j := if_neg (by rw [hbt]; exact Bool.false_ne_true)
      simp only [Bool.false_eq_true, if_false]
      refine wpAny_bind (wpAny_letGo ?_)
      rw [hname]
      exact wpAny_pure ⟨plainId_quiet PySem.F.plain_min_loop _, ih (j + 1) _ H2 vb kb c (by omega) hlt I2 ex02 fI2 fS2 hit2 hS2 ⟨bd, bw, bk, bkw, by rw [ea]; exact b1, b2, b3, by rw [ea]; exact b4, b5, b6⟩ hR⟩
theorem KJob.first (J : KJob X F f fa M H0 l xs ks vs) {Ia S : Addr} (hIS : Ia ≠ S) (kw : List (Str × Value)) (hne : 0 < xs.length) {s : Shared} {c : Nat} (I : Inv X pins σ H0 s) (fI : FpOk X pins H0 Ia) (fS : FpOk X pins H0 S) (hit : s.heap.IsListIter Ia l 0)
    (hS : s.heap.get? S = some { cls := .type "list", dict := none, data := .seq #[] c, slots := #[] })
    (hR : ∀ v s' H' d w, Inv X pins σ H' s' → Exh H0 H' → xs[argBest (kbt ks) (xs.length - 1)]? = some d → Rep X.K M H' d w → RelV w v → R (.ok (.ret v)) s') :
    codeAny (model X.prog X.w) X.A (.builtin "min.loop" ⟨[.ref Ia, (.ref fa), .ref S], kw⟩) R s := by
  have hname : (toString "min" ++ toString ".loop" : String) = "min.loop" := by decide
  refine codeAny_builtin PySem.F.entry_min_loop ?_
  rw [Around.under_plainId PySem.F.plain_min_loop _]
  show wpAny _ X.A.in1 (seqItems? (.ref S) >>= _) _ _ s
  refine wpAny_bind (wpAny_seqItems hS rfl ?_)
  show wpAny _ X.A.in1 (tryCatch (pyNext (.ref Ia)) _ >>= _) _ _ s
  obtain ⟨z1, its, n1, rv, hl, e1⟩ := I.lstM J.at_
  have hL : s.heap.IsList l its.toArray := ⟨_, e1, rfl, n1, rfl⟩
  have hx : xs[0]? = some xs[0] := List.getElem?_eq_getElem hne
  obtain ⟨w, g1, g2⟩ := J.rep.get hx
  obtain ⟨u, g3, g4⟩ := rv.get g1
  refine wpAny_bind (wpAny_tryCatch (wpAny_pyNext_list_item (A := X.A.in1) (x := u) hit hL (by simpa using g3) fun h' hit' hs' => ?_))
  have hS' := hs'.extBut S _ (Ne.symm hIS) hS
  have I1 := fp_turned fI (t' := s.toks) I hs'.extBut
  show wpAny _ X.A.in1 (tryCatch (holding [u] (PySem.call (.ref fa) [u])) _ >>= _) _ _ _
  refine wpAny_bind (wpAny_tryCatch (wpAny_holding (J.one I1 Exh.refl hx g2 g4 fun kd kv ku H2 s2 c1 I2 ex2 c2 c3 c4 => ?_)))
  obtain ⟨hS2, nS2⟩ := c4 S _ hS' fS.1 (fp_stk fS I1)
  obtain ⟨oI, hoI, rI⟩ := id hit'
  obtain ⟨hI2, nI2⟩ := c4 Ia _ hoI fI.1 (fp_stk fI I1)
  have fI2 := fp_to fI nI2
  have fS2 := fp_to fS nS2
  show wpAny _ X.A.in1 (updateSeq S (fun _ => #[u, ku]) >>= _) _ _ _
  refine wpAny_bind ?_
  refine wpAny_updateSeq hS2 rfl ?_
  rw [hname]
  have I3 := fp_turned fS2 (t' := s2.toks) I2 (h' := s2.heap.update S (Obj.mapSeq fun _ => #[u, ku])) fun b o hb e => (Heap.get?_update_other _ _ (Ne.symm hb)).trans e
  exact wpAny_pure ⟨plainId_quiet PySem.F.plain_min_loop _, J.loop hIS kw _ 0 _ H2 u ku _ rfl hne I3 ex2 fI2 fS2 ⟨oI, (Heap.get?_update_other _ _ (Ne.symm hIS)).trans hI2, rI⟩ (Heap.get?_update_self _ hS2 rfl) ⟨_, w, kd, kv, hx, g2.ex ex2, g4, c1, c2, c3⟩ hR⟩
theorem KJob.top (J : KJob X F f fa M H0 l xs ks vs) (hne : 0 < xs.length) {s : Shared} (I : Inv X pins σ H0 s) {Q : Value → Shared → Prop}
    (hR : ∀ v s' H' d w, Inv X pins σ H' s' → Exh H0 H' → xs[argBest (kbt ks) (xs.length - 1)]? = some d → Rep X.K M H' d w → RelV w v → Q v s') :
    wpAny (model X.prog X.w) X.A (PySem.call (.builtin "min") [.ref l] [(Str.ofString "key", .ref fa)]) Q X.xe s := by
  have hname : (toString "min" ++ toString ".loop" : String) = "min.loop" := by decide
  refine PyProof.Rows.kmk_tree PySem.F.kind_min PySem.F.plain_min PySem.F.entry_min (PyProof.Rows.kmk_min_key _ _) ?_
  show wpAny _ X.A.in1 (Builtin.Builtins.bindParams "min" ["key", "default"] 0 ⟨[], [(Str.ofString "key", .ref fa)]⟩ >>= _) _ _ s
  refine wpAny_bind (wpAny_of_eq (show Builtin.Builtins.bindParams "min" ["key", "default"] 0 ⟨[], [(Str.ofString "key", .ref fa)]⟩ = pure [some (.ref fa), none] from rfl) ?_)
  refine wpAny_bind (wpAny_pure ?_)
  obtain ⟨z1, its, n1, rv, hl, e1⟩ := I.lstM J.at_
  have hL : s.heap.IsList l its.toArray := ⟨_, e1, rfl, n1, rfl⟩
  refine wpAny_bind (wpAny_pyIter_list hL ?_)
  refine wpAny_bind (wpAny_newObj_type ?_)
  rw [hname]
  have hn0 : H0 s.heap.objs.size = none := I.fresh
  have I1 : Inv X pins σ H0 { s with heap := s.heap.push { cls := .type "list_iterator", data := .fields #[.ref l, .int 0 0] } } := I.kept (t' := s.toks) fun b o e => Heap.get?_push_of_some _ e
  have hn1 : H0 (s.heap.push { cls := .type "list_iterator", data := .fields #[.ref l, .int 0 0] }).objs.size = none := I1.fresh
  have fI : FpOk X pins H0 s.heap.objs.size := I.fpOk (Nat.le_refl _) hn0
  have fS : FpOk X pins H0 (s.heap.push { cls := .type "list_iterator", data := .fields #[.ref l, .int 0 0] }).objs.size := I1.fpOk (Nat.le_refl _) hn1
  have hIS : s.heap.objs.size ≠ (s.heap.push { cls := .type "list_iterator", data := .fields #[.ref l, .int 0 0] }).objs.size := by rw [Heap.size_push]; exact Nat.ne_of_lt (Nat.lt_succ_self _)
  have I2 := I1.kept (t' := s.toks) (h' := (s.heap.push { cls := .type "list_iterator", data := .fields #[.ref l, .int 0 0] }).push { cls := .type "list", data := .seq #[] }) fun b o e => Heap.get?_push_of_some _ e
  exact wpAny_pure ⟨plainId_quiet PySem.F.plain_min_loop _, J.first hIS _ hne I2 fI fS ⟨_, Heap.get?_push_of_some _ (Heap.get?_push_size _ rfl), rfl, rfl⟩ (Heap.get?_push_size _ rfl) hR⟩
end
end

theorem minK_at {xs ks : List D} (hl : ks.length = xs.length) (hne : 0 < xs.length) : minK (xs.zip ks) = xs[argBest (kbt ks) (xs.length - 1)]? := by
  cases xs with
  | nil => exact absurd hne (Nat.lt_irrefl _)
  | cons x xs =>
    cases ks with
    | nil => simp at hl
    | cons k ks =>
      have hl' : ks.length = xs.length := by simpa using hl
      have e := (PySem.W.argBest_fold (fun (q a : D × D) => ltB q.2 a.2) (D.non, D.non) (x, k) (xs.zip ks) (xs.zip ks).length (Nat.le_refl _))
      have lz : (xs.zip ks).length = xs.length := by rw [List.length_zip, hl', Nat.min_self]
      have hz : ∀ i, (((x, k) :: xs.zip ks).getD i (D.non, D.non)).2 = (k :: ks).getD i .non := fun i => by
        have ez : (x, k) :: xs.zip ks = (x :: xs).zip (k :: ks) := rfl
        rw [ez, List.getD_eq_getElem?_getD, List.getD_eq_getElem?_getD]
        by_cases hi : i < (k :: ks).length
        · have h2 : i < ((x :: xs).zip (k :: ks)).length := by rw [List.length_zip, hl, Nat.min_self, ← hl]; exact hi
          rw [List.getElem?_eq_getElem h2, List.getElem?_eq_getElem hi]
          exact congrArg Prod.snd List.getElem_zip
        · have h2 : ¬ i < ((x :: xs).zip (k :: ks)).length := by rw [List.length_zip, hl, Nat.min_self, ← hl]; exact hi
          rw [List.getElem?_eq_none (by omega), List.getElem?_eq_none (by omega)]
          rfl
      have hfun : (fun i j => (fun (q a : D × D) => ltB q.2 a.2) (((x, k) :: xs.zip ks).getD i (D.non, D.non)) (((x, k) :: xs.zip ks).getD j (D.non, D.non))) = kbt (k :: ks) := by
        funext i j
        show ltB _ _ = ltB _ _
        rw [hz i, hz j]
      rw [hfun, List.take_length, lz] at e
      obtain ⟨e1, e2⟩ := e
      show some (List.foldl (fun a q => if ltB q.2 a.2 then q else a) (x, k) (xs.zip ks)).1 = _
      rw [← e2, show (x :: xs).length - 1 = xs.length from rfl]
      have ez : (x, k) :: xs.zip ks = (x :: xs).zip (k :: ks) := rfl
      have h1 : argBest (kbt (k :: ks)) xs.length < (x :: xs).length := by rw [List.length_cons]; omega
      have h2 : argBest (kbt (k :: ks)) xs.length < ((x :: xs).zip (k :: ks)).length := by rw [List.length_zip, hl, Nat.min_self]; exact h1
      rw [ez, List.getD_eq_getElem?_getD, List.getElem?_eq_getElem h2, List.getElem?_eq_getElem h1]
      exact congrArg some (congrArg Prod.fst List.getElem_zip)
def rMinK (X : Cx) (F : CallF) (f : Nat) (fa : Addr) : List V → List V → Hp → VK → Prop := fun vs zs H Q => ∃ M l xs ks ws d, vs = [V.ref l] ∧ zs = [V.ref fa] ∧ KJob X F f fa M H l xs ks ws ∧ minK (xs.zip ks) = some d ∧ ∀ v H', Exh H H' → Rep X.K M H' d v → Q v H'
theorem cr_minK {X : Cx} {F : CallF} {f : Nat} {fa : Addr} : CallRK X (.builtin "min") ["key"] (rMinK X F f fa) := by
  intro pins s σ H xs zs us ws Q I r1 r2 h
  obtain ⟨M, l, ys, ks, vs, d, rfl, rfl, J, hd, q⟩ := h
  rw [Vals.ref1 r1, Vals.ref1 r2]
  have hne : 0 < ys.length := by
    cases ys with
    | nil => cases hd
    | cons y ys => exact Nat.succ_pos _
  refine J.top hne I fun v s' H' d' w I' ex h1 h2 h3 => ⟨w, H', I', h3, ?_⟩
  rw [minK_at J.len hne, h1] at hd
  cases hd
  exact q w H' ex h2
theorem e_minK {X : Cx} {F : CallF} {f : Nat} {a : Ex} {r : Expr} {p p2 kp pos : Pos} {nm : Str} {fa : Addr} {fd : FuncData} {ps : List Str} {n : Nat} {sf : Bool} (hh : X.A.handled = none) (hu : X.A.units + 65 < cLine) (hr : Room n X.A.in1) (hg : Gl X "min") (hm : X.mg "min" = none)
    (hgf : Gl X nm) (hmf : X.mg nm = some (.ref fa)) (hdb : (nm == ("__debug__" : Str)) = false) (Fo : FnOk X.prog X.w X.K X.mg X.base CX0 n fa fd ps (spOf X.K (F f) ps.length sf)) (hb : Binds X.K fd ps []) (hl : ps.length = 1) (ha : PE X r (tE F X.K a))
    (hx : ∀ z q, r ≠ .Starred z q) : PE X (.Call (.Name "min" p) [r] [⟨some "key", .Name nm p2, kp⟩] pos) (tE F X.K (.minK f a)) := by
  have hs : starEach [r] X.env = (false, eval r X.env) :: starEach [] X.env := star_cons hx
  have key := pe_callBK (pos := pos) (p := p) (cr_minK (X := X) (F := F) (f := f) (fa := fa)) hg hm PyProof.Rows.boot_min (pa_cons ha pa_nil hs) (pk_cons (kpos := kp) (nm := some "key") (pe_glob (v := .ref fa) (pos := p2) hgf hmf rfl hdb) pk_nil) (he := by rw [hs]; rfl) (hpl := by rw [hs]; rfl)
  refine PE.imp key fun σ H Q h => ?_
  obtain ⟨Mo, pins, env, rr, env', C, hd, q⟩ := h
  simp only [denE] at hd
  obtain ⟨x, e1, d1, hd⟩ := obind2 hd
  obtain ⟨u, v1, hd⟩ := obind hd
  obtain ⟨xs, w1, hd⟩ := obind hd
  obtain ⟨ks, k1, hd⟩ := obind hd
  split at hd
  · rename_i hok
    obtain ⟨d, d3, hd⟩ := omap hd
    cases hd
    have hu2 : u = .lst xs := by
      cases u <;> first | (cases w1; done) | (simp [wlsD] at w1; rw [w1])
    subst hu2
    unfold keyOk at hok
    simp only [Bool.and_eq_true] at hok
    obtain ⟨⟨o1, o2⟩, o3⟩ := hok
    refine ⟨Mo, pins, env, x, e1, C, d1, fun v H1 C1 S1 r1 _ => ?_⟩
    obtain ⟨l, ws, rfl, hl1, hr1⟩ := rr_view C1 r1 v1
    obtain ⟨m1, m2⟩ := mapM_get k1
    refine ⟨MM Mo e1 σ, l, xs, ks, ws, d, rfl, rfl, ⟨hh, hu, ⟨n, fd, ps, sf, Fo, hr, hb, hl⟩, C1.omM, hl1, hr1, m1, fun i y hy => ?_, o1⟩, d3, fun z H3 ex rep => ?_⟩
    · obtain ⟨k, e2, e3⟩ := m2 i y hy
      obtain ⟨⟨k', outs⟩, e4, e5⟩ := omap e3
      cases e5
      exact ⟨k', outs, e2, e4⟩
    · exact q z H3 (C1.ex ex) (S1.trans (.ex ex)) rep fun z => by cases z
  · cases hd
end PC
set_option Elab.async false
set_option linter.all false
set_option maxRecDepth 100000
/-! PyCore, part 3f: sorted(set(e)) as an expression. -/
namespace PC
open PySem PySem.Spec PyProof.Rows L2 PySem.W
section
variable {X : Cx}
theorem reps_intsD {K : PySem.W.Frag} {M : Addr → Prop} {H : Hp} : ∀ {ns : List Int} {vs : List V}, Reps K M H (ns.map D.int) vs → vs = ns.map V.int := fun {ns vs} h => reps_ints (ints_intsOf ns) h
/-- a list of tuples of ints: the tuples' addresses -/
theorem reps_tupsD {K : PySem.W.Frag} {M : Addr → Prop} {H : Hp} : ∀ {kss : List (List Int)} {vs : List V}, Reps K M H (kss.map tupI) vs → ∃ ks : List (Addr × List Int), vs = ks.map (fun p => V.ref p.1) ∧ ks.map (·.2) = kss ∧ ∀ p ∈ ks, H p.1 = some (.tup (p.2.map V.int))
  | [], vs, h => ⟨[], h, rfl, fun p z => by cases z⟩
  | k :: kss, _, h => by
    obtain ⟨v, r, rfl, h1, h2⟩ := h
    obtain ⟨a, us, rfl, g1, g2⟩ := h1
    obtain ⟨ks, rfl, e2, g3⟩ := reps_tupsD h2
    rw [reps_intsD g2] at g1
    refine ⟨(a, k) :: ks, rfl, by rw [List.map_cons, e2], fun p hp => ?_⟩
    rcases List.mem_cons.mp hp with e | hp
    · rw [e]; exact g1
    · exact g3 p hp
theorem tupsD_reps {K : PySem.W.Frag} {M : Addr → Prop} {H : Hp} : ∀ {ks : List (Addr × List Int)}, (∀ p ∈ ks, H p.1 = some (.tup (p.2.map V.int))) → Reps K M H ((ks.map (·.2)).map tupI) (ks.map fun p => V.ref p.1)
  | [], _ => rfl
  | p :: ks, h => ⟨_, _, rfl, ⟨p.1, _, rfl, h p List.mem_cons_self, reps_of_ints p.2⟩, tupsD_reps fun q hq => h q (List.mem_cons_of_mem _ hq)⟩
def rMkSet (K : PySem.W.Frag) (P : Program) (w : World) : List V → Hp → VK → Prop := fun vs H Q => ∃ M d y, vs = [y] ∧ VR K M H d y ∧
  ((∃ ns : List Int, (d = .lst (ns.map .int) ∨ d = .tup (ns.map .int)) ∧ ns.length < 64 ∧ ∀ a c, H a = none → c ≤ ns.length → Q (.ref a) (upd H a (SetO w a (fun j => decide (j ∈ ns)) c))) ∨
   (∃ kss : List (List Int), d = .lst (kss.map tupI) ∧ kss.length < 64 ∧ ∀ a (L : List (Addr × List Int)), H a = none → (∀ p ∈ L, H p.1 = some (.tup (p.2.map V.int))) → (∀ k, k ∈ L.map (·.2) ↔ k ∈ kss) → Q (.ref a) (upd H a (SetTO P w a L))))
theorem cr_mkset (hc : X.calm = true) (hu : X.A.units + 65 < cLine) : CallR X (.type "set") (rMkSet X.K X.prog X.w) := by
  intro pins s σ H xs us Q I r h
  obtain ⟨M, d, y, rfl, hv, h⟩ := h
  obtain ⟨u, rfl, ru⟩ := Vals.one r
  have hn : H s.heap.objs.size = none := I.hok.fresh (Nat.le_refl _)
  have hd := I.ok.hd hc
  rcases h with ⟨ns, hns, hl, q⟩ | ⟨kss, rfl, hl, q⟩
  · have fin : ∀ t, Filled X.w s ns .none t → EP X pins σ Q (.ref s.heap.objs.size) t := fun t ht => by
      obtain ⟨_, h', tk, c, rfl, R, hcn, k⟩ := ht
      exact ⟨.ref _, _, I.laid (t' := tk) k (Nat.le_refl _) (setO_new R), rfl, q _ c hn hcn⟩
    rcases hns with rfl | rfl
    · obtain ⟨a, vs, rfl, s1, r1⟩ := hv
      cases (show u = Value.ref a from ru)
      obtain ⟨its, rv, pl, hz⟩ := I.list (show SqL X.K H a vs from .inl (.inl s1))
      have e := reps_intsD r1
      subst e
      exact set_listI ns hd pl.isList (by simpa using rv.ints) (by unfold scanBound; omega) fin
    · obtain ⟨a, vs, rfl, s1, r1⟩ := hv
      cases (show u = Value.ref a from ru)
      obtain ⟨its, rv, pl, hz⟩ := I.tuple (show SqT X.K H a vs from .inl (.inl s1))
      have e := reps_intsD r1
      subst e
      exact call_set_tupI ns hd pl (by simpa using rv.ints) (by unfold scanBound; omega) fun h' tk c R hcn k => fin _ ⟨rfl, h', tk, c, rfl, R, hcn, k⟩
  · obtain ⟨a, vs, rfl, s1, r1⟩ := hv
    obtain ⟨ks, rfl, rfl, hk⟩ := reps_tupsD r1
    refine cr_setOfT hc (by omega) pins s σ H [.ref a] [u] Q I r ⟨a, ks, rfl, .inl (.inl s1), fun p hp => .inl (.inl (hk p hp)), by simpa using hl, fun b L hb h1 h2 => ?_⟩
    refine q b L hb (fun p hp => hk p (h1 p hp)) fun k => ⟨fun z => ?_, fun z => ?_⟩
    · obtain ⟨p, hp, rfl⟩ := List.mem_map.mp z
      exact List.mem_map.mpr ⟨p, h1 p hp, rfl⟩
    · obtain ⟨p, hp, rfl⟩ := List.mem_map.mp z
      exact h2 p hp
def rSrtSet (K : PySem.W.Frag) (P : Program) (w : World) : List V → Hp → VK → Prop := fun vs H Q => ∃ M a, vs = [.ref a] ∧ OM M H ∧
  ((∃ (ns : List Int) (c : Nat), H a = some (SetO w a (fun j => decide (j ∈ ns)) c) ∧ c < 64 ∧ RKF K M H Q (.lst ((dedD (ns.map .int)).mergeSort leB))) ∨
   (∃ (kss : List (List Int)) (L : List (Addr × List Int)), H a = some (SetTO P w a L) ∧ (∀ p ∈ L, H p.1 = some (.tup (p.2.map V.int))) ∧ (∀ k, k ∈ L.map (·.2) ↔ k ∈ kss) ∧ (∀ k ∈ kss, k ≠ []) ∧ RKF K M H Q (.lst ((dedD (kss.map tupI)).mergeSort leB))))
theorem cr_srtset (hc : X.calm = true) (hu : X.A.units + 65 < cLine) : CallR X (.builtin "sorted") (rSrtSet X.K X.prog X.w) := by
  intro pins s σ H xs us Q I r h
  obtain ⟨M, a, rfl, om, h⟩ := h
  rcases h with ⟨ns, c, ha, hl, q⟩ | ⟨kss, L, ha, hk, hm, hne, q⟩
  · refine cr_sortedSet hc pins s σ H [.ref a] us Q I r ⟨a, _, c, rfl, ha, hl, fun ms p hs hmem hlen hp => ?_⟩
    have e := sset_ints (ks := ns) hs fun k => by rw [hmem]; exact decide_eq_true_iff
    rw [← e] at q
    exact rkf_lst q om hp (reps_of_ints ms)
  · have R0 : SetT0 X.prog X.w s.heap a L := (I.hok a _ ha).1
    obtain ⟨es, ep, t, R⟩ := R0.full fun p hp => I.isT (.inl (.inl (hk p hp)))
    rw [Vals.ref1 r]
    refine sort_setU R (I.ok.hd hc) (by omega) (fun p hp => hne _ ((hm _).mp (List.mem_map.mpr ⟨p, hp, rfl⟩))) fun s' p c L' k g o hp hout hsub hL hfew => ?_
    obtain ⟨L1, n1, m1, e1⟩ := hL
    have hlen : (L'.map fun q => V.ref q.1).length ≤ sizeLine := by rw [List.length_map, sizeLine_eq]; omega
    have hn : H p = none := I.hok.fresh hp
    have J : Inv X pins σ (upd H p (.lst (L'.map fun q => V.ref q.1))) { s with heap := s'.heap, gens := s'.gens, drawn := s'.drawn, toks := s'.toks } :=
      I.call (ch := []) (Un.laid k hp hn) (I.hok.laid k hp ⟨hlen, _, c, vals_of_refs L', hout⟩) (by rw [g]; exact I.bare) (fun _ z => nomatch z)
    have es' : s' = { s with heap := s'.heap, gens := s'.gens, drawn := s'.drawn, toks := s'.toks } := by
      cases s'
      cases s
      cases o
      rfl
    rw [es']
    refine ⟨.ref p, _, J, rfl, ?_⟩
    have e := sset_tups (ks := kss) n1 fun k => (m1 k).trans (hm k)
    rw [← e, ← e1] at q
    exact rkf_lst q om hn (tupsD_reps fun r hr => hk r (hsub r hr))
/-- sorted(set(e)) -/
theorem e_sset {F : CallF} {a : Ex} {r : Expr} {p p2 pos pos2 : Pos} (hc : X.calm = true) (hu : X.A.units + 65 < cLine) (hg : Gl X "sorted") (hm : X.mg "sorted" = none) (hgs : Gl X "set") (hms : X.mg "set" = none) (ha : PE X r (tE F X.K a)) (hx : ∀ z q, r ≠ .Starred z q) :
    PE X (.Call (.Name "sorted" p) [.Call (.Name "set" p2) [r] [] pos2] [] pos) (tE F X.K (.sset a)) := by
  have hs : ∀ z q, Expr.Call (.Name "set" p2) [r] [] pos2 ≠ .Starred z q := fun z q e => by cases e
  have h1 : PE X (.Call (.Name "set" p2) [r] [] pos2) (tCB (rMkSet X.K X.prog X.w) (tCons (tE F X.K a) tNil)) := pe_callTy (cr_mkset hc hu) hgs hms PyProof.Rows.boot_set (pa_cons ha pa_nil (star_cons hx)) (he := star_cons hx)
  refine PE.imp (pe_callB (cr_srtset hc hu) hg hm (bi_boot .sorted) (pa_cons h1 pa_nil (star_cons hs)) (he := star_cons hs)) fun σ H Q h => ?_
  obtain ⟨Mo, pins, env, rr, env', C, hd, q⟩ := h
  simp only [denE] at hd
  obtain ⟨x, e1, d1, hd⟩ := obind2 hd
  obtain ⟨u, d2, hd⟩ := obind hd
  obtain ⟨d, d3, hd⟩ := omap hd
  cases hd
  refine ⟨Mo, pins, env, _, e1, C, d1, fun v H1 C1 S1 r1 _ => ?_⟩
  have hv := rr_view C1 r1 d2
  -- the end, from where the set lies
  have fin : ∀ (a' : Addr) (o : HO) {H2 : Hp}, H1 a' = none → H2 = upd H1 a' o → RKF X.K (MM Mo e1 σ) H2 Q d := fun a' o H2 hn e z H4 ex rep fr => by
    subst e
    have E1 := Exh.new (o := o) hn
    refine q z H4 (C1.ex (E1.trans ex)) (S1.trans (.ex (E1.trans ex))) rep fun _ => C.frFrom S1 C1 (fr_of C1 (E1.trans ex) fun hc => ?_)
    obtain ⟨p, o', g1, g2, g3, g4⟩ := fr hc
    refine ⟨p, o', g1, ?_, g3, g4⟩
    cases k : H1 p with
    | none => rfl
    | some o2 => rw [E1 p o2 k] at g2; cases g2
  have om2 : ∀ {a' : Addr} {o : HO}, H1 a' = none → OM (MM Mo e1 σ) (upd H1 a' o) := fun hn => C1.omM.kp (O' := fun _ => False) (.ex (Exh.new hn))
  have keep : ∀ {a' : Addr} {o : HO} {b : Addr} {o2 : HO}, H1 a' = none → H1 b = some o2 → upd H1 a' o b = some o2 := fun hn hb => Exh.new hn _ _ hb
  -- which of the two
  have cases2 : (∃ ns : List Int, (u = .lst (ns.map .int) ∨ u = .tup (ns.map .int)) ∧ ns.length < 64 ∧ d = .lst ((dedD (ns.map .int)).mergeSort leB)) ∨ (∃ kss : List (List Int), u = .lst (kss.map tupI) ∧ kss.length < 64 ∧ (∀ k ∈ kss, k ≠ []) ∧ d = .lst ((dedD (kss.map tupI)).mergeSort leB)) := by
    have ofL : ∀ {xs : List D}, ssetL xs = some d → (∃ ns : List Int, xs = ns.map .int ∧ ns.length < 64 ∧ d = .lst ((dedD (ns.map .int)).mergeSort leB)) ∨ (∃ kss : List (List Int), xs = kss.map tupI ∧ kss.length < 64 ∧ (∀ k ∈ kss, k ≠ []) ∧ d = .lst ((dedD (kss.map tupI)).mergeSort leB)) := fun {xs} h => by
      unfold ssetL at h
      split at h
      · rename_i hh
        obtain ⟨g1, g2⟩ := hh
        have hd' : d = .lst ((dedD xs).mergeSort leB) := (Option.some.inj h).symm
        rcases g2 with g2 | ⟨g2, g3⟩
        · obtain ⟨ns, g2⟩ := Option.isSome_iff_exists.mp g2
          have e := intsOf_map g2
          subst e
          exact .inl ⟨ns, rfl, by simpa using g1, hd'⟩
        · obtain ⟨ks, g2⟩ := Option.isSome_iff_exists.mp g2
          have e := tupsOf_map g2
          subst e
          refine .inr ⟨ks, rfl, by simpa using g1, fun k hk e => ?_, hd'⟩
          have := List.all_eq_true.mp g3 (tupI k) (List.mem_map.mpr ⟨k, hk, rfl⟩)
          rw [e] at this
          cases this
      · cases h
    cases u with
    | lst xs =>
      rcases ofL d3 with ⟨ns, e, z⟩ | ⟨ks, e, z⟩
      · exact .inl ⟨ns, .inl (by rw [e]), z⟩
      · exact .inr ⟨ks, by rw [e], z⟩
    | tup xs =>
      simp only [ssetD] at d3
      split at d3
      · rename_i hi
        obtain ⟨ms, hi⟩ := Option.isSome_iff_exists.mp hi
        rcases ofL d3 with ⟨ns, e, z⟩ | ⟨ks, e, z⟩
        · exact .inl ⟨ns, .inr (by rw [e]), z⟩
        · have e1 := intsOf_map hi
          rw [e1] at e
          cases ks with
          | nil =>
            refine .inl ⟨[], .inr ?_, by decide, z.2.2⟩
            have e2 : ms = [] := by simpa using e
            rw [e1, e2]
          | cons k ks =>
            cases ms with
            | nil => cases e
            | cons m ms => cases e
      · cases d3
    | _ => cases d3
  rcases cases2 with ⟨ns, hu', hl, hd'⟩ | ⟨kss, hu', hl, hne, hd'⟩
  · refine ⟨MM Mo e1 σ, u, v, rfl, hv, .inl ⟨ns, hu', hl, fun a' c hn hcl => ?_⟩⟩
    refine ⟨MM Mo e1 σ, a', rfl, om2 hn, .inl ⟨ns, c, upd_same, by omega, ?_⟩⟩
    rw [← hd']
    exact fin a' _ hn rfl
  · refine ⟨MM Mo e1 σ, u, v, rfl, hv, .inr ⟨kss, hu', hl, fun a' L hn hk hm' => ?_⟩⟩
    refine ⟨MM Mo e1 σ, a', rfl, om2 hn, .inr ⟨kss, L, upd_same, fun p hp => keep hn (hk p hp), hm', hne, ?_⟩⟩
    rw [← hd']
    exact fin a' _ hn rfl
end
end PC
set_option Elab.async false
set_option linter.all false
set_option maxRecDepth 100000
/-! PyCore, part 8b: own containers that an expression writes: pop. -/
namespace PC
open PySem PySem.Spec PyProof.Rows L2

section
variable {K : PySem.W.Frag} {Mo : Addr → Prop} {pins : Nat → Addr} {env env' e : En} {σ : L2.St} {H H' : Hp}
theorem set_out {α : Type} {l : List α} {i : Nat} {x y : α} : (l.set i x)[i]? = some y → y = x := fun h => by
  by_cases hl : i < l.length
  · rw [List.getElem?_set_self hl] at h
    exact (Option.some.inj h).symm
  · rw [List.getElem?_eq_none (by simpa using hl)] at h
    cases h
/-- an own list is written -/
theorem own_same {i : Nat} {t : Option Nat} {xs ys : D} (hi : env[i]? = some (.own t xs)) (a : Addr) : Own (env.set i (.own t ys)) σ a ↔ Own env σ a := by
  have il : i < env.length := (List.getElem?_eq_some_iff.mp hi).1
  constructor
  · rintro ⟨j, u, zs, e1, e2⟩
    by_cases hj : i = j
    · subst hj
      have := set_out e1
      cases this
      exact ⟨i, t, xs, hi, e2⟩
    · rw [List.getElem?_set_ne hj] at e1
      exact ⟨j, u, zs, e1, e2⟩
  · rintro ⟨j, u, zs, e1, e2⟩
    by_cases hj : i = j
    · subst hj
      exact ⟨i, t, ys, List.getElem?_set_self il, by rw [e2]⟩
    · exact ⟨j, u, zs, by rw [List.getElem?_set_ne hj]; exact e1, e2⟩
theorem Corr.write0 (c : Corr K Mo pins env σ H) {i : Nat} {t : Option Nat} {xs ys : D} {p : Addr} {us : HO} (hi : env[i]? = some (.own t xs)) (hp : σ[i]? = some (some (.ref p))) (r : RepO K (MM Mo env σ) H ys us) :
    Corr K Mo pins (env.set i (.own t ys)) σ (upd H p us) ∧ Kp (Own env σ) H (upd H p us) := by
  have il : i < env.length := (List.getElem?_eq_some_iff.mp hi).1
  have op : Own env σ p := ⟨i, t, xs, hi, hp⟩
  have mm : MM Mo (env.set i (.own t ys)) σ = MM Mo env σ := by
    unfold MM
    rw [show Own (env.set i (.own t ys)) σ = Own env σ from funext fun a => propext (own_same hi a)]
  have kp : Kp (Own env σ) H (upd H p us) := ⟨fun a o n e => by rw [upd_ne (fun z => n (by rw [z]; exact op))]; exact e, fun a o z e m => by
    by_cases h : a = p
    · rw [h]; exact ⟨_, upd_same, r.isM⟩
    · exact ⟨o, by rw [upd_ne h]; exact e, m⟩⟩
  have lf : ∀ {ds : D} {vs : HO}, RepO K (MM Mo env σ) H ds vs → RepO K (MM Mo env σ) (upd H p us) ds vs := fun h => RepO.lift kp c.om (fun a h => .inr h) (fun a h => .inl h) h
  refine ⟨⟨by rw [List.length_set]; exact c.len, c.al.kp kp, fun j d e => ?_, fun j u zs e => ?_, fun j k u w zs zs' q hjk e1 e2 f1 f2 => ?_⟩, kp⟩
  · rw [mm]
    by_cases hj : i = j
    · subst hj
      cases set_out e
    · rw [List.getElem?_set_ne hj] at e
      obtain ⟨v, e1, r1⟩ := c.vl j d e
      exact ⟨v, e1, Rep.lift kp c.om (fun a h => .inr h) (fun a h => .inl h) r1⟩
  · rw [mm]
    by_cases hj : i = j
    · subst hj
      have := set_out e
      cases this
      obtain ⟨q, vs, e1, e2, r1, q1⟩ := c.ow i t xs hi
      rw [hp] at e1
      cases e1
      exact ⟨p, us, hp, upd_same, lf r, q1⟩
    · rw [List.getElem?_set_ne hj] at e
      obtain ⟨q, vs, e1, e2, r1, q1⟩ := c.ow j u zs e
      have hq : q ≠ p := fun z => by
        subst z
        exact c.ds i j t u xs zs q hj hi e hp e1
      exact ⟨q, vs, e1, by rw [upd_ne hq]; exact e2, lf r1, q1⟩
  · have un : ∀ (l : Nat) (u : Option Nat) (zs : D), (env.set i (.own t ys))[l]? = some (.own u zs) → ∃ zs', env[l]? = some (.own u zs') := fun l u zs e => by
      by_cases hl : i = l
      · subst hl
        have := set_out e
        cases this
        exact ⟨xs, hi⟩
      · rw [List.getElem?_set_ne hl] at e
        exact ⟨zs, e⟩
    obtain ⟨_, e1⟩ := un j u zs e1
    obtain ⟨_, e2⟩ := un k w zs' e2
    exact c.ds j k u w _ _ q hjk e1 e2 f1 f2
theorem Corr.writeS (c : Corr K Mo pins env σ H) {i : Nat} {t : Option Nat} {xs ys : D} {p : Addr} {us : HO} (hi : env[i]? = some (.own t xs)) (hp : σ[i]? = some (some (.ref p))) (r : RepO K (MM Mo env σ) H ys us) :
    Corr K Mo pins (env.set i (.own t ys)) σ (upd H p us) ∧ Stp env (env.set i (.own t ys)) σ H (upd H p us) := by
  have il : i < env.length := (List.getElem?_eq_some_iff.mp hi).1
  refine ⟨(c.write0 hi hp r).1, (c.write0 hi hp r).2, fun j u zs e => ?_, fun j s e hs => ?_, by rw [List.length_set]⟩
  · by_cases hj : i = j
    · subst hj
      rw [hi] at e
      cases e
      exact ⟨ys, List.getElem?_set_self il⟩
    · exact ⟨zs, by rw [List.getElem?_set_ne hj]; exact e⟩
  · by_cases hj : i = j
    · subst hj
      rw [hi] at e
      cases e
      exact absurd rfl (hs _ _)
    · rw [List.getElem?_set_ne hj]
      exact e
theorem Reps.dropLast : ∀ {ds : List D} {vs : List V} {M : Addr → Prop}, Reps K M H ds vs → Reps K M H ds.dropLast vs.dropLast := fun {ds vs M} h => by
  rw [List.dropLast_eq_take, List.dropLast_eq_take, h.length]
  exact h.take _
theorem Reps.eraseIdx : ∀ {ds : List D} {vs : List V} {M : Addr → Prop} (i : Nat), Reps K M H ds vs → Reps K M H (ds.eraseIdx i) (vs.eraseIdx i)
  | [], vs, M, i, h => by
    have e : vs = [] := h
    rw [e]
    rfl
  | d :: ds, _, M, 0, h => by
    obtain ⟨v, w, rfl, _, h2⟩ := h
    exact h2
  | d :: ds, _, M, i + 1, h => by
    obtain ⟨v, w, rfl, h1, h2⟩ := h
    exact ⟨v, _, rfl, h1, Reps.eraseIdx i h2⟩
end
section
variable {X : Cx} {F : CallF} {pos : Pos}
theorem e_pop {i : Nat} {x : Expr} {ap : Pos} (hx : PE X x (tVar i)) (hb : attributeBase x "pop" X.env (eval x X.env) = eval x X.env) (hl : (ap.endLine == pos.line) = true) : PE X (.Call (.Attribute x "pop" ap) [] [] pos) (tE F X.K (.pop i)) := by
  refine PE.imp (pe_bm0 PySem.F.plainAttrs_list PySem.F.slot_list_pop PySem.F.type_list_pop mt_pop hx hb hl) fun σ H Q h => ?_
  obtain ⟨Mo, pins, env, rr, env', C, hd, q⟩ := h
  simp only [denE] at hd
  split at hd
  · rename_i t xs hi
    obtain ⟨d, hg, hd⟩ := omap hd
    cases hd
    obtain ⟨p, o, g1, g2, R, _⟩ := C.ow i t _ hi
    obtain ⟨vs, rfl, R2⟩ := R.lstOf
    obtain ⟨v, e1, r1⟩ := R2.get hg
    rw [R2.length] at e1
    obtain ⟨C2, S2⟩ := C.writeS (ys := .lst xs.dropLast) (us := .lst vs.dropLast) hi g1 ⟨_, rfl, R2.dropLast⟩
    exact ⟨.ref p, g1, .inl ⟨rfl, vs, .inl (.inl g2)⟩, p, vs, v, rfl, rfl, g2, e1, q v _ C2 S2 (C.stpRep S2 r1) fun z => by cases z⟩
  · cases hd
theorem e_popA {i : Nat} {a : Ex} {x y : Expr} {ap : Pos} (hx : PE X x (tVar i)) (ha : PE X y (tE F X.K a)) (hy : ∀ z q, y ≠ .Starred z q) (hb : attributeBase x "pop" X.env (eval x X.env) = eval x X.env) (hl : (ap.endLine == pos.line) = true) : PE X (.Call (.Attribute x "pop" ap) [y] [] pos) (tE F X.K (.popA i a)) := by
  have hs : starEach [y] X.env = (false, eval y X.env) :: starEach [] X.env := star_cons hy
  refine PE.imp (pe_bm PySem.F.plainAttrs_list PySem.F.slot_list_pop PySem.F.type_list_pop mt_popAt hx (pa_cons ha pa_nil hs) hb (by rw [hs]; rfl) hl hs rfl) fun σ H Q h => ?_
  obtain ⟨Mo, pins, env, rr, env', C, hd, q⟩ := h
  simp only [denE] at hd
  split at hd
  · cases hd
  · rename_i ho
    obtain ⟨t, xs, hi⟩ : ∃ t xs, env[i]? = some (.own t (.lst xs)) := by
      unfold isOwn at ho
      split at ho
      · exact ⟨_, _, by assumption⟩
      · exact absurd rfl ho
    obtain ⟨w, e1, d1, hd⟩ := obind2 hd
    obtain ⟨p, o, g1, g2, R, _⟩ := C.ow i t _ hi
    obtain ⟨vs0, rfl, R0⟩ := R.lstOf
    refine ⟨.ref p, g1, .inl ⟨rfl, vs0, .inl (.inl g2)⟩, Mo, pins, env, w, e1, C, d1, fun u H1 C1 S1 ru _ => ?_⟩
    dsimp only at hd
    split at hd
    · rename_i t2 ys k hj _frr
      split at hd
      · rename_i hk
        obtain ⟨d, hg, hd⟩ := omap hd
        cases hd
        obtain ⟨p', o', k1, k2, R1, _⟩ := C1.ow i _ _ hj
        rw [g1] at k1
        cases k1
        obtain ⟨vs, rfl, R2⟩ := R1.lstOf
        obtain ⟨v, e2, r2⟩ := R2.get hg
        obtain ⟨C2, S2⟩ := C1.writeS (ys := .lst (ys.eraseIdx k.toNat)) (us := .lst (vs.eraseIdx k.toNat)) hj g1 ⟨_, rfl, R2.eraseIdx _⟩
        have hl := R2.length
        have hL : LINE = 16777216 := rfl
        exact ⟨p, vs, k, k.toNat, v, rfl, by rw [show u = .int k from ru], k2, by omega, by omega, seqIndex_of hk.1 (by omega), e2, q v _ C2 (S1.trans S2) (C1.stpRep S2 r2) fun z => by cases z⟩
      · cases hd
    · cases hd
theorem varR_rr {K : PySem.W.Frag} {Mo : Addr → Prop} {pins : Nat → Addr} {env : En} {σ : L2.St} {H : Hp} {i : Nat} {r : R} (C : Corr K Mo pins env σ H) (h : varR env i = some r) : ∃ v, σ[i]? = some (some v) ∧ RR K Mo env σ H r v := by
  unfold varR at h
  split at h
  · rename_i d hi
    cases h
    obtain ⟨v, e1, r1⟩ := C.vl i _ hi
    exact ⟨v, e1, r1⟩
  · rename_i t d hi
    cases h
    obtain ⟨p, o, e1, _⟩ := C.ow i _ _ hi
    exact ⟨.ref p, e1, e1, t, d, hi⟩
  · cases h
theorem idxEq_at {d : D} : ∀ {xs : List D} {j : Nat}, idxEq d xs = some j → (∃ z, xs[j]? = some z ∧ eqD z d = true) ∧ ∀ (m : Nat) (z : D), m < j → xs[m]? = some z → eqD z d = false
  | [], j, h => by cases h
  | x :: xs, j, h => by
    unfold idxEq at h
    split at h
    · rename_i hx
      cases h
      exact ⟨⟨x, rfl, hx⟩, fun m z hm => absurd hm (Nat.not_lt_zero m)⟩
    · rename_i hx
      obtain ⟨k, h1, rfl⟩ := omap h
      obtain ⟨⟨z, e1, e2⟩, f⟩ := idxEq_at h1
      refine ⟨⟨z, by simpa using e1, e2⟩, fun m z' hm e => ?_⟩
      cases m with
      | zero =>
        cases e
        simpa using hx
      | succ m => exact f m z' (by omega) (by simpa using e)
theorem toPs_get : ∀ {xs : List D} {j : Nat} {p : PyData}, (toPs xs)[j]? = some p → ∃ z, xs[j]? = some z ∧ p = toP z
  | [], j, p, h => by simp [toPs] at h
  | x :: xs, 0, p, h => by
    simp only [toPs] at h
    cases h
    exact ⟨x, rfl, rfl⟩
  | x :: xs, j + 1, p, h => by
    simp only [toPs, List.getElem?_cons_succ] at h
    obtain ⟨z, e1, e2⟩ := toPs_get h
    exact ⟨z, by simpa using e1, e2⟩
theorem get_toPs : ∀ {xs : List D} {j : Nat} {z : D}, xs[j]? = some z → (toPs xs)[j]? = some (toP z)
  | [], j, z, h => by simp at h
  | x :: xs, 0, z, h => by
    cases h
    rfl
  | x :: xs, j + 1, z, h => by
    simp only [toPs, List.getElem?_cons_succ]
    exact get_toPs (by simpa using h)
theorem e_index {i : Nat} {a : Ex} {x y : Expr} {ap : Pos} (hu : X.A.units + 65 < cLine) (hx : PE X x (tVar i)) (ha : PE X y (tE F X.K a)) (hy : ∀ z q, y ≠ .Starred z q) (hb : attributeBase x "index" X.env (eval x X.env) = eval x X.env) (hl : (ap.endLine == pos.line) = true) : PE X (.Call (.Attribute x "index" ap) [y] [] pos) (tE F X.K (.index i a)) := by
  have hs : starEach [y] X.env = (false, eval y X.env) :: starEach [] X.env := star_cons hy
  refine PE.imp (pe_bm PySem.F.plainAttrs_list PySem.F.slot_list_index PySem.F.type_list_index (mt_indexD hu) hx (pa_cons ha pa_nil hs) hb (by rw [hs]; rfl) hl hs rfl) fun σ H Q h => ?_
  obtain ⟨Mo, pins, env, rr, env', C, hd, q⟩ := h
  simp only [denE] at hd
  obtain ⟨r, hr, hd⟩ := obind hd
  obtain ⟨u, hv, hd⟩ := obind hd
  split at hd
  · cases hd
  · rename_i hlst
    obtain ⟨w, e1, d1, hd⟩ := obind2 hd
    obtain ⟨u1, hv1, hd⟩ := obind hd
    obtain ⟨d, hd1, hd⟩ := obind hd
    obtain ⟨v, g1, rr0⟩ := varR_rr C hr
    have vr0 := rr_view C rr0 hv
    cases u <;> first | (exact absurd rfl hlst) | skip
    rename_i xs0
    obtain ⟨p, vs0, rfl, g2, R0⟩ := vr0
    refine ⟨.ref p, g1, .inl ⟨rfl, vs0, .inl (.inl g2)⟩, Mo, pins, env, w, e1, C, d1, fun z H1 C1 S1 rz _ => ?_⟩
    split at hd
    · rename List D => xs
      split at hd
      · rename_i hok
        obtain ⟨o1, o2⟩ := and2 hok
        obtain ⟨j, hj, hd⟩ := omap hd
        cases hd
        obtain ⟨⟨zz, f1, f2⟩, f3⟩ := idxEq_at hj
        have vr1 := rr_view C1 (rr_lift C S1 rr0) hv1
        have oks : okDs xs 59 = true := by simpa [okD] using o1
        refine ⟨p, z, toP d, toPs xs, j, toP zz, rfl, rfl, by simpa [toP] using vr1.dp o1, (rr_view C1 rz hd1).dp o2, by simpa [toP] using shaped_of (d := .lst xs) (by decide) o1, shaped_of (by decide) o2, get_toPs f1, ?_, fun m z' hm e => ?_, q _ H1 C1 S1 rfl fun z => by cases z⟩
        · rw [eqD_eqv (okDs_mem oks (List.mem_of_getElem? f1)) o2]
          exact f2
        · obtain ⟨y', k1, rfl⟩ := toPs_get e
          rw [eqD_eqv (okDs_mem oks (List.mem_of_getElem? k1)) o2]
          exact f3 m y' hm k1
      · cases hd
    · cases hd
end
end PC
set_option Elab.async false
set_option linter.all false
set_option maxRecDepth 100000
/-! PyCore, part 9: targets, walks, comprehensions. -/
namespace PC
open PySem PySem.Spec PyProof.Rows L2

/-! ### targets -/
mutual
def gT (K : PySem.W.Frag) : Tg → TG
  | .name i => gName i
  | .tup ts => gTup K ts.length (gTs K ts)
def gTs (K : PySem.W.Frag) : List Tg → TGs
  | [] => gNil
  | t :: ts => gCons (gT K t) (gTs K ts)
end
section
variable {X : Cx} {tn N : List Str} {sc : Scope}
theorem chkT_each {t : Tg} {e : Expr} (h : chkT tn N sc t e = true) (es : List Expr) (env : Env) : ∃ a, assignEach (e :: es) env = (false, a) :: assignEach es env ∧ a = assign e env := by
  cases t with
  | name i =>
    unfold chkT at h
    split at h
    · exact ⟨_, rfl, rfl⟩
    · cases h
  | tup ts =>
    unfold chkT at h
    split at h
    · exact ⟨_, rfl, rfl⟩
    · cases h
mutual
theorem pgT (hc : X.calm = true) (nd : X.N.Nodup) (hN : X.N = N) (hsc : X.env.scope = sc) (hf : ∀ x ∈ tn, X.fn x = true ∨ X.env.scope.names.lookup x = some .local) : ∀ {t : Tg} {e : Expr}, chkT tn N sc t e = true → PG X e (gT X.K t)
  | .name i, e, h => by
    unfold chkT at h
    split at h
    · obtain ⟨h1, h2, h3⟩ := and3 h
      exact pg_name nd (by rw [hN]; exact of_decide_eq_true h1) (by rw [hsc]; exact locK_loc h2) (hf _ (of_decide_eq_true h3))
    · cases h
  | .tup ts, e, h => by
    unfold chkT at h
    split at h
    · obtain ⟨h1, h2, h3⟩ := pgTs hc nd hN hsc hf (ts := ts) h
      exact pg_tup hc h1 h2 h3
    · cases h
theorem pgTs (hc : X.calm = true) (nd : X.N.Nodup) (hN : X.N = N) (hsc : X.env.scope = sc) (hf : ∀ x ∈ tn, X.fn x = true ∨ X.env.scope.names.lookup x = some .local) : ∀ {ts : List Tg} {es : List Expr}, chkTs tn N sc ts es = true →
    PGs X es (gTs X.K ts) ∧ (assignEach es X.env).length = ts.length ∧ (assignEach es X.env).findIdx? (·.1) = none
  | [], es, h => by
    unfold chkTs at h
    split at h
    · exact ⟨pgs_nil, rfl, rfl⟩
    · cases h
  | t :: ts, es, h => by
    unfold chkTs at h
    split at h
    · rename_i e es'
      obtain ⟨h1, h2⟩ := and2 h
      obtain ⟨h3, h4, h5⟩ := pgTs hc nd hN hsc hf (ts := ts) h2
      obtain ⟨a, ea, e1⟩ := chkT_each h1 es' X.env
      refine ⟨pgs_cons (pgT hc nd hN hsc hf h1) h3 (by rw [ea, e1]; rfl), by rw [ea, List.length_cons, List.length_cons, h4], ?_⟩
      rw [ea, List.findIdx?_cons]
      simp [h5]
    · cases h
end
end

section
variable {K : PySem.W.Frag} {Mo : Addr → Prop} {pins : Nat → Addr} {env env' : En} {σ : L2.St} {H H' : Hp}
theorem own_set {i : Nat} {d : D} {x : V} (a : Addr) : Own (env.set i (.val d)) (σ.set i (some x)) a → Own env σ a := by
  rintro ⟨j, t, xs, e1, e2⟩
  by_cases hj : i = j
  · subst hj
    by_cases hl : i < env.length
    · rw [List.getElem?_set_self hl] at e1
      cases e1
    · rw [List.getElem?_eq_none (by simpa using hl)] at e1
      cases e1
  · rw [List.getElem?_set_ne hj] at e1 e2
    exact ⟨j, t, xs, e1, e2⟩
/-- a value is stored -/
theorem Corr.put (c : Corr K Mo pins env σ H) (i : Nat) {d : D} {v : V} (r : Rep K (MM Mo env σ) H d v) : Corr K Mo pins (env.set i (.val d)) (σ.set i (some v)) H := by
  have anti : ∀ a, MM Mo (env.set i (.val d)) (σ.set i (some v)) a → MM Mo env σ a := fun a h => by
    rcases h with h | h
    · exact .inl h
    · exact .inr (own_set a h)
  refine ⟨by rw [List.length_set, List.length_set]; exact c.len, c.al, fun j d' e => ?_, fun j t xs e => ?_, fun j k t u xs ys p hjk e1 e2 f1 f2 => ?_⟩
  · by_cases hj : i = j
    · subst hj
      by_cases hl : i < env.length
      · rw [List.getElem?_set_self hl] at e
        cases e
        exact ⟨v, by rw [List.getElem?_set_self (by rw [← c.len]; exact hl)], r.anti anti⟩
      · rw [List.getElem?_eq_none (by simpa using hl)] at e
        cases e
    · rw [List.getElem?_set_ne hj] at e
      obtain ⟨w, e1, r1⟩ := c.vl j d' e
      exact ⟨w, by rw [List.getElem?_set_ne hj]; exact e1, r1.anti anti⟩
  · by_cases hj : i = j
    · subst hj
      by_cases hl : i < env.length
      · rw [List.getElem?_set_self hl] at e
        cases e
      · rw [List.getElem?_eq_none (by simpa using hl)] at e
        cases e
    · rw [List.getElem?_set_ne hj] at e
      obtain ⟨p, ws, e1, e2, r1, q⟩ := c.ow j t xs e
      exact ⟨p, ws, by rw [List.getElem?_set_ne hj]; exact e1, e2, r1.anti anti, q⟩
  · have ne : ∀ (l : Nat) (t : Option Nat) (xs : D), (env.set i (.val d))[l]? = some (.own t xs) → i ≠ l := fun l t xs e hl => by
      subst hl
      by_cases hl : i < env.length
      · rw [List.getElem?_set_self hl] at e
        cases e
      · rw [List.getElem?_eq_none (by simpa using hl)] at e
        cases e
    have n1 := ne j t xs e1
    have n2 := ne k u ys e2
    rw [List.getElem?_set_ne n1] at e1 f1
    rw [List.getElem?_set_ne n2] at e2 f2
    exact c.ds j k t u xs ys p hjk e1 e2 f1 f2
/-- what a store of values leaves: nothing but slots -/
structure Puts (env env' : En) (σ σ' : L2.St) (sl : List Nat) : Prop where
  ow : ∀ a, Own env' σ' a → Own env σ a
  en : ∀ i : Nat, i ∉ sl → env'[i]? = env[i]?
  st : ∀ i : Nat, i ∉ sl → σ'[i]? = σ[i]?
  noown : ∀ (i : Nat) (t : Option Nat) (xs : D), i ∈ sl → env'[i]? ≠ some (.own t xs)
  len : env'.length = env.length
  slen : σ'.length = σ.length
mutual
theorem gT_ok : ∀ {t : Tg} {d : D} {v : V} {env env' : En} {σ : L2.St} {Q : L2.St → Hp → Prop}, Corr K Mo pins env σ H → Rep K (MM Mo env σ) H d v → setTg t d env = some env' →
    (∀ σ', Corr K Mo pins env' σ' H → Puts env env' σ σ' (slTg t) → Q σ' H) → gT K t v σ H Q
  | .name i, d, v, env, env', σ, Q, C, r, h, q => by
    unfold setTg at h
    cases h
    refine q _ (C.put i r) ⟨fun a => own_set a, fun j hj => ?_, fun j hj => ?_, fun j t xs hj e => ?_, by rw [List.length_set], by rw [List.length_set]⟩
    · rw [List.getElem?_set_ne (fun z => hj (by rw [z]; exact List.mem_singleton.mpr rfl))]
    · rw [List.getElem?_set_ne (fun z => hj (by rw [z]; exact List.mem_singleton.mpr rfl))]
    · have hj' : j = i := List.mem_singleton.mp hj
      subst hj'
      by_cases hl : j < env.length
      · rw [List.getElem?_set_self hl] at e
        cases e
      · rw [List.getElem?_eq_none (by simpa using hl)] at e
        cases e
  | .tup ts, .tup xs, v, env, env', σ, Q, C, r, h, q => by
    have h' : setTgs ts xs env = some env' := by simpa [setTg] using h
    obtain ⟨a, vs, e1, s1, r1⟩ := r.tupS
    have key := gTs_ok (ts := ts) (ds := xs) (vs := vs) (Q := Q) C r1 h' q
    exact ⟨a, vs, e1, s1, by rw [← r1.length]; exact (setTgs_len h').symm, key⟩
  | .tup ts, .non, v, env, env', σ, Q, C, r, h, q => by simp [setTg] at h
  | .tup ts, .bl _, v, env, env', σ, Q, C, r, h, q => by simp [setTg] at h
  | .tup ts, .int _, v, env, env', σ, Q, C, r, h, q => by simp [setTg] at h
  | .tup ts, .str _, v, env, env', σ, Q, C, r, h, q => by simp [setTg] at h
  | .tup ts, .lst _, v, env, env', σ, Q, C, r, h, q => by simp [setTg] at h
  | .tup ts, .dic _ _ _, v, env, env', σ, Q, C, r, h, q => by simp [setTg] at h
  | .tup ts, .scr _, v, env, env', σ, Q, C, r, h, q => by simp [setTg] at h
theorem gTs_ok : ∀ {ts : List Tg} {ds : List D} {vs : List V} {env env' : En} {σ : L2.St} {Q : L2.St → Hp → Prop}, Corr K Mo pins env σ H → Reps K (MM Mo env σ) H ds vs → setTgs ts ds env = some env' →
    (∀ σ', Corr K Mo pins env' σ' H → Puts env env' σ σ' (slTgs ts) → Q σ' H) → gTs K ts vs σ H Q
  | [], [], vs, env, env', σ, Q, C, r, h, q => by
    unfold setTgs at h
    cases h
    exact ⟨r, q σ C ⟨fun a h => h, fun i _ => rfl, fun i _ => rfl, (fun i t xs z => absurd z (by intro y; cases y)), rfl, rfl⟩⟩
  | [], _ :: _, vs, env, env', σ, Q, C, r, h, q => by
    unfold setTgs at h
    cases h
  | _ :: _, [], vs, env, env', σ, Q, C, r, h, q => by
    unfold setTgs at h
    cases h
  | t :: ts, d :: ds, vs, env, env', σ, Q, C, r, h, q => by
    unfold setTgs at h
    obtain ⟨e1, h1, h2⟩ := obind h
    obtain ⟨v, w, e2, r1, r2⟩ := r
    refine ⟨v, w, e2, gT_ok C r1 h1 fun σ1 C1 P1 => ?_⟩
    refine gTs_ok C1 (r2.anti fun a z => ?_) h2 fun σ2 C2 P2 => ?_
    · rcases z with z | z
      · exact .inl z
      · exact .inr (P1.ow a z)
    · refine q σ2 C2 ⟨fun a z => P1.ow a (P2.ow a z), fun i hi => ?_, fun i hi => ?_, fun i t' xs hi e => ?_, P2.len.trans P1.len, P2.slen.trans P1.slen⟩
      · exact (P2.en i fun z => hi (List.mem_append_right _ z)).trans (P1.en i fun z => hi (List.mem_append_left _ z))
      · exact (P2.st i fun z => hi (List.mem_append_right _ z)).trans (P1.st i fun z => hi (List.mem_append_left _ z))
      · by_cases h3 : i ∈ slTgs ts
        · exact P2.noown i t' xs h3 e
        · rw [P2.en i h3] at e
          rcases List.mem_append.mp hi with h4 | h4
          · exact P1.noown i t' xs h4 e
          · exact h3 h4
theorem setTgs_len : ∀ {ts : List Tg} {ds : List D} {env env' : En}, setTgs ts ds env = some env' → ts.length = ds.length
  | [], [], env, env', h => rfl
  | [], _ :: _, env, env', h => by
    unfold setTgs at h
    cases h
  | _ :: _, [], env, env', h => by
    unfold setTgs at h
    cases h
  | t :: ts, d :: ds, env, env', h => by
    unfold setTgs at h
    obtain ⟨e1, h1, h2⟩ := obind h
    rw [List.length_cons, List.length_cons, setTgs_len h2]
end
end

/-! ### walks -/
structure WalkD (K : PySem.W.Frag) (Mo : Addr → Prop) (env : En) (σ : L2.St) (H : Hp) (J : L2.It) (xs : List D) : Prop where
  ex : ∃ (G : Hp → Prop) (Y : Nat → Hp → V → Hp → Prop), Walk J xs.length G Y ∧ (∀ H', Old (MM Mo env σ) H H' → G H') ∧
    ∀ (i : Nat) (Ha Hb : Hp) (x : V) (d : D) (M' : Addr → Prop), xs[i]? = some d → Old (MM Mo env σ) H Ha → (∀ a, M' a → MM Mo env σ a ∨ H a = none) → Y i Ha x Hb → Exh Ha Hb ∧ Rep K M' Hb d x
def tI (F : CallF) (K : PySem.W.Frag) (c : It) : TI := fun σ H R => ∃ Mo pins env xs env', Corr K Mo pins env σ H ∧ denI F c env = some (xs, env') ∧
  ∀ J H', Corr K Mo pins env' σ H' → Stp env env' σ H H' → WalkD K Mo env' σ H' J xs → R J H'
section
variable {X : Cx} {F : CallF} {tg l r : Expr} {a b : Ex}
theorem lift_k {K : PySem.W.Frag} {Mo : Addr → Prop} {pins : Nat → Addr} {env : En} {σ : L2.St} {H Ha : Hp} {d : D} {v : V} {M' : Addr → Prop} (C : Corr K Mo pins env σ H) (k : Old (MM Mo env σ) H Ha) (hm : ∀ a, M' a → MM Mo env σ a ∨ H a = none) (r : Rep K (MM Mo env σ) H d v) : Rep K M' Ha d v :=
  Rep.liftO k C.omM (fun a h => h) hm r
theorem w_tup {K : PySem.W.Frag} {Mo : Addr → Prop} {pins : Nat → Addr} {env : En} {σ : L2.St} {H : Hp} {xs : List D} {vs : List V} {p : Addr} (C : Corr K Mo pins env σ H) (s : SqT K H p vs) (r : Reps K (MM Mo env σ) H xs vs) : WalkD K Mo env σ H (Itt K p) xs := by
  refine ⟨⟨_, _, by rw [r.length]; exact walk_tup, fun H' k => Old.sqT k C.omM s, fun i Ha Hb x d M' e k hm y => ?_⟩⟩
  obtain ⟨rfl, y⟩ := y
  obtain ⟨v, e1, r1⟩ := r.get e
  rw [y] at e1
  cases e1
  exact ⟨Exh.refl, lift_k C k hm r1⟩
theorem w_lst {K : PySem.W.Frag} {Mo : Addr → Prop} {pins : Nat → Addr} {env : En} {σ : L2.St} {H : Hp} {xs : List D} {vs : List V} {p : Addr} (C : Corr K Mo pins env σ H) (s : H p = some (.lst vs)) (n : ¬ MM Mo env σ p) (r : Reps K (MM Mo env σ) H xs vs) : WalkD K Mo env σ H (Itl K p) xs := by
  refine ⟨⟨_, _, by rw [r.length]; exact walk_list, fun H' k => (show SqL K H' p vs from .inl (.inl (k p _ n s))), fun i Ha Hb x d M' e k hm y => ?_⟩⟩
  obtain ⟨rfl, y⟩ := y
  obtain ⟨v, e1, r1⟩ := r.get e
  rw [y] at e1
  cases e1
  exact ⟨Exh.refl, lift_k C k hm r1⟩
theorem w_scr {K : PySem.W.Frag} {Mo : Addr → Prop} {pins : Nat → Addr} {env : En} {σ : L2.St} {H : Hp} {xs : List D} {vs : List V} {p : Addr} (C : Corr K Mo pins env σ H) (s : ScL K H p vs) (r : Reps K (MM Mo env σ) H xs vs) : WalkD K Mo env σ H (Itl K p) xs := by
  refine ⟨⟨_, _, by rw [r.length]; exact walk_list, fun H' k => ?_, fun i Ha Hb x d M' e k hm y => ?_⟩⟩
  · rcases s with ⟨o, s⟩ | s
    · exact .inl (.inr ⟨o, Old.frz k C.omM s⟩)
    · exact ScL.kk s H'
  · obtain ⟨rfl, y⟩ := y
    obtain ⟨v, e1, r1⟩ := r.get e
    rw [y] at e1
    cases e1
    exact ⟨Exh.refl, lift_k C k hm r1⟩
theorem zip_at {α β : Type} : ∀ {xs : List α} {ys : List β} {i : Nat} {x : α} {y : β}, (xs.zip ys)[i]? = some (x, y) → xs[i]? = some x
  | [], ys, i, x, y, h => by simp at h
  | a :: xs, [], i, x, y, h => by simp at h
  | a :: xs, b :: ys, 0, x, y, h => by
    cases h
    rfl
  | a :: xs, b :: ys, i + 1, x, y, h => by
    rw [List.zip_cons_cons, List.getElem?_cons_succ] at h
    rw [List.getElem?_cons_succ]
    exact zip_at h
theorem mapM_at {α β : Type} {f : α → Option β} : ∀ {l : List α} {bs : List β} {i : Nat} {a : α}, l.mapM f = some bs → l[i]? = some a → ∃ b, bs[i]? = some b ∧ f a = some b
  | [], bs, i, a, h, e => by simp at e
  | x :: l, bs, 0, a, h, e => by
    obtain ⟨b, r, e1, e2, rfl⟩ := mapM_cons' h
    cases e
    exact ⟨b, rfl, e1⟩
  | x :: l, bs, i + 1, a, h, e => by
    obtain ⟨b, r, e1, e2, rfl⟩ := mapM_cons' h
    obtain ⟨c, g1, g2⟩ := mapM_at (i := i) e2 (by simpa using e)
    exact ⟨c, by simpa using g1, g2⟩
theorem w_keys {K : PySem.W.Frag} {Mo : Addr → Prop} {pins : Nat → Addr} {env : En} {σ : L2.St} {H : Hp} {ks : List D} {js : List Key} {ws : List V} {p : Addr} {o : Obj} (C : Corr K Mo pins env σ H) (s : H p = some (.frz o (.dK (js.zip ws)))) (e1 : ks.mapM keyD = some js) (hl : js.length = ws.length) : WalkD K Mo env σ H (Itk p o (js.zip ws)) ks := by
  have hn : ks.length = (js.zip ws).length := by rw [List.length_zip, ← hl, Nat.min_self, mapM_len e1]
  refine ⟨⟨_, _, by rw [hn]; exact walk_keys, fun H' k => Old.frz k C.omM s, fun i Ha Hb x d M' e k hm y => ?_⟩⟩
  obtain ⟨rfl, j, w, h1, rfl⟩ := y
  obtain ⟨j', h2, h3⟩ := mapM_at e1 e
  rw [zip_at h1] at h2
  cases h2
  exact ⟨Exh.refl, rep_key h3⟩
theorem w_keysT {K : PySem.W.Frag} {Mo : Addr → Prop} {pins : Nat → Addr} {env : En} {σ : L2.St} {H : Hp} {ks : List D} {js : List (List Key)} {ws : List V} {p : Addr} {o : Obj} (C : Corr K Mo pins env σ H) (s : H p = some (.frz o (.dT (js.zip ws)))) (e1 : ks.mapM keyT = some js) (hl : js.length = ws.length) : WalkD K Mo env σ H (Itkt p o (js.zip ws)) ks := by
  have hn : ks.length = (js.zip ws).length := by rw [List.length_zip, ← hl, Nat.min_self, mapM_len e1]
  refine ⟨⟨_, _, by rw [hn]; exact walk_keysT, fun H' k => Old.frz k C.omM s, fun i Ha Hb x d M' e k hm y => ?_⟩⟩
  obtain ⟨rfl, j, w, b, h1, rfl, hb⟩ := y
  obtain ⟨j', h2, h3⟩ := mapM_at e1 e
  rw [zip_at h1] at h2
  cases h2
  exact ⟨Exh.refl, rep_keyT h3 hb⟩
theorem i_seq (ha : PE X l (tE F X.K a)) : PI X tg l (tI F X.K (.seq a)) := by
  refine ⟨fun pins' s σ H R I h => ?_⟩
  obtain ⟨Mo, pins, env, xs, env', C, hd, q⟩ := h
  simp only [denI] at hd
  obtain ⟨x, e1, d1, hd⟩ := obind2 hd
  obtain ⟨u, v1, hd⟩ := obind hd
  obtain ⟨ys, v2, hd⟩ := omap hd
  obtain ⟨rfl, rfl⟩ : ys = xs ∧ e1 = env' := by simpa using hd
  cases u with
  | tup zs =>
    cases v2
    refine (pi_tup ha).run pins' s σ H R I ⟨Mo, pins, env, x, e1, C, d1, fun v H1 C1 S1 r1 _ => ?_⟩
    obtain ⟨p, vs, e2, s2, r2⟩ := (rr_sol r1 v1).tupS
    exact ⟨p, e2, ⟨vs, s2⟩, q _ H1 C1 S1 (w_tup C1 s2 r2)⟩
  | lst zs =>
    cases v2
    refine (pi_list ha).run pins' s σ H R I ⟨Mo, pins, env, x, e1, C, d1, fun v H1 C1 S1 r1 _ => ?_⟩
    obtain ⟨p, vs, e2, n2, s2, r2⟩ := rr_sol r1 v1
    exact ⟨p, e2, ⟨vs, .inl (.inl s2)⟩, q _ H1 C1 S1 (w_lst C1 s2 n2 r2)⟩
  | scr zs =>
    cases v2
    refine (pi_list ha).run pins' s σ H R I ⟨Mo, pins, env, x, e1, C, d1, fun v H1 C1 S1 r1 _ => ?_⟩
    obtain ⟨p, vs, e2, s2, r2⟩ := rr_sol r1 v1
    exact ⟨p, e2, ⟨vs, s2.sq⟩, q _ H1 C1 S1 (w_scr C1 s2 r2)⟩
  | dic t ks ws =>
    cases v2
    refine (pi_keys ha).run pins' s σ H R I ⟨Mo, pins, env, x, e1, C, d1, fun v H1 C1 S1 r1 _ => ?_⟩
    obtain ⟨p, vs, o, u, e2, s2, r2, q2⟩ := rr_sol r1 v1
    cases t with
    | false =>
      obtain ⟨js, k1, k2, rfl⟩ := q2
      exact ⟨p, o, e2, .inl ⟨_, s2, q _ H1 C1 S1 (w_keys C1 s2 k1 k2)⟩⟩
    | true =>
      obtain ⟨js, k1, k2, rfl⟩ := q2
      exact ⟨p, o, e2, .inr ⟨_, s2, q _ H1 C1 S1 (w_keysT C1 s2 k1 k2)⟩⟩
  | non => cases v2
  | bl _ => cases v2
  | int _ => cases v2
  | str _ => cases v2
theorem w_rng {K : PySem.W.Frag} {Mo : Addr → Prop} {env : En} {σ : L2.St} {H : Hp} {lo : Int} {n : Nat} : WalkD K Mo env σ H (Itr lo n) ((List.range n).map fun (i : Nat) => .int (lo + (i : Int))) := by
  have hl : ((List.range n).map fun (i : Nat) => D.int (lo + (i : Int))).length = n := by rw [List.length_map, List.length_range]
  refine ⟨⟨_, _, by rw [hl]; exact walk_range, fun _ _ => trivial, fun i Ha Hb x d M' e k hm y => ?_⟩⟩
  obtain ⟨rfl, y⟩ := y
  rw [List.getElem?_map] at e
  by_cases hi : i < n
  · rw [List.getElem?_range hi] at e
    cases e
    exact ⟨Exh.refl, y⟩
  · rw [List.getElem?_eq_none (by rw [List.length_range]; omega)] at e
    cases e
theorem i_rng1 {p pos : Pos} (hg : Gl X "range") (hm : X.mg "range" = none) (ha : PE X l (tE F X.K a)) (hx : ∀ z q, l ≠ .Starred z q) : PI X tg (.Call (.Name "range" p) [l] [] pos) (tI F X.K (.rng1 a)) := by
  have h1 : starEach [l] X.env = [(false, eval l X.env)] := star_cons hx
  refine ⟨fun pins' s σ H R I h => ?_⟩
  refine (pi_range1 (tg := tg) (pos := pos) (p := p) hg hm (pa_cons ha pa_nil h1) h1).run pins' s σ H R I ?_
  obtain ⟨Mo, pins, env, xs, env', C, hd, q⟩ := h
  simp only [denI] at hd
  obtain ⟨x, e1, d1, hd⟩ := obind2 hd
  dsimp only at hd
  split at hd
  · split at hd
    · rename_i hn
      cases hd
      refine ⟨Mo, pins, env, _, env', C, d1, fun v H1 C1 S1 r1 _ => ?_⟩
      have hv : v = .int _ := r1
      subst hv
      refine ⟨_, rfl, ?_, ?_, ?_⟩
      · have : -(2 : Int) ^ 62 ≤ -1000000000 := by decide
        omega
      · have h2 : LINE < 2 ^ 62 := by decide
        have h3 : ((LINE : Nat) : Int) < (2 : Int) ^ 62 := by exact_mod_cast h2
        omega
      · refine q _ H1 C1 S1 ?_
        have w := fun n => w_rng (K := X.K) (Mo := Mo) (env := env') (σ := σ) (H := H1) (lo := 0) (n := n)
        simp only [Int.zero_add] at w
        exact w _
    · cases hd
  · cases hd
theorem i_rng2 {p pos : Pos} (hg : Gl X "range") (hm : X.mg "range" = none) (ha : PE X l (tE F X.K a)) (hb : PE X r (tE F X.K b)) (hx : ∀ z q, l ≠ .Starred z q) (hy : ∀ z q, r ≠ .Starred z q) : PI X tg (.Call (.Name "range" p) [l, r] [] pos) (tI F X.K (.rng2 a b)) := by
  have h1 : starEach [r] X.env = [(false, eval r X.env)] := star_cons hy
  have h2 : starEach [l, r] X.env = [(false, eval l X.env), (false, eval r X.env)] := by rw [star_cons hx, h1]
  refine ⟨fun pins' s σ H R I h => ?_⟩
  refine (pi_range2 (tg := tg) (pos := pos) (p := p) hg hm (pa_cons ha (pa_cons hb pa_nil h1) (star_cons hx)) h2 h1).run pins' s σ H R I ?_
  obtain ⟨Mo, pins, env, xs, env', C, hd, q⟩ := h
  simp only [denI] at hd
  obtain ⟨x, e1, d1, hd⟩ := obind2 hd
  obtain ⟨y, e2, d2, hd⟩ := obind2 hd
  dsimp only at hd
  split at hd
  · split at hd
    · rename_i hn
      cases hd
      refine ⟨Mo, pins, env, _, e1, C, d1, fun v H1 C1 S1 r1 _ => ⟨Mo, pins, e1, _, env', C1, d2, fun w H2 C2 S2 r2 _ => ?_⟩⟩
      have hv : v = .int _ := r1
      have hw : w = .int _ := r2
      subst hv hw
      refine ⟨_, _, rfl, ?_, ?_⟩
      · have : -(2 : Int) ^ 62 ≤ -1000000000 := by decide
        have : (1000000000 : Int) < 2 ^ 62 := by decide
        exact ⟨by omega, by omega, by omega, by omega⟩
      · exact q _ H2 C2 (S1.trans S2) w_rng
    · cases hd
  · cases hd
theorem w_en {K : PySem.W.Frag} {Mo : Addr → Prop} {pins : Nat → Addr} {env : En} {σ : L2.St} {H : Hp} {xs : List D} {vs : List V} {p : Addr} {k : Bool} (C : Corr K Mo pins env σ H) (s : ∀ H', Old (MM Mo env σ) H H' → SqK K H' k p vs) (r : Reps K (MM Mo env σ) H xs vs) :
    WalkD K Mo env σ H (IteK K k p) (xs.mapIdx fun i d => .tup [.int i, d]) := by
  have hl : (xs.mapIdx fun i d => D.tup [.int i, d]).length = vs.length := by rw [List.length_mapIdx, r.length]
  refine ⟨⟨_, _, by rw [hl]; exact walk_enK, s, fun i Ha Hb x d M' e kk hm y => ?_⟩⟩
  obtain ⟨T, u, w, rfl, hT, rfl, e1, e2⟩ := y
  cases e1
  rw [List.getElem?_mapIdx] at e
  obtain ⟨d0, e3, rfl⟩ := omap e
  obtain ⟨v, e4, r1⟩ := r.get e3
  have e2' : vs[i]? = some w := e2
  rw [e2'] at e4
  cases e4
  refine ⟨Exh.new hT, T, _, rfl, upd_same, _, _, rfl, rfl, _, _, rfl, ?_, rfl⟩
  exact (lift_k C kk hm r1).ex (Exh.new hT)
theorem seqOf_k {K : PySem.W.Frag} {Mo : Addr → Prop} {pins : Nat → Addr} {env : En} {σ : L2.St} {H : Hp} {u : D} {xs : List D} {v : V} (C : Corr K Mo pins env σ H) (h : seqOf u = some xs) (r : Rep K (MM Mo env σ) H u v) :
    ∃ (k : Bool) (p : Addr) (vs : List V), v = .ref p ∧ Reps K (MM Mo env σ) H xs vs ∧ ∀ H', Old (MM Mo env σ) H H' → SqK K H' k p vs := by
  cases u with
  | tup zs =>
    cases h
    obtain ⟨p, vs, e, s, r1⟩ := r.tupS
    exact ⟨true, p, vs, e, r1, fun H' k => Old.sqT k C.omM s⟩
  | lst zs =>
    cases h
    obtain ⟨p, vs, e, n, s, r1⟩ := r
    exact ⟨false, p, vs, e, r1, fun H' k => .inl (.inl (k p _ n s))⟩
  | _ => cases h
theorem i_enum {p pos : Pos} (hg : Gl X "enumerate") (hm : X.mg "enumerate" = none) (ha : PE X l (tE F X.K a)) (hx : ∀ z q, l ≠ .Starred z q) (ht : isTup tg = true) : PI X tg (.Call (.Name "enumerate" p) [l] [] pos) (tI F X.K (.enum a)) := by
  have h1 : starEach [l] X.env = [(false, eval l X.env)] := star_cons hx
  cases tg with
  | Tuple elts kk tpos =>
    refine ⟨fun pins' s σ H R I h => ?_⟩
    refine (pi_enumK hg hm (pa_cons ha pa_nil h1) h1).run pins' s σ H R I ?_
    obtain ⟨Mo, pins, env, xs, env', C, hd, q⟩ := h
    simp only [denI] at hd
    obtain ⟨x, e1, d1, hd⟩ := obind2 hd
    obtain ⟨u, v1, hd⟩ := obind hd
    obtain ⟨ys, v2, hd⟩ := omap hd
    have hd2 : e1 = env' := congrArg Prod.snd hd
    subst hd2
    have hd3 : (ys.mapIdx fun i d => D.tup [.int i, d]) = xs := congrArg Prod.fst hd
    subst hd3
    refine ⟨Mo, pins, env, x, e1, C, d1, fun v H1 C1 S1 r1 _ => ?_⟩
    obtain ⟨k, p', vs, e2, r2, s2⟩ := seqOf_k C1 v2 (rr_sol r1 v1)
    exact ⟨p', k, vs, by rw [e2], s2 H1 (fun _ _ _ h => h), q _ H1 C1 S1 (w_en C1 s2 r2)⟩
  | _ => cases ht
theorem w_zi {K : PySem.W.Frag} {Mo : Addr → Prop} {pins : Nat → Addr} {env : En} {σ : L2.St} {H : Hp} {xs ys : List D} {vs ws : List V} {p p' : Addr} {k k' : Bool} (C : Corr K Mo pins env σ H) (s : ∀ H', Old (MM Mo env σ) H H' → SqK K H' k p vs) (s' : ∀ H', Old (MM Mo env σ) H H' → SqK K H' k' p' ws)
    (r : Reps K (MM Mo env σ) H xs vs) (r' : Reps K (MM Mo env σ) H ys ws) : WalkD K Mo env σ H (ItzK K k k' p p') ((xs.zip ys).map fun q => .tup [q.1, q.2]) := by
  have hl : ((xs.zip ys).map fun q => D.tup [q.1, q.2]).length = min vs.length ws.length := by rw [List.length_map, List.length_zip, r.length, r'.length]
  refine ⟨⟨_, _, by rw [hl]; exact walk_ziK, fun H' kk => (show SqK K H' k p vs ∧ SqK K H' k' p' ws from ⟨s H' kk, s' H' kk⟩), fun i Ha Hb x d M' e kk hm y => ?_⟩⟩
  obtain ⟨T, u, w, rfl, hT, rfl, e1, e2⟩ := y
  rw [List.getElem?_map] at e
  obtain ⟨⟨d1, d2⟩, e3, rfl⟩ := omap e
  obtain ⟨f1, f2⟩ := List.getElem?_zip_eq_some.mp e3
  obtain ⟨v, e4, r1⟩ := r.get f1
  obtain ⟨v', e5, r2⟩ := r'.get f2
  have e1' : vs[i]? = some u := e1
  have e2' : ws[i]? = some w := e2
  rw [e1'] at e4
  rw [e2'] at e5
  cases e4
  cases e5
  refine ⟨Exh.new hT, T, _, rfl, upd_same, _, _, rfl, ?_, _, _, rfl, ?_, rfl⟩
  · exact (lift_k C kk hm r1).ex (Exh.new hT)
  · exact (lift_k C kk hm r2).ex (Exh.new hT)
theorem i_zip {p pos : Pos} (hg : Gl X "zip") (hm : X.mg "zip" = none) (ha : PE X l (tE F X.K a)) (hb : PE X r (tE F X.K b)) (hx : ∀ z q, l ≠ .Starred z q) (hy : ∀ z q, r ≠ .Starred z q) (ht : isTup tg = true) : PI X tg (.Call (.Name "zip" p) [l, r] [] pos) (tI F X.K (.zip a b)) := by
  have h1 : starEach [r] X.env = [(false, eval r X.env)] := star_cons hy
  cases tg with
  | Tuple elts kk tpos =>
    refine ⟨fun pins' s σ H R I h => ?_⟩
    refine (pi_zipK hg hm (pa_cons ha (pa_cons hb pa_nil h1) (star_cons hx)) (star_cons hx) (by rw [h1]; rfl)).run pins' s σ H R I ?_
    obtain ⟨Mo, pins, env, xs, env', C, hd, q⟩ := h
    simp only [denI] at hd
    obtain ⟨x, e1, d1, hd⟩ := obind2 hd
    obtain ⟨y, e2, d2, hd⟩ := obind2 hd
    obtain ⟨u, v1, hd⟩ := obind hd
    obtain ⟨w, v2, hd⟩ := obind hd
    obtain ⟨us, v3, hd⟩ := obind hd
    obtain ⟨ws, v4, hd⟩ := omap hd
    have hd2 : e2 = env' := congrArg Prod.snd hd
    subst hd2
    have hd3 : ((us.zip ws).map fun p => D.tup [p.1, p.2]) = xs := congrArg Prod.fst hd
    subst hd3
    refine ⟨Mo, pins, env, x, e1, C, d1, fun v H1 C1 S1 r1 _ => ⟨Mo, pins, e1, y, e2, C1, d2, fun v' H2 C2 S2 r2 _ => ?_⟩⟩
    obtain ⟨k, p1, vs1, f1, g1, s1⟩ := seqOf_k C2 v3 (rr_sol (rr_lift C1 S2 r1) v1)
    obtain ⟨k2, p2, vs2, f2, g2, s2⟩ := seqOf_k C2 v4 (rr_sol r2 v2)
    exact ⟨p1, p2, k, k2, vs1, vs2, by rw [f1, f2], s1 H2 (fun _ _ _ h => h), s2 H2 (fun _ _ _ h => h), q _ H2 C2 (S1.trans S2) (w_zi C2 s1 s2 g1 g2)⟩
  | _ => cases ht
theorem w_zi3 {K : PySem.W.Frag} {Mo : Addr → Prop} {pins : Nat → Addr} {env : En} {σ : L2.St} {H : Hp} {xs ys zs : List D} {vs ws ts : List V} {p p' p'' : Addr} {k k' k'' : Bool} (C : Corr K Mo pins env σ H) (s : ∀ H', Old (MM Mo env σ) H H' → SqK K H' k p vs) (s' : ∀ H', Old (MM Mo env σ) H H' → SqK K H' k' p' ws) (s'' : ∀ H', Old (MM Mo env σ) H H' → SqK K H' k'' p'' ts)
    (r : Reps K (MM Mo env σ) H xs vs) (r' : Reps K (MM Mo env σ) H ys ws) (r'' : Reps K (MM Mo env σ) H zs ts) : WalkD K Mo env σ H (ItzK3 K k k' k'' p p' p'') ((xs.zip (ys.zip zs)).map fun q => .tup [q.1, q.2.1, q.2.2]) := by
  have hl : ((xs.zip (ys.zip zs)).map fun q => D.tup [q.1, q.2.1, q.2.2]).length = min (min vs.length ws.length) ts.length := by rw [List.length_map, List.length_zip, List.length_zip, r.length, r'.length, r''.length]; omega
  refine ⟨⟨_, _, by rw [hl]; exact walk_ziK3, fun H' kk => (show SqK K H' k p vs ∧ SqK K H' k' p' ws ∧ SqK K H' k'' p'' ts from ⟨s H' kk, s' H' kk, s'' H' kk⟩), fun i Ha Hb x d M' e kk hm y => ?_⟩⟩
  obtain ⟨T, u, w, t, rfl, hT, rfl, e1, e2, e6⟩ := y
  rw [List.getElem?_map] at e
  obtain ⟨⟨d1, d2, d3⟩, e3, rfl⟩ := omap e
  obtain ⟨f1, f2⟩ := List.getElem?_zip_eq_some.mp e3
  obtain ⟨f2, f3⟩ := List.getElem?_zip_eq_some.mp f2
  obtain ⟨v, e4, r1⟩ := r.get f1
  obtain ⟨v', e5, r2⟩ := r'.get f2
  obtain ⟨v'', e7, r3⟩ := r''.get f3
  have e1' : vs[i]? = some u := e1
  have e2' : ws[i]? = some w := e2
  have e3' : ts[i]? = some t := e6
  rw [e1'] at e4
  rw [e2'] at e5
  rw [e3'] at e7
  cases e4
  cases e5
  cases e7
  refine ⟨Exh.new hT, T, _, rfl, upd_same, _, _, rfl, ?_, _, _, rfl, ?_, _, _, rfl, ?_, rfl⟩
  · exact (lift_k C kk hm r1).ex (Exh.new hT)
  · exact (lift_k C kk hm r2).ex (Exh.new hT)
  · exact (lift_k C kk hm r3).ex (Exh.new hT)
theorem i_zip3 {l r r3 : Expr} {a b c : Ex} {p pos : Pos} (hg : Gl X "zip") (hm : X.mg "zip" = none) (ha : PE X l (tE F X.K a)) (hb : PE X r (tE F X.K b)) (hc : PE X r3 (tE F X.K c)) (hx : ∀ z q, l ≠ .Starred z q) (hy : ∀ z q, r ≠ .Starred z q) (hz : ∀ z q, r3 ≠ .Starred z q) (ht : isTup tg = true) : PI X tg (.Call (.Name "zip" p) [l, r, r3] [] pos) (tI F X.K (.zip3 a b c)) := by
  have h0 : starEach [r3] X.env = [(false, eval r3 X.env)] := star_cons hz
  have h1 : starEach [r, r3] X.env = (false, eval r X.env) :: starEach [r3] X.env := star_cons hy
  cases tg with
  | Tuple elts kk tpos =>
    refine ⟨fun pins' s σ H R I h => ?_⟩
    refine (pi_zipK3 hg hm (pa_cons ha (pa_cons hb (pa_cons hc pa_nil h0) h1) (star_cons hx)) (star_cons hx) (by rw [h1, h0]; rfl)).run pins' s σ H R I ?_
    obtain ⟨Mo, pins, env, xs, env', C, hd, q⟩ := h
    simp only [denI] at hd
    obtain ⟨x, e1, d1, hd⟩ := obind2 hd
    obtain ⟨y, e2, d2, hd⟩ := obind2 hd
    obtain ⟨z, e3, d3, hd⟩ := obind2 hd
    obtain ⟨u, v1, hd⟩ := obind hd
    obtain ⟨w, v2, hd⟩ := obind hd
    obtain ⟨t, v5, hd⟩ := obind hd
    obtain ⟨us, v3, hd⟩ := obind hd
    obtain ⟨ws, v4, hd⟩ := obind hd
    obtain ⟨ts, v6, hd⟩ := omap hd
    have hd2 : e3 = env' := congrArg Prod.snd hd
    subst hd2
    have hd3 : ((us.zip (ws.zip ts)).map fun p => D.tup [p.1, p.2.1, p.2.2]) = xs := congrArg Prod.fst hd
    subst hd3
    refine ⟨Mo, pins, env, x, e1, C, d1, fun v H1 C1 S1 r1 _ => ⟨Mo, pins, e1, y, e2, C1, d2, fun v' H2 C2 S2 r2 _ => ⟨Mo, pins, e2, z, e3, C2, d3, fun v'' H3 C3 S3 r3 _ => ?_⟩⟩⟩
    obtain ⟨k, p1, vs1, f1, g1, s1⟩ := seqOf_k C3 v3 (rr_sol (rr_lift C2 S3 (rr_lift C1 S2 r1)) v1)
    obtain ⟨k2, p2, vs2, f2, g2, s2⟩ := seqOf_k C3 v4 (rr_sol (rr_lift C2 S3 r2) v2)
    obtain ⟨k3, p3, vs3, f3, g3, s3⟩ := seqOf_k C3 v6 (rr_sol r3 v5)
    exact ⟨p1, p2, p3, k, k2, k3, vs1, vs2, vs3, by rw [f1, f2, f3], s1 H3 (fun _ _ _ h => h), s2 H3 (fun _ _ _ h => h), s3 H3 (fun _ _ _ h => h), q _ H3 C3 ((S1.trans S2).trans S3) (w_zi3 C3 s1 s2 s3 g1 g2 g3)⟩
  | _ => cases ht
theorem w_rev {K : PySem.W.Frag} {Mo : Addr → Prop} {pins : Nat → Addr} {env : En} {σ : L2.St} {H : Hp} {xs : List D} {vs : List V} {p : Addr} (C : Corr K Mo pins env σ H) (s : H p = some (.lst vs)) (n : ¬ MM Mo env σ p) (r : Reps K (MM Mo env σ) H xs vs) : WalkD K Mo env σ H (Itv K p vs.length) xs.reverse := by
  refine ⟨⟨_, _, by rw [List.length_reverse, r.length]; exact walk_rev, fun H' k => (show SqL K H' p vs from .inl (.inl (k p _ n s))), fun i Ha Hb x d M' e k hm y => ?_⟩⟩
  obtain ⟨rfl, y⟩ := y
  have hi : i < xs.length := by
    have := (List.getElem?_eq_some_iff.mp e).1
    simpa using this
  rw [List.getElem?_reverse hi, r.length] at e
  obtain ⟨v, e1, r1⟩ := r.get e
  rw [y] at e1
  cases e1
  exact ⟨Exh.refl, lift_k C k hm r1⟩
theorem i_rev {p pos : Pos} (hg : Gl X "reversed") (hm : X.mg "reversed" = none) (ha : PE X l (tE F X.K a)) (hx : ∀ z q, l ≠ .Starred z q) : PI X tg (.Call (.Name "reversed" p) [l] [] pos) (tI F X.K (.rev a)) := by
  refine ⟨fun pins' s σ H R I h => ?_⟩
  obtain ⟨Mo, pins, env, xs, env', C, hd, q⟩ := h
  simp only [denI] at hd
  obtain ⟨x, e1, d1, hd⟩ := obind2 hd
  obtain ⟨u, v1, hd⟩ := obind hd
  split at hd
  · cases hd
    refine (RT.pi_revA hg hm ha (star_cons hx)).run pins' s σ H R I ⟨Mo, pins, env, x, _, C, d1, fun v H1 C1 S1 r1 _ => ?_⟩
    obtain ⟨p, vs, e2, n2, s2, r2⟩ := rr_sol r1 v1
    exact ⟨p, vs, e2, .inl ⟨.inl (.inl s2), q _ H1 C1 S1 (w_rev C1 s2 n2 r2)⟩⟩
  · cases hd
end
end PC
set_option Elab.async false
set_option linter.all false
set_option maxRecDepth 100000
/-! PyCore, part 10: list comprehensions. -/
namespace PC
open PySem PySem.Spec PyProof.Rows L2

section
variable {K : PySem.W.Frag} {Mo : Addr → Prop} {pins : Nat → Addr} {env env' e : En} {σ : L2.St} {H H' : Hp}
/-- a slot is forgotten -/
theorem Corr.forget (c : Corr K Mo pins env σ H) (i : Nat) : Corr K Mo pins (env.set i .no) (σ.set i none) H := by
  have own : ∀ a, Own (env.set i .no) (σ.set i none) a → Own env σ a := by
    rintro a ⟨j, t, xs, e1, e2⟩
    by_cases hj : i = j
    · subst hj
      cases set_out e1
    · rw [List.getElem?_set_ne hj] at e1 e2
      exact ⟨j, t, xs, e1, e2⟩
  have anti : ∀ a, MM Mo (env.set i .no) (σ.set i none) a → MM Mo env σ a := fun a h => by
    rcases h with h | h
    · exact .inl h
    · exact .inr (own a h)
  refine ⟨by rw [List.length_set, List.length_set]; exact c.len, c.al, fun j d' e => ?_, fun j t xs e => ?_, fun j k t u xs ys p hjk e1 e2 f1 f2 => ?_⟩
  · by_cases hj : i = j
    · subst hj
      cases set_out e
    · rw [List.getElem?_set_ne hj] at e
      obtain ⟨w, e1, r1⟩ := c.vl j d' e
      exact ⟨w, by rw [List.getElem?_set_ne hj]; exact e1, r1.anti anti⟩
  · by_cases hj : i = j
    · subst hj
      cases set_out e
    · rw [List.getElem?_set_ne hj] at e
      obtain ⟨p, ws, e1, e2, r1, q⟩ := c.ow j t xs e
      exact ⟨p, ws, by rw [List.getElem?_set_ne hj]; exact e1, e2, r1.anti anti, q⟩
  · by_cases n1 : i = j
    · subst n1
      cases set_out e1
    · by_cases n2 : i = k
      · subst n2
        cases set_out e2
      · rw [List.getElem?_set_ne n1] at e1 f1
        rw [List.getElem?_set_ne n2] at e2 f2
        exact c.ds j k t u xs ys p hjk e1 e2 f1 f2
theorem Corr.wiped (c : Corr K Mo pins env σ H) : ∀ vs : List Nat, Corr K Mo pins (wipeE env vs) (wipe σ vs) H
  | [] => c
  | v :: vs => (Corr.wiped c vs).forget v
theorem wipeE_get {i : Nat} : ∀ {vs : List Nat}, i ∉ vs → (wipeE env vs)[i]? = env[i]?
  | [], _ => rfl
  | v :: vs, h => by
    unfold wipeE
    rw [List.getElem?_set_ne (fun z => h (by rw [z]; exact List.mem_cons_self))]
    exact wipeE_get fun z => h (List.mem_cons_of_mem _ z)
theorem wipe_get {i : Nat} : ∀ {vs : List Nat}, i ∉ vs → (wipe σ vs)[i]? = σ[i]?
  | [], _ => rfl
  | v :: vs, h => by
    unfold wipe
    rw [List.getElem?_set_ne (fun z => h (by rw [z]; exact List.mem_cons_self))]
    exact wipe_get fun z => h (List.mem_cons_of_mem _ z)
theorem wipeE_len : ∀ {vs : List Nat}, (wipeE env vs).length = env.length
  | [] => rfl
  | v :: vs => by
    unfold wipeE
    rw [List.length_set, wipeE_len]
theorem wipeE_in {i : Nat} (hi : i < env.length) : ∀ {vs : List Nat}, i ∈ vs → (wipeE env vs)[i]? = some .no
  | v :: vs, h => by
    unfold wipeE
    by_cases hv : v = i
    · subst hv
      rw [List.getElem?_set_self (by rw [wipeE_len]; exact hi)]
    · rw [List.getElem?_set_ne hv]
      rcases List.mem_cons.mp h with z | z
      · exact absurd z.symm hv
      · exact wipeE_in hi z
theorem wipe_in {i : Nat} (hi : i < σ.length) : ∀ {vs : List Nat}, i ∈ vs → (wipe σ vs)[i]? = some none
  | v :: vs, h => by
    unfold wipe
    by_cases hv : v = i
    · subst hv
      rw [List.getElem?_set_self (by rw [wipe_length]; exact hi)]
    · rw [List.getElem?_set_ne hv]
      rcases List.mem_cons.mp h with z | z
      · exact absurd z.symm hv
      · exact wipe_in hi z
theorem wipe_same {σ' : L2.St} {vs : List Nat} (hl : σ'.length = σ.length) (h : ∀ i, i ∉ vs → σ'[i]? = (wipe σ vs)[i]?) : wipe σ' vs = wipe σ vs := by
  apply List.ext_getElem?
  intro i
  by_cases hi : i ∈ vs
  · by_cases hlt : i < σ.length
    · rw [wipe_in hlt hi, wipe_in (by rw [hl]; exact hlt) hi]
    · rw [List.getElem?_eq_none (by rw [wipe_length, hl]; omega), List.getElem?_eq_none (by rw [wipe_length]; omega)]
  · rw [wipe_get hi]
    exact h i hi
theorem noneAt_at {i : Nat} : ∀ {vs : List Nat}, noneAt env vs = true → i ∈ vs → env[i]? = some .no
  | v :: vs, h, hi => by
    unfold noneAt at h
    obtain ⟨h1, h2⟩ := and2 h
    rcases List.mem_cons.mp hi with z | z
    · subst z
      split at h1
      · assumption
      · cases h1
    · exact noneAt_at h2 z
theorem noneAt_wipe {vs : List Nat} (h : noneAt env vs = true) : wipeE env vs = env := by
  apply List.ext_getElem?
  intro i
  by_cases hi : i ∈ vs
  · have h1 := noneAt_at h hi
    rw [wipeE_in (List.getElem?_eq_some_iff.mp h1).1 hi, h1]
  · exact wipeE_get hi

/-- slots keep their forms -/
structure Shp (e e' : En) : Prop where
  own : ∀ (i : Nat) (t : Option Nat) (xs : D), e[i]? = some (.own t xs) → ∃ ys, e'[i]? = some (.own t ys)
  oth : ∀ (i : Nat) (s : Sl), e[i]? = some s → (∀ t xs, s ≠ .own t xs) → e'[i]? = some s
  len : e'.length = e.length
theorem Stp.shp (s : Stp env env' σ H H') : Shp env env' := ⟨s.own, s.oth, s.len⟩
theorem Shp.back {e e' : En} (s : Shp e e') {i : Nat} {t : Option Nat} {ys : D} (h : e'[i]? = some (.own t ys)) : ∃ xs, e[i]? = some (.own t xs) :=
  Stp.back (σ := []) (H := fun _ => none) (H' := fun _ => none) ⟨.refl, s.own, s.oth, s.len⟩ h
/-- D is written, a list that nothing leans on -/
theorem Corr.grow (c : Corr K (fun a => Mo a ∨ a = p) pins env σ H) {ws us : List V} (hp : H p = some (.lst ws)) (np : ¬ Own env σ p) : Corr K (fun a => Mo a ∨ a = p) pins env σ (upd H p (.lst us)) ∧
    ∀ {ds : List D} {vs : List V}, Reps K (MM (fun a => Mo a ∨ a = p) env σ) H ds vs → Reps K (MM (fun a => Mo a ∨ a = p) env σ) (upd H p (.lst us)) ds vs := by
  have k : Kp (fun a => a = p) H (upd H p (.lst us)) := ⟨fun a o n e => by rw [upd_ne n]; exact e, fun a o e _ _ => ⟨.lst us, by rw [e]; exact upd_same, trivial⟩⟩
  have om : OM (fun a => a = p) H := fun a e => ⟨.lst ws, by rw [e]; exact hp, trivial⟩
  have lift : ∀ {ds : List D} {vs : List V}, Reps K (MM (fun a => Mo a ∨ a = p) env σ) H ds vs → Reps K (MM (fun a => Mo a ∨ a = p) env σ) (upd H p (.lst us)) ds vs :=
    fun r => Reps.lift k om (fun a e => .inl (.inr e)) (fun a h => .inl h) r
  refine ⟨⟨c.len, c.al.kp k, fun i d e => ?_, fun i t xs e => ?_, c.ds⟩, lift⟩
  · obtain ⟨v, e1, r⟩ := c.vl i d e
    exact ⟨v, e1, Rep.lift k om (fun a e => .inl (.inr e)) (fun a h => .inl h) r⟩
  · obtain ⟨q, vs, e1, e2, r, t⟩ := c.ow i t xs e
    refine ⟨q, vs, e1, ?_, RepO.lift k om (fun a e => .inl (.inr e)) (fun a h => .inl h) r, t⟩
    rw [upd_ne (fun z => np ⟨i, _, xs, e, by rw [← z]; exact e1⟩)]
    exact e2
end

def tCs (F : CallF) (K : PySem.W.Frag) (cs : Es) : TT := fun σ H Q => ∃ Mo pins env k env', Corr K Mo pins env σ H ∧ denCs F cs env = some (k, env') ∧
  ∀ H', Corr K Mo pins env' σ H' → Stp env env' σ H H' → Q k H'
theorem PTs.imp {X : Cx} {e : List Expr} {t t' : TT} (h : PTs X e t) (w : ∀ σ H Q, t' σ H Q → t σ H Q) : PTs X e t' := ⟨fun pins s σ H Q I q => h.run pins s σ H Q I (w σ H Q q)⟩
section
variable {X : Cx} {F : CallF}
theorem cs_nil : PTs X [] (tCs F X.K .nil) := by
  refine PTs.imp pts_nil fun σ H Q h => ?_
  obtain ⟨Mo, pins, env, k, env', C, hd, q⟩ := h
  simp only [denCs] at hd
  cases hd
  exact q H C .refl
theorem cs_one {e : Expr} {a : Ex} (h : PT X e (tT F X.K a)) : PTs X [e] (tCs F X.K (.cons a .nil)) := by
  refine PTs.imp (pts_one h) fun σ H Q h => ?_
  obtain ⟨Mo, pins, env, k, env', C, hd, q⟩ := h
  simp only [denCs] at hd
  obtain ⟨x, e1, d1, hd⟩ := obind2 hd
  dsimp only at hd
  split at hd
  · rename_i c
    have h1 : c = k ∧ e1 = env' := by cases c <;> simp at hd <;> exact ⟨by simp [hd.1], hd.2⟩
    obtain ⟨rfl, rfl⟩ := h1
    exact ⟨Mo, pins, env, c, e1, C, d1, q⟩
  · cases hd
end

def lcBody (F : CallF) (own : List Nat) (tg : Tg) (cs : Es) (elt : Ex) (p : En × List D) (x : D) : Option (En × List D) :=
  (setTg tg x (wipeE p.1 own)).bind fun e2 => (denCs F cs e2).bind fun (k, e3) => if k then (denE F elt e3).bind fun (r, e4) => (sol r).map fun d => (e4, p.2 ++ [d]) else some (e3, p.2)
theorem denE_comp (F : CallF) (own : List Nat) (tg : Tg) (it : It) (cs : Es) (elt : Ex) (e : En) : denE F (.comp own tg it cs elt) e = (denI F it e).bind fun (xs, e1) =>
    if xs.length < LINE ∧ noneAt e1 own = true then (xs.foldlM (lcBody F own tg cs elt) (wipeE e1 own, [])).map fun p => (.v (.lst p.2), wipeE p.1 own) else none := rfl

section
variable {K : PySem.W.Frag} {F : CallF} {own : List Nat} {tg : Tg} {it : It} {cs : Es} {elt : Ex}
/-- within the loop of a comprehension -/
structure LcI (K : PySem.W.Frag) (own : List Nat) (Mo : Addr → Prop) (pins : Nat → Addr) (e1 : En) (σ : L2.St) (H1 : Hp) (Dl : Addr) (H : Hp) (p : En × List D) (acc : List V) : Prop where
  c : Corr K (fun a => Mo a ∨ a = Dl) pins (wipeE p.1 own) (wipe σ own) H
  at_ : H Dl = some (.lst acc)
  rep : Reps K (MM (fun a => Mo a ∨ a = Dl) (wipeE p.1 own) (wipe σ own)) H p.2 acc
  kp : Kp (fun a => Own e1 σ a ∨ a = Dl) H1 H
  sh : Shp e1 (wipeE p.1 own)
theorem lc_own {e1 e : En} {σ : L2.St} (hn : noneAt e1 own = true) (sh : Shp e1 e) : ∀ a, Own e (wipe σ own) a ↔ Own e1 σ a := fun a => by
  constructor
  · rintro ⟨i, t, xs, h1, h2⟩
    obtain ⟨ys, h3⟩ := sh.back h1
    have hi : i ∉ own := fun z => by rw [noneAt_at hn z] at h3; cases h3
    rw [wipe_get hi] at h2
    exact ⟨i, t, ys, h3, h2⟩
  · rintro ⟨i, t, xs, h1, h2⟩
    obtain ⟨ys, h3⟩ := sh.own i t xs h1
    have hi : i ∉ own := fun z => by rw [noneAt_at hn z] at h1; cases h1
    exact ⟨i, t, ys, h3, by rw [wipe_get hi]; exact h2⟩
theorem lc_shape {e1 ew e2 e3 : En} {σw σ2 : L2.St} (hn : noneAt e1 own = true) (s1 : Shp e1 ew) (P : Puts ew e2 σw σ2 (slTg tg)) (hsl : ∀ i ∈ slTg tg, i ∈ own) (s2 : Shp e2 e3) : Shp e1 (wipeE e3 own) := by
  refine ⟨fun i t xs h => ?_, fun i s h ns => ?_, ?_⟩
  · have hi : i ∉ own := fun z => by rw [noneAt_at hn z] at h; cases h
    obtain ⟨ys, h1⟩ := s1.own i t xs h
    rw [← P.en i fun z => hi (hsl i z)] at h1
    obtain ⟨zs, h2⟩ := s2.own i t ys h1
    exact ⟨zs, by rw [wipeE_get hi]; exact h2⟩
  · by_cases hi : i ∈ own
    · have h0 := noneAt_at hn hi
      rw [h0] at h
      cases h
      refine wipeE_in ?_ hi
      rw [s2.len, P.len, s1.len]
      exact (List.getElem?_eq_some_iff.mp h0).1
    · rw [wipeE_get hi]
      refine s2.oth i s ?_ ns
      rw [P.en i fun z => hi (hsl i z)]
      exact s1.oth i s h ns
  · rw [wipeE_len, s2.len, P.len, s1.len]
theorem lc_ow2 {e : En} {σ : L2.St} {a : Addr} (h : Own (wipeE e own) σ a) : Own (wipeE e own) (wipe σ own) a := by
  obtain ⟨j, t, zs, g1, g2⟩ := h
  have hj : j ∉ own := fun y => by
    rw [wipeE_in (by have := (List.getElem?_eq_some_iff.mp g1).1; rw [wipeE_len] at this; exact this) y] at g1
    cases g1
  exact ⟨j, t, zs, g1, by rw [wipe_get hj]; exact g2⟩
theorem lc_unw {Mo : Addr → Prop} {pins : Nat → Addr} {e : En} {σ : L2.St} {H : Hp} (c : Corr K Mo pins (wipeE e own) (wipe σ own) H) (hl : (wipeE e own).length = σ.length) : Corr K Mo pins (wipeE e own) σ H := by
  have nin : ∀ {i : Nat} {s : Sl}, (wipeE e own)[i]? = some s → s ≠ .no → i ∉ own := fun {i s} h n z => by
    rw [wipeE_in (by have := (List.getElem?_eq_some_iff.mp h).1; rw [wipeE_len] at this; exact this) z] at h
    exact n (Option.some.inj h).symm
  have anti : ∀ a, MM Mo (wipeE e own) σ a → MM Mo (wipeE e own) (wipe σ own) a := fun a z => by
    rcases z with z | z
    · exact .inl z
    · exact .inr (lc_ow2 z)
  refine ⟨hl, c.al, fun i d h => ?_, fun i t xs h => ?_, fun i j t u xs ys p hij h1 h2 f1 f2 => ?_⟩
  · obtain ⟨v, e1, r⟩ := c.vl i d h
    rw [wipe_get (nin h (fun z => by cases z))] at e1
    exact ⟨v, e1, r.anti anti⟩
  · obtain ⟨p, vs, e1, e2, r, q⟩ := c.ow i t xs h
    rw [wipe_get (nin h (fun z => by cases z))] at e1
    exact ⟨p, vs, e1, e2, r.anti anti, q⟩
  · exact c.ds i j t u xs ys p hij h1 h2 (by rw [wipe_get (nin h1 (fun z => by cases z))]; exact f1) (by rw [wipe_get (nin h2 (fun z => by cases z))]; exact f2)
theorem Corr.minus {Mo O : Addr → Prop} {p : Addr} {pins : Nat → Addr} {e e1 : En} {σ : L2.St} {H H1 : Hp} (c : Corr K (fun a => Mo a ∨ a = p) pins e σ H) (c1 : Corr K Mo pins e1 σ H1) (sh : Shp e1 e) (k : Kp O H1 H) : Corr K Mo pins e σ H := by
  have anti : ∀ a, MM Mo e σ a → MM (fun a => Mo a ∨ a = p) e σ a := fun a z => by
    rcases z with z | z
    · exact .inl (.inl z)
    · exact .inr z
  refine ⟨c.len, c1.al.kp k, fun i d h => ?_, fun i t xs h => ?_, c.ds⟩
  · obtain ⟨v, e2, r⟩ := c.vl i d h
    exact ⟨v, e2, r.anti anti⟩
  · obtain ⟨q, vs, e2, e3, r, n, tg⟩ := c.ow i t xs h
    obtain ⟨ys, h1⟩ := sh.back h
    obtain ⟨q', vs', e4, _, _, _, tg'⟩ := c1.ow i t ys h1
    rw [e2] at e4
    cases e4
    exact ⟨q, vs, e2, e3, r.anti anti, fun z y => n z (.inl y), tg'⟩
theorem lcBody_len {F : CallF} {own : List Nat} {tg : Tg} {cs : Es} {elt : Ex} {p p' : En × List D} {d : D} (hb : lcBody F own tg cs elt p d = some p') : p'.2.length ≤ p.2.length + 1 := by
  unfold lcBody at hb
  obtain ⟨e2, hb1, hb⟩ := obind hb
  obtain ⟨k, e3, hb2, hb⟩ := obind2 hb
  dsimp only at hb
  cases k with
  | false =>
    simp only [Bool.false_eq_true, if_false] at hb
    cases hb
    exact Nat.le_succ _
  | true =>
    simp only [if_true] at hb
    obtain ⟨r, e4, hb3, hb⟩ := obind2 hb
    obtain ⟨d', hb4, hb⟩ := omap hb
    cases hb
    simp
/-- one turn: an item d, given as x -/
theorem lc_turn (hsl : ∀ i ∈ slTg tg, i ∈ own) {Mo Mw : Addr → Prop} {pins : Nat → Addr} {e1 : En} {σ : L2.St} {H1 Ha Hb : Hp} {Dl : Addr} {p p' : En × List D} {acc : List V} {d : D} {x : V} {Nx : Hp → Prop} (hn : noneAt e1 own = true) (nD : ¬ Own e1 σ Dl)
    (hMw : ∀ a, Mo a ∨ a = Dl → Mw a ∨ H1 a = none) (L : LcI K own Mo pins e1 σ H1 Dl Ha p acc) (ex : Exh Ha Hb) (rx0 : ∀ M' : Addr → Prop, (∀ a, M' a → MM Mw e1 σ a ∨ H1 a = none) → Rep K M' Hb d x) (hb : lcBody F own tg cs elt p d = some p') (hl : p.2.length < LINE)
    (hNx : ∀ H' acc', LcI K own Mo pins e1 σ H1 Dl H' p' acc' → Nx H') : gT K tg x (wipe σ own) Hb fun σ2 H2 => wipe σ2 own = wipe σ own ∧ tCs F K cs σ2 H2 fun b H3 =>
      if b = true then tE F K elt σ2 H3 fun y H4 => ∃ acc, H4 Dl = some (.lst acc) ∧ acc.length < sizeLine ∧ Nx (upd H4 Dl (.lst (acc ++ [y]))) else Nx H3 := by
  have ho := lc_own (σ := σ) hn L.sh
  have hmm : ∀ a, MM (fun a => Mo a ∨ a = Dl) (wipeE p.1 own) (wipe σ own) a → MM Mw e1 σ a ∨ H1 a = none := fun a z => by
    rcases z with z | z
    · rcases hMw a z with y | y
      · exact .inl (.inl y)
      · exact .inr y
    · exact .inl (.inr ((ho a).mp z))
  have rx := rx0 _ hmm
  unfold lcBody at hb
  obtain ⟨e2, hb1, hb⟩ := obind hb
  obtain ⟨k, e3, hb2, hb⟩ := obind2 hb
  dsimp only at hb
  have Cb := L.c.ex ex
  have nD2 : ∀ {e : En} {σ' : L2.St}, (∀ a, Own e σ' a → Own (wipeE p.1 own) (wipe σ own) a) → ¬ Own e σ' Dl := fun hs z => nD ((ho Dl).mp (hs Dl z))
  refine gT_ok (K := K) Cb rx hb1 fun σ2 C2 P2 => ⟨?_, ?_⟩
  · refine wipe_same (by rw [P2.slen, wipe_length]) fun j hj => ?_
    exact P2.st j fun z => hj (hsl j z)
  have hw2 : wipe σ2 own = wipe σ own := by
    refine wipe_same (by rw [P2.slen, wipe_length]) fun j hj => ?_
    exact P2.st j fun z => hj (hsl j z)
  refine ⟨_, pins, e2, k, e3, C2, hb2, fun H3 C3 S3 => ?_⟩
  -- what stood, at H3
  have k3 : Kp (Own (wipeE p.1 own) (wipe σ own)) Hb H3 := S3.kp.more P2.ow
  have at3 : H3 Dl = some (.lst acc) := k3.old Dl _ (nD2 fun a z => z) (ex Dl _ L.at_)
  have rep3 : Reps K (MM (fun a => Mo a ∨ a = Dl) (wipeE p.1 own) (wipe σ own)) H3 p.2 acc := Reps.lift k3 Cb.om (fun a z => .inr z) (fun a z => .inl z) (L.rep.ex ex)
  have kpf : ∀ {H' : Hp}, Kp (Own (wipeE p.1 own) (wipe σ own)) H3 H' → Kp (fun a => Own e1 σ a ∨ a = Dl) H1 H' := fun kk =>
    ((L.kp.trans (Kp.ex (O := fun _ => False) ex) fun a z => z.elim).trans k3 fun a z => .inl (.inl ((ho a).mp z))).trans kk fun a z => .inl (.inl ((ho a).mp z))
  have sh3 : Shp e1 (wipeE e3 own) := lc_shape hn L.sh P2 hsl S3.shp
  have own3 : ∀ a, Own (wipeE e3 own) (wipe σ own) a ↔ Own (wipeE p.1 own) (wipe σ own) a := fun a => (lc_own (σ := σ) hn sh3 a).trans (ho a).symm
  cases k with
  | false =>
    simp only [Bool.false_eq_true, if_false] at hb ⊢
    cases hb
    refine hNx _ acc ⟨?_, at3, ?_, kpf .refl, sh3⟩
    · have := C3.wiped own
      rw [hw2] at this
      exact this
    · exact rep3.anti fun a z => by
        rcases z with z | z
        · exact .inl z
        · exact .inr ((own3 a).mp z)
  | true =>
    simp only [if_true] at hb ⊢
    obtain ⟨r, e4, hb3, hb⟩ := obind2 hb
    obtain ⟨d', hb4, hb⟩ := omap hb
    cases hb
    refine ⟨_, pins, e3, r, e4, C3, hb3, fun v H4 C4 S4 r4 _ => ?_⟩
    have o32 : ∀ a, Own e3 σ2 a → Own (wipeE p.1 own) (wipe σ own) a := fun a z => P2.ow a ((S3.ownEq a).mp z)
    have k4 : Kp (Own (wipeE p.1 own) (wipe σ own)) H3 H4 := S4.kp.more o32
    have at4 : H4 Dl = some (.lst acc) := k4.old Dl _ (nD2 fun a z => z) at3
    have om3 : OM (Own (wipeE p.1 own) (wipe σ own)) H3 := Cb.om.kp k3
    have rep4 : Reps K (MM (fun a => Mo a ∨ a = Dl) (wipeE p.1 own) (wipe σ own)) H4 p.2 acc := Reps.lift k4 om3 (fun a z => .inr z) (fun a z => .inl z) rep3
    have sh4 : Shp e1 (wipeE e4 own) := lc_shape hn L.sh P2 hsl ⟨fun i t xs h => by
      obtain ⟨ys, h1⟩ := S3.own i t xs h
      exact S4.own i t ys h1, fun i s h n => S4.oth i s (S3.oth i s h n) n, S4.len.trans S3.len⟩
    have own4 : ∀ a, Own (wipeE e4 own) (wipe σ own) a ↔ Own (wipeE p.1 own) (wipe σ own) a := fun a => (lc_own (σ := σ) hn sh4 a).trans (ho a).symm
    have C4w : Corr K (fun a => Mo a ∨ a = Dl) pins (wipeE e4 own) (wipe σ own) H4 := by
      have := C4.wiped own
      rw [hw2] at this
      exact this
    have reps : Reps K (MM (fun a => Mo a ∨ a = Dl) (wipeE e4 own) (wipe σ own)) H4 (p.2 ++ [d']) (acc ++ [v]) := by
      refine Reps.append (rep4.anti fun a z => ?_) (Reps.cons ((rr_sol r4 hb4).anti fun a z => ?_) .nil)
      · rcases z with z | z
        · exact .inl z
        · exact .inr ((own4 a).mp z)
      · rcases z with z | z
        · exact .inl z
        · refine .inr ?_
          have h1 := (own4 a).mp z
          obtain ⟨j, t, zs, g1, g2⟩ := z
          have hj : j ∉ own := fun y => by
            rw [wipeE_in (by have := (List.getElem?_eq_some_iff.mp g1).1; rw [wipeE_len] at this; exact this) y] at g1
            cases g1
          rw [wipeE_get hj] at g1
          rw [← hw2, wipe_get hj] at g2
          exact ⟨j, t, zs, g1, g2⟩
    obtain ⟨C5, lift5⟩ := C4w.grow (us := acc ++ [v]) at4 (nD2 fun a z => (own4 a).mp z)
    refine ⟨acc, at4, ?_, hNx _ (acc ++ [v]) ⟨C5, upd_same, lift5 reps, ?_, sh4⟩⟩
    · rw [← rep4.length, ← line_eq]
      exact hl
    · have kz := kpf k4
      refine kz.trans (O' := fun a => a = Dl) ⟨fun a o n e => by rw [upd_ne n]; exact e, fun a o e _ _ => ⟨.lst (acc ++ [v]), by rw [e]; exact upd_same, trivial⟩⟩ fun a z => .inl (.inr z)
theorem lc_read (hsl : ∀ i ∈ slTg tg, i ∈ own) {σ : L2.St} {H : Hp} {Q : VK} (h : tE F K (.comp own tg it cs elt) σ H Q) : tLc (tI F K it) (gT K tg) (tCs F K cs) (tE F K elt) own σ H Q := by
  obtain ⟨Mo, pins, env, rr, env', C, hd, q⟩ := h
  rw [denE_comp] at hd
  obtain ⟨xs, e1, d1, hd⟩ := obind2 hd
  dsimp only at hd
  split at hd
  · rename_i hc
    obtain ⟨hlt, hn⟩ := hc
    obtain ⟨fin, hfin, hd⟩ := omap hd
    have hr1 : R.v (.lst fin.2) = rr := congrArg Prod.fst hd
    have hr2 : wipeE fin.1 own = env' := congrArg Prod.snd hd
    subst hr1 hr2
    refine ⟨Mo, pins, env, xs, e1, C, d1, fun J H1 C1 S1 WD Dl hD => ?_⟩
    obtain ⟨G, Y, w, stab, yld⟩ := WD.ex
    have hw1 : wipeE e1 own = e1 := noneAt_wipe hn
    have nD : ¬ Own e1 σ Dl := fun z => by
      obtain ⟨o, e, _⟩ := C1.om Dl z
      rw [hD] at e; cases e
    have oldM : ∀ {H : Hp}, Kp (fun a => Own e1 σ a ∨ a = Dl) H1 H → Old (MM Mo e1 σ) H1 H := fun k a o n e => k.old a o (fun z => by
      rcases z with z | z
      · exact n (.inr z)
      · rw [z, hD] at e; cases e) e
    refine lc_it w (fun i H => ∃ p acc, LcI K own Mo pins e1 σ H1 Dl H p acc ∧ (xs.drop i).foldlM (lcBody F own tg cs elt) p = some fin ∧ p.2.length ≤ i) ?_ (fun i H _ hp => ?_) (fun i x Ha Hb hi hp y => ?_) (fun Hz hp => ?_)
    · refine ⟨(wipeE e1 own, []), [], ⟨?_, upd_same, rfl, .new hD, ?_⟩, by rw [List.drop_zero]; exact hfin, Nat.le_refl _⟩
      · show Corr K _ pins (wipeE (wipeE e1 own) own) _ _
        rw [hw1]
        exact (C1.plus hD (Exh.new hD) upd_same (show isM (.lst []) from trivial)).wiped own
      · show Shp e1 (wipeE (wipeE e1 own) own)
        rw [hw1, hw1]
        exact ⟨fun i t xs h => ⟨xs, h⟩, fun i s h _ => h, rfl⟩
    · obtain ⟨p, acc, L, _, _⟩ := hp
      exact stab H (oldM L.kp)
    · obtain ⟨p, acc, L, hrun, hlen⟩ := hp
      obtain ⟨d, hd⟩ : ∃ d, xs[i]? = some d := ⟨xs[i], by simp [hi]⟩
      have yl : ∀ M' : Addr → Prop, (∀ a, M' a → MM Mo e1 σ a ∨ H1 a = none) → Exh Ha Hb ∧ Rep K M' Hb d x := fun M' hm => yld i Ha Hb x d M' hd (oldM L.kp) hm y
      have ex := (yl (fun _ => False) fun _ z => z.elim).1
      have hdrop : xs.drop i = d :: xs.drop (i + 1) := by
        rw [List.drop_eq_getElem_cons hi]
        rw [List.getElem?_eq_getElem hi] at hd
        cases hd
        rfl
      rw [hdrop, List.foldlM_cons] at hrun
      obtain ⟨p', hb, hrun⟩ := obind hrun
      have hl2 : p'.2.length ≤ i + 1 := by
        have := lcBody_len hb
        omega
      exact lc_turn hsl hn nD (fun a z => z.elim .inl fun z => .inr (by rw [z]; exact hD)) L ex (fun M' hm => (yl M' hm).2) hb (by omega) fun H' acc' L' => ⟨p', acc', L', hrun, hl2⟩
    · obtain ⟨p, acc, L, hrun, _⟩ := hp
      rw [List.drop_length, List.foldlM_nil] at hrun
      have hp : p = fin := Option.some.inj hrun
      subst hp
      have kpz : Kp (Own e1 σ) H1 Hz := ⟨fun a o n e => L.kp.old a o (fun z => by
        rcases z with z | z
        · exact n z
        · rw [z, hD] at e; cases e) e, fun a o z e m => L.kp.wri a o (.inl z) e m⟩
      have Cu := lc_unw L.c (by rw [L.sh.len]; exact C1.len)
      have Cm := Cu.minus C1 L.sh kpz
      have S2 : Stp e1 (wipeE p.1 own) σ H1 Hz := ⟨kpz, L.sh.own, L.sh.oth, L.sh.len⟩
      have hpn := C.none_back S1 hD
      have hmm : ∀ a, MM (fun a => Mo a ∨ a = Dl) (wipeE p.1 own) σ a → MM (fun a => Mo a ∨ a = Dl) (wipeE p.1 own) (wipe σ own) a := fun a z => by
        rcases z with z | z
        · exact .inl z
        · exact .inr (lc_ow2 z)
      have repu := L.rep.anti hmm
      refine q (.ref Dl) Hz Cm (S1.trans S2) ⟨Dl, acc, rfl, fun z => ?_, L.at_, repu.anti fun a z => ?_⟩ fun _ ys e _ => ?_
      · rcases z with z | z
        · exact C1.nofresh hD (.inl z)
        · exact nD ((S2.ownEq Dl).mp z)
      · rcases z with z | z
        · exact .inl (.inl z)
        · exact .inr z
      · cases e
        exact ⟨Dl, _, rfl, hpn, L.at_, Cu, acc, rfl, repu⟩
  · cases hd
end
end PC
set_option Elab.async false
set_option linter.all false
set_option maxRecDepth 100000
/-! PyCore, part 10b: list comprehensions with two fors. -/
namespace PC
open PySem PySem.Spec PyProof.Rows L2
/-- a loop over a walk -/
theorem it_gen {J : L2.It} {n : Nat} {G : Hp → Prop} {Y : Nat → Hp → V → Hp → Prop} (w : Walk J n G Y) {Step : (Hp → Prop) → V → Hp → Prop} {H0 : Hp} {Qd : Hp → Prop} (Pv : Nat → Hp → Prop) (h0 : Pv 0 H0) (hG : ∀ i H, i ≤ n → Pv i H → G H)
    (hs : ∀ i x H H', i < n → Pv i H → Y i H x H' → Step (Pv (i + 1)) x H') (hd : ∀ H, Pv n H → Qd H) :
    ∃ W : Nat → Nat → Hp → Prop, (∃ m, W 0 m H0) ∧ ∀ i m H, W i m H →
      (J.stop i H ∧ Qd H) ∨ (J.go i H ∧ ∃ Nx : Hp → Prop, (∀ H', Nx H' → ∃ m', m' < m ∧ W (i + 1) m' H') ∧ ∀ x H', J.yld i H x H' → Step Nx x H') := by
  refine ⟨fun i m H => m = n - i ∧ i ≤ n ∧ Pv i H, ⟨n, by simp, Nat.zero_le _, h0⟩, ?_⟩
  rintro i m H ⟨rfl, hi, p⟩
  have q := hG i H hi p
  by_cases hlt : i < n
  · refine .inr ⟨w.goes i H hlt q, Pv (i + 1), fun H' p' => ⟨n - (i + 1), by omega, rfl, hlt, p'⟩, fun x H' y => hs i x H H' hlt p (w.yields i H x H' hlt q y)⟩
  · have e : i = n := by omega
    subst e
    exact .inl ⟨w.stops H q, hd H p⟩
def lcBody2 (F : CallF) (own : List Nat) (tg : Tg) (own1 : List Nat) (tg1 : Tg) (it1 : It) (cs : Es) (elt : Ex) (p : En × List D) (x : D) : Option (En × List D) :=
  (setTg tg x (wipeE p.1 own)).bind fun e2 => (denI F it1 e2).bind fun (ys, e3) => if p.2.length + ys.length ≤ LINE ∧ noneAt e3 own1 = true then ys.foldlM (lcBody F own1 tg1 cs elt) (e3, p.2) else none
theorem denE_comp2 (F : CallF) (own : List Nat) (tg : Tg) (it : It) (own1 : List Nat) (tg1 : Tg) (it1 : It) (cs : Es) (elt : Ex) (e : En) : denE F (.comp2 own tg it own1 tg1 it1 cs elt) e = (denI F it e).bind fun (xs, e1) =>
    if xs.length < LINE ∧ noneAt e1 own = true then (xs.foldlM (lcBody2 F own tg own1 tg1 it1 cs elt) (wipeE e1 own, [])).map fun p => (.v (.lst p.2), wipeE p.1 own) else none := rfl
section
variable {K : PySem.W.Frag} {F : CallF} {own own1 : List Nat} {tg tg1 : Tg} {it it1 : It} {cs : Es} {elt : Ex}
theorem wipeE_wipeE {e : En} (h : ∀ i ∈ own1, i ∈ own) : wipeE (wipeE e own1) own = wipeE e own := by
  apply List.ext_getElem?
  intro i
  by_cases hi : i ∈ own
  · by_cases hl : i < e.length
    · rw [wipeE_in (by rw [wipeE_len]; exact hl) hi, wipeE_in hl hi]
    · rw [List.getElem?_eq_none (by rw [wipeE_len, wipeE_len]; omega), List.getElem?_eq_none (by rw [wipeE_len]; omega)]
  · rw [wipeE_get hi, wipeE_get hi, wipeE_get fun z => hi (h i z)]
theorem wipe_wipe {σ : L2.St} (h : ∀ i ∈ own1, i ∈ own) : wipe (wipe σ own1) own = wipe σ own := by
  refine wipe_same (wipe_length _ _) fun i hi => ?_
  rw [wipe_get fun z => hi (h i z), wipe_get hi]
theorem Shp.trans {a b c : En} (s : Shp a b) (t : Shp b c) : Shp a c := ⟨fun i u xs h => by
  obtain ⟨ys, h1⟩ := s.own i u xs h
  exact t.own i u ys h1, fun i x h n => t.oth i x (s.oth i x h n) n, t.len.trans s.len⟩
theorem lc2_read (hsl : ∀ i ∈ slTg tg, i ∈ own) (hsl1 : ∀ i ∈ slTg tg1, i ∈ own1) (hoo : ∀ i ∈ own1, i ∈ own) {σ : L2.St} {H : Hp} {Q : VK} (h : tE F K (.comp2 own tg it own1 tg1 it1 cs elt) σ H Q) :
    tLc2 (tI F K it) (gT K tg) tYes (tI F K it1) (gT K tg1) (tCs F K cs) (tE F K elt) own own1 σ H Q := by
  obtain ⟨Mo, pins, env, rr, env', C, hd, q⟩ := h
  rw [denE_comp2] at hd
  obtain ⟨xs, e1, d1, hd⟩ := obind2 hd
  dsimp only at hd
  split at hd
  · rename_i hc
    obtain ⟨hlt, hn⟩ := hc
    obtain ⟨fin, hfin, hd⟩ := omap hd
    have hr1 : R.v (.lst fin.2) = rr := congrArg Prod.fst hd
    have hr2 : wipeE fin.1 own = env' := congrArg Prod.snd hd
    subst hr1 hr2
    refine ⟨Mo, pins, env, xs, e1, C, d1, fun J H1 C1 S1 WD Dl hD => ?_⟩
    obtain ⟨G, Y, w, stab, yld⟩ := WD.ex
    have hw1 : wipeE e1 own = e1 := noneAt_wipe hn
    have nD : ¬ Own e1 σ Dl := fun z => by
      obtain ⟨o, e, _⟩ := C1.om Dl z
      rw [hD] at e; cases e
    have oldM : ∀ {H : Hp}, Kp (fun a => Own e1 σ a ∨ a = Dl) H1 H → Old (MM Mo e1 σ) H1 H := fun k a o n e => k.old a o (fun z => by
      rcases z with z | z
      · exact n (.inr z)
      · rw [z, hD] at e; cases e) e
    refine it_gen w (fun i H => ∃ p acc, LcI K own Mo pins e1 σ H1 Dl H p acc ∧ (xs.drop i).foldlM (lcBody2 F own tg own1 tg1 it1 cs elt) p = some fin) ?_ (fun i H _ hp => ?_) (fun i x Ha Hb hi hp y => ?_) (fun Hz hp => ?_)
    · refine ⟨(wipeE e1 own, []), [], ⟨?_, upd_same, rfl, .new hD, ?_⟩, by rw [List.drop_zero]; exact hfin⟩
      · show Corr K _ pins (wipeE (wipeE e1 own) own) _ _
        rw [hw1]
        exact (C1.plus hD (Exh.new hD) upd_same (show isM (.lst []) from trivial)).wiped own
      · show Shp e1 (wipeE (wipeE e1 own) own)
        rw [hw1, hw1]
        exact ⟨fun i t xs h => ⟨xs, h⟩, fun i s h _ => h, rfl⟩
    · obtain ⟨p, acc, L, _⟩ := hp
      exact stab H (oldM L.kp)
    · obtain ⟨p, acc, L, hrun⟩ := hp
      obtain ⟨d, hd⟩ : ∃ d, xs[i]? = some d := ⟨xs[i], by simp [hi]⟩
      have yl : ∀ M' : Addr → Prop, (∀ a, M' a → MM Mo e1 σ a ∨ H1 a = none) → Exh Ha Hb ∧ Rep K M' Hb d x := fun M' hm => yld i Ha Hb x d M' hd (oldM L.kp) hm y
      have ex := (yl (fun _ => False) fun _ z => z.elim).1
      have hdrop : xs.drop i = d :: xs.drop (i + 1) := by
        rw [List.drop_eq_getElem_cons hi]
        rw [List.getElem?_eq_getElem hi] at hd
        cases hd
        rfl
      rw [hdrop, List.foldlM_cons] at hrun
      obtain ⟨p', hb, hrun⟩ := obind hrun
      have ho := lc_own (σ := σ) hn L.sh
      have hmm : ∀ a, MM (fun a => Mo a ∨ a = Dl) (wipeE p.1 own) (wipe σ own) a → MM Mo e1 σ a ∨ H1 a = none := fun a z => by
        rcases z with z | z
        · rcases z with z | z
          · exact .inl (.inl z)
          · exact .inr (by rw [z]; exact hD)
        · exact .inl (.inr ((ho a).mp z))
      have rx := (yl _ hmm).2
      unfold lcBody2 at hb
      obtain ⟨e3, hb1, hb⟩ := obind hb
      obtain ⟨ys, e4, hb2, hb⟩ := obind2 hb
      dsimp only at hb
      split at hb
      · rename_i hc1
        obtain ⟨hlt1, hn1⟩ := hc1
        have Cb := L.c.ex ex
        refine gT_ok (K := K) Cb rx hb1 fun σ2 C2 P2 => ?_
        have hw2 : wipe σ2 own = wipe σ own := by
          refine wipe_same (by rw [P2.slen, wipe_length]) fun j hj => ?_
          exact P2.st j fun z => hj (hsl j z)
        refine ⟨hw2, ?_⟩
        show tI F K it1 σ2 Hb _
        refine ⟨_, pins, e3, ys, e4, C2, hb2, fun J1 H4 C4 S4 WD1 => ?_⟩
        obtain ⟨G1, Y1, w1, stab1, yld1⟩ := WD1.ex
        have hwe : wipeE e4 own1 = e4 := noneAt_wipe hn1
        have o3 : ∀ a, Own e3 σ2 a → Own e1 σ a := fun a z => (ho a).mp (P2.ow a z)
        have o4 : ∀ a, Own e4 σ2 a → Own e1 σ a := fun a z => o3 a ((S4.ownEq a).mp z)
        have nD4 : ¬ Own e4 σ2 Dl := fun z => nD (o4 Dl z)
        have k4 : Kp (Own (wipeE p.1 own) (wipe σ own)) Hb H4 := S4.kp.more P2.ow
        have at4 : H4 Dl = some (.lst acc) := k4.old Dl _ (fun z => nD ((ho Dl).mp z)) (ex Dl _ L.at_)
        have rep4 : Reps K (MM (fun a => Mo a ∨ a = Dl) (wipeE p.1 own) (wipe σ own)) H4 p.2 acc := Reps.lift k4 Cb.om (fun a z => .inr z) (fun a z => .inl z) (L.rep.ex ex)
        have oldM1 : ∀ {H : Hp}, Kp (fun a => Own e4 σ2 a ∨ a = Dl) H4 H → Old (MM (fun a => Mo a ∨ a = Dl) e4 σ2) H4 H := fun k a o n e => k.old a o (fun z => by
          rcases z with z | z
          · exact n (.inr z)
          · exact n (.inl (.inr z))) e
        refine it_gen w1 (fun j H => ∃ q acc, LcI K own1 Mo pins e4 σ2 H4 Dl H q acc ∧ (ys.drop j).foldlM (lcBody F own1 tg1 cs elt) q = some p' ∧ q.2.length ≤ p.2.length + j) ?_ (fun j H _ hp => ?_) (fun j x1 Hc Hd hj hp y1 => ?_) (fun Hz hp => ?_)
        · refine ⟨(e4, p.2), acc, ⟨?_, at4, ?_, .refl, ?_⟩, by rw [List.drop_zero]; exact hb, Nat.le_refl _⟩
          · exact C4.wiped own1
          · refine rep4.anti fun a z => ?_
            rcases z with z | z
            · exact .inl z
            · refine .inr (P2.ow a ((S4.ownEq a).mp ?_))
              obtain ⟨k, t, zs, g1, g2⟩ := z
              have hk : k ∉ own1 := fun y => by
                rw [wipeE_in (by have := (List.getElem?_eq_some_iff.mp g1).1; rw [wipeE_len] at this; exact this) y] at g1
                cases g1
              rw [wipeE_get hk] at g1
              rw [wipe_get hk] at g2
              exact ⟨k, t, zs, g1, g2⟩
          · show Shp e4 (wipeE e4 own1)
            rw [hwe]
            exact ⟨fun i t xs h => ⟨xs, h⟩, fun i s h _ => h, rfl⟩
        · obtain ⟨q', acc', L1, _, _⟩ := hp
          exact stab1 H (oldM1 L1.kp)
        · obtain ⟨q', acc', L1, hrun1, hlen1⟩ := hp
          obtain ⟨d', hd'⟩ : ∃ d, ys[j]? = some d := ⟨ys[j], by simp [hj]⟩
          have yl1 : ∀ M' : Addr → Prop, (∀ a, M' a → MM (fun a => Mo a ∨ a = Dl) e4 σ2 a ∨ H4 a = none) → Exh Hc Hd ∧ Rep K M' Hd d' x1 := fun M' hm => yld1 j Hc Hd x1 d' M' hd' (oldM1 L1.kp) hm y1
          have ex1 := (yl1 (fun _ => False) fun _ z => z.elim).1
          have hdrop1 : ys.drop j = d' :: ys.drop (j + 1) := by
            rw [List.drop_eq_getElem_cons hj]
            rw [List.getElem?_eq_getElem hj] at hd'
            cases hd'
            rfl
          rw [hdrop1, List.foldlM_cons] at hrun1
          obtain ⟨q2, hbq, hrun1⟩ := obind hrun1
          have hl2 : q2.2.length ≤ p.2.length + (j + 1) := by
            have := lcBody_len hbq
            omega
          exact lc_turn hsl1 hn1 nD4 (Mw := fun a => Mo a ∨ a = Dl) (fun a z => .inl z) L1 ex1 (fun M' hm => (yl1 M' hm).2) hbq (by omega) fun H' acc' L' => ⟨q2, acc', L', hrun1, hl2⟩
        · obtain ⟨q', acc', L1, hrun1, _⟩ := hp
          rw [List.drop_length, List.foldlM_nil] at hrun1
          have hq : q' = p' := Option.some.inj hrun1
          subst hq
          refine ⟨q', acc', ⟨?_, L1.at_, ?_, ?_, ?_⟩, hrun⟩
          · have := L1.c.wiped own
            rw [wipeE_wipeE hoo, wipe_wipe hoo, hw2] at this
            exact this
          · refine L1.rep.anti fun a z => ?_
            rcases z with z | z
            · exact .inl z
            · refine .inr ?_
              obtain ⟨k, t, zs, g1, g2⟩ := z
              have hk : k ∉ own := fun y => by
                rw [wipeE_in (by have := (List.getElem?_eq_some_iff.mp g1).1; rw [wipeE_len] at this; exact this) y] at g1
                cases g1
              rw [wipeE_get hk] at g1
              rw [← hw2, wipe_get hk] at g2
              exact ⟨k, t, zs, by rw [wipeE_get fun z => hk (hoo k z)]; exact g1, by rw [wipe_get fun z => hk (hoo k z)]; exact g2⟩
          · refine (((L.kp.trans (Kp.ex (O := fun _ => False) ex) fun a z => z.elim).trans k4 fun a z => .inl (.inl ((ho a).mp z))).trans L1.kp fun a z => ?_)
            rcases z with z | z
            · exact .inl (.inl (o4 a z))
            · exact .inl (.inr z)
          · have := lc_shape hn L.sh P2 hsl (S4.shp.trans L1.sh)
            rw [wipeE_wipeE hoo] at this
            exact this
      · cases hb
    · obtain ⟨p, acc, L, hrun⟩ := hp
      rw [List.drop_length, List.foldlM_nil] at hrun
      have hp : p = fin := Option.some.inj hrun
      subst hp
      have kpz : Kp (Own e1 σ) H1 Hz := ⟨fun a o n e => L.kp.old a o (fun z => by
        rcases z with z | z
        · exact n z
        · rw [z, hD] at e; cases e) e, fun a o z e m => L.kp.wri a o (.inl z) e m⟩
      have Cu := lc_unw L.c (by rw [L.sh.len]; exact C1.len)
      have Cm := Cu.minus C1 L.sh kpz
      have S2 : Stp e1 (wipeE p.1 own) σ H1 Hz := ⟨kpz, L.sh.own, L.sh.oth, L.sh.len⟩
      have hpn := C.none_back S1 hD
      have hmm : ∀ a, MM (fun a => Mo a ∨ a = Dl) (wipeE p.1 own) σ a → MM (fun a => Mo a ∨ a = Dl) (wipeE p.1 own) (wipe σ own) a := fun a z => by
        rcases z with z | z
        · exact .inl z
        · exact .inr (lc_ow2 z)
      have repu := L.rep.anti hmm
      refine q (.ref Dl) Hz Cm (S1.trans S2) ⟨Dl, acc, rfl, fun z => ?_, L.at_, repu.anti fun a z => ?_⟩ fun _ ys e _ => ?_
      · rcases z with z | z
        · exact C1.nofresh hD (.inl z)
        · exact nD ((S2.ownEq Dl).mp z)
      · rcases z with z | z
        · exact .inl (.inl z)
        · exact .inr z
      · cases e
        exact ⟨Dl, _, rfl, hpn, L.at_, Cu, acc, rfl, repu⟩
  · cases hd
end
end PC
set_option Elab.async false
set_option linter.all false
set_option maxRecDepth 100000
/-! PyCore, part 10c: a comprehension over an own list that is written later. -/
namespace PC
open PySem PySem.Spec PyProof.Rows L2
theorem denE_compO (F : CallF) (i : Nat) (own : List Nat) (tg : Tg) (cs : Es) (elt : Ex) (e : En) : denE F (.compO i own tg cs elt) e = (ownL e i).bind fun (t, xs) =>
    if xs.length < LINE ∧ noneAt e own = true then (xs.foldlM (lcBody F own tg cs elt) (wipeE (e.set i .no) own, [])).map fun p => (.v (.lst p.2), (wipeE p.1 own).set i (.own t (.lst xs))) else none := rfl
theorem noneAt_set {e : En} {i : Nat} (il : i < e.length) : ∀ {vs : List Nat}, noneAt e vs = true → noneAt (e.set i .no) vs = true
  | [], _ => rfl
  | v :: vs, h => by
    unfold noneAt at h ⊢
    obtain ⟨a1, a2⟩ := and2 h
    rw [noneAt_set il a2, Bool.and_true]
    by_cases hv : i = v
    · subst hv
      rw [List.getElem?_set_self il]
    · rw [List.getElem?_set_ne hv]
      exact a1
theorem ownL_some {e : En} {i : Nat} {q : Option Nat × List D} (h : ownL e i = some q) : e[i]? = some (.own q.1 (.lst q.2)) := by
  unfold ownL at h
  split at h
  · cases h
    assumption
  · cases h
section
variable {K : PySem.W.Frag} {Mo M0 M1 : Addr → Prop} {pins : Nat → Addr} {env e : En} {σ : L2.St} {H Hz : Hp} {i : Nat} {t : Option Nat} {xs : List D} {p : Addr} {vs : List V}
/-- an own list is set aside -/
theorem Corr.aside (c : Corr K Mo pins env σ H) (hi : env[i]? = some (.own t (.lst xs))) (hσ : σ[i]? = some (some (.ref p))) : Corr K (fun a => Mo a ∨ a = p) pins (env.set i .no) σ H ∧ ¬ Own (env.set i .no) σ p ∧ ∀ a, MM (fun a => Mo a ∨ a = p) (env.set i .no) σ a → MM Mo env σ a := by
  have op : Own env σ p := ⟨i, t, _, hi, hσ⟩
  have un : ∀ {j : Nat} {s : Sl}, (env.set i .no)[j]? = some s → s ≠ .no → i ≠ j ∧ env[j]? = some s := fun {j s} h n => by
    by_cases hj : i = j
    · subst hj
      exact absurd (set_out h) n
    · rw [List.getElem?_set_ne hj] at h
      exact ⟨hj, h⟩
  have anti : ∀ a, MM (fun a => Mo a ∨ a = p) (env.set i .no) σ a → MM Mo env σ a := fun a z => by
    rcases z with (z | z) | ⟨j, u, ys, e1, e2⟩
    · exact .inl z
    · rw [z]; exact .inr op
    · exact .inr ⟨j, u, ys, (un e1 (fun z => by cases z)).2, e2⟩
  refine ⟨⟨by rw [List.length_set]; exact c.len, fun a z => ?_, fun j d h => ?_, fun j u ys h => ?_, fun j k u w ys zs q hjk h1 h2 f1 f2 => ?_⟩, ?_, anti⟩
  · rcases z with z | z
    · exact c.al a z
    · rw [z]; exact c.om p op
  · obtain ⟨v, e1, r⟩ := c.vl j d (un h (fun z => by cases z)).2
    exact ⟨v, e1, r.anti anti⟩
  · obtain ⟨hj, h'⟩ := un h (fun z => by cases z)
    obtain ⟨q, o, e1, e2, r, n, tg⟩ := c.ow j u ys h'
    refine ⟨q, o, e1, e2, r.anti anti, fun z y => ?_, fun k z => ⟨(tg k z).1, .inl (tg k z).2⟩⟩
    rcases y with y | y
    · exact n z y
    · subst y
      exact c.ds i j t u _ _ q hj hi h' hσ e1
  · exact c.ds j k u w ys zs q hjk (un h1 (fun z => by cases z)).2 (un h2 (fun z => by cases z)).2 f1 f2
  · rintro ⟨j, u, ys, e1, e2⟩
    obtain ⟨hj, h'⟩ := un e1 (fun z => by cases z)
    exact c.ds i j t u _ _ p hj hi h' hσ e2
/-- and taken back -/
theorem Corr.takeback (c : Corr K M1 pins e σ Hz) (c0 : Corr K Mo pins env σ H) (hi : env[i]? = some (.own t (.lst xs))) (hσ : σ[i]? = some (some (.ref p))) (sh : Shp (env.set i .no) e) (hM : ∀ a, M0 a ∨ a = p → M1 a) (hM0 : ∀ a, Mo a → M0 a) (om : OM M0 Hz)
    (hp : Hz p = some (.lst vs)) (r : Reps K (MM M0 (e.set i (.own t (.lst xs))) σ) Hz xs vs) (nt : t = none → ¬ M0 p) : Corr K M0 pins (e.set i (.own t (.lst xs))) σ Hz := by
  have il : i < env.length := (List.getElem?_eq_some_iff.mp hi).1
  have el : i < e.length := by rw [sh.len, List.length_set]; exact il
  have back : ∀ {j : Nat} {u : Option Nat} {ys : D}, i ≠ j → e[j]? = some (.own u ys) → ∃ zs, env[j]? = some (.own u zs) := fun {j u ys} hj h => by
    obtain ⟨zs, h1⟩ := sh.back h
    rw [List.getElem?_set_ne hj] at h1
    exact ⟨zs, h1⟩
  have backs : ∀ {j : Nat} {u : Option Nat} {ys : D}, (e.set i (.own t (.lst xs)))[j]? = some (.own u ys) → ∃ zs, env[j]? = some (.own u zs) := fun {j u ys} h => by
    by_cases hj : i = j
    · subst hj
      have := set_out h
      cases this
      exact ⟨_, hi⟩
    · rw [List.getElem?_set_ne hj] at h
      exact back hj h
  have anti : ∀ a, MM M0 (e.set i (.own t (.lst xs))) σ a → MM M1 e σ a := fun a z => by
    rcases z with z | ⟨j, u, ys, e1, e2⟩
    · exact .inl (hM a (.inl z))
    · by_cases hj : i = j
      · subst hj
        rw [hσ] at e2
        cases e2
        exact .inl (hM _ (.inr rfl))
      · rw [List.getElem?_set_ne hj] at e1
        exact .inr ⟨j, u, ys, e1, e2⟩
  refine ⟨by rw [List.length_set]; exact c.len, om, fun j d h => ?_, fun j u ys h => ?_, fun j k u w ys zs q hjk h1 h2 f1 f2 => ?_⟩
  · by_cases hj : i = j
    · subst hj
      cases set_out h
    · rw [List.getElem?_set_ne hj] at h
      obtain ⟨v, e1, r1⟩ := c.vl j d h
      exact ⟨v, e1, r1.anti anti⟩
  · by_cases hj : i = j
    · subst hj
      have := set_out h
      cases this
      obtain ⟨q, o, e1, _, _, _, tg⟩ := c0.ow i t _ hi
      rw [hσ] at e1
      cases e1
      exact ⟨p, .lst vs, hσ, hp, ⟨vs, rfl, r⟩, nt, fun k z => ⟨(tg k z).1, hM0 _ (tg k z).2⟩⟩
    · rw [List.getElem?_set_ne hj] at h
      obtain ⟨q, o, e1, e2, r1, n, _⟩ := c.ow j u ys h
      obtain ⟨zs, h1⟩ := back hj h
      obtain ⟨q', o', e4, _, _, _, tg⟩ := c0.ow j u zs h1
      rw [e1] at e4
      cases e4
      exact ⟨q, o, e1, e2, r1.anti anti, fun z y => n z (hM _ (.inl y)), fun k z => ⟨(tg k z).1, hM0 _ (tg k z).2⟩⟩
  · obtain ⟨_, g1⟩ := backs h1
    obtain ⟨_, g2⟩ := backs h2
    exact c0.ds j k u w _ _ q hjk g1 g2 f1 f2
end
section
variable {K : PySem.W.Frag} {F : CallF} {own : List Nat} {tg : Tg} {cs : Es} {elt : Ex} {i : Nat}
theorem lcO_read (hsl : ∀ i ∈ slTg tg, i ∈ own) {σ : L2.St} {H1 : Hp} {Q : VK} (h : tE F K (.compO i own tg cs elt) σ H1 Q) : tLc (iList K (tVar i)) (gT K tg) (tCs F K cs) (tE F K elt) own σ H1 Q := by
  obtain ⟨Mo, pins, env, rr, env', C, hd, q⟩ := h
  rw [denE_compO] at hd
  obtain ⟨t, xs, d1, hd⟩ := obind2 hd
  have hi := ownL_some d1
  dsimp only at hd hi
  split at hd
  · rename_i hc
    obtain ⟨hlt, hn0⟩ := hc
    obtain ⟨fin, hfin, hd⟩ := omap hd
    have hr1 : R.v (.lst fin.2) = rr := congrArg Prod.fst hd
    have hr2 : (wipeE fin.1 own).set i (.own t (.lst xs)) = env' := congrArg Prod.snd hd
    subst hr1 hr2
    obtain ⟨p, o, hσ, hp, ⟨vs, rfl, rvs⟩, np, tgs⟩ := C.ow i t _ hi
    have il : i < env.length := (List.getElem?_eq_some_iff.mp hi).1
    obtain ⟨C1, nOp, hMM⟩ := C.aside hi hσ
    have hio : i ∉ own := fun z => by rw [noneAt_at hn0 z] at hi; cases hi
    obtain ⟨e1, he1⟩ : ∃ e1, e1 = env.set i .no := ⟨_, rfl⟩
    have hn : noneAt e1 own = true := by
      rw [he1]
      exact noneAt_set il hn0
    rw [← he1] at C1 nOp hMM hfin
    refine ⟨.ref p, hσ, p, rfl, ⟨vs, .inl (.inl hp)⟩, fun Dl hD => ?_⟩
    have hw1 : wipeE e1 own = e1 := noneAt_wipe hn
    have nD : ¬ Own e1 σ Dl := fun z => by
      obtain ⟨o, e, _⟩ := C1.om Dl z
      rw [hD] at e; cases e
    have pD : p ≠ Dl := fun z => by rw [z, hD] at hp; cases hp
    have atp : ∀ {H : Hp}, Kp (fun a => Own e1 σ a ∨ a = Dl) H1 H → H p = some (.lst vs) := fun k => k.old p _ (fun z => by
      rcases z with z | z
      · exact nOp z
      · exact pD z) hp
    have ownE : ∀ a, Own e1 σ a → Own env σ a := fun a ⟨j, u, ys, g1, g2⟩ => by
      rw [he1] at g1
      by_cases hj : i = j
      · subst hj
        cases set_out g1
      · rw [List.getElem?_set_ne hj] at g1
        exact ⟨j, u, ys, g1, g2⟩
    have oldM : ∀ {H : Hp}, Kp (fun a => Own e1 σ a ∨ a = Dl) H1 H → Old (MM Mo env σ) H1 H := fun k a o n e => k.old a o (fun z => by
      rcases z with z | z
      · exact n (.inr (ownE a z))
      · rw [z, hD] at e; cases e) e
    have w : Walk (Itl K p) xs.length (fun H => SqL K H p vs) (YAt vs) := by
      rw [rvs.length]
      exact walk_list
    refine lc_it w (fun k H => ∃ z acc, LcI K own (fun a => Mo a ∨ a = p) pins e1 σ H1 Dl H z acc ∧ (xs.drop k).foldlM (lcBody F own tg cs elt) z = some fin ∧ z.2.length ≤ k) ?_ (fun k H _ hp => ?_) (fun k x Ha Hb hk hp y => ?_) (fun Hz hp => ?_)
    · refine ⟨(wipeE e1 own, []), [], ⟨?_, upd_same, rfl, .new hD, ?_⟩, by rw [List.drop_zero]; exact hfin, Nat.le_refl _⟩
      · show Corr K _ pins (wipeE (wipeE e1 own) own) _ _
        rw [hw1]
        exact (C1.plus hD (Exh.new hD) upd_same (show isM (.lst []) from trivial)).wiped own
      · show Shp e1 (wipeE (wipeE e1 own) own)
        rw [hw1, hw1]
        exact ⟨fun i t xs h => ⟨xs, h⟩, fun i s h _ => h, rfl⟩
    · obtain ⟨z, acc, L, _, _⟩ := hp
      exact .inl (.inl (atp L.kp))
    · obtain ⟨z, acc, L, hrun, hlen⟩ := hp
      obtain ⟨d, hd⟩ : ∃ d, xs[k]? = some d := ⟨xs[k], by simp [hk]⟩
      obtain ⟨rfl, y⟩ := y
      obtain ⟨v, g1, g2⟩ := rvs.get hd
      rw [y] at g1
      cases g1
      have hdrop : xs.drop k = d :: xs.drop (k + 1) := by
        rw [List.drop_eq_getElem_cons hk]
        rw [List.getElem?_eq_getElem hk] at hd
        cases hd
        rfl
      rw [hdrop, List.foldlM_cons] at hrun
      obtain ⟨z', hb, hrun⟩ := obind hrun
      have hl2 : z'.2.length ≤ k + 1 := by
        have := lcBody_len hb
        omega
      exact lc_turn (Mw := fun a => Mo a ∨ a = p) hsl hn nD (fun a z => z.elim .inl fun z => .inr (by rw [z]; exact hD)) L Exh.refl (fun M' hm => lift_k C (oldM L.kp) (fun a z => (hm a z).elim (fun z => .inl (hMM a z)) .inr) g2) hb (by omega) fun H' acc' L' => ⟨z', acc', L', hrun, hl2⟩
    · obtain ⟨z, acc, L, hrun, _⟩ := hp
      rw [List.drop_length, List.foldlM_nil] at hrun
      have hp' : z = fin := Option.some.inj hrun
      subst hp'
      have kpz : Kp (Own e1 σ) H1 Hz := ⟨fun a o n e => L.kp.old a o (fun z => by
        rcases z with z | z
        · exact n z
        · rw [z, hD] at e; cases e) e, fun a o z e m => L.kp.wri a o (.inl z) e m⟩
      have Cu := lc_unw L.c (by rw [L.sh.len]; exact C1.len)
      have Cm := Cu.minus C1 L.sh kpz
      have hpz := atp L.kp
      have sh0 : Shp (env.set i .no) (wipeE z.1 own) := by rw [← he1]; exact L.sh
      have el : i < (wipeE z.1 own).length := by rw [sh0.len, List.length_set]; exact il
      have ownB : ∀ a, Own ((wipeE z.1 own).set i (.own t (.lst xs))) σ a → Own env σ a := fun a ⟨j, u, ys, g1, g2⟩ => by
        by_cases hj : i = j
        · subst hj
          have := set_out g1
          cases this
          exact ⟨i, t, _, hi, g2⟩
        · rw [List.getElem?_set_ne hj] at g1
          obtain ⟨zs, g3⟩ := sh0.back g1
          rw [List.getElem?_set_ne hj] at g3
          exact ⟨j, u, zs, g3, g2⟩
      have rz : Reps K (MM Mo env σ) Hz xs vs := Reps.liftO (oldM L.kp) C.omM (fun a h => h) (fun a h => .inl h) rvs
      have omz : OM (MM Mo env σ) Hz := fun a ha => by
        obtain ⟨o, e, m⟩ := C.omM a ha
        by_cases ho : Own e1 σ a
        · exact kpz.wri a o ho e m
        · exact ⟨o, kpz.old a o ho e, m⟩
      have hDz : OM (fun a => a = Dl) Hz := fun a ha => ⟨.lst acc, by rw [show a = Dl from ha]; exact L.at_, trivial⟩
      have nMD : ∀ a, MM Mo env σ a → a ≠ Dl := fun a ha z => C.nofresh hD (by rw [← z]; exact ha)
      have rzD : Reps K (MM (fun a => Mo a ∨ a = Dl) ((wipeE z.1 own).set i (.own t (.lst xs))) σ) Hz xs vs :=
        Reps.liftO (oldM L.kp) C.omM (fun a h => h) (fun a h => by
          rcases h with (h | h) | h
          · exact .inl (.inl h)
          · rw [h]; exact .inr hD
          · exact .inl (.inr (ownB a h))) rvs
      have Cf : Corr K Mo pins ((wipeE z.1 own).set i (.own t (.lst xs))) σ Hz := Cm.takeback C hi hσ sh0 (fun a h => h) (fun a h => h) (fun a h => omz a (.inl h)) hpz
        (rz.anti fun a h => by
          rcases h with h | h
          · exact .inl h
          · exact .inr (ownB a h)) np
      have CuD : Corr K (fun a => Mo a ∨ a = Dl) pins ((wipeE z.1 own).set i (.own t (.lst xs))) σ Hz := Cu.takeback C hi hσ sh0 (fun a h => by
          rcases h with (h | h) | h
          · exact .inl (.inl h)
          · exact .inr h
          · exact .inl (.inr h)) (fun a h => .inl h) (fun a h => by
          rcases h with h | h
          · exact omz a (.inl h)
          · exact hDz a h) hpz rzD (fun z y => by
          rcases y with y | y
          · exact np z y
          · exact pD y)
      have S2 : Stp env ((wipeE z.1 own).set i (.own t (.lst xs))) σ H1 Hz := by
        refine ⟨kpz.more ownE, fun j u ys h => ?_, fun j s h ns => ?_, by rw [List.length_set, sh0.len, List.length_set]⟩
        · by_cases hj : i = j
          · subst hj
            rw [hi] at h
            cases h
            exact ⟨_, List.getElem?_set_self el⟩
          · obtain ⟨zs, g⟩ := sh0.own j u ys (by rw [List.getElem?_set_ne hj]; exact h)
            exact ⟨zs, by rw [List.getElem?_set_ne hj]; exact g⟩
        · by_cases hj : i = j
          · subst hj
            rw [hi] at h
            cases h
            exact absurd rfl (ns _ _)
          · rw [List.getElem?_set_ne hj]
            exact sh0.oth j s (by rw [List.getElem?_set_ne hj]; exact h) ns
      have hmm : ∀ a, MM (fun a => Mo a ∨ a = Dl) ((wipeE z.1 own).set i (.own t (.lst xs))) σ a → MM (fun a => (Mo a ∨ a = p) ∨ a = Dl) (wipeE z.1 own) (wipe σ own) a := fun a y => by
        rcases y with (y | y) | ⟨j, u, ys, g1, g2⟩
        · exact .inl (.inl (.inl y))
        · exact .inl (.inr y)
        · by_cases hj : i = j
          · subst hj
            rw [hσ] at g2
            cases g2
            exact .inl (.inl (.inr rfl))
          · rw [List.getElem?_set_ne hj] at g1
            exact .inr (lc_ow2 ⟨j, u, ys, g1, g2⟩)
      have repu := L.rep.anti hmm
      refine q (.ref Dl) Hz Cf S2 ⟨Dl, acc, rfl, fun y => ?_, L.at_, repu.anti fun a y => ?_⟩ fun _ ys e _ => ?_
      · rcases y with y | y
        · exact C.nofresh hD (.inl y)
        · exact C.nofresh hD (.inr (ownB _ y))
      · rcases y with y | y
        · exact .inl (.inl y)
        · exact .inr y
      · cases e
        exact ⟨Dl, _, rfl, hD, L.at_, CuD, acc, rfl, repu⟩
  · cases hd
end
end PC
set_option Elab.async false
set_option linter.all false
set_option maxRecDepth 100000
/-! PyCore, part 10d: slices with a step. -/
namespace PC
open PySem PySem.Spec PyProof.Rows L2
theorem vals_at' : ∀ {zs : List V} {ws : List Value} (i : Nat), Vals zs ws → (zs[i]? = none ∧ ws[i]? = none) ∨ ∃ v u, zs[i]? = some v ∧ ws[i]? = some u ∧ RelV v u
  | _, _, i, .nil => .inl ⟨by simp, by simp⟩
  | _, _, 0, .cons r t => .inr ⟨_, _, rfl, rfl, r⟩
  | _, _, i + 1, .cons r t => by simpa using vals_at' i t
theorem vals_pick {zs : List V} {ws : List Value} (r : Vals zs ws) : ∀ pm : List Nat, Vals (pm.filterMap (zs[·]?)) (pm.filterMap (ws[·]?))
  | [] => .nil
  | i :: pm => by
    rw [List.filterMap_cons, List.filterMap_cons]
    have ih := vals_pick r pm
    rcases vals_at' i r with ⟨a, b⟩ | ⟨v, u, a, b, c⟩
    · rw [a, b]; exact ih
    · rw [a, b]; exact .cons c ih
theorem reps_pick {K : PySem.W.Frag} {M : Addr → Prop} {H : Hp} {ds : List D} {vs : List V} (r : Reps K M H ds vs) : ∀ pm : List Nat, Reps K M H (pm.filterMap (ds[·]?)) (pm.filterMap (vs[·]?))
  | [] => rfl
  | i :: pm => by
    rw [List.filterMap_cons, List.filterMap_cons]
    have ih := reps_pick r pm
    have hl := r.length
    by_cases h : i < ds.length
    · have e : ds[i]? = some ds[i] := List.getElem?_eq_getElem h
      obtain ⟨v, e1, r1⟩ := r.get e
      rw [e, e1]
      exact .cons r1 ih
    · rw [List.getElem?_eq_none (by omega), List.getElem?_eq_none (by omega)]
      exact ih
theorem fm_congr {α β : Type} {f g : α → Option β} : ∀ {l : List α}, (∀ m ∈ l, f m = g m) → l.filterMap f = l.filterMap g
  | [], _ => rfl
  | a :: l, h => by
    rw [List.filterMap_cons, List.filterMap_cons, h a List.mem_cons_self, fm_congr fun m hm => h m (List.mem_cons_of_mem _ hm)]
theorem reps_rev {K : PySem.W.Frag} {M : Addr → Prop} {H : Hp} : ∀ {ds : List D} {vs : List V}, Reps K M H ds vs → Reps K M H ds.reverse vs.reverse
  | [], vs, h => by
    have e : vs = [] := h
    rw [e]
    rfl
  | d :: ds, _, h => by
    obtain ⟨v, w, rfl, h1, h2⟩ := h
    rw [List.reverse_cons, List.reverse_cons]
    exact Reps.append (reps_rev h2) (Reps.cons h1 .nil)
theorem bndS_eq (lo hi : Option Int) (k : Int) (n : Nat) : sliceBounds lo hi (some k) n = ((bndS lo hi k n).1, (bndS lo hi k n).2, k) := rfl
theorem plcS_eq (a b c : Int) : sliceRange a b c = plcS a b c := rfl
section
variable {prog : Program} {w : World} {A : Around} {E : Value → Shared → Prop} {s : Shared}
theorem sliceApplied_rev {sl : Addr} {vk : Value} {n : Nat} {Q : Int × Int × Nat → Shared → Prop} (hs : s.heap.IsSliceOf sl .none .none vk) (pk : IsPart vk (some (-1)))
    (h : Q ((n : Int) - 1, -1, n) s) : wpAny (model prog w) A (Builtin.Slice.sliceApplied (.ref sl) (pure (n : Int))) Q E s := by
  obtain ⟨os, hos, hcs, hds⟩ := id hs
  unfold Builtin.Slice.sliceApplied Builtin.Slice.sliceFields
  refine wpAny_bind (wpAny_bind (wpAny_field hos hds (x := .none) rfl (wpAny_bind (wpAny_field hos hds (x := .none) rfl (wpAny_bind (wpAny_field hos hds (x := vk) rfl (wpAny_pure ?_)))))))
  refine wpAny_bind (HT.slicePart_ pk ?_)
  show wpAny _ _ (if ((-1 : Int) == 0) = true then _ else _) _ _ s
  rw [if_neg (by decide)]
  refine wpAny_bind (slicePart_none (wpAny_bind (slicePart_none (wpAny_bind (wpAny_pure ?_)))))
  show wpAny _ _ (match Builtin.Slice.sliceAdjust none none (-1) (n : Int) with | (lo, hi) => pure (lo, (-1 : Int), Builtin.Slice.slicePlaces lo hi (-1))) _ _ s
  have e1 : Builtin.Slice.sliceAdjust none none (-1) (n : Int) = ((n : Int) - 1, -1) := rfl
  rw [e1]
  show wpAny _ _ (pure ((n : Int) - 1, (-1 : Int), Builtin.Slice.slicePlaces ((n : Int) - 1) (-1) (-1))) _ _ s
  have e2 : Builtin.Slice.slicePlaces ((n : Int) - 1) (-1) (-1) = n := by
    unfold Builtin.Slice.slicePlaces
    have h1 : ¬ ((-1 : Int) > 0) := by omega
    simp only [h1, if_false]
    have e : (- -1 : Int) = 1 := by decide
    rw [e, Int.ediv_one]
    split <;> omega
  rw [e2]
  exact wpAny_pure h
theorem pick_rev (xs : Array Value) : ((List.range xs.size).filterMap fun (m : Nat) => xs[(((xs.size : Nat) : Int) - 1 + (m : Int) * -1).toNat]?).toArray = xs.toList.reverse.toArray := by
  have e : ((List.range xs.size).filterMap fun (m : Nat) => xs[(((xs.size : Nat) : Int) - 1 + (m : Int) * -1).toNat]?) = (((List.range xs.size).map fun k => xs.size - 1 - k).filterMap (xs[·]?)) := by
    rw [List.filterMap_map]
    refine fm_congr fun m hm => ?_
    have h := List.mem_range.mp hm
    have : (((xs.size : Nat) : Int) - 1 + (m : Int) * -1).toNat = xs.size - 1 - m := by omega
    rw [this]
    rfl
  rw [e, PySem.W.krv_range, List.filterMap_reverse, PySem.W.krv_all]
theorem getItem_tuple_rev {t sl : Addr} {items : Array Value} {vk : Value} {Q : Value → Shared → Prop} (ht : IsTup s.heap t items) (hs : s.heap.IsSliceOf sl .none .none vk) (pk : IsPart vk (some (-1)))
    (h : Q (.ref s.heap.objs.size) { s with heap := s.heap.push { cls := .type "tuple", data := .seq items.toList.reverse.toArray } })
    (hsz : items.size ≤ sizeLine) : wpAny (model prog w) A (getItem (.ref t) (.ref sl)) Q E s := by
  have htake : sizeOk (.seq items.toList.reverse.toArray) := by
    show items.toList.reverse.toArray.size ≤ sizeLine
    rw [List.size_toArray, List.length_reverse, Array.length_toList]
    exact hsz
  obtain ⟨os, hos, hcs, hds⟩ := id hs
  have hTs : s.TypeIs (.ref sl) "slice" := ⟨os, hos, hcs⟩
  unfold getItem
  try with_reducible refine wpAny_holding ?_
  first | refine wpAny_bind (wpAny_pure ?_) | skip
  refine wpAny_bind (wpAny_sequenceKey ht.typeIs (by decide) ?_)
  refine wpAny_bind (wpAny_callSpecial?_slot (name := Str.ofString "__getitem__") ht.typeIs PyProof.Rows.slot_tuple_getitem
    (wpAny_call_entry PyProof.Rows.slot_tuple_getitem ht.typeIs entry_tuple_getitem ?_ (args_tuple_getitem _ _)))
  show wpAny _ _ (Builtin.Tuple.tupleItemsOf (.ref t) >>= _) _ _ s
  refine wpAny_bind (tupleItemsOf_ ht ?_)
  refine wpAny_bind (wpAny_typeOf hTs ?_)
  rw [if_pos (by decide)]
  refine wpAny_bind (sliceApplied_rev (n := items.size) hs pk ?_)
  have hno : ¬ ((((items.size : Nat) : Int) - 1 == 0 && (-1 : Int) == 1 && items.size == items.size) = true) := by
    intro q
    rw [Bool.and_eq_true, Bool.and_eq_true] at q
    exact absurd (eq_of_beq q.1.2) (by decide)
  show wpAny _ _ (if (((items.size : Nat) : Int) - 1 == 0 && (-1 : Int) == 1 && items.size == items.size) = true then _ else _) _ _ s
  rw [if_neg hno, pick_rev]
  first
    | exact wpAny_bind (m := Builtin.Tuple.tupleExact _) (wpAny_newObj_type (wpAny_pure ⟨_, rfl, wpAny_pure h⟩) htake)
    | exact wpAny_bind (m := Builtin.Tuple.tupleExact _) (wpAny_newObj_type (wpAny_bind (wpAny_pure (wpAny_pure ⟨_, rfl, wpAny_pure h⟩))) htake)
    | exact wpAny_bind (wpAny_bind (m := Builtin.Tuple.tupleExact _) (wpAny_newObj_type (wpAny_pure (wpAny_pure ⟨_, rfl, wpAny_pure h⟩)) htake))
    | exact wpAny_bind (wpAny_bind (m := Builtin.Tuple.tupleExact _) (wpAny_newObj_type (wpAny_pure ⟨_, rfl, wpAny_pure h⟩) htake))
end
/-- what a slice with a step of a value is -/
def rSlcS (K : PySem.W.Frag) : V → Option Int → Option Int → Option Int → Hp → VK → Prop := fun x lo hi st H Q => ∃ M d r, OM M H ∧ VR K M H d x ∧ slcSD lo hi st d = some r ∧ RKF K M H Q r
section
variable {X : Cx}
theorem slS_data {pins : List (Addr × Obj)} {s : Shared} {σ : L2.St} {H : Hp} {x : V} {v vl vu vk : Value} {lo hi st : Option Int} {sl : Addr} {Q : VK} (I : Inv X pins σ H s) (rx : RelV x v) (hs : s.heap.IsSliceOf sl vl vu vk) (pl : IsPart vl lo) (pu : IsPart vu hi) (pk : IsPart vk st) (h : rSlcS X.K x lo hi st H Q) :
    ∃ T id, typeLookup (.type T) "__getitem__" = pure (some (.builtin id)) ∧ s.TypeIs v T ∧ wpAny (model X.prog X.w) X.A (getItem v (.ref sl)) (EP X pins σ Q) X.xe s := by
  obtain ⟨M, d, r, om, hv, hd, q⟩ := h
  unfold slcSD at hd
  split at hd
  · rename_i xs
    split at hd
    · rename_i k
      split at hd
      · rename_i hk
        cases hd
        obtain ⟨a, vs, rfl, s1, r1⟩ := hv
        cases rx
        obtain ⟨its, rv, ht, hz⟩ := I.list (.inl (.inl s1))
        have hlen := rv.length
        have hl := r1.length
        refine ⟨"list", _, PySem.slot_list_getitem.lookup, ht.isList.typeIs, ?_⟩
        refine wpAny_getItem_list_slice ht.isList hs pl pu pk (fun z => hk.1 (Option.some.inj z)) ?_ (by rw [List.size_toArray]; omega)
        have e1 : slicePick its.toArray lo hi (some k) = ((plcS (bndS lo hi k its.length).1 (bndS lo hi k its.length).2 k).filterMap (its[·]?)).toArray := by
          unfold slicePick
          rw [bndS_eq, plcS_eq, List.size_toArray]
          congr 1
          exact fm_congr fun m _ => by simp
        rw [e1]
        have rv2 := vals_pick rv (plcS (bndS lo hi k its.length).1 (bndS lo hi k its.length).2 k)
        have rp := reps_pick r1 (plcS (bndS lo hi k its.length).1 (bndS lo hi k its.length).2 k)
        have e2 : slcSL xs lo hi k = (plcS (bndS lo hi k its.length).1 (bndS lo hi k its.length).2 k).filterMap (xs[·]?) := by
          unfold slcSL
          rw [hl, hlen]
        rw [e2] at q hk
        have hsz : ((plcS (bndS lo hi k its.length).1 (bndS lo hi k its.length).2 k).filterMap (vs[·]?)).length ≤ sizeLine := by
          rw [← rp.length, ← line_eq]
          exact hk.2
        refine ⟨.ref _, _, I.laid (t' := s.toks) (o := .lst _) (fun b ob q => Heap.get?_push_of_some _ q) (Nat.le_refl _) ?_, rfl, rkf_lst q om (I.hok.fresh (Nat.le_refl _)) rp⟩
        exact ⟨hsz, _, 0, rv2, Heap.get?_push_size _ rfl⟩
      · cases hd
    · cases hd
  · rename_i xs
    split at hd
    · rename_i hc
      obtain ⟨rfl, rfl, rfl⟩ := hc
      cases hd
      obtain ⟨a, vs, rfl, s1, r1⟩ := hv
      cases rx
      obtain ⟨its, rv, ht, hz⟩ := I.tuple (.inl (.inl s1))
      have hl := rv.length
      cases pl
      cases pu
      refine ⟨"tuple", _, PyProof.Rows.slot_tuple_getitem.lookup, ht.typeIs, ?_⟩
      refine getItem_tuple_rev ht hs pk ?_ (by rw [List.size_toArray]; omega)
      refine ⟨.ref _, _, I.laid (t' := s.toks) (o := .tup vs.reverse) (fun b ob q => Heap.get?_push_of_some _ q) (Nat.le_refl _) ?_, rfl, rkf_tup q (I.hok.fresh (Nat.le_refl _)) (reps_rev r1)⟩
      exact ⟨by rw [List.length_reverse]; exact hz, _, rv.reverse, IsTup.new _ _⟩
    · cases hd
  · cases hd
variable {F : CallF} {l : Expr} {a : Ex} {pos : Pos}
theorem e_slcS {lo hi st : Oe} {x y : Option Expr} {z : Expr} {p2 : Pos} (ha : PE X l (tE F X.K a)) (hl : PO X x (tO' F X.K lo)) (hh : PO X y (tO' F X.K hi)) (hz : PO X (some z) (tO' F X.K st)) : PE X (.Subscript l (.Slice x y (some z) p2) pos) (tE F X.K (.slcS a lo hi st)) := by
  refine ⟨fun pins s σ H Q I h => ?_⟩
  obtain ⟨Mo, pins', env, rr, env', C, hd, q⟩ := h
  simp only [denE] at hd
  obtain ⟨x, e1, d1, hd⟩ := obind2 hd
  obtain ⟨li, e2, d2, hd⟩ := obind2 hd
  obtain ⟨hi', e3, d3, hd⟩ := obind2 hd
  obtain ⟨ki, e4, d4, hd⟩ := obind2 hd
  obtain ⟨u, v1, hd⟩ := obind hd
  obtain ⟨d, d5, hd⟩ := omap hd
  cases hd
  have hq : tE F X.K a σ H fun v H1 => tO' F X.K lo σ H1 fun l H2 => tO' F X.K hi σ H2 fun h H3 => tO' F X.K st σ H3 fun k H4 => rSlcS X.K v l h k H4 Q :=
    ⟨Mo, pins', env, x, e1, C, d1, fun v H1 C1 S1 r1 _ => ⟨Mo, pins', e1, li, e2, C1, d2, fun H2 C2 S2 => ⟨Mo, pins', e2, hi', e3, C2, d3, fun H3 C3 S3 => ⟨Mo, pins', e3, ki, e4, C3, d4, fun H4 C4 S4 =>
      ⟨MM Mo e4 σ, u, d, C4.omM, rr_view C4 (rr_lift C1 ((S2.trans S3).trans S4) r1) v1, d5, fun z H5 ex rep fr =>
        q z H5 (C4.ex ex) ((((S1.trans S2).trans S3).trans S4).trans (.ex ex)) rep fun _ => C.frFrom (((S1.trans S2).trans S3).trans S4) C4 (fr_of C4 ex fr)⟩⟩⟩⟩⟩
  refine Subscript_ (thn (ha.run pins s σ H _ I hq) fun v s1 ⟨x, H1, I1, r1, q1⟩ => ?_)
  refine wpAny_Slice (thn (hl.run pins s1 σ H1 _ I1 q1) fun vl s2 ⟨l, H2, I2, pl, q2⟩ => thn (hh.run pins s2 σ H2 _ I2 q2) fun vu s3 ⟨u, H3, I3, pu, q3⟩ => thn (hz.run pins s3 σ H3 _ I3 q3) fun vk s4 ⟨k, H4, I4, pk, q4⟩ => ?_)
  have I5 : Inv X pins σ H4 { s4 with heap := s4.heap.push { cls := .type "slice", data := .fields #[vl, vu, vk] } } := I4.kept (t' := s4.toks) fun b ob q => Heap.get?_push_of_some _ q
  obtain ⟨T, id, hT, ht, hg⟩ := slS_data I5 r1 (Heap.IsSliceOf.new _ vl vu vk) pl pu pk q4
  exact tail_any (ops := [v, .ref s4.heap.objs.size]) ht hT hg (by with_unfolding_all rfl)
end
end PC
set_option Elab.async false
set_option linter.all false
set_option maxRecDepth 100000
/-! PyCore, part 11: every checked expression means what denE says. -/
namespace PC
open PySem PySem.Spec PyProof.Rows L2

section
variable (F : CallF) (K : PySem.W.Frag)
def tAn (c : Es) : TE := fun σ H Q => ∃ Mo pins env r env', Corr K Mo pins env σ H ∧ denAnd F c env = some (r, env') ∧ ∀ v H', Corr K Mo pins env' σ H' → Stp env env' σ H H' → RR K Mo env' σ H' r v → Q v H'
def tOn (c : Es) : TE := fun σ H Q => ∃ Mo pins env r env', Corr K Mo pins env σ H ∧ denOr F c env = some (r, env') ∧ ∀ v H', Corr K Mo pins env' σ H' → Stp env env' σ H H' → RR K Mo env' σ H' r v → Q v H'
def tAnT (c : Es) : TT := fun σ H Q => ∃ Mo pins env k env', Corr K Mo pins env σ H ∧ denAnd F c env = some (.v (.bl k), env') ∧ ∀ H', Corr K Mo pins env' σ H' → Stp env env' σ H H' → Q k H'
def tOnT (c : Es) : TT := fun σ H Q => ∃ Mo pins env k env', Corr K Mo pins env σ H ∧ denOr F c env = some (.v (.bl k), env') ∧ ∀ H', Corr K Mo pins env' σ H' → Stp env env' σ H H' → Q k H'
end
theorem PW.imp {X : Cx} {e : Expr} {t t' : TT} (h : PW X e t) (w : ∀ σ H Q, t' σ H Q → t σ H Q) : PW X e t' := ⟨fun wh pins s σ H Q I q => h.run wh pins s σ H Q I (w σ H Q q)⟩
section
variable {X : Cx} {F : CallF} {l r : Expr} {rest : List Expr} {a b : Ex} {es : Es} {pos : Pos}
theorem an_one (ha : PE X l (tE F X.K a)) : PE X (.BoolOp .And [l] pos) (tAn F X.K (.cons a .nil)) := by
  refine PE.imp (pe_one ha) fun σ H Q h => ?_
  obtain ⟨Mo, pins, env, rr, env', C, hd, q⟩ := h
  exact ⟨Mo, pins, env, rr, env', C, by simpa [denAnd] using hd, fun v H1 C1 S1 r1 _ => q v H1 C1 S1 r1⟩
theorem on_one (ha : PE X l (tE F X.K a)) : PE X (.BoolOp .Or [l] pos) (tOn F X.K (.cons a .nil)) := by
  refine PE.imp (pe_one ha) fun σ H Q h => ?_
  obtain ⟨Mo, pins, env, rr, env', C, hd, q⟩ := h
  exact ⟨Mo, pins, env, rr, env', C, by simpa [denOr] using hd, fun v H1 C1 S1 r1 _ => q v H1 C1 S1 r1⟩
theorem anT_one (ha : PT X l (tT F X.K a)) : PW X (.BoolOp .And [l] pos) (tAnT F X.K (.cons a .nil)) := by
  refine PW.imp (pw_and1 ha) fun σ H Q h => ?_
  obtain ⟨Mo, pins, env, k, env', C, hd, q⟩ := h
  exact ⟨Mo, pins, env, k, env', C, by simpa [denAnd] using hd, q⟩
theorem onT_one (ha : PT X l (tT F X.K a)) : PW X (.BoolOp .Or [l] pos) (tOnT F X.K (.cons a .nil)) := by
  refine PW.imp (pw_or1 ha) fun σ H Q h => ?_
  obtain ⟨Mo, pins, env, k, env', C, hd, q⟩ := h
  exact ⟨Mo, pins, env, k, env', C, by simpa [denOr] using hd, q⟩
theorem an_cons (ha : PE X l (tE F X.K a)) (hb : PE X (.BoolOp .And (r :: rest) pos) (tAn F X.K (.cons b es))) : PE X (.BoolOp .And (l :: r :: rest) pos) (tAn F X.K (.cons a (.cons b es))) := by
  refine PE.imp (pe_and ha hb) fun σ H Q h => ?_
  obtain ⟨Mo, pins, env, rr, env', C, hd, q⟩ := h
  rw [denAnd] at hd
  · obtain ⟨x, e1, d1, hd⟩ := obind2 hd
    dsimp only at hd
    split at hd
    · rename_i c
      refine ⟨Mo, pins, env, _, e1, C, d1, fun v H1 C1 S1 r1 _ => ⟨c, r1, ?_⟩⟩
      cases c with
      | true =>
        simp only [if_true] at hd ⊢
        exact ⟨Mo, pins, e1, rr, env', C1, hd, fun v H2 C2 S2 r2 => q v H2 C2 (S1.trans S2) r2⟩
      | false =>
        simp only [Bool.false_eq_true, if_false] at hd ⊢
        cases hd
        exact q _ H1 C1 S1 rfl
    · cases hd
  · exact fun z => by cases z
theorem on_cons (ha : PE X l (tE F X.K a)) (hb : PE X (.BoolOp .Or (r :: rest) pos) (tOn F X.K (.cons b es))) : PE X (.BoolOp .Or (l :: r :: rest) pos) (tOn F X.K (.cons a (.cons b es))) := by
  refine PE.imp (pe_or ha hb) fun σ H Q h => ?_
  obtain ⟨Mo, pins, env, rr, env', C, hd, q⟩ := h
  rw [denOr] at hd
  · obtain ⟨x, e1, d1, hd⟩ := obind2 hd
    dsimp only at hd
    split at hd
    · rename_i c
      refine ⟨Mo, pins, env, _, e1, C, d1, fun v H1 C1 S1 r1 _ => ⟨c, r1, ?_⟩⟩
      cases c with
      | false =>
        simp only [Bool.false_eq_true, if_false] at hd ⊢
        exact ⟨Mo, pins, e1, rr, env', C1, hd, fun v H2 C2 S2 r2 => q v H2 C2 (S1.trans S2) r2⟩
      | true =>
        simp only [if_true] at hd ⊢
        cases hd
        exact q _ H1 C1 S1 rfl
    · cases hd
  · exact fun z => by cases z
theorem anT_cons (ha : PT X l (tT F X.K a)) (hb : PW X (.BoolOp .And (r :: rest) pos) (tAnT F X.K (.cons b es))) : PW X (.BoolOp .And (l :: r :: rest) pos) (tAnT F X.K (.cons a (.cons b es))) := by
  refine PW.imp (pw_and ha hb) fun σ H Q h => ?_
  obtain ⟨Mo, pins, env, k, env', C, hd, q⟩ := h
  rw [denAnd] at hd
  · obtain ⟨x, e1, d1, hd⟩ := obind2 hd
    dsimp only at hd
    split at hd
    · rename_i c
      refine ⟨Mo, pins, env, c, e1, C, d1, fun H1 C1 S1 => ?_⟩
      cases c with
      | true =>
        simp only [if_true] at hd ⊢
        exact ⟨Mo, pins, e1, k, env', C1, hd, fun H2 C2 S2 => q H2 C2 (S1.trans S2)⟩
      | false =>
        simp only [Bool.false_eq_true, if_false] at hd ⊢
        cases hd
        exact q H1 C1 S1
    · cases hd
  · exact fun z => by cases z
theorem onT_cons (ha : PT X l (tT F X.K a)) (hb : PW X (.BoolOp .Or (r :: rest) pos) (tOnT F X.K (.cons b es))) : PW X (.BoolOp .Or (l :: r :: rest) pos) (tOnT F X.K (.cons a (.cons b es))) := by
  refine PW.imp (pw_or ha hb) fun σ H Q h => ?_
  obtain ⟨Mo, pins, env, k, env', C, hd, q⟩ := h
  rw [denOr] at hd
  · obtain ⟨x, e1, d1, hd⟩ := obind2 hd
    dsimp only at hd
    split at hd
    · rename_i c
      refine ⟨Mo, pins, env, c, e1, C, d1, fun H1 C1 S1 => ?_⟩
      cases c with
      | false =>
        simp only [Bool.false_eq_true, if_false] at hd ⊢
        exact ⟨Mo, pins, e1, k, env', C1, hd, fun H2 C2 S2 => q H2 C2 (S1.trans S2)⟩
      | true =>
        simp only [if_true] at hd ⊢
        cases hd
        exact q H1 C1 S1
    · cases hd
  · exact fun z => by cases z
end

/-- a comprehension's block has the frame's facts -/
theorem SX.blk {S : List FnS} {G : List (Str × D)} {F : CallF} {N : List Str} {sc scope : Scope} {tn : List Str} {n : Nat} {X : Cx} (h : SX S G F N sc tn n X) (own : List Nat) (hk : scope.kind = .function) (ho : own.all (fun i => locK scope (N.getD i "")) = true)
    (s : Shared) (H : Hp) (C : Addr) (cl : List (Str × Addr)) (fp : List Addr) : SX S G F N (blkSc scope sc) (own.map fun i => N.getD i "") n (X.blk s H scope (compEnvC scope cl C X.env) fp) where
  calm := h.calm
  nd := h.nd
  hN := h.hN
  hsc := by
    show relS scope X.env.scope = relS scope sc
    rw [h.hsc]
  fk := hk
  room := h.room
  room1 := h.room1
  fns := h.fns
  glo := h.glo
  bi := h.bi
  fn := fun x hx => by
    obtain ⟨i, hi, rfl⟩ := List.mem_map.mp hx
    have h1 := List.all_eq_true.mp ho i hi
    rcases locK_loc h1 with h2 | h2
    · refine .inr ?_
      show (relS scope X.env.scope).names.lookup _ = _
      exact lookup_relS_keep (by decide) h2
    · refine .inl ?_
      show (scope.names.lookup (N.getD i "") == some .cell) = true
      rw [h2]
      rfl
  xe := rfl

section
variable {S : List FnS} {G : List (Str × D)} {F : CallF} {N : List Str} {n : Nat}
theorem nonE {xs : List Expr} (h : (!xs.isEmpty) = true) : xs ≠ [] := fun z => by
  rw [z] at h
  cases h
theorem chkI_fold {c : It} {sc : Scope} {t e : Expr} (h : chkI S G N c sc t e = true) (env : Env) : ∀ x, foldedSetIterable e env x = pure x := by
  cases c with
  | seq a =>
    unfold chkI at h
    exact chk_fold h env
  | _ =>
    unfold chkI at h
    cases e <;> first | (exact fun x => rfl) | simp at h
theorem and7 {a b c d e f g h : Bool} (x : (a && b && c && d && e && f && g && h) = true) : a = true ∧ b = true ∧ c = true ∧ d = true ∧ e = true ∧ f = true ∧ g = true ∧ h = true := by
  simp only [Bool.and_eq_true] at x
  obtain ⟨⟨⟨⟨⟨⟨⟨h1, h2⟩, h3⟩, h4⟩, h5⟩, h6⟩, h7⟩, h8⟩ := x
  exact ⟨h1, h2, h3, h4, h5, h6, h7, h8⟩
theorem SX.un {sc : Scope} {tn : List Str} {X : Cx} (h : SX S G F N sc tn n X) : X.A.units + 65 < cLine := by
  have := h.room.un
  omega
theorem bi_mem (b : Bi) : biName b ∈ biNames := by
  cases b <;> decide
theorem ty_mem (t : Ty) : tyStr t ∈ biNames := by
  cases t <;> decide
theorem withT {X : Cx} {e : Expr} {c : Ex} (p : PE X e (tE F X.K c)) (he : ∀ whole, isTrue e X.env whole = (do let v ← whole; standAt e.pos; holding [v] (truthy v))) : PE X e (tE F X.K c) ∧ PT X e (tT F X.K c) := ⟨p, t_val p he⟩
mutual
theorem sndE : ∀ (c : Ex) {X : Cx} {sc : Scope} {tn : List Str} {e : Expr}, SX S G F N sc tn n X → chkE S G N c sc e = true → PE X e (tE F X.K c) ∧ PT X e (tT F X.K c)
  | .var i, X, sc, tn, e, hX, h => by
    unfold chkE at h
    split at h
    · obtain ⟨h1, h2, h3⟩ := and3 h
      exact withT (e_var (F := F) (X := X) (by rw [hX.hN]; exact of_decide_eq_true h1) (by rw [hX.hsc]; exact visK_vis h2) (okN_1 h3) (okN_2 h3)) fun _ => rfl
    · cases h
  | .con d, X, sc, tn, e, hX, h => by
    unfold chkE at h
    split at h
    · exact withT (e_con (F := F) (X := X) h) fun _ => rfl
    · cases h
  | .glo x d, X, sc, tn, e, hX, h => by
    unfold chkE at h
    obtain ⟨h1, h2⟩ := and2 h
    obtain ⟨p, rfl, h3, h4⟩ := nameIs_of h1
    obtain ⟨q, hq, hd⟩ := List.any_eq_true.mp h2
    obtain ⟨e1, e2⟩ := and2 hd
    have e1 := of_decide_eq_true e1
    have e2 := sameD_eq e2
    subst e1 e2
    obtain ⟨u, v, g1, g2, g3⟩ := hX.glo q hq
    exact withT (e_glo (F := F) (X := X) (pos := p) (glK_gl hX.hsc h3) g1 g2 g3 (okN_1 h4)) fun _ => rfl
  | .bin o a b, X, sc, tn, e, hX, h => by
    unfold chkE at h
    split at h
    · obtain ⟨h1, h2, h3⟩ := and3 h
      have e1 := opK_eq h1
      subst e1
      exact withT (e_bin (F := F) (X := X) (o := o) (sndE a hX h2).1 (sndE b hX h3).1) fun _ => rfl
    · cases h
  | .neg a, X, sc, tn, e, hX, h => by
    unfold chkE at h
    split at h
    · exact withT (e_neg (F := F) (X := X) (sndE a hX h).1) fun _ => rfl
    · cases h
  | .cmp o a b, X, sc, tn, e, hX, h => by
    unfold chkE at h
    split at h
    · obtain ⟨h1, h2, h3⟩ := and3 h
      have e1 := copK_eq h1
      subst e1
      exact ⟨e_cmp hX.un (sndE a hX h2).1 (sndE b hX h3).1 (chk_nomark h3 _), t_cmp hX.un (sndE a hX h2).1 (sndE b hX h3).1 (chk_nomark h3 _)⟩
    · cases h
  | .cmp2 o p a b c, X, sc, tn, e, hX, h => by
    unfold chkE at h
    split at h
    · simp only [Bool.and_eq_true] at h
      obtain ⟨⟨⟨⟨h1, h2⟩, h3⟩, h4⟩, h5⟩ := h
      have e1 := copK_eq h1
      have e2 := copK_eq h2
      subst e1 e2
      have hm : ∀ r r', chkE S G N c sc r' = true → lastMarks [copOf o, copOf p] [r, r'] = false := fun r r' hh => chk_nomark hh _
      exact ⟨e_cmp2 hX.un (sndE a hX h3).1 (sndE b hX h4).1 (sndE c hX h5).1 (hm _ _ h5), t_cmp2 hX.un (sndE a hX h3).1 (sndE b hX h4).1 (sndE c hX h5).1 (hm _ _ h5)⟩
    · cases h
  | .isC ng a d, X, sc, tn, e, hX, h => by
    unfold chkE at h
    split at h
    · obtain ⟨h1, h2, h3⟩ := and3 h
      rename_i op k j pos' pos
      have e1 : op = isOp ng := by
        cases op <;> cases ng <;> first | rfl | cases h1
      subst e1
      exact ⟨e_isC (sndE a hX h2).1 h3, t_isC (sndE a hX h2).1 h3⟩
    · cases h
  | .ands es, X, sc, tn, e, hX, h => by
    unfold chkE at h
    split at h
    · rename_i xs pos
      obtain ⟨h1, h2⟩ := and2 h
      have ih := (sndA es hX h1).2.1 (nonE h2) pos
      refine ⟨PE.imp ih.1 fun σ H Q hh => ?_, PT.imp ih.2.2.1.pt fun σ H Q hh => ?_⟩
      · obtain ⟨Mo, pins, env, rr, env', C, hd, q⟩ := hh
        exact ⟨Mo, pins, env, rr, env', C, by simpa [denE] using hd, fun v H1 C1 S1 r1 => q v H1 C1 S1 r1 fun z => by cases z⟩
      · obtain ⟨Mo, pins, env, k, env', C, hd, q⟩ := hh
        exact ⟨Mo, pins, env, k, env', C, by simpa [denE] using hd, q⟩
    · cases h
  | .ors es, X, sc, tn, e, hX, h => by
    unfold chkE at h
    split at h
    · rename_i xs pos
      obtain ⟨h1, h2⟩ := and2 h
      have ih := (sndA es hX h1).2.1 (nonE h2) pos
      refine ⟨PE.imp ih.2.1 fun σ H Q hh => ?_, PT.imp ih.2.2.2.pt fun σ H Q hh => ?_⟩
      · obtain ⟨Mo, pins, env, rr, env', C, hd, q⟩ := hh
        exact ⟨Mo, pins, env, rr, env', C, by simpa [denE] using hd, fun v H1 C1 S1 r1 => q v H1 C1 S1 r1 fun z => by cases z⟩
      · obtain ⟨Mo, pins, env, k, env', C, hd, q⟩ := hh
        exact ⟨Mo, pins, env, k, env', C, by simpa [denE] using hd, q⟩
    · cases h
  | .nt a, X, sc, tn, e, hX, h => by
    unfold chkE at h
    split at h
    · exact ⟨e_not (sndE a hX h).1, t_not (sndE a hX h).2⟩
    · cases h
  | .ite c a b, X, sc, tn, e, hX, h => by
    unfold chkE at h
    split at h
    · obtain ⟨h1, h2, h3⟩ := and3 h
      exact ⟨e_ite (sndE c hX h1).2 (sndE a hX h2).1 (sndE b hX h3).1, t_ite (sndE c hX h1).2 (sndE a hX h2).2 (sndE b hX h3).2⟩
    · cases h
  | .tup es, X, sc, tn, e, hX, h => by
    unfold chkE at h
    split at h
    · exact withT (e_tup (F := F) (X := X) (sndA es hX h).1) fun _ => rfl
    · cases h
  | .lst es, X, sc, tn, e, hX, h => by
    unfold chkE at h
    split at h
    · exact withT (e_lst (F := F) (X := X) (sndA es hX h).1) fun _ => rfl
    · cases h
  | .rl1 tp b, X, sc, tn, e, hX, h => by
    unfold chkE at h
    split at h
    · obtain ⟨h1, h2, h3⟩ := and3 h
      obtain ⟨p, rfl, g1, g2⟩ := nameIs_of h1
      obtain ⟨p2, rfl, g3, g4⟩ := nameIs_of h2
      exact withT (e_rl1 (F := F) (X := X) (tp := tp) hX.calm (glK_gl hX.hsc g1) (by cases tp <;> exact hX.bi _ (by decide)) (glK_gl hX.hsc g3) (hX.bi _ (by decide)) (sndE b hX h3).1 (chk_ns h3)) fun _ => rfl
    · cases h
  | .rl2 tp a b, X, sc, tn, e, hX, h => by
    unfold chkE at h
    split at h
    · obtain ⟨h1, h2, h3, h4⟩ := and4 h
      obtain ⟨p, rfl, g1, g2⟩ := nameIs_of h1
      obtain ⟨p2, rfl, g3, g4⟩ := nameIs_of h2
      exact withT (e_rl2 (F := F) (X := X) (tp := tp) hX.calm (glK_gl hX.hsc g1) (by cases tp <;> exact hX.bi _ (by decide)) (glK_gl hX.hsc g3) (hX.bi _ (by decide)) (sndE a hX h3).1 (chk_ns h3) (sndE b hX h4).1 (chk_ns h4)) fun _ => rfl
    · cases h
  | .index i a, X, sc, tn, e, hX, h => by
    unfold chkE at h
    split at h
    · simp only [Bool.and_eq_true, decide_eq_true_eq] at h
      obtain ⟨⟨⟨⟨⟨h1, h2⟩, h3⟩, h4⟩, h5⟩, h6⟩ := h
      subst h4
      exact withT (e_index (F := F) (X := X) hX.un (pe_var (by rw [hX.hN]; exact h1) (by rw [hX.hsc]; exact visK_vis h2) (okN_1 h3) (okN_2 h3)) (sndE a hX h6).1 (chk_ns h6) rfl h5) fun _ => rfl
    · cases h
  | .pop i, X, sc, tn, e, hX, h => by
    unfold chkE at h
    split at h
    · simp only [Bool.and_eq_true, decide_eq_true_eq] at h
      obtain ⟨⟨⟨⟨h1, h2⟩, h3⟩, h4⟩, h5⟩ := h
      subst h4
      exact withT (e_pop (F := F) (X := X) (pe_var (by rw [hX.hN]; exact h1) (by rw [hX.hsc]; exact visK_vis h2) (okN_1 h3) (okN_2 h3)) rfl h5) fun _ => rfl
    · cases h
  | .popA i a, X, sc, tn, e, hX, h => by
    unfold chkE at h
    split at h
    · simp only [Bool.and_eq_true, decide_eq_true_eq] at h
      obtain ⟨⟨⟨⟨⟨h1, h2⟩, h3⟩, h4⟩, h5⟩, h6⟩ := h
      subst h4
      exact withT (e_popA (F := F) (X := X) (pe_var (by rw [hX.hN]; exact h1) (by rw [hX.hsc]; exact visK_vis h2) (okN_1 h3) (okN_2 h3)) (sndE a hX h6).1 (chk_ns h6) rfl h5) fun _ => rfl
    · cases h
  | .dic0 t, X, sc, tn, e, hX, h => by
    unfold chkE at h
    cases h
  | .idx a i, X, sc, tn, e, hX, h => by
    unfold chkE at h
    split at h
    · obtain ⟨h1, h2⟩ := and2 h
      exact withT (e_idx (F := F) (X := X) (by have := hX.un; omega) (sndE a hX h1).1 (sndE i hX h2).1 (chk_plain h2)) fun _ => rfl
    · cases h
  | .slc a lo hi, X, sc, tn, e, hX, h => by
    unfold chkE at h
    split at h
    · obtain ⟨h1, h2, h3⟩ := and3 h
      exact withT (e_slc (F := F) (X := X) (sndE a hX h1).1 (sndO lo hX h2) (sndO hi hX h3)) fun _ => rfl
    · cases h
  | .slcS a lo hi st, X, sc, tn, e, hX, h => by
    unfold chkE at h
    split at h
    · obtain ⟨h, h4⟩ := and2 h
      obtain ⟨h1, h2, h3⟩ := and3 h
      exact withT (e_slcS (F := F) (X := X) (sndE a hX h1).1 (sndO lo hX h2) (sndO hi hX h3) (sndO st hX h4)) fun _ => rfl
    · cases h
  | .call fr f es ds, X, sc, tn, e, hX, h => by
    unfold chkE at h
    split at h
    · rename_i fe xs pos
      cases hs : S[f]? with
      | none => simp [hs] at h
      | some s =>
        simp only [hs, Bool.and_eq_true] at h
        obtain ⟨⟨⟨⟨⟨⟨h1, h2⟩, h3⟩, h4⟩, h5⟩, h6⟩, h8⟩ := h
        obtain ⟨p, rfl, g1, g2⟩ := nameIs_of h1
        obtain ⟨h5, h7⟩ := h5
        obtain ⟨fa, fd, ps, k1, k2, k3, k4, k5⟩ := hX.fns f s hs
        have hlen := of_decide_eq_true h3
        have hle := of_decide_eq_true h4
        have hds := sameDs_eq h5
        obtain ⟨dsV, v1, v2⟩ := k5.1 (s.dfl.length - ds.length) (Nat.sub_le _ _)
        rw [hds] at v1
        rw [← k3] at k4
        cases xs with
        | nil => cases h6
        | cons x xs =>
          have hst : starEach (x :: xs) X.env = (false, eval x X.env) :: starEach xs X.env := by
            cases es with
            | nil => exact absurd (chkEs_nil h2) (by simp)
            | cons a r =>
              obtain ⟨e', l', e1, e2, e3⟩ := chkEs_cons h2
              cases e1
              exact star_cons (chk_ns e2)
          have hpl : (backTo pos (starEach xs X.env)).any (·.1) = false := by
            cases es with
            | nil => exact absurd (chkEs_nil h2) (by simp)
            | cons a r =>
              obtain ⟨e', l', e1, e2, e3⟩ := chkEs_cons h2
              cases e1
              exact chkEs_star e3 X.env pos
          exact withT (e_call (F := F) (X := X) (pos := pos) (p := p) hX.room (glK_gl hX.hsc g1) k1 k2 k4 h8 v2 v1 h7 (by rw [k3]; exact hlen) (sndA es hX h2).1 (fun env rs env' g => denA_len h2 g) (okN_1 g2) hst hpl) fun _ => rfl
    · cases h
  | .callK fr f pm es, X, sc, tn, e, hX, h => by
    unfold chkE at h
    split at h
    · rename_i fe kws pos
      cases hs : S[f]? with
      | none => simp [hs] at h
      | some s =>
        simp only [hs] at h
        obtain ⟨h1, h2, h3⟩ := and3 h
        obtain ⟨p, rfl, g1, g2⟩ := nameIs_of h1
        obtain ⟨fa, fd, ps, k1, k2, k3, k4, k5⟩ := hX.fns f s hs
        obtain ⟨q, hq, h4⟩ := List.any_eq_true.mp h2
        obtain ⟨h5, h6, h7⟩ := and3 h4
        have epm := of_decide_eq_true h5
        subst epm
        rw [← k3] at k4
        obtain ⟨m1, m2, m3, m4, m5⟩ := ch_kw (F := F) X.env pos h6
        exact withT (e_callK (F := F) (X := X) (pos := pos) (p := p) hX.room (glK_gl hX.hsc g1) k1 k2 k4 h3 (k5.2 q hq) (by rw [k3]; exact of_decide_eq_true h7) m4 (sndK es hX h6) m5 m1 m2 m3 (okN_1 g2)) fun _ => rfl
    · cases h
  | .bi b es, X, sc, tn, e, hX, h => by
    unfold chkE at h
    split at h
    · rename_i fe xs pos
      obtain ⟨h1, h2, h6⟩ := and3 h
      obtain ⟨p, rfl, g1, g2⟩ := nameIs_of h1
      cases xs with
      | nil => cases h6
      | cons x xs =>
        have hst : starEach (x :: xs) X.env = (false, eval x X.env) :: starEach xs X.env := by
          cases es with
          | nil => exact absurd (chkEs_nil h2) (by simp)
          | cons a r =>
            obtain ⟨e', l', e1, e2, e3⟩ := chkEs_cons h2
            cases e1
            exact star_cons (chk_ns e2)
        have hpl : (backTo pos (starEach xs X.env)).any (·.1) = false := by
          cases es with
          | nil => exact absurd (chkEs_nil h2) (by simp)
          | cons a r =>
            obtain ⟨e', l', e1, e2, e3⟩ := chkEs_cons h2
            cases e1
            exact chkEs_star e3 X.env pos
        exact withT (e_bi (F := F) (X := X) (pos := pos) (p := p) (b := b) hX.calm hX.un (glK_gl hX.hsc g1) (hX.bi _ (bi_mem b)) (sndA es hX h2).1 hst hpl) fun _ => rfl
    · cases h
  | .sset a, X, sc, tn, e, hX, h => by
    unfold chkE at h
    split at h
    · obtain ⟨h1, h2, h3⟩ := and3 h
      obtain ⟨p, rfl, g1, g2⟩ := nameIs_of h1
      obtain ⟨p2, rfl, g3, g4⟩ := nameIs_of h2
      exact withT (e_sset (F := F) (X := X) hX.calm hX.un (glK_gl hX.hsc g1) (hX.bi _ (by decide)) (glK_gl hX.hsc g3) (hX.bi _ (by decide)) (sndE a hX h3).1 (chk_ns h3)) fun _ => rfl
    · cases h
  | .minK f a, X, sc, tn, e, hX, h => by
    unfold chkE at h
    split at h
    · rename_i fe y kn ge kp pos
      cases hs : S[f]? with
      | none => simp [hs] at h
      | some s =>
        simp only [hs, Bool.and_eq_true] at h
        obtain ⟨⟨⟨⟨h1, h2⟩, h3⟩, h4⟩, h5⟩ := h
        obtain ⟨p, rfl, g1, g2⟩ := nameIs_of h1
        obtain ⟨p2, rfl, g3, g4⟩ := nameIs_of h2
        have ek := of_decide_eq_true h3
        subst ek
        obtain ⟨fa, fd, ps, k1, k2, k3, k4, k5⟩ := hX.fns f s hs
        obtain ⟨dsV, v1, v2⟩ := k5.1 s.dfl.length (Nat.le_refl _)
        rw [List.drop_length] at v1
        cases v1
        rw [← k3] at k4
        exact withT (e_minK (F := F) (X := X) (pos := pos) (p := p) (p2 := p2) (kp := kp) hX.room.hd hX.un hX.room1 (glK_gl hX.hsc g1) (hX.bi _ (by decide)) (glK_gl hX.hsc g3) k1 (okN_1 g4) k4 v2 (by rw [k3]; exact of_decide_eq_true h5) (sndE a hX h4).1 (chk_ns h4)) fun _ => rfl
    · cases h
  | .isi a t, X, sc, tn, e, hX, h => by
    unfold chkE at h
    split at h
    · rename_i fe x y p2 pos
      obtain ⟨h1, h2, h3, h4⟩ := and4 h
      obtain ⟨p, rfl, g1, g2⟩ := nameIs_of h1
      have e1 := of_decide_eq_true h3
      subst e1
      exact withT (e_isi (F := F) (X := X) (pos := pos) (p := p) (p2 := p2) (t := t) (y := tyStr t) (glK_gl hX.hsc g1) (hX.bi _ (by decide)) (glK_gl hX.hsc h4) (hX.bi _ (ty_mem t)) (sndE a hX h2).1 (chk_ns h2)) fun _ => rfl
    · cases h
  | .comp own tg it cs elt, X, sc, tn, e, hX, h => by
    unfold chkE at h
    split at h
    · rename_i el t i ifs scope pos
      obtain ⟨h1, h2, h3, h4, h5, h6, h7, h8⟩ := and7 h
      have hb : blkC X.N X.env.scope scope (own.map fun i => (N.getD i "", i)) = true := by rw [hX.hN, hX.hsc]; exact h2
      have ok := blkOk_by hb
      have hvs : (own.map fun i => (N.getD i "", i)).map (·.2) = own := by rw [List.map_map]; exact List.map_id' own
      have B := fun s H C cl fp => hX.blk own ok.kind h7 s H C cl fp
      have p := pe_lc (X := X) (wi := tI F X.K it) (g := gT X.K tg) (tt := tCs F X.K cs) (te := tE F X.K elt) (pos := pos) (elt := el) (tg := t) (iter := i) (ifs := ifs) (scope := scope) hX.calm hX.nd (sndI it hX h1) ok (fun s H C cl fp => pgT (B s H C cl fp).calm (B s H C cl fp).nd (B s H C cl fp).hN (B s H C cl fp).hsc (B s H C cl fp).fn h3)
        (fun s H C cl fp => (sndA cs (B s H C cl fp) h4).2.2 (of_decide_eq_true h6)) (fun s H C cl fp => (sndE elt (B s H C cl fp) h5).1) (chkI_fold h1 X.env)
      rw [hvs] at p
      have hsl : ∀ i ∈ slTg tg, i ∈ own := fun i hi => of_decide_eq_true (List.all_eq_true.mp h8 i hi)
      have p := PE.imp p fun σ H Q hh => lc_read hsl hh
      exact withT p fun _ => rfl
    · cases h
  | .compO j own tg cs elt, X, sc, tn, e, hX, h => by
    unfold chkE at h
    split at h
    · rename_i el t i ifs scope pos
      obtain ⟨h1, h2, h3, h4, h5, h6, h7, h8⟩ := and7 h
      cases i <;> first | (simp [nmK] at h1; done) | skip
      rename_i x px
      unfold nmK at h1
      obtain ⟨n1, n2, n3⟩ := and3 h1
      have hb : blkC X.N X.env.scope scope (own.map fun i => (N.getD i "", i)) = true := by rw [hX.hN, hX.hsc]; exact h2
      have ok := blkOk_by hb
      have hvs : (own.map fun i => (N.getD i "", i)).map (·.2) = own := by rw [List.map_map]; exact List.map_id' own
      have B := fun s H C cl fp => hX.blk own ok.kind h7 s H C cl fp
      have p := pe_lc (X := X) (wi := iList X.K (tVar j)) (g := gT X.K tg) (tt := tCs F X.K cs) (te := tE F X.K elt) (pos := pos) (elt := el) (tg := t) (iter := .Name x px) (ifs := ifs) (scope := scope) hX.calm hX.nd (pi_list (pe_var (by rw [hX.hN]; exact of_decide_eq_true n1) (by rw [hX.hsc]; exact visK_vis n2) (okN_1 n3) (okN_2 n3))) ok (fun s H C cl fp => pgT (B s H C cl fp).calm (B s H C cl fp).nd (B s H C cl fp).hN (B s H C cl fp).hsc (B s H C cl fp).fn h3)
        (fun s H C cl fp => (sndA cs (B s H C cl fp) h4).2.2 (of_decide_eq_true h6)) (fun s H C cl fp => (sndE elt (B s H C cl fp) h5).1) (fun x => rfl)
      rw [hvs] at p
      have hsl : ∀ i ∈ slTg tg, i ∈ own := fun i hi => of_decide_eq_true (List.all_eq_true.mp h8 i hi)
      have p := PE.imp p fun σ H Q hh => lcO_read hsl hh
      exact withT p fun _ => rfl
    · cases h
  | .comp2 own tg it own1 tg1 it1 cs elt, X, sc, tn, e, hX, h => by
    unfold chkE at h
    split at h
    · rename_i el t i t1 i1 ifs scope pos
      obtain ⟨h, h12⟩ := and2 h
      obtain ⟨h, h11⟩ := and2 h
      obtain ⟨h, h10⟩ := and2 h
      obtain ⟨h, h9⟩ := and2 h
      obtain ⟨h1, h2, h3, h4, h5, h6, h7, h8⟩ := and7 h
      have hb : blkC X.N X.env.scope scope (own.map fun i => (N.getD i "", i)) = true := by rw [hX.hN, hX.hsc]; exact h2
      have ok := blkOk_by hb
      have hvs : (own.map fun i => (N.getD i "", i)).map (·.2) = own := by rw [List.map_map]; exact List.map_id' own
      have B := fun s H C cl fp => hX.blk own ok.kind h9 s H C cl fp
      have hsl : ∀ i ∈ slTg tg, i ∈ own := fun i hi => of_decide_eq_true (List.all_eq_true.mp h10 i hi)
      have hsl1 : ∀ i ∈ slTg tg1, i ∈ own1 := fun i hi => of_decide_eq_true (List.all_eq_true.mp h11 i hi)
      have hoo : ∀ i ∈ own1, i ∈ own := fun i hi => of_decide_eq_true (List.all_eq_true.mp h12 i hi)
      have p := pe_lc2 (X := X) (wi := tI F X.K it) (g := gT X.K tg) (tt := tYes) (wi1 := tI F X.K it1) (g1 := gT X.K tg1) (tt1 := tCs F X.K cs) (te := tE F X.K elt) (vs1 := own1) (pos := pos) (elt := el) (tg := t) (iter := i) (ifs := []) (tg1 := t1) (iter1 := i1) (ifs1 := ifs) (scope := scope) hX.calm hX.nd (sndI it hX h1) ok (by rw [hvs]; exact hoo)
        (fun s H C cl fp => pgT (B s H C cl fp).calm (B s H C cl fp).nd (B s H C cl fp).hN (B s H C cl fp).hsc (B s H C cl fp).fn h3) (fun s H C cl fp => pts_nil)
        (fun s H C cl fp => sndI it1 (B s H C cl fp) h4) (fun s H C cl fp => pgT (B s H C cl fp).calm (B s H C cl fp).nd (B s H C cl fp).hN (B s H C cl fp).hsc (B s H C cl fp).fn h5)
        (fun s H C cl fp => (sndA cs (B s H C cl fp) h6).2.2 (of_decide_eq_true h8)) (fun s H C cl fp => (sndE elt (B s H C cl fp) h7).1) (chkI_fold h1 X.env) (fun env => chkI_fold h4 env)
      rw [hvs] at p
      have p := PE.imp p fun σ H Q hh => lc2_read hsl hsl1 hoo hh
      exact withT p fun _ => rfl
    · cases h
theorem sndA : ∀ (c : Es) {X : Cx} {sc : Scope} {tn : List Str} {es : List Expr}, SX S G F N sc tn n X → chkEs S G N c sc es = true → PA X es (tA F X.K c) ∧
    (es ≠ [] → ∀ pos, PE X (.BoolOp .And es pos) (tAn F X.K c) ∧ PE X (.BoolOp .Or es pos) (tOn F X.K c) ∧ PW X (.BoolOp .And es pos) (tAnT F X.K c) ∧ PW X (.BoolOp .Or es pos) (tOnT F X.K c)) ∧ (es.length ≤ 1 → PTs X es (tCs F X.K c))
  | .nil, X, sc, tn, es, hX, h => by
    rw [chkEs_nil h]
    exact ⟨a_nil, fun z => absurd rfl z, fun _ => cs_nil⟩
  | .cons a r, X, sc, tn, es, hX, h => by
    obtain ⟨e, l, rfl, h1, h2⟩ := chkEs_cons h
    have ih1 := sndE a hX h1
    have ih2 := sndA r hX h2
    refine ⟨a_cons ih1.1 ih2.1 (star_cons (chk_ns h1)), fun _ pos => ?_, fun hl => ?_⟩
    · cases r with
      | nil =>
        have hl := chkEs_nil h2
        subst hl
        exact ⟨an_one ih1.1, on_one ih1.1, anT_one ih1.2, onT_one ih1.2⟩
      | cons b r =>
        obtain ⟨e2, l2, rfl, h3, h4⟩ := chkEs_cons h2
        obtain ⟨q1, q2, q3, q4⟩ := ih2.2.1 (by simp) pos
        exact ⟨an_cons ih1.1 q1, on_cons ih1.1 q2, anT_cons ih1.2 q3, onT_cons ih1.2 q4⟩
    · cases r with
      | nil =>
        have hl := chkEs_nil h2
        subst hl
        exact cs_one ih1.2
      | cons b r =>
        obtain ⟨e2, l2, rfl, h3, h4⟩ := chkEs_cons h2
        simp at hl
theorem sndK : ∀ (c : Es) {X : Cx} {sc : Scope} {tn : List Str} {kws : List Keyword} {ks : List Str}, SX S G F N sc tn n X → chkK S G N c sc kws ks = true → PK X kws (tA F X.K c)
  | .nil, X, sc, tn, kws, ks, hX, h => by
    unfold chkK at h
    split at h
    · exact k_nil
    · cases h
  | .cons a r, X, sc, tn, kws, ks, hX, h => by
    unfold chkK at h
    split at h
    · obtain ⟨h1, h2, h3⟩ := and3 h
      exact k_cons (sndE a hX h2).1 (sndK r hX h3)
    · cases h
theorem sndO : ∀ (c : Oe) {X : Cx} {sc : Scope} {tn : List Str} {e : Option Expr}, SX S G F N sc tn n X → chkO S G N c sc e = true → PO X e (tO' F X.K c)
  | .none, X, sc, tn, e, hX, h => by
    unfold chkO at h
    split at h
    · exact o_none
    · cases h
  | .some a, X, sc, tn, e, hX, h => by
    unfold chkO at h
    split at h
    · exact o_some (sndE a hX h).1
    · cases h
theorem sndI : ∀ (c : It) {X : Cx} {sc : Scope} {tn : List Str} {t e : Expr}, SX S G F N sc tn n X → chkI S G N c sc t e = true → PI X t e (tI F X.K c)
  | .seq a, X, sc, tn, t, e, hX, h => by
    unfold chkI at h
    exact i_seq (sndE a hX h).1
  | .rng1 a, X, sc, tn, t, e, hX, h => by
    unfold chkI at h
    split at h
    · obtain ⟨h1, h2⟩ := and2 h
      obtain ⟨p, rfl, g1, g2⟩ := nameIs_of h1
      exact i_rng1 (glK_gl hX.hsc g1) (hX.bi _ (by decide)) (sndE a hX h2).1 (chk_ns h2)
    · cases h
  | .rng2 a b, X, sc, tn, t, e, hX, h => by
    unfold chkI at h
    split at h
    · obtain ⟨h1, h2, h3⟩ := and3 h
      obtain ⟨p, rfl, g1, g2⟩ := nameIs_of h1
      exact i_rng2 (glK_gl hX.hsc g1) (hX.bi _ (by decide)) (sndE a hX h2).1 (sndE b hX h3).1 (chk_ns h2) (chk_ns h3)
    · cases h
  | .enum a, X, sc, tn, t, e, hX, h => by
    unfold chkI at h
    obtain ⟨h0, h⟩ := and2 h
    split at h
    · obtain ⟨h1, h2⟩ := and2 h
      obtain ⟨p, rfl, g1, g2⟩ := nameIs_of h1
      exact i_enum (glK_gl hX.hsc g1) (hX.bi _ (by decide)) (sndE a hX h2).1 (chk_ns h2) h0
    · cases h
  | .zip a b, X, sc, tn, t, e, hX, h => by
    unfold chkI at h
    obtain ⟨h0, h⟩ := and2 h
    split at h
    · obtain ⟨h1, h2, h3⟩ := and3 h
      obtain ⟨p, rfl, g1, g2⟩ := nameIs_of h1
      exact i_zip (glK_gl hX.hsc g1) (hX.bi _ (by decide)) (sndE a hX h2).1 (sndE b hX h3).1 (chk_ns h2) (chk_ns h3) h0
    · cases h
  | .zip3 a b c, X, sc, tn, t, e, hX, h => by
    unfold chkI at h
    obtain ⟨h0, h⟩ := and2 h
    split at h
    · obtain ⟨h1, h2⟩ := and2 h
      obtain ⟨h2, h3⟩ := and2 h2
      obtain ⟨h3, h4⟩ := and2 h3
      obtain ⟨p, rfl, g1, g2⟩ := nameIs_of h1
      exact i_zip3 (glK_gl hX.hsc g1) (hX.bi _ (by decide)) (sndE a hX h2).1 (sndE b hX h3).1 (sndE c hX h4).1 (chk_ns h2) (chk_ns h3) (chk_ns h4) h0
    · cases h
  | .rev a, X, sc, tn, t, e, hX, h => by
    unfold chkI at h
    split at h
    · obtain ⟨h1, h2⟩ := and2 h
      obtain ⟨p, rfl, g1, g2⟩ := nameIs_of h1
      exact i_rev (glK_gl hX.hsc g1) (hX.bi _ (by decide)) (sndE a hX h2).1 (chk_ns h2)
    · cases h
end
end
end PC
set_option Elab.async false
set_option linter.all false
set_option maxRecDepth 100000
/-! PyCore, part 12: statements: what is asked; slots put, forgotten, frozen. -/
namespace PC
open PySem PySem.Spec PyProof.Rows L2

theorem omap2 {α β γ : Type} {f : α × β → γ} {o : Option (α × β)} {g : γ} (h : o.map f = some g) : ∃ x y, o = some (x, y) ∧ f (x, y) = g := by
  obtain ⟨⟨x, y⟩, h1, h2⟩ := omap h
  exact ⟨x, y, h1, h2⟩
section
variable {K : PySem.W.Frag} {Mo M1 : Addr → Prop} {pins : Nat → Addr} {env env' e1 e2 : En} {σ σ' σ1 σ2 : L2.St} {H H' H1 H2 : Hp}
structure FSt (env env' : En) (σ σ' : L2.St) (H H' : Hp) : Prop where
  kp : KpW (Own env σ) H H'
  ow : ∀ a, Own env' σ' a → Own env σ a ∨ H a = none
theorem FSt.trans (c : Corr K Mo pins env σ H) (a : FSt env e1 σ σ1 H H1) (b : FSt e1 e2 σ1 σ2 H1 H2) : FSt env e2 σ σ2 H H2 where
  kp := a.kp.trans b.kp a.ow
  ow := fun x h => by
    rcases b.ow x h with h | h
    · exact a.ow x h
    · exact .inr (a.kp.back h)
theorem FSt.refl : FSt env env σ σ H H := ⟨.refl, fun _ h => .inl h⟩
theorem Stp.fst (c : Corr K Mo pins env σ H) (s : Stp env env' σ H H') : FSt env env' σ σ H H' := ⟨s.kp.w c.om, fun a h => .inl ((s.ownEq a).mp h)⟩
theorem FSt.less (s : FSt env e1 σ σ1 H H1) (h : ∀ a, Own e2 σ2 a → Own e1 σ1 a) : FSt env e2 σ σ2 H H1 := ⟨s.kp, fun a z => s.ow a (h a z)⟩
theorem FSt.mm (s : FSt env env' σ σ' H H') (Mo : Addr → Prop) : ∀ a, MM Mo env' σ' a → MM Mo env σ a ∨ H a = none := fun a h => by
  rcases h with h | h
  · exact .inl (.inl h)
  · rcases s.ow a h with h | h
    · exact .inl (.inr h)
    · exact .inr h
theorem own_less {i : Nat} {s : Sl} (hs : ∀ t xs, s ≠ .own t xs) (a : Addr) : Own (env.set i s) σ a → Own env σ a := by
  rintro ⟨j, t, xs, e1, e2⟩
  by_cases hj : i = j
  · subst hj
    exact absurd (set_out e1).symm (hs t xs)
  · rw [List.getElem?_set_ne hj] at e1
    exact ⟨j, t, xs, e1, e2⟩
theorem mm_less {i : Nat} {s : Sl} (hs : ∀ t xs, s ≠ .own t xs) (a : Addr) : MM Mo (env.set i s) σ a → MM Mo env σ a := fun h => by
  rcases h with h | h
  · exact .inl h
  · exact .inr (own_less hs a h)
/-- nothing is known of a slot any more -/
theorem Corr.no (c : Corr K Mo pins env σ H) (i : Nat) : Corr K Mo pins (env.set i .no) σ H := by
  have hs : ∀ t xs, Sl.no ≠ .own t xs := fun t xs z => by cases z
  refine ⟨by rw [List.length_set]; exact c.len, c.al, fun j d e => ?_, fun j t xs e => ?_, fun j k t u xs ys p hjk e1 e2 f1 f2 => ?_⟩
  · by_cases hj : i = j
    · subst hj
      cases set_out e
    · rw [List.getElem?_set_ne hj] at e
      obtain ⟨w, e1, r1⟩ := c.vl j d e
      exact ⟨w, e1, r1.anti (mm_less hs)⟩
  · by_cases hj : i = j
    · subst hj
      cases set_out e
    · rw [List.getElem?_set_ne hj] at e
      obtain ⟨p, ws, e1, e2, r1, q⟩ := c.ow j t xs e
      exact ⟨p, ws, e1, e2, r1.anti (mm_less hs), q⟩
  · have ne : ∀ (l : Nat) (t : Option Nat) (xs : D), (env.set i .no)[l]? = some (.own t xs) → i ≠ l := fun l t xs e hl => by
      subst hl
      cases set_out e
    rw [List.getElem?_set_ne (ne j t xs e1)] at e1
    rw [List.getElem?_set_ne (ne k u ys e2)] at e2
    exact c.ds j k t u xs ys p hjk e1 e2 f1 f2
theorem Corr.wiE (c : Corr K Mo pins env σ H) : ∀ vs : List Nat, Corr K Mo pins (wipeE env vs) σ H
  | [] => c
  | v :: vs => (Corr.wiE c vs).no v
theorem own_wiE (a : Addr) : ∀ vs : List Nat, Own (wipeE env vs) σ a → Own env σ a
  | [], h => h
  | v :: vs, h => own_wiE a vs (own_less (fun t xs z => by cases z) a h)
/-- an own container becomes a value -/
theorem Corr.frz (c : Corr K Mo pins env σ H) {i : Nat} {xs : List D} (hi : env[i]? = some (.own none (.lst xs))) : Corr K Mo pins (env.set i (.val (.lst xs))) σ H ∧ ∃ v, σ[i]? = some (some v) ∧ Rep K (MM Mo (env.set i (.val (.lst xs))) σ) H (.lst xs) v := by
  generalize hd : D.lst xs = d at hi ⊢
  have hs : ∀ t ys, Sl.val d ≠ .own t ys := fun t xs z => by cases z
  have il : i < env.length := (List.getElem?_eq_some_iff.mp hi).1
  obtain ⟨p, o, e1, e2, r1, n1, _⟩ := c.ow i none d hi
  have np : ¬ MM Mo (env.set i (.val d)) σ p := by
    rintro (z | ⟨j, t, ys, f1, f2⟩)
    · exact n1 rfl z
    · by_cases hj : i = j
      · subst hj
        cases set_out f1
      · rw [List.getElem?_set_ne hj] at f1
        exact c.ds i j none t d ys p hj hi f1 e1 f2
  have R : Rep K (MM Mo (env.set i (.val d)) σ) H d (.ref p) := by
    subst hd
    obtain ⟨vs, rfl, r2⟩ := r1.lstOf
    exact ⟨p, vs, rfl, np, e2, r2.anti (mm_less hs)⟩
  refine ⟨⟨by rw [List.length_set]; exact c.len, c.al, fun j d' e => ?_, fun j t xs e => ?_, fun j k t u xs ys p hjk e1 e2 f1 f2 => ?_⟩, _, e1, R⟩
  · by_cases hj : i = j
    · subst hj
      have := set_out e
      cases this
      exact ⟨_, e1, R⟩
    · rw [List.getElem?_set_ne hj] at e
      obtain ⟨w, e1, r1⟩ := c.vl j d' e
      exact ⟨w, e1, r1.anti (mm_less hs)⟩
  · by_cases hj : i = j
    · subst hj
      cases set_out e
    · rw [List.getElem?_set_ne hj] at e
      obtain ⟨p, ws, e1, e2, r1, q⟩ := c.ow j t xs e
      exact ⟨p, ws, e1, e2, r1.anti (mm_less hs), q⟩
  · by_cases hj : i = j
    · subst hj
      cases set_out e1
    by_cases hk : i = k
    · subst hk
      cases set_out e2
    rw [List.getElem?_set_ne hj] at e1
    rw [List.getElem?_set_ne hk] at e2
    exact c.ds j k t u _ ys p hjk e1 e2 f1 f2
/-- an own dict becomes a value: its object is written no more -/
theorem Corr.frzD (c : Corr K Mo pins env σ H) {i : Nat} {t : Bool} {ks ds : List D} (hi : env[i]? = some (.own none (.dic t ks ds))) : ∃ p u, H p = some u ∧ Mut (some u) ∧ ∀ od, Corr K Mo pins (env.set i (.val (.dic t ks ds))) σ (upd H p (.frz od u)) ∧ FSt env (env.set i (.val (.dic t ks ds))) σ σ H (upd H p (.frz od u)) := by
  have hs : ∀ t' ys, Sl.val (.dic t ks ds) ≠ .own t' ys := fun t xs z => by cases z
  have il : i < env.length := (List.getElem?_eq_some_iff.mp hi).1
  obtain ⟨p, u, e1, e2, r1, n1, _⟩ := c.ow i none _ hi
  obtain ⟨vs, r2, q2⟩ := r1
  have op : Own env σ p := ⟨i, none, _, hi, e1⟩
  have np : ∀ j t ys, i ≠ j → env[j]? = some (.own t ys) → σ[j]? ≠ some (some (.ref p)) := fun j t ys hj f1 f2 => c.ds i j none t _ ys p hj hi f1 e1 f2
  refine ⟨p, u, e2, ?_, fun od => ?_⟩
  · cases t with
    | false =>
      obtain ⟨js, _, _, rfl⟩ := q2
      trivial
    | true =>
      obtain ⟨js, _, _, rfl⟩ := q2
      trivial
  have kw : KpW (Own env σ) H (upd H p (.frz od u)) := ⟨fun a o n e => by rw [upd_ne (fun z => n (by rw [z]; exact op))]; exact e, fun a o z e => by
    by_cases h : a = p
    · rw [h]; exact ⟨_, upd_same⟩
    · exact ⟨o, by rw [upd_ne h]; exact e⟩⟩
  have sb : ∀ a, MM Mo (env.set i (.val (.dic t ks ds))) σ a → MM Mo env σ a ∨ H a = none := fun a z => .inl (mm_less hs a z)
  have lf : ∀ {d : D} {v : V}, Rep K (MM Mo env σ) H d v → Rep K (MM Mo (env.set i (.val (.dic t ks ds))) σ) (upd H p (.frz od u)) d v := fun h => Rep.liftO kw.old c.om (fun a h => .inr h) sb h
  refine ⟨⟨by rw [List.length_set]; exact c.len, fun a ha => ?_, fun j d' e => ?_, fun j t xs e => ?_, fun j k t u xs ys p hjk e1 e2 f1 f2 => ?_⟩, ⟨kw, fun a z => .inl (own_less hs a z)⟩⟩
  · obtain ⟨o, e, m⟩ := c.al a ha
    exact ⟨o, by rw [upd_ne (fun z => n1 rfl (by rw [← z]; exact ha))]; exact e, m⟩
  · by_cases hj : i = j
    · subst hj
      have := set_out e
      cases this
      exact ⟨_, e1, p, vs, od, u, rfl, upd_same, Reps.liftO kw.old c.om (fun a h => .inr h) sb r2, q2⟩
    · rw [List.getElem?_set_ne hj] at e
      obtain ⟨w, e1, r1⟩ := c.vl j d' e
      exact ⟨w, e1, lf r1⟩
  · by_cases hj : i = j
    · subst hj
      cases set_out e
    · rw [List.getElem?_set_ne hj] at e
      obtain ⟨q, ws, f1, f2, r1, q1⟩ := c.ow j t xs e
      exact ⟨q, ws, f1, by rw [upd_ne (fun z => np j t xs hj e (by rw [← z]; exact f1))]; exact f2, RepO.liftO kw.old c.om (fun a h => .inr h) sb r1, q1⟩
  · by_cases hj : i = j
    · subst hj
      cases set_out e1
    by_cases hk : i = k
    · subst hk
      cases set_out e2
    rw [List.getElem?_set_ne hj] at e1
    rw [List.getElem?_set_ne hk] at e2
    exact c.ds j k t u _ ys p hjk e1 e2 f1 f2
/-- a new list is put into a slot as the frame's own -/
theorem own_put {i : Nat} {xs : D} {p : Addr} (a : Addr) : Own (env.set i (.own none xs)) (σ.set i (some (.ref p))) a → Own env σ a ∨ a = p := by
  rintro ⟨j, t, ys, e1, e2⟩
  by_cases hj : i = j
  · subst hj
    have := set_out e2
    cases this
    exact .inr rfl
  · rw [List.getElem?_set_ne hj] at e1 e2
    exact .inl ⟨j, t, ys, e1, e2⟩
theorem Corr.putOwn (c : Corr K M1 pins env σ H) {i : Nat} {p : Addr} {ws : HO} {xs : D} (e : H p = some ws) (r : RepO K (MM M1 env σ) H xs ws) (hp : M1 p) (no : ¬ Own env σ p) (hm : ∀ a, Mo a ↔ M1 a ∧ a ≠ p) : Corr K Mo pins (env.set i (.own none xs)) (σ.set i (some (.ref p))) H := by
  have anti : ∀ a, MM Mo (env.set i (.own none xs)) (σ.set i (some (.ref p))) a → MM M1 env σ a := fun a h => by
    rcases h with h | h
    · exact .inl ((hm a).mp h).1
    · rcases own_put a h with h | h
      · exact .inr h
      · exact .inl (by rw [h]; exact hp)
  refine ⟨by rw [List.length_set, List.length_set]; exact c.len, fun a h => c.al a ((hm a).mp h).1, fun j d' e' => ?_, fun j t ys e' => ?_, fun j k t u ys zs q hjk e1 e2 f1 f2 => ?_⟩
  · by_cases hj : i = j
    · subst hj
      cases set_out e'
    · rw [List.getElem?_set_ne hj] at e'
      obtain ⟨w, e1, r1⟩ := c.vl j d' e'
      exact ⟨w, by rw [List.getElem?_set_ne hj]; exact e1, r1.anti anti⟩
  · by_cases hj : i = j
    · subst hj
      have il : i < env.length := by
        have := (List.getElem?_eq_some_iff.mp e').1
        simpa using this
      have := set_out e'
      cases this
      exact ⟨p, ws, by rw [List.getElem?_set_self (by rw [← c.len]; exact il)], e, r.anti anti, fun _ z => ((hm p).mp z).2 rfl, fun k z => by cases z⟩
    · rw [List.getElem?_set_ne hj] at e'
      obtain ⟨q, vs, e1, e2, r1, n1, t1⟩ := c.ow j t ys e'
      refine ⟨q, vs, by rw [List.getElem?_set_ne hj]; exact e1, e2, r1.anti anti, fun z y => n1 z ((hm q).mp y).1, fun k z => ⟨(t1 k z).1, (hm q).mpr ⟨(t1 k z).2, fun y => ?_⟩⟩⟩
      subst y
      exact no ⟨j, t, ys, e', e1⟩
  · by_cases hj : i = j
    · subst hj
      have := set_out f1
      cases this
      rw [List.getElem?_set_ne hjk] at e2 f2
      exact no ⟨k, u, zs, e2, f2⟩
    · by_cases hk : i = k
      · subst hk
        have := set_out f2
        cases this
        rw [List.getElem?_set_ne hj] at e1 f1
        exact no ⟨j, t, ys, e1, f1⟩
      · rw [List.getElem?_set_ne hj] at e1 f1
        rw [List.getElem?_set_ne hk] at e2 f2
        exact c.ds j k t u ys zs q hjk e1 e2 f1 f2
theorem Corr.write (c : Corr K Mo pins env σ H) {i : Nat} {t : Option Nat} {xs ys : D} {p : Addr} {us : HO} (hi : env[i]? = some (.own t xs)) (hp : σ[i]? = some (some (.ref p))) (r : RepO K (MM Mo env σ) H ys us) :
    Corr K Mo pins (env.set i (.own t ys)) σ (upd H p us) ∧ FSt env (env.set i (.own t ys)) σ σ H (upd H p us) :=
  ⟨(c.writeS hi hp r).1, ((c.writeS hi hp r).2).fst c⟩
end

/-! ### what a statement's text asks -/
section
variable (F : CallF) (K : PySem.W.Frag) (fr : Bool)
def Fin (Mo : Addr → Prop) (pins : Nat → Addr) (env : En) (σ : L2.St) (H : Hp) (D : Ends) : Ctl → Prop
  | .nx e => ∀ σ' H', Corr K Mo pins e σ' H' → FSt env e σ σ' H H' → D.nx σ' H'
  | .ct e => ∀ σ' H', Corr K Mo pins e σ' H' → FSt env e σ σ' H H' → D.ct σ' H'
  | .brk e => ∀ σ' H', Corr K Mo pins e σ' H' → FSt env e σ σ' H H' → D.bk σ' H'
  | .ret d e => ∀ v σ' H', Corr K Mo pins e σ' H' → FSt env e σ σ' H H' → Rep K (MM Mo e σ') H' d v → (fr = true → FR K Mo pins e σ' H H' (.v d) v) → D.rt v H'
def tS (c : Sx) : TS := fun D σ H => ∃ Mo pins env r, Corr K Mo pins env σ H ∧ denS F c env = some r ∧ Fin K fr Mo pins env σ H D r
def tSs (c : Ss) : TS := fun D σ H => ∃ Mo pins env r, Corr K Mo pins env σ H ∧ denSs F c env = some r ∧ Fin K fr Mo pins env σ H D r
end
section
variable {F : CallF} {K : PySem.W.Frag} {fr : Bool} {Mo M1 : Addr → Prop} {pins : Nat → Addr} {env env' e1 e2 : En} {σ σ' σ1 σ2 : L2.St} {H H' H1 H2 : Hp} {D : Ends} {r : Ctl}
theorem Fin.shift (c : Corr K Mo pins env σ H) (s : FSt env e1 σ σ1 H H1) (h : Fin K fr Mo pins env σ H D r) : Fin K fr Mo pins e1 σ1 H1 D r := by
  cases r with
  | nx e => exact fun σ' H' C S => h σ' H' C (s.trans c S)
  | ct e => exact fun σ' H' C S => h σ' H' C (s.trans c S)
  | brk e => exact fun σ' H' C S => h σ' H' C (s.trans c S)
  | ret d e => exact fun v σ' H' C S R f => h v σ' H' C (s.trans c S) R fun z xs hx hc => (by
    obtain ⟨p, ws, g1, g2, g3⟩ := f z xs hx hc
    exact ⟨p, ws, g1, s.kp.back g2, g3⟩)
theorem rd_seq {s : Sx} {ss : Ss} (h : tSs F K fr (.cons s ss) D σ H) : tSeq (tS F K fr s) (tSs F K fr ss) D σ H := by
  obtain ⟨Mo, pins, env, r, C, hd, q⟩ := h
  simp only [denSs] at hd
  obtain ⟨c, d1, hd⟩ := obind hd
  refine ⟨Mo, pins, env, c, C, d1, ?_⟩
  cases c with
  | nx e1 => exact fun σ1 H1 C1 S1 => ⟨Mo, pins, e1, r, C1, hd, q.shift C S1⟩
  | ct e1 =>
    cases hd
    exact q
  | brk e1 =>
    cases hd
    exact q
  | ret d e1 =>
    cases hd
    exact q
theorem rd_nil (h : tSs F K fr .nil D σ H) : D.nx σ H := by
  obtain ⟨Mo, pins, env, r, C, hd, q⟩ := h
  simp only [denSs] at hd
  cases hd
  exact q σ H C .refl
theorem rd_frz {i : Nat} {ss : Ss} (h : tSs F K fr (.cons (.frz i) ss) D σ H) : tSs F K fr ss D σ H ∨ ∃ p u, H p = some u ∧ Mut (some u) ∧ ∀ od, tSs F K fr ss D σ (upd H p (.frz od u)) := by
  obtain ⟨Mo, pins, env, r, C, hd, q⟩ := h
  simp only [denSs] at hd
  obtain ⟨c, d1, hd⟩ := obind hd
  simp only [denS] at d1
  split at d1
  · rename_i d hi
    cases d1
    have hco : isCo d = true := by
      obtain ⟨p, o, _, _, r1, _⟩ := C.ow i none d hi
      exact r1.co
    cases d with
    | lst xs =>
      obtain ⟨C1, _⟩ := C.frz hi
      exact .inl ⟨Mo, pins, _, r, C1, hd, q.shift C (FSt.refl.less fun a z => own_less (fun t ys y => by cases y) a z)⟩
    | dic t ks ds =>
      obtain ⟨p, u, e1, m1, f⟩ := C.frzD hi
      exact .inr ⟨p, u, e1, m1, fun od => ⟨Mo, pins, _, r, (f od).1, hd, q.shift C (f od).2⟩⟩
    | non => cases hco
    | bl _ => cases hco
    | int _ => cases hco
    | str _ => cases hco
    | tup _ => cases hco
    | scr _ => cases hco
  · cases d1
theorem rd_brk (h : tS F K fr .brk D σ H) : tBreak D σ H := by
  obtain ⟨Mo, pins, env, r, C, hd, q⟩ := h
  simp only [denS] at hd
  cases hd
  exact q σ H C .refl
theorem rd_cnt (h : tS F K fr .cnt D σ H) : tCont D σ H := by
  obtain ⟨Mo, pins, env, r, C, hd, q⟩ := h
  simp only [denS] at hd
  cases hd
  exact q σ H C .refl
theorem rd_drop {a : Ex} (h : tS F K fr (.drop a) D σ H) : tDrop (tE F K a) D σ H := by
  obtain ⟨Mo, pins, env, r, C, hd, q⟩ := h
  simp only [denS] at hd
  obtain ⟨x, e1, d1, rfl⟩ := omap2 hd
  exact ⟨Mo, pins, env, x, e1, C, d1, fun v H1 C1 S1 r1 _ => q σ H1 C1 (S1.fst C)⟩
theorem rd_asg {t : Tg} {a : Ex} (h : tS F K fr (.asg t a) D σ H) : tAsg (tE F K a) (gT K t) D σ H := by
  obtain ⟨Mo, pins, env, r, C, hd, q⟩ := h
  simp only [denS] at hd
  obtain ⟨x, e1, d1, hd⟩ := obind2 hd
  obtain ⟨d, v1, hd⟩ := obind hd
  obtain ⟨e2, s1, rfl⟩ := omap hd
  exact ⟨Mo, pins, env, x, e1, C, d1, fun v H1 C1 S1 r1 _ => gT_ok C1 (rr_sol r1 v1) s1 fun σ2 C2 P => q σ2 H1 C2 ((S1.fst C).less P.ow)⟩
theorem rd_asgO {i : Nat} {a : Ex} (hf : isF a = true) (h : tS F K fr (.asgO i a) D σ H) : tAsg (tE F K a) (gName i) D σ H := by
  obtain ⟨Mo, pins, env, r, C, hd, q⟩ := h
  simp only [denS] at hd
  obtain ⟨x, e1, d1, hd⟩ := obind2 hd
  obtain ⟨d, v1, hd⟩ := obind hd
  obtain ⟨e2, s1, rfl⟩ := omap hd
  refine ⟨Mo, pins, env, x, e1, C, d1, fun v H1 C1 S1 r1 fr => ?_⟩
  unfold putSl at s1
  split at s1
  · cases ‹true = true›
    split at s1
    · rename_i hco
      cases s1
      cases x with
      | b j => cases v1
      | v d =>
        cases v1
        obtain ⟨p, ws, rfl, hn, hp, C2, R2⟩ := fr hf _ rfl hco
        have nM : ¬ Mo p := fun z => C.nofresh hn (.inl z)
        have nO : ¬ Own e1 σ p := fun z => C.nofresh hn (.inr ((S1.ownEq p).mp z))
        refine q _ H1 (C2.putOwn hp R2 (.inr rfl) nO fun a => ⟨fun z => ⟨.inl z, fun y => nM (by rw [← y]; exact z)⟩, fun z => z.1.resolve_right z.2⟩) ⟨S1.kp.w C.om, fun a z => ?_⟩
        rcases own_put a z with z | z
        · exact .inl ((S1.ownEq a).mp z)
        · rw [z]; exact .inr hn
    · cases s1
  · cases ‹true = false›
theorem rd_asgN {i : Nat} {t : Bool} (h : tS F K fr (.asgO i (.dic0 t)) D σ H) : tAsg (tNew t) (gName i) D σ H := by
  obtain ⟨Mo, pins, env, r, C, hd, q⟩ := h
  simp only [denS, denE, Option.bind_some, sol, putSl, isCo, if_true, Option.map_some, Option.some.injEq] at hd
  subst hd
  intro p o hn ho
  have nM : ¬ Mo p := fun z => C.nofresh hn (.inl z)
  have nO : ¬ Own env σ p := fun z => C.nofresh hn (.inr z)
  have C2 := C.plus hn (Exh.new hn) (upd_same (H := H) (a := p) (o := o)) (dicO_isM ho)
  refine q _ (upd H p o) (C2.putOwn (xs := .dic t [] []) upd_same ⟨[], rfl, ho⟩ (.inr rfl) nO fun a => ⟨fun z => ⟨.inl z, fun y => nM (by rw [← y]; exact z)⟩, fun z => z.1.resolve_right z.2⟩) ⟨KpW.ex (Exh.new hn), fun a z => ?_⟩
  rcases own_put a z with z | z
  · exact .inl z
  · rw [z]; exact .inr hn
theorem denE_slot : ∀ {a : Ex} {e e1 : En} {i : Nat}, denE F a e = some (.b i, e1) → isF a = false
  | .bin _ _ _, _, _, _, h => by
    simp only [denE] at h
    obtain ⟨x, e1, d1, h⟩ := obind2 h
    obtain ⟨y, e2, d2, h⟩ := obind2 h
    obtain ⟨u, _, h⟩ := obind h
    obtain ⟨w, _, h⟩ := obind h
    obtain ⟨d, _, h⟩ := omap h
    cases h
  | .lst _, _, _, _, h => by
    simp only [denE] at h
    obtain ⟨x, e1, d1, h⟩ := obind2 h
    obtain ⟨u, _, h⟩ := obind h
    split at h
    · cases h
    · cases h
  | .slc _ _ _, _, _, _, h => by
    simp only [denE] at h
    obtain ⟨x, e1, d1, h⟩ := obind2 h
    obtain ⟨y, e2, d2, h⟩ := obind2 h
    obtain ⟨z, e3, d3, h⟩ := obind2 h
    obtain ⟨w, _, h⟩ := obind h
    obtain ⟨d, _, h⟩ := omap h
    cases h
  | .slcS _ _ _ _, _, _, _, h => by
    simp only [denE] at h
    obtain ⟨x, e1, d1, h⟩ := obind2 h
    obtain ⟨y, e2, d2, h⟩ := obind2 h
    obtain ⟨z, e3, d3, h⟩ := obind2 h
    obtain ⟨z', e4, d4, h⟩ := obind2 h
    obtain ⟨w, _, h⟩ := obind h
    obtain ⟨d, _, h⟩ := omap h
    cases h
  | .bi _ _, _, _, _, h => by
    simp only [denE] at h
    obtain ⟨x, e1, d1, h⟩ := obind2 h
    obtain ⟨w, _, h⟩ := obind h
    obtain ⟨d, _, h⟩ := omap h
    cases h
  | .sset _, _, _, _, h => by
    simp only [denE] at h
    obtain ⟨x, e1, d1, h⟩ := obind2 h
    obtain ⟨w, _, h⟩ := obind h
    obtain ⟨d, _, h⟩ := omap h
    cases h
  | .minK _ _, _, _, _, h => by
    simp only [denE] at h
    obtain ⟨x, e1, d1, h⟩ := obind2 h
    obtain ⟨w, _, h⟩ := obind h
    obtain ⟨u, _, h⟩ := obind h
    obtain ⟨z, _, h⟩ := obind h
    split at h
    · obtain ⟨d, _, h⟩ := omap h
      cases h
    · cases h
  | .comp _ _ _ _ _, _, _, _, h => by
    rw [denE_comp] at h
    obtain ⟨x, e1, d1, h⟩ := obind2 h
    dsimp only at h
    split at h
    · obtain ⟨d, _, h⟩ := omap h
      cases h
    · cases h
  | .compO _ _ _ _ _, _, _, _, h => by
    rw [denE_compO] at h
    obtain ⟨x, e1, d1, h⟩ := obind2 h
    dsimp only at h
    split at h
    · obtain ⟨d, _, h⟩ := omap h
      cases h
    · cases h
  | .comp2 _ _ _ _ _ _ _ _, _, _, _, h => by
    rw [denE_comp2] at h
    obtain ⟨x, e1, d1, h⟩ := obind2 h
    dsimp only at h
    split at h
    · obtain ⟨d, _, h⟩ := omap h
      cases h
    · cases h
  | .call _ _ _ _, _, _, _, h => by
    simp only [denE] at h
    obtain ⟨x, e1, d1, h⟩ := obind2 h
    dsimp only at h
    split at h
    · obtain ⟨u, _, h⟩ := obind h
      obtain ⟨y, e2, d2, h⟩ := obind2 h
      obtain ⟨d, _, h⟩ := omap h
      cases h
    · cases h
  | .callK _ _ _ _, _, _, _, h => by
    simp only [denE] at h
    obtain ⟨x, e1, d1, h⟩ := obind2 h
    dsimp only at h
    split at h
    · obtain ⟨u, _, h⟩ := obind h
      obtain ⟨y, e2, d2, h⟩ := obind2 h
      obtain ⟨d, _, h⟩ := omap h
      cases h
    · cases h
  | .ite c a b, _, _, _, h => by
    simp only [denE] at h
    obtain ⟨x, e1, d1, h⟩ := obind2 h
    dsimp only at h
    split at h
    · split at h
      · rw [isF, denE_slot h]
        rfl
      · rw [isF, denE_slot h]
        exact Bool.and_false _
    · cases h
  | .var _, _, _, _, _ => rfl
  | .con _, _, _, _, _ => rfl
  | .glo _ _, _, _, _, _ => rfl
  | .neg _, _, _, _, _ => rfl
  | .cmp _ _ _, _, _, _, _ => rfl
  | .cmp2 _ _ _ _ _, _, _, _, _ => rfl
  | .isC _ _ _, _, _, _, _ => rfl
  | .ands _, _, _, _, _ => rfl
  | .ors _, _, _, _, _ => rfl
  | .nt _, _, _, _, _ => rfl
  | .tup _, _, _, _, _ => rfl
  | .idx _ _, _, _, _, _ => rfl
  | .dic0 _, _, _, _, _ => rfl
  | .pop _, _, _, _, _ => rfl
  | .index _ _, _, _, _, _ => rfl
  | .popA _ _, _, _, _, _ => rfl
  | .rl1 _ _, _, _, _, h => by
    simp only [denE] at h
    obtain ⟨x, e1, d1, h⟩ := obind2 h
    dsimp only at h
    split at h
    · split at h
      · cases h
      · cases h
    · cases h
  | .rl2 _ _ _, _, _, _, h => by
    simp only [denE] at h
    obtain ⟨x, e1, d1, h⟩ := obind2 h
    obtain ⟨x, e1, d1, h⟩ := obind2 h
    dsimp only at h
    split at h
    · split at h
      · cases h
      · cases h
    · cases h
  | .isi _ _, _, _, _, _ => rfl
theorem rd_ret {a : Ex} (hf : (!fr || isF a) = true) (h : tS F K fr (.ret a) D σ H) : tRet (tE F K a) D σ H := by
  obtain ⟨Mo, pins, env, r, C, hd, q⟩ := h
  simp only [denS] at hd
  obtain ⟨x, e1, d1, hd⟩ := obind2 hd
  refine ⟨Mo, pins, env, x, e1, C, d1, fun v H1 C1 S1 r1 fr' => ?_⟩
  cases x with
  | v d =>
    cases hd
    exact q v σ H1 C1 (S1.fst C) r1 fun z => fr' (by rw [z] at hf; simpa using hf)
  | b i =>
    simp only at hd
    split at hd
    · rename_i xs hi
      cases hd
      obtain ⟨C2, w, e2, R2⟩ := C1.frz hi
      rw [r1.1] at e2
      cases e2
      exact q v σ H1 C2 ((S1.fst C).less fun a z => own_less (fun t ys y => by cases y) a z) R2 fun z => absurd (denE_slot d1) (by
        rw [z] at hf
        have hf : isF a = true := by simpa using hf
        rw [hf]
        exact fun y => by cases y)
    · cases hd
theorem rd_if {c : Ex} {a b : Ss} (h : tS F K fr (.ifs c a b) D σ H) : tIfS (tT F K c) (tSs F K fr a) (tSs F K fr b) D σ H := by
  obtain ⟨Mo, pins, env, r, C, hd, q⟩ := h
  simp only [denS] at hd
  obtain ⟨k, e1, d0, hd⟩ := obind2 hd
  obtain ⟨⟨x, e2⟩, d1, d2⟩ := obind d0
  unfold testOf at d2
  split at d2
  · rename_i c0 hc0
    simp only at hc0 d2
    cases hc0
    cases d2
    refine ⟨Mo, pins, env, k, e1, C, d1, fun H1 C1 S1 => ?_⟩
    cases k with
    | true => exact ⟨Mo, pins, e1, r, C1, by simpa using hd, q.shift C (S1.fst C)⟩
    | false => exact ⟨Mo, pins, e1, r, C1, by simpa using hd, q.shift C (S1.fst C)⟩
  · cases d2
end
end PC
set_option Elab.async false
set_option linter.all false
set_option maxRecDepth 100000
/-! PyCore, part 13: statements: parallel stores, lists written, loops. -/
namespace PC
open PySem PySem.Spec PyProof.Rows L2

/-! ### a, b = x, y -/
/-- evaluated values, some of them new lists at places of M1 beyond Mo -/
def Items (K : PySem.W.Frag) (env : En) (σ : L2.St) (H0 H : Hp) (M1 : Addr → Prop) : List Bool → List D → List V → (Addr → Prop) → Prop
  | [], [], vs, Mo => vs = [] ∧ ∀ a, Mo a ↔ M1 a
  | false :: os, d :: ds, vs, Mo => ∃ v w, vs = v :: w ∧ Rep K (MM M1 env σ) H d v ∧ Items K env σ H0 H M1 os ds w Mo
  | true :: os, d :: ds, vs, Mo => ∃ p ws w, vs = .ref p :: w ∧ H0 p = none ∧ H p = some ws ∧ RepO K (MM M1 env σ) H d ws ∧ ¬ Mo p ∧ M1 p ∧ ¬ Own env σ p ∧ Items K env σ H0 H M1 os ds w (fun a => Mo a ∨ a = p)
  | _, _, _, _ => False
section
variable {F : CallF} {K : PySem.W.Frag} {Mo M1 M2 : Addr → Prop} {pins : Nat → Addr} {env env' e1 e2 : En} {σ σ' σ1 σ2 : L2.St} {H0 H H' H1 H2 : Hp}
theorem Items.sub : ∀ {os : List Bool} {ds : List D} {vs : List V} {Mo : Addr → Prop}, Items K env σ H0 H M1 os ds vs Mo → ∀ a, Mo a → M1 a
  | [], [], vs, Mo, h, a, z => (h.2 a).mp z
  | false :: os, d :: ds, vs, Mo, h, a, z => by
    obtain ⟨v, w, _, _, h⟩ := h
    exact h.sub a z
  | true :: os, d :: ds, vs, Mo, h, a, z => by
    obtain ⟨p, ws, w, _, _, _, _, _, _, _, h⟩ := h
    exact h.sub a (.inl z)
  | [], _ :: _, _, _, h, _, _ => h.elim
  | false :: _, [], _, _, h, _, _ => h.elim
  | true :: _, [], _, _, h, _, _ => h.elim
/-- one of the places leaves; the slots may shrink -/
theorem Items.drop {p : Addr} (ow : ∀ a, Own env' σ' a → Own env σ a ∨ a = p) : ∀ {os : List Bool} {ds : List D} {vs : List V} {Mo : Addr → Prop}, Items K env σ H0 H M1 os ds vs Mo → Mo p → Items K env' σ' H0 H (fun a => M1 a ∧ a ≠ p) os ds vs (fun a => Mo a ∧ a ≠ p)
  | [], [], vs, Mo, h, hp => ⟨h.1, fun a => ⟨fun z => ⟨(h.2 a).mp z.1, z.2⟩, fun z => ⟨(h.2 a).mpr z.1, z.2⟩⟩⟩
  | false :: os, d :: ds, vs, Mo, h, hp => by
    obtain ⟨v, w, e, R, h⟩ := h
    refine ⟨v, w, e, R.anti fun a z => ?_, h.drop ow hp⟩
    rcases z with z | z
    · exact .inl z.1
    · rcases ow a z with z | z
      · exact .inr z
      · exact .inl (by rw [z]; exact h.sub p hp)
  | true :: os, d :: ds, vs, Mo, h, hp => by
    obtain ⟨q, ws, w, e, h0, e1, R, n1, m1, n2, h⟩ := h
    have hq : q ≠ p := fun z => n1 (by rw [z]; exact hp)
    have h' := h.drop ow (.inl hp)
    refine ⟨q, ws, w, e, h0, e1, R.anti fun a z => ?_, fun z => n1 z.1, ⟨m1, hq⟩, fun z => ?_, ?_⟩
    · rcases z with z | z
      · exact .inl z.1
      · rcases ow a z with z | z
        · exact .inr z
        · exact .inl (by rw [z]; exact h.sub p (.inl hp))
    · rcases ow q z with z | z
      · exact n2 z
      · exact hq z
    · have : (fun a => (Mo a ∨ a = q) ∧ a ≠ p) = (fun a => (Mo a ∧ a ≠ p) ∨ a = q) := funext fun a => propext ⟨fun z => z.1.elim (fun y => .inl ⟨y, z.2⟩) .inr, fun z => z.elim (fun y => ⟨.inl y.1, y.2⟩) (fun y => ⟨.inr y, by rw [y]; exact hq⟩)⟩
      rw [← this]
      exact h'
  | [], _ :: _, _, _, h, _ => h.elim
  | false :: _, [], _, _, h, _ => h.elim
  | true :: _, [], _, _, h, _ => h.elim
theorem Items.anti (ow : ∀ a, Own env' σ' a → Own env σ a) : ∀ {os : List Bool} {ds : List D} {vs : List V} {Mo : Addr → Prop}, Items K env σ H0 H M1 os ds vs Mo → Items K env' σ' H0 H M1 os ds vs Mo
  | [], [], vs, Mo, h => h
  | false :: os, d :: ds, vs, Mo, h => by
    obtain ⟨v, w, e, R, h⟩ := h
    exact ⟨v, w, e, R.anti fun a z => z.elim .inl fun z => .inr (ow a z), h.anti ow⟩
  | true :: os, d :: ds, vs, Mo, h => by
    obtain ⟨q, ws, w, e, h0, e1, R, n1, m1, n2, h⟩ := h
    exact ⟨q, ws, w, e, h0, e1, R.anti fun a z => z.elim .inl fun z => .inr (ow a z), n1, m1, fun z => n2 (ow q z), h.anti ow⟩
  | [], _ :: _, _, _, h => h.elim
  | false :: _, [], _, _, h => h.elim
  | true :: _, [], _, _, h => h.elim
def setVs : L2.St → List Nat → List V → L2.St
  | σ, i :: is, v :: vs => setVs (σ.set i (some v)) is vs
  | σ, _, _ => σ
theorem items_put : ∀ {is : List Nat} {os : List Bool} {ds : List D} {vs : List V} {Mo M1 : Addr → Prop} {env env' : En} {σ : L2.St}, Corr K M1 pins env σ H → Items K env σ H0 H M1 os ds vs Mo → putSls is os ds env = some env' →
    Corr K Mo pins env' (setVs σ is vs) H ∧ ∀ a, Own env' (setVs σ is vs) a → Own env σ a ∨ H0 a = none
  | [], [], [], vs, Mo, M1, env, env', σ, C, I, h => by
    cases h
    obtain ⟨rfl, e⟩ := I
    have : Mo = M1 := funext fun a => propext (e a)
    rw [this]
    exact ⟨C, fun a z => .inl z⟩
  | i :: is, false :: os, d :: ds, vs, Mo, M1, env, env', σ, C, I, h => by
    obtain ⟨v, w, rfl, R, I⟩ := I
    simp only [putSls, putSl, Option.bind_some] at h
    obtain ⟨C2, o2⟩ := items_put (is := is) (C.put i R) (I.anti fun a z => own_set a z) h
    exact ⟨C2, fun a z => (o2 a z).elim (fun z => .inl (own_set a z)) .inr⟩
  | i :: is, true :: os, d :: ds, vs, Mo, M1, env, env', σ, C, I, h => by
    obtain ⟨p, ws, w, rfl, h0, e1, R, n1, m1, n2, I⟩ := I
    simp only [putSls, putSl, R.co, if_true, Option.bind_some] at h
    have C1 := C.putOwn (Mo := fun a => M1 a ∧ a ≠ p) (i := i) e1 R m1 n2 fun a => Iff.rfl
    have I1 := I.drop (env' := env.set i (.own none d)) (σ' := σ.set i (some (.ref p))) (fun a z => own_put a z) (.inr rfl)
    have : (fun a => (Mo a ∨ a = p) ∧ a ≠ p) = Mo := funext fun a => propext ⟨fun z => z.1.resolve_right z.2, fun z => ⟨.inl z, fun y => n1 (by rw [← y]; exact z)⟩⟩
    rw [this] at I1
    obtain ⟨C2, o2⟩ := items_put (is := is) C1 I1 h
    exact ⟨C2, fun a z => (o2 a z).elim (fun z => (own_put a z).elim .inl fun y => .inr (by rw [y]; exact h0)) .inr⟩
  | [], [], _ :: _, _, _, _, _, _, _, _, I, h => I.elim
  | [], _ :: _, _, _, _, _, _, _, _, _, I, h => by simp [putSls] at h
  | _ :: _, [], _, _, _, _, _, _, _, _, I, h => by simp [putSls] at h
  | _ :: _, _ :: _, [], _, _, _, _, _, _, _, I, h => by simp [putSls] at h
theorem Items.sup : ∀ {os : List Bool} {ds : List D} {vs : List V} {Mo : Addr → Prop}, Items K env σ H0 H M1 os ds vs Mo → ∀ a, M1 a → Mo a ∨ H0 a = none
  | [], [], vs, Mo, h, a, z => .inl ((h.2 a).mpr z)
  | false :: os, d :: ds, vs, Mo, h, a, z => by
    obtain ⟨v, w, _, _, h⟩ := h
    exact h.sup a z
  | true :: os, d :: ds, vs, Mo, h, a, z => by
    obtain ⟨p, ws, w, _, h0, _, _, _, _, _, h⟩ := h
    rcases h.sup a z with (z | z) | z
    · exact .inl z
    · exact .inr (by rw [z]; exact h0)
    · exact .inr z
  | [], _ :: _, _, _, h, _, _ => h.elim
  | false :: _, [], _, _, h, _, _ => h.elim
  | true :: _, [], _, _, h, _, _ => h.elim
theorem Items.h0 (hb : ∀ p, H0 p = none → H' p = none) : ∀ {os : List Bool} {ds : List D} {vs : List V} {Mo : Addr → Prop}, Items K env σ H0 H M1 os ds vs Mo → Items K env σ H' H M1 os ds vs Mo
  | [], [], vs, Mo, h => h
  | false :: os, d :: ds, vs, Mo, h => by
    obtain ⟨v, w, e, R, h⟩ := h
    exact ⟨v, w, e, R, h.h0 hb⟩
  | true :: os, d :: ds, vs, Mo, h => by
    obtain ⟨q, ws, w, e, h0, e1, R, n1, m1, n2, h⟩ := h
    exact ⟨q, ws, w, e, hb q h0, e1, R, n1, m1, n2, h.h0 hb⟩
  | [], _ :: _, _, _, h => h.elim
  | false :: _, [], _, _, h => h.elim
  | true :: _, [], _, _, h => h.elim
/-- flagged values are lists -/
def flagOk : List Bool → List D → Prop
  | [], [] => True
  | false :: os, _ :: ds => flagOk os ds
  | true :: os, d :: ds => isCo d = true ∧ flagOk os ds
  | _, _ => False
theorem putSls_flag : ∀ {is : List Nat} {os : List Bool} {ds : List D} {env env' : En}, putSls is os ds env = some env' → flagOk os ds
  | [], [], [], _, _, _ => trivial
  | i :: is, false :: os, d :: ds, _, _, h => by
    obtain ⟨e, _, h⟩ := obind h
    exact putSls_flag (is := is) (os := os) (ds := ds) h
  | i :: is, true :: os, d :: ds, _, _, h => by
    obtain ⟨e, h1, h⟩ := obind h
    refine ⟨?_, putSls_flag (is := is) (os := os) (ds := ds) h⟩
    unfold putSl at h1
    split at h1
    · split at h1
      · assumption
      · cases h1
    · cases ‹true = false›
  | [], [], _ :: _, _, _, h => by simp [putSls] at h
  | [], _ :: _, _, _, _, h => by simp [putSls] at h
  | _ :: _, [], _, _, _, h => by simp [putSls] at h
  | _ :: _, _ :: _, [], _, _, h => by simp [putSls] at h
def tP (F : CallF) (K : PySem.W.Frag) (os : List Bool) (c : Es) : TA := fun σ H Q => ∃ Mo pins env rs ds env', Corr K Mo pins env σ H ∧ denA F c env = some (rs, env') ∧ rs.mapM sol = some ds ∧ flagOk os ds ∧
  ∀ vs H' M1, Corr K M1 pins env' σ H' → Stp env env' σ H H' → Items K env' σ H H' M1 os ds vs Mo → Q vs H'
end
section
variable {X : Cx} {F : CallF} {e : Expr} {l : List Expr} {a : Ex} {es : Es} {os : List Bool} {o : Bool}
theorem p_nil : PA X [] (tP F X.K [] .nil) := by
  refine PA.imp pa_nil fun σ H Q h => ?_
  obtain ⟨Mo, pins, env, rs, ds, env', C, hd, hm, hl, q⟩ := h
  simp only [denA] at hd
  cases hd
  cases ds with
  | cons _ _ => cases hl
  | nil => exact q [] H Mo C .refl ⟨rfl, fun a => Iff.rfl⟩
theorem p_cons (h1 : PE X e (tE F X.K a)) (hf : (!o || isF a) = true) (h2 : PA X l (tP F X.K os es)) (hs : starEach (e :: l) X.env = (false, eval e X.env) :: starEach l X.env) : PA X (e :: l) (tP F X.K (o :: os) (.cons a es)) := by
  refine PA.imp (pa_cons h1 h2 hs) fun σ H Q h => ?_
  obtain ⟨Mo, pins, env, rs, ds, env', C, hd, hm, hl, q⟩ := h
  simp only [denA] at hd
  obtain ⟨x, e1, d1, hd⟩ := obind2 hd
  obtain ⟨rs', e2, d2, hd⟩ := omap2 hd
  cases hd
  obtain ⟨d, ds', s1, s2, rfl⟩ := mapM_cons hm
  refine ⟨Mo, pins, env, x, e1, C, d1, fun v H1 C1 S1 r1 fr => ?_⟩
  cases o with
  | false =>
    refine ⟨Mo, pins, e1, rs', ds', e2, C1, d2, s2, hl, fun vs H2 M1 C2 S2 I2 => q (v :: vs) H2 M1 C2 (S1.trans S2) ⟨v, vs, rfl, ?_, I2.h0 fun p z => C.none_back S1 z⟩⟩
    refine Rep.lift S2.kp C1.om (fun a h => .inr h) (fun a h => ?_) (rr_sol r1 s1)
    rcases h with h | h
    · exact (I2.sup a h).elim (fun z => .inl (.inl z)) .inr
    · exact .inl (.inr ((S2.ownEq a).mp h))
  | true =>
    obtain ⟨hco, hl⟩ := hl
    cases x with
    | b j => cases s1
    | v d =>
      cases s1
      obtain ⟨p, ws, rfl, hn, hp, Cp, R2⟩ := fr (by simpa using hf) _ rfl hco
      have nM : ¬ Mo p := fun z => C.nofresh hn (.inl z)
      have nO : ¬ Own e1 σ p := fun z => C.nofresh hn (.inr ((S1.ownEq p).mp z))
      refine ⟨fun a => Mo a ∨ a = p, pins, e1, rs', ds', e2, Cp, d2, s2, hl, fun vs H2 M1 C2 S2 I2 => q (.ref p :: vs) H2 M1 C2 (S1.trans S2) ⟨p, ws, vs, rfl, hn, S2.kp.old p _ nO hp, ?_, nM, I2.sub p (.inr rfl), fun z => nO ((S2.ownEq p).mp z), I2.h0 fun p z => C.none_back S1 z⟩⟩
      refine RepO.lift S2.kp Cp.om (fun a h => .inr h) (fun a h => ?_) R2
      rcases h with h | h
      · exact (I2.sup a h).elim (fun z => .inl (.inl z)) .inr
      · exact .inl (.inr ((S2.ownEq a).mp h))
theorem p_consN {t : Bool} {dp : Pos} (h2 : PA X l (tP F X.K os es)) : PA X (.Dict [] [] dp :: l) (tP F X.K (true :: os) (.cons (.dic0 t) es)) := by
  refine PA.imp (pa_cons (e_new (X := X) (pos := dp) (t := t)) h2 rfl) fun σ H Q h => ?_
  obtain ⟨Mo, pins, env, rs, ds, env', C, hd, hm, hl, q⟩ := h
  simp only [denA, denE, Option.bind_some] at hd
  obtain ⟨rs', e2, d2, hd⟩ := omap2 hd
  cases hd
  obtain ⟨d, ds', s1, s2, rfl⟩ := mapM_cons hm
  cases s1
  obtain ⟨hco, hl⟩ := hl
  intro p o hn ho
  have nM : ¬ Mo p := fun z => C.nofresh hn (.inl z)
  have nO : ¬ Own env σ p := fun z => C.nofresh hn (.inr z)
  have Cp := C.plus hn (Exh.new hn) (upd_same (H := H) (a := p) (o := o)) (dicO_isM ho)
  refine ⟨fun a => Mo a ∨ a = p, pins, env, rs', ds', e2, Cp, d2, s2, hl, fun vs H2 M1 C2 S2 I2 => ?_⟩
  have S1 : Stp env env σ H (upd H p o) := .ex (Exh.new hn)
  refine q (.ref p :: vs) H2 M1 C2 (S1.trans S2) ⟨p, o, vs, rfl, hn, S2.kp.old p _ nO upd_same, ⟨[], rfl, ho⟩, nM, I2.sub p (.inr rfl), fun z => nO ((S2.ownEq p).mp z), I2.h0 fun p z => C.none_back S1 z⟩
end

section
variable {F : CallF} {K : PySem.W.Frag} {fr : Bool} {D : Ends} {σ : L2.St} {H : Hp}
theorem rd_par {is : List Nat} {os : List Bool} {es : Es} (h : tS F K fr (.par is os es) D σ H) : tP F K os es σ H fun vs H1 => D.nx (setVs σ is vs) H1 := by
  obtain ⟨Mo, pins, env, r, C, hd, q⟩ := h
  simp only [denS] at hd
  obtain ⟨rs, e1, d1, hd⟩ := obind2 hd
  obtain ⟨ds, v1, hd⟩ := obind hd
  obtain ⟨e2, s1, rfl⟩ := omap hd
  refine ⟨Mo, pins, env, rs, ds, e1, C, d1, v1, putSls_flag s1, fun vs H1 M1 C1 S1 I1 => ?_⟩
  obtain ⟨C2, o2⟩ := items_put C1 I1 s1
  exact q _ H1 C2 ⟨S1.kp.w C.om, fun a z => (o2 a z).elim (fun y => .inl ((S1.ownEq a).mp y)) .inr⟩
theorem items_len {env : En} {H0 : Hp} {M1 : Addr → Prop} : ∀ {os : List Bool} {ds : List PC.D} {vs : List V} {Mo : Addr → Prop}, Items K env σ H0 H M1 os ds vs Mo → vs.length = os.length
  | [], [], vs, Mo, h => by rw [h.1]; rfl
  | false :: os, d :: ds, vs, Mo, h => by
    obtain ⟨v, w, e, R, h⟩ := h
    rw [e, List.length_cons, List.length_cons, items_len h]
  | true :: os, d :: ds, vs, Mo, h => by
    obtain ⟨p, ws, w, e, _, _, _, _, _, _, h⟩ := h
    rw [e, List.length_cons, List.length_cons, items_len h]
  | [], _ :: _, _, _, h => h.elim
  | false :: _, [], _, _, h => h.elim
  | true :: _, [], _, _, h => h.elim
theorem tP_len {os : List Bool} {es : Es} {Q : List V → Hp → Prop} (h : tP F K os es σ H fun vs H1 => vs.length = os.length → Q vs H1) : tP F K os es σ H Q := by
  obtain ⟨Mo, pins, env, rs, ds, env', C, hd, hm, hl, q⟩ := h
  exact ⟨Mo, pins, env, rs, ds, env', C, hd, hm, hl, fun vs H1 M1 C1 S1 I1 => q vs H1 M1 C1 S1 I1 (items_len I1)⟩
theorem tP_mono {os : List Bool} {es : Es} {Q Q' : List V → Hp → Prop} (h : tP F K os es σ H Q) (w : ∀ vs H, Q vs H → Q' vs H) : tP F K os es σ H Q' := by
  obtain ⟨Mo, pins, env, rs, ds, env', C, hd, hm, hl, q⟩ := h
  exact ⟨Mo, pins, env, rs, ds, env', C, hd, hm, hl, fun vs H1 M1 C1 S1 I1 => w _ _ (q vs H1 M1 C1 S1 I1)⟩
theorem rd_par2 {i j : Nat} {o p : Bool} {es : Es} (h : tS F K fr (.par [i, j] [o, p] es) D σ H) : tPar i j (tP F K [o, p] es) D σ H := by
  refine tP_len (tP_mono (rd_par h) fun vs H1 q hl => ?_)
  match vs, hl, q with
  | [v, w], _, q => exact ⟨v, w, rfl, q⟩
theorem rd_par3 {i j l : Nat} {o p t : Bool} {es : Es} (h : tS F K fr (.par [i, j, l] [o, p, t] es) D σ H) : tPar3 i j l (tP F K [o, p, t] es) D σ H := by
  refine tP_len (tP_mono (rd_par h) fun vs H1 q hl => ?_)
  match vs, hl, q with
  | [v, w, z], _, q => exact ⟨v, w, z, rfl, q⟩

/-- names, one after another -/
def gNames : List Nat → TGs
  | [] => gNil
  | i :: is => gCons (gName i) (gNames is)
theorem gNames_ok : ∀ {is : List Nat} {vs : List V} {σ : L2.St} {H : Hp} {Q : L2.St → Hp → Prop}, vs.length = is.length → Q (setVs σ is vs) H → gNames is vs σ H Q
  | [], [], σ, H, Q, _, q => ⟨rfl, q⟩
  | [], _ :: _, _, _, _, h, _ => by cases h
  | _ :: _, [], _, _, _, h, _ => by cases h
  | i :: is, v :: vs, σ, H, Q, h, q => ⟨v, vs, rfl, gNames_ok (is := is) (by simpa using h) q⟩
theorem Items.ex {env : En} {H0 H' : Hp} {M1 : Addr → Prop} (ex : ∀ a o, H a = some o → H' a = some o) : ∀ {os : List Bool} {ds : List PC.D} {vs : List V} {Mo : Addr → Prop}, Items K env σ H0 H M1 os ds vs Mo → Items K env σ H0 H' M1 os ds vs Mo
  | [], [], vs, Mo, h => h
  | false :: os, d :: ds, vs, Mo, h => by
    obtain ⟨v, w, e, R, h⟩ := h
    exact ⟨v, w, e, R.ex ex, h.ex ex⟩
  | true :: os, d :: ds, vs, Mo, h => by
    obtain ⟨q, ws, w, e, h0, e1, R, n1, m1, n2, h⟩ := h
    exact ⟨q, ws, w, e, h0, ex _ _ e1, R.lift (O := fun _ => False) (.ex ex) (fun _ z => z.elim) (fun _ z => z.elim) fun a z => .inl z, n1, m1, n2, h.ex ex⟩
  | [], _ :: _, _, _, h => h.elim
  | false :: _, [], _, _, h => h.elim
  | true :: _, [], _, _, h => h.elim
theorem putSls_len : ∀ {is : List Nat} {os : List Bool} {ds : List PC.D} {env env' : En}, putSls is os ds env = some env' → is.length = os.length
  | [], [], [], _, _, _ => rfl
  | i :: is, o :: os, d :: ds, _, _, h => by
    obtain ⟨e, _, h⟩ := obind h
    rw [List.length_cons, List.length_cons, putSls_len (is := is) (os := os) (ds := ds) h]
  | [], [], _ :: _, _, _, h => by simp [putSls] at h
  | [], _ :: _, _, _, _, h => by simp [putSls] at h
  | _ :: _, [], _, _, _, h => by simp [putSls] at h
  | _ :: _, _ :: _, [], _, _, h => by simp [putSls] at h
theorem rd_parT {is : List Nat} {os : List Bool} {es : Es} (h : tS F K fr (.par is os es) D σ H) (hz : os.length ≤ 1000) : tP F K os es σ H fun vs H1 => vs.length ≤ sizeLine ∧ ∀ p, H1 p = none → gTup K is.length (gNames is) (.ref p) σ (upd H1 p (.tup vs)) D.nx := by
  obtain ⟨Mo, pins, env, r, C, hd, q⟩ := h
  simp only [denS] at hd
  obtain ⟨rs, e1, d1, hd⟩ := obind2 hd
  obtain ⟨ds, v1, hd⟩ := obind hd
  obtain ⟨e2, s1, rfl⟩ := omap hd
  refine ⟨Mo, pins, env, rs, ds, e1, C, d1, v1, putSls_flag s1, fun vs H1 M1 C1 S1 I1 => ?_⟩
  have hl := items_len I1
  have hi := putSls_len s1
  refine ⟨by rw [hl, sizeLine_eq]; omega, fun p hp => ⟨p, vs, rfl, .inl (.inl upd_same), by omega, gNames_ok (by omega) ?_⟩⟩
  obtain ⟨C2, o2⟩ := items_put (C1.ex (Exh.new hp)) (I1.ex (Exh.new hp)) s1
  exact q _ _ C2 ⟨(S1.trans (.ex (Exh.new hp))).kp.w C.om, fun a z => (o2 a z).elim (fun y => .inl ((S1.ownEq a).mp y)) .inr⟩

/-! ### name op= e -/
theorem rd_augA {i : Nat} {a : Ex} (h : tS F K fr (.aug i .add a) D σ H) : tAug i (tE F K a) (ipI fun i j => i + j) D σ H := by
  obtain ⟨Mo, pins, env, r, C, hd, q⟩ := h
  simp only [denS] at hd
  obtain ⟨x0, v0, hd1⟩ := obind hd
  obtain ⟨u, v1, hd2⟩ := obind hd1
  obtain ⟨y, e1, d1, hd3⟩ := obind2 hd2
  obtain ⟨w, v2, hd4⟩ := obind hd3
  clear hd hd1 hd2 hd3
  unfold varR at v0
  split at v0
  · rename_i d hi
    cases v0
    cases v1
    obtain ⟨v, g1, R⟩ := C.vl i _ hi
    split at hd4
    · cases hd4
      refine ⟨v, g1, Mo, pins, env, y, e1, C, d1, fun v' H1 C1 S1 r1 _ => ?_⟩
      have R1 : v = .int _ := R
      have R2 : v' = .int _ := rr_sol r1 v2
      subst R1 R2
      exact ⟨_, _, rfl, rfl, q _ H1 (C1.put i (d := .int _) rfl) ((S1.fst C).less fun a z => own_set a z)⟩
    · cases ‹BOp.add = .sub›
    · cases hd4
  · cases v0
    cases v1
  · cases v0
theorem rd_augS {i : Nat} {a : Ex} (h : tS F K fr (.aug i .sub a) D σ H) : tAug i (tE F K a) (ipI fun i j => i - j) D σ H := by
  obtain ⟨Mo, pins, env, r, C, hd, q⟩ := h
  simp only [denS] at hd
  obtain ⟨x0, v0, hd1⟩ := obind hd
  obtain ⟨u, v1, hd2⟩ := obind hd1
  obtain ⟨y, e1, d1, hd3⟩ := obind2 hd2
  obtain ⟨w, v2, hd4⟩ := obind hd3
  clear hd hd1 hd2 hd3
  unfold varR at v0
  split at v0
  · rename_i d hi
    cases v0
    cases v1
    obtain ⟨v, g1, R⟩ := C.vl i _ hi
    split at hd4
    · cases ‹BOp.sub = .add›
    · cases hd4
      refine ⟨v, g1, Mo, pins, env, y, e1, C, d1, fun v' H1 C1 S1 r1 _ => ?_⟩
      have R1 : v = .int _ := R
      have R2 : v' = .int _ := rr_sol r1 v2
      subst R1 R2
      exact ⟨_, _, rfl, rfl, q _ H1 (C1.put i (d := .int _) rfl) ((S1.fst C).less fun a z => own_set a z)⟩
    · cases hd4
  · cases v0
    cases v1
  · cases v0

/-! ### lists written -/
/-- the frame's own list, read by its name -/
theorem own_read {Mo : Addr → Prop} {pins : Nat → Addr} {env : En} {i : Nat} {t : Option Nat} {xs : PC.D} {Q : VK} (C : Corr K Mo pins env σ H) (hi : env[i]? = some (.own t xs)) (q : ∀ p ws, σ[i]? = some (some (.ref p)) → H p = some ws → RepO K (MM Mo env σ) H xs ws → Q (.ref p) H) : tVar i σ H Q := by
  obtain ⟨p, ws, e1, e2, R, _⟩ := C.ow i t xs hi
  exact ⟨_, e1, q p ws e1 e2 R⟩
theorem isOwn_of {e : En} {i : Nat} (h : ¬ isOwn e i = false) : ∃ t xs, e[i]? = some (.own t (.lst xs)) := by
  unfold isOwn at h
  split at h
  · exact ⟨_, _, by assumption⟩
  · exact absurd rfl h
theorem rd_app {i : Nat} {a : Ex} (h : tS F K fr (.app i a) D σ H) : tDrop (tBM K "list" rAppend (tVar i) (tCons (tE F K a) tNil)) D σ H := by
  obtain ⟨Mo, pins, env, r, C, hd, q⟩ := h
  simp only [denS] at hd
  split at hd
  · cases hd
  · rename_i ho
    obtain ⟨t, xs, hi⟩ := isOwn_of ho
    obtain ⟨x, e1, d1, hd⟩ := obind2 hd
    obtain ⟨d, v1, hd⟩ := obind hd
    show tVar i σ H (fun x H1 => tyV K "list" x H1 ∧ (tCons (tE F K a) tNil) σ H1 fun xs H2 => rAppend x xs H2 fun _ H3 => D.nx σ H3)
    refine own_read C hi fun p ws0 g1 g20 R0 => ?_
    obtain ⟨ws, rfl, R⟩ := R0.lstOf
    have g2 := g20
    refine ⟨.inl ⟨rfl, ws, .inl (.inl g2)⟩, Mo, pins, env, x, e1, C, d1, fun v H1 C1 S1 r1 _ => ?_⟩
    split at hd
    · rename_i u ys hj
      split at hd
      · rename_i hlen
        cases hd
        obtain ⟨p', us0, k1, k2, R20, _⟩ := C1.ow i u (.lst ys) hj
        rw [g1] at k1
        cases k1
        obtain ⟨us, rfl, R2⟩ := R20.lstOf
        obtain ⟨C2, S2⟩ := C1.write (ys := .lst _) (us := .lst _) hj g1 ⟨_, rfl, R2.append (.cons (rr_sol r1 v1) .nil)⟩
        exact ⟨p, us, v, rfl, rfl, k2, by rw [← R2.length]; exact hlen, q σ _ C2 ((S1.fst C).trans C S2)⟩
      · cases hd
    · cases hd
theorem rd_ext {i : Nat} {a : Ex} (h : tS F K fr (.ext i a) D σ H) : tDrop (tBM K "list" rExtend (tVar i) (tCons (tE F K a) tNil)) D σ H := by
  obtain ⟨Mo, pins, env, r, C, hd, q⟩ := h
  simp only [denS] at hd
  split at hd
  · cases hd
  · rename_i ho
    obtain ⟨t, xs, hi⟩ := isOwn_of ho
    obtain ⟨x, e1, d1, hd⟩ := obind2 hd
    obtain ⟨d, v1, hd⟩ := obind hd
    show tVar i σ H (fun x H1 => tyV K "list" x H1 ∧ (tCons (tE F K a) tNil) σ H1 fun xs H2 => rExtend x xs H2 fun _ H3 => D.nx σ H3)
    refine own_read C hi fun p ws0 g1 g20 R0 => ?_
    obtain ⟨ws, rfl, R⟩ := R0.lstOf
    have g2 := g20
    refine ⟨.inl ⟨rfl, ws, .inl (.inl g2)⟩, Mo, pins, env, x, e1, C, d1, fun v H1 C1 S1 r1 _ => ?_⟩
    split at hd
    · rename_i u ys zs hj
      split at hd
      · rename_i hlen
        cases hd
        obtain ⟨p', us0, k1, k2, R20, _⟩ := C1.ow i u (.lst ys) hj
        rw [g1] at k1
        cases k1
        obtain ⟨us, rfl, R2⟩ := R20.lstOf
        obtain ⟨b, zv, rfl, _, m2, R3⟩ := rr_sol r1 v1
        obtain ⟨C2, S2⟩ := C1.write (ys := .lst _) (us := .lst _) hj g1 ⟨_, rfl, R2.append R3⟩
        exact ⟨p, b, us, zv, rfl, rfl, k2, m2, by rw [← R2.length, ← R3.length]; exact hlen, q σ _ C2 ((S1.fst C).trans C S2)⟩
      · cases hd
    · cases hd
theorem isOwnD_of {e : En} {i : Nat} (h : ¬ isOwnD e i = false) : ∃ t b ks vs, e[i]? = some (.own t (.dic b ks vs)) := by
  unfold isOwnD at h
  split at h
  · exact ⟨_, _, _, _, by assumption⟩
  · exact absurd rfl h
theorem rd_put {i : Nat} {ix a : Ex} (h : tS F K fr (.put i ix a) D σ H) : sDPut (tVar i) (tE F K ix) (tE F K a) D σ H := by
  obtain ⟨Mo, pins, env, r, C, hd, q⟩ := h
  simp only [denS] at hd
  split at hd
  · cases hd
  · rename_i ho
    obtain ⟨t, b0, ks0, vs0, hi⟩ := isOwnD_of ho
    obtain ⟨x, e1, d1, hd⟩ := obind2 hd
    obtain ⟨y, e2, d2, hd⟩ := obind2 hd
    obtain ⟨d, v1, hd⟩ := obind hd
    obtain ⟨k, v2, hd⟩ := obind hd
    refine ⟨Mo, pins, env, x, e1, C, d1, fun v H1 C1 S1 r1 _ => ?_⟩
    obtain ⟨ys, hi1⟩ := S1.own i t _ hi
    refine own_read C1 hi1 fun p ws g1 g2 R => ⟨Mo, pins, e1, y, e2, C1, d2, fun w H2 C2 S2 r2 _ => ?_⟩
    split at hd
    · rename_i t' b ks vs hj
      split at hd
      · rename_i hlen
        obtain ⟨r', hp, rfl⟩ := omap hd
        obtain ⟨p', u, k1, k2, R2, _⟩ := C2.ow i _ _ hj
        rw [g1] at k1
        cases k1
        obtain ⟨us, R3, dq⟩ := R2
        obtain ⟨u', h1, h2⟩ := dPut_put hp k2 dq R3 (rr_sol r2 v2) (C1.stpRep S2 (rr_sol r1 v1)) hlen
        obtain ⟨C3, S3⟩ := C2.write hj g1 h2
        exact ⟨p, _, rfl, h1, q σ _ C3 (((S1.trans S2).fst C).trans C S3)⟩
      · cases hd
    · cases hd
theorem rd_setI {i : Nat} {ix a : Ex} (h : tS F K fr (.setI i ix a) D σ H) : tAsg (tE F K a) (gSub (tVar i) (tE F K ix) rSetL) D σ H := by
  obtain ⟨Mo, pins, env, r, C, hd, q⟩ := h
  simp only [denS] at hd
  split at hd
  · cases hd
  · rename_i ho
    obtain ⟨t, xs, hi⟩ := isOwn_of ho
    obtain ⟨x, e1, d1, hd⟩ := obind2 hd
    obtain ⟨y, e2, d2, hd⟩ := obind2 hd
    obtain ⟨d, v1, hd⟩ := obind hd
    refine ⟨Mo, pins, env, x, e1, C, d1, fun v H1 C1 S1 r1 _ => ?_⟩
    obtain ⟨ys, hi1⟩ := S1.own i t _ hi
    show tVar i σ H1 (fun o H1 => tE F K ix σ H1 fun i H2 => rSetL o i v H2 fun H3 => D.nx σ H3)
    refine own_read C1 hi1 fun p ws g1 g2 R => ⟨Mo, pins, e1, y, e2, C1, d2, fun w H2 C2 S2 r2 _ => ?_⟩
    split at hd
    · rename_i u zs k hj hy
      have hy' : y = .v (.int k) := hy
      subst hy'
      split at hd
      · rename_i hk
        cases hd
        obtain ⟨p', us0, k1, k2, R20, _⟩ := C2.ow i u (.lst zs) hj
        rw [g1] at k1
        cases k1
        obtain ⟨us, rfl, R2⟩ := R20.lstOf
        obtain ⟨C3, S3⟩ := C2.write (ys := .lst _) (us := .lst _) hj g1 ⟨_, rfl, R2.set k.toNat (C1.stpRep S2 (rr_sol r1 v1))⟩
        refine ⟨p, us, k, k.toNat, rfl, r2, k2, ?_, q σ _ C3 (((S1.trans S2).fst C).trans C S3)⟩
        unfold ixN
        rw [if_pos hk.1, if_pos (by rw [← R2.length]; exact hk.2)]
      · cases hd
    · cases hd

/-- targets x[i], one after another -/
def gSubs (F : CallF) (K : PySem.W.Frag) : List Nat → Es → TGs
  | i :: is, .cons ix r => gCons (gSub (tVar i) (tE F K ix) rSetL) (gSubs F K is r)
  | _, _ => gNil
theorem setSubs_ok {Mo : Addr → Prop} {pins : Nat → Addr} : ∀ {is : List Nat} {ixs : Es} {ds : List PC.D} {vs : List V} {env env' : En} {H : Hp} {Q : L2.St → Hp → Prop}, Corr K Mo pins env σ H → Reps K (MM Mo env σ) H ds vs → setSubs F is ixs ds env = some env' →
    (∀ H', Corr K Mo pins env' σ H' → FSt env env' σ σ H H' → Q σ H') → gSubs F K is ixs vs σ H Q
  | [], .nil, [], vs, env, env', H, Q, C, r, h, q => by
    cases h
    exact ⟨r, q H C .refl⟩
  | i :: is, .cons ix rr, d :: ds, vs, env, env', H, Q, C, r, h, q => by
    unfold setSubs at h
    split at h
    · cases h
    · rename_i ho
      obtain ⟨t, xs, hi⟩ := isOwn_of ho
      obtain ⟨y, e1, d1, h⟩ := obind2 h
      obtain ⟨v, w, rfl, r1, r2⟩ := r
      refine ⟨v, w, rfl, ?_⟩
      show tVar i σ H (fun o H1 => tE F K ix σ H1 fun k H2 => rSetL o k v H2 fun H3 => gSubs F K is rr w σ H3 Q)
      refine own_read C hi fun p ws g1 g2 R => ⟨Mo, pins, env, y, e1, C, d1, fun u H1 C1 S1 ru _ => ?_⟩
      dsimp only at h
      split at h
      · rename_i t' ys k hj _frr
        split at h
        · rename_i hk
          obtain ⟨p', us0, k1, k2, R20, _⟩ := C1.ow i t' (.lst ys) hj
          rw [g1] at k1
          cases k1
          obtain ⟨us, rfl, R2⟩ := R20.lstOf
          obtain ⟨C3, S3⟩ := C1.write (ys := .lst _) (us := .lst _) hj g1 ⟨_, rfl, R2.set k.toNat (C.stpRep S1 r1)⟩
          have S4 := (S1.fst C).trans C S3
          refine ⟨p, us, k, k.toNat, rfl, ru, k2, ?_, setSubs_ok C3 (Reps.liftO S4.kp.old C.om (fun a z => .inr z) (fun a z => S4.mm Mo a z) r2) h fun H' C5 S5 => q H' C5 (S4.trans C S5)⟩
          unfold ixN
          rw [if_pos hk.1, if_pos (by rw [← R2.length]; exact hk.2)]
        · cases h
      · cases h
  | [], .nil, _ :: _, _, _, _, _, _, _, _, h, _ => by cases h
  | [], .cons _ _, _, _, _, _, _, _, _, _, h, _ => by cases h
  | _ :: _, .nil, _, _, _, _, _, _, _, _, h, _ => by cases h
  | _ :: _, .cons _ _, [], _, _, _, _, _, _, _, h, _ => by cases h
theorem setSubs_len : ∀ {is : List Nat} {ixs : Es} {ds : List PC.D} {env env' : En}, setSubs F is ixs ds env = some env' → is.length = ds.length
  | [], .nil, [], _, _, _ => rfl
  | i :: is, .cons ix r, d :: ds, env, env', h => by
    unfold setSubs at h
    split at h
    · cases h
    · obtain ⟨y, e1, d1, h⟩ := obind2 h
      dsimp only at h
      split at h
      · split at h
        · rw [List.length_cons, List.length_cons, setSubs_len h]
        · cases h
      · cases h
  | [], .nil, _ :: _, _, _, h => by cases h
  | [], .cons _ _, _, _, _, h => by cases h
  | _ :: _, .nil, _, _, _, h => by cases h
  | _ :: _, .cons _ _, [], _, _, h => by cases h
theorem rd_subs {is : List Nat} {ixs : Es} {a : Ex} (h : tS F K fr (.subs is ixs a) D σ H) : tAsg (tE F K a) (gTup K is.length (gSubs F K is ixs)) D σ H := by
  obtain ⟨Mo, pins, env, r, C, hd, q⟩ := h
  simp only [denS] at hd
  obtain ⟨x, e1, d1, hd⟩ := obind2 hd
  obtain ⟨d, v1, hd⟩ := obind hd
  split at hd
  · rename_i ds
    obtain ⟨e2, s1, rfl⟩ := omap hd
    refine ⟨Mo, pins, env, x, e1, C, d1, fun v H1 C1 S1 r1 _ => ?_⟩
    obtain ⟨p, vs, rfl, g2, R⟩ := rr_sol r1 v1
    refine ⟨p, vs, rfl, .inl (.inl g2), by rw [← R.length]; exact (setSubs_len s1).symm, setSubs_ok C1 R s1 fun H' C2 S2 => q σ H' C2 ((S1.fst C).trans C S2)⟩
  · cases hd

/-! ### loops -/
theorem Fin.wipe {Mo : Addr → Prop} {pins : Nat → Addr} {env e1 e : En} {σ1 : L2.St} {H1 : Hp} (C : Corr K Mo pins env σ H) (S : FSt env e1 σ σ1 H H1) (C1 : Corr K Mo pins e1 σ1 H1) (fg : List Nat) (q : Fin K fr Mo pins env σ H D (.nx (wipeE e1 fg))) : D.nx σ1 H1 :=
  q σ1 H1 (C1.wiE fg) (S.less fun a z => own_wiE a fg z)
theorem rd_for {tg : Tg} {it : It} {b : Ss} {fg : List Nat} (h : tS F K fr (.for_ tg it b fg) D σ H) : tFor (tI F K it) (gT K tg) (tSs F K fr b) D σ H := by
  obtain ⟨Mo, pins, env, c, C, hd, q⟩ := h
  simp only [denS] at hd
  obtain ⟨xs, e1, d1, hd⟩ := obind2 hd
  refine ⟨Mo, pins, env, xs, e1, C, d1, fun J H1 C1 S1 W => ?_⟩
  obtain ⟨G, Y, wk, hG, hY⟩ := W.ex
  have q1 := q.shift C (S1.fst C)
  refine for_it wk (fun i σ' H' => ∃ e', loopF (fun x e2 => (setTg tg x e2).bind (denSs F b)) fg (xs.drop i) e' = some c ∧ Corr K Mo pins e' σ' H' ∧ FSt e1 e' σ σ' H1 H') ⟨e1, by simpa using hd, C1, .refl⟩ (fun i σ' H' _ P => ?_) (fun i x σ' H' Hb hi P y => ?_) fun σ' H' P => ?_
  · obtain ⟨e', _, _, S⟩ := P
    exact hG H' (fun a o n e => S.kp.old a o (fun z => n (.inr z)) e)
  · obtain ⟨e', hl, C2, S2⟩ := P
    rw [List.drop_eq_getElem_cons hi] at hl
    simp only [loopF] at hl
    obtain ⟨ctl, hb, hl⟩ := obind hl
    obtain ⟨e3, hs, hb⟩ := obind hb
    obtain ⟨ex, R⟩ := hY i H' Hb x xs[i] (MM Mo (wipeE e' fg) σ') (by simp [hi]) (fun a o n e => S2.kp.old a o (fun z => n (.inr z)) e) (fun a z => S2.mm Mo a (z.elim .inl fun z => .inr (own_wiE a fg z))) y
    have C2' := (C2.wiE fg).ex ex
    have S2' : FSt e1 (wipeE e' fg) σ σ' H1 Hb := S2.trans C1 ⟨.ex ex, fun a z => .inl (own_wiE a fg z)⟩
    refine gT_ok C2' R hs fun σ3 C3 P3 => ⟨Mo, pins, e3, ctl, C3, hb, ?_⟩
    have S3 := S2'.less P3.ow
    cases ctl with
    | nx e4 => exact fun σ4 H4 C4 S4 => ⟨e4, hl, C4, S3.trans C1 S4⟩
    | ct e4 => exact fun σ4 H4 C4 S4 => ⟨e4, hl, C4, S3.trans C1 S4⟩
    | brk e4 =>
      simp only [Option.some.injEq] at hl
      subst hl
      exact fun σ4 H4 C4 S4 => Fin.wipe (e := e4) C1 (S3.trans C1 S4) C4 fg q1
    | ret d e4 =>
      simp only [Option.some.injEq] at hl
      subst hl
      exact fun v σ4 H4 C4 S4 R4 f4 => q1 v σ4 H4 C4 (S3.trans C1 S4) R4 fun z xs hx hc => by
        obtain ⟨p, ws, g1, g2, g3⟩ := f4 z xs hx hc
        exact ⟨p, ws, g1, S3.kp.back g2, g3⟩
  · obtain ⟨e', hl, C2, S2⟩ := P
    rw [List.drop_length] at hl
    simp only [loopF, Option.some.injEq] at hl
    subst hl
    exact Fin.wipe (e := e') C1 S2 C2 fg q1
theorem rd_wh {c : Ex} {b : Ss} {fg : List Nat} (h : tS F K fr (.wh c b fg) D σ H) : tWhile (tT F K c) (tSs F K fr b) D σ H := by
  obtain ⟨Mo, pins, env, r, C, hd, q⟩ := h
  simp only [denS] at hd
  refine ⟨fun m σ' H' => ∃ e', loopW (fun e1 => (denE F c e1).bind testOf) (denSs F b) fg m e' = some r ∧ Corr K Mo pins e' σ' H' ∧ FSt env e' σ σ' H H', ⟨FUEL, env, hd, C, .refl⟩, ?_⟩
  rintro m σ' H' ⟨e', hl, C2, S2⟩
  cases m with
  | zero => cases hl
  | succ m =>
    simp only [loopW] at hl
    obtain ⟨k, e1, d0, hl⟩ := obind2 hl
    obtain ⟨⟨x, e2⟩, d1, d2⟩ := obind d0
    unfold testOf at d2
    split at d2
    · rename_i c0 hc0
      simp only at hc0 d2
      cases hc0
      cases d2
      refine ⟨Mo, pins, _, k, e1, C2.wiE fg, d1, fun H1 C1 S1 => ?_⟩
      have S3 : FSt env e1 σ σ' H H1 := (S2.less fun a z => own_wiE a fg z).trans C (S1.fst (C2.wiE fg))
      cases k with
      | true =>
        simp only [if_true] at hl ⊢
        obtain ⟨ctl, hb, hl⟩ := obind hl
        refine ⟨_, fun σ4 H4 z => ⟨m, Nat.lt_succ_self m, z⟩, Mo, pins, e1, ctl, C1, hb, ?_⟩
        cases ctl with
        | nx e4 => exact fun σ4 H4 C4 S4 => ⟨e4, hl, C4, S3.trans C S4⟩
        | ct e4 => exact fun σ4 H4 C4 S4 => ⟨e4, hl, C4, S3.trans C S4⟩
        | brk e4 =>
          simp only [Option.some.injEq] at hl
          subst hl
          exact fun σ4 H4 C4 S4 => Fin.wipe (e := e4) C (S3.trans C S4) C4 fg q
        | ret d e4 =>
          simp only [Option.some.injEq] at hl
          subst hl
          exact fun v σ4 H4 C4 S4 R4 f4 => q v σ4 H4 C4 (S3.trans C S4) R4 fun z xs hx hc => by
            obtain ⟨p, ws, g1, g2, g3⟩ := f4 z xs hx hc
            exact ⟨p, ws, g1, S3.kp.back g2, g3⟩
      | false =>
        simp only [Bool.false_eq_true, if_false, Option.some.injEq] at hl ⊢
        subst hl
        exact Fin.wipe (e := e1) C S3 C1 fg q
    · cases d2
end
end PC
set_option Elab.async false
set_option linter.all false
set_option maxRecDepth 100000
/-! PyCore: xs[i] += e. -/
namespace PC
open PySem PySem.Spec PyProof.Rows L2
def rGetL : V → V → Hp → VK → Prop := fun o i H Q => ∃ p xs k v, o = .ref p ∧ i = .int k ∧ H p = some (.lst xs) ∧ 0 ≤ k ∧ xs[k.toNat]? = some v ∧ Q v H
theorem get_list {X : Cx} : PGet X rGetL := by
  intro pins s σ H o i ov iv Q I ro ri h
  obtain ⟨p, xs, k, z, rfl, rfl, hq, h0, he, q⟩ := h
  cases ro
  obtain ⟨t, rfl⟩ := ri
  obtain ⟨its, r, pl, hz⟩ := I.list (xs := xs) (a := p) (.inl (.inl hq))
  obtain ⟨w, ew, rw'⟩ := r.get he
  have hl := r.length
  have hn := line63
  have fin : EP X pins σ Q w s := ⟨z, H, I, rw', q⟩
  have hlt := (List.getElem?_eq_some_iff.mp he).1
  exact wpAny_getItem_list (Q := fun r s' => EP X pins σ Q r s') pl.isList h0 (by omega) (by simpa using ew) fin
section
variable {K : PySem.W.Frag} {F : CallF} {fr : Bool} {D : Ends} {σ : L2.St} {H : Hp}
theorem rd_augI {i : Nat} {ix a : Ex} (h : tS F K fr (.augI i ix a) D σ H) : tAugS (tVar i) (tE F K ix) (tE F K a) rGetL (ipI fun i j => i + j) rSetL D σ H := by
  obtain ⟨Mo, pins, env, r, C, hd, q⟩ := h
  simp only [denS] at hd
  split at hd
  · cases hd
  · rename_i ho
    obtain ⟨t, xs, hi⟩ := isOwn_of ho
    obtain ⟨y, e1, d1, hd⟩ := obind2 hd
    show tVar i σ H (fun o H1 => tE F K ix σ H1 fun i H2 => rGetL o i H2 fun x H3 => tE F K a σ H3 fun y H4 => ipI (fun i j => i + j) x y H4 fun z H5 => rSetL o i z H5 fun H6 => D.nx σ H6)
    refine own_read C hi fun p ws g1 g2 R => ⟨Mo, pins, env, y, e1, C, d1, fun w H1 C1 S1 r1 _ => ?_⟩
    dsimp only at hd
    split at hd
    · rename_i u zs k hj _hy
      split at hd
      · rename_i hk
        split at hd
        · rename_i n hn
          obtain ⟨z, e2, d2, hd⟩ := obind2 hd
          dsimp only at hd
          split at hd
          · rename_i t2 us m hj2
            split at hd
            · rename_i hk2
              cases hd
              obtain ⟨p', us0, k1, k2, R20, _⟩ := C1.ow i u (.lst zs) hj
              rw [g1] at k1
              cases k1
              obtain ⟨vs, rfl, R2⟩ := R20.lstOf
              obtain ⟨v, ev, rv⟩ := R2.get hn
              have hv : v = .int n := rv
              subst hv
              have hw : w = .int k := r1
              subst hw
              refine ⟨p, vs, k, .int n, rfl, rfl, k2, hk.1, ev, ⟨Mo, pins, e1, _, e2, C1, d2, fun w2 H2 C2 S2 r2 _ => ?_⟩⟩
              have hw2 : w2 = .int m := r2
              subst hw2
              obtain ⟨p2, us1, k3, k4, R30, _⟩ := C2.ow i t2 (.lst us) hj2
              rw [g1] at k3
              cases k3
              obtain ⟨vs2, rfl, R3⟩ := R30.lstOf
              obtain ⟨C3, S3⟩ := C2.write (ys := .lst _) (us := .lst _) hj2 g1 ⟨_, rfl, R3.set k.toNat (d := .int (n + m)) (v := .int (n + m)) rfl⟩
              refine ⟨n, m, rfl, rfl, p, vs2, k, k.toNat, rfl, rfl, k4, ?_, q σ _ C3 (((S1.trans S2).fst C).trans C S3)⟩
              unfold ixN
              rw [if_pos hk.1, if_pos (by rw [← R3.length]; exact hk2)]
            · cases hd
          · cases hd
        · cases hd
      · cases hd
    · cases hd
end
end PC
set_option Elab.async false
set_option linter.all false
set_option maxRecDepth 100000
/-! PyCore, part 14: is the given statement the core statement? -/
namespace PC
open PySem PySem.Spec PyProof.Rows L2

def swNames (sc : Scope) (ts : List Expr) : List Str := ts.filterMap fun
  | .Name id pos => if sc.names.lookup id == some .local && pos.line == (ts.head?.map (·.pos.line)).getD 0 then some id else none
  | _ => none
def swSt (sc : Scope) (tg value : Expr) : Option (Option (List Str)) :=
  match tg, value with
  | .Tuple ts _ _, .Tuple vs _ _ =>
    if (!(ts.length == 2 || ts.length == 3) || vs.length != ts.length) = true then some none
    else if (vs.any fun | .Starred .. => true | _ => false) = true then some none
    else if ((swNames sc ts).length != ts.length || (swNames sc ts).eraseDups.length != (swNames sc ts).length) = true then some none
    else if vs.all (foldedForSure 8) = true then some none
    else if vs.all (constantsAlone 8) = true then none
    else some (some (swNames sc ts))
  | .List _ _, _ => none
  | _, _ => some none
theorem swSt_ok {sc : Scope} {tg value : Expr} {env : Env} {r : Option (List Str)} (hs : env.scope = sc) (hk : sc.kind = .function) (h : swSt sc tg value = some r) : swappedStores [tg] value env = pure r := by
  subst hs
  have hb : env.blockKind = .function := by unfold Env.blockKind; rw [hk]; rfl
  unfold swSt at h
  split at h
  · unfold swappedStores
    simp only [hb]
    split at h
    · rename_i c
      cases h
      rw [if_pos (by simpa using c)]
    · rename_i c
      rw [if_neg (by simpa using c)]
      split at h
      · rename_i c
        cases h
        exact if_pos c
      · rename_i c
        refine (if_neg c).trans ?_
        split at h
        · rename_i c
          cases h
          exact if_pos c
        · rename_i c
          refine (if_neg c).trans ?_
          split at h
          · rename_i c
            cases h
            exact if_pos c
          · rename_i c
            refine (if_neg c).trans ?_
            split at h
            · cases h
            · rename_i c
              cases h
              exact if_neg c
  · cases h
  · cases h
    rename_i h1 h2
    unfold swappedStores
    cases tg <;> first | rfl | (cases value <;> first | rfl | exact (h1 _ _ rfl).elim | exact (h2 _ _ _ _ _ _ rfl rfl).elim | exact (h1 _ _ _ _ _ _ rfl rfl).elim | exact (h2 _ _ rfl).elim)

def isLc : Expr → Bool
  | .ListComp _ _ _ _ => true
  | _ => false
/-- does the store stand within the comprehension -/
def swB (sc : Scope) (tg value : Expr) : Bool := match value with
  | .ListComp _ _ s p => (match tg with
    | .Name y py => sc.names.lookup y == some .local && py.line == p.line && !(s.names.any fun (n, k) => n == y && (k == .local || k == .cell))
    | _ => false)
  | _ => false
def noneO : Option (Option (List Str)) → Bool
  | some none => true
  | _ => false
def namesO (r : Option (Option (List Str))) (xs : List Str) : Bool := match r with
  | some (some ys) => decide (ys = xs)
  | _ => false
section
variable (S : List FnS) (G : List (Str × D)) (N : List Str) (sc : Scope) (fr : Bool)
def chkV (i : Nat) (x : Str) : Bool := decide (N[i]? = some x) && visK sc x && okN x
def lcl (i : Nat) (x : Str) : Bool := decide (N[i]? = some x) && (match sc.names.lookup x with | some .local => true | _ => false)
def chkA (t : Tg) (a : Ex) (st : Stmt) : Bool := match st with
  | .Assign [tg] v _ => chkT N N sc t tg && chkE S G N a sc v && noneO (swSt sc tg v)
  | _ => false
def isD0 : Ex → Bool
  | .dic0 _ => true
  | _ => false
def isDt : Expr → Bool
  | .Dict [] [] _ => true
  | _ => false
/-- the right sides of a, b = x, y -/
def chkP : List Bool → Es → List Expr → Bool
  | [], .nil, l => l.isEmpty
  | o :: os, .cons a es, e :: l => (if isD0 a then o && isDt e else (!o || isF a) && chkE S G N a sc e) && chkP os es l
  | _, _, _ => false
def chkSubs : List Nat → Es → List Expr → Bool
  | [], .nil, l => l.isEmpty
  | i :: is, .cons ix r, e :: l => (match e with
    | .Subscript (.Name x _) k _ => chkV N sc i x && chkE S G N ix sc k
    | _ => false) && chkSubs is r l
  | _, _, _ => false
def chkNs : List Nat → List Expr → Bool
  | [], l => l.isEmpty
  | i :: is, l => match l with
    | .Name x _ :: l => decide (N[i]? = some x) && locK sc x && chkNs is l
    | _ => false
def chkPar (is : List Nat) (os : List Bool) (es : Es) (st : Stmt) : Bool := match st with
  | .Assign [.Tuple [.Name x px, .Name y py] kt pt] (.Tuple [v, w] k2 pt2) _ => (match is with
    | [i, j] => lcl N sc i x && lcl N sc j y && decide (i ≠ j) && chkP S G N sc os es [v, w] && decide (os.length = 2) && namesO (swSt sc (.Tuple [.Name x px, .Name y py] kt pt) (.Tuple [v, w] k2 pt2)) [x, y]
    | _ => false)
  | .Assign [.Tuple [.Name x px, .Name y py, .Name z pz] kt pt] (.Tuple [v, w, u] k2 pt2) _ => (match is with
    | [i, j, l] => lcl N sc i x && lcl N sc j y && lcl N sc l z && decide (i ≠ j ∧ i ≠ l ∧ j ≠ l) && chkP S G N sc os es [v, w, u] && decide (os.length = 3) && namesO (swSt sc (.Tuple [.Name x px, .Name y py, .Name z pz] kt pt) (.Tuple [v, w, u] k2 pt2)) [x, y, z]
    | _ => false)
  | _ => false
mutual
def chkS : Sx → Stmt → Bool
  | .asg t a, st => chkA S G N sc t a st
  | .asgO i a, st => if isD0 a then (match st with
      | .Assign [.Name x _] (.Dict [] [] _) _ => decide (N[i]? = some x) && locK sc x
      | _ => false) else isF a && chkA S G N sc (.name i) a st
  | .par is os es, st => chkPar S G N sc is os es st || (match st with
    | .Assign [.Tuple l kt pt] (.Tuple vs k2 pt2) _ => chkNs N sc is l && decide (os.length ≤ 1000) && chkP S G N sc os es vs && noneO (swSt sc (.Tuple l kt pt) (.Tuple vs k2 pt2))
    | _ => false)
  | .aug i o a, st => match st with
    | .AugAssign (.Name x _) op v _ => (match o, op with | .add, .Add => true | .sub, .Sub => true | _, _ => false) && decide (N[i]? = some x) && locK sc x && chkE S G N a sc v
    | _ => false
  | .setI i ix a, st => match st with
    | .Assign [.Subscript (.Name x _) e _] v _ => chkV N sc i x && chkE S G N ix sc e && chkE S G N a sc v
    | _ => false
  | .augI i ix a, st => match st with
    | .AugAssign (.Subscript (.Name x _) e _) .Add v _ => chkV N sc i x && chkE S G N ix sc e && chkE S G N a sc v
    | _ => false
  | .subs is ixs a, st => match st with
    | .Assign [.Tuple es kt pt] v _ => chkSubs S G N sc is ixs es && chkE S G N a sc v && noneO (swSt sc (.Tuple es kt pt) v)
    | _ => false
  | .put i ix a, st => match st with
    | .Assign [.Subscript (.Name x _) e _] v _ => chkV N sc i x && chkE S G N ix sc e && chkE S G N a sc v
    | _ => false
  | .app i a, st => match st with
    | .Expr (.Call (.Attribute (.Name x _) m ap) [e] [] cp) _ => chkV N sc i x && decide (m = ("append" : Str)) && (ap.endLine == cp.line) && chkE S G N a sc e
    | _ => false
  | .ext i a, st => match st with
    | .Expr (.Call (.Attribute (.Name x _) m ap) [e] [] cp) _ => chkV N sc i x && decide (m = ("extend" : Str)) && (ap.endLine == cp.line) && chkE S G N a sc e
    | _ => false
  | .ifs c a b, st => match st with
    | .If e s1 s2 _ => chkE S G N c sc e && chkSs a s1 && chkSs b s2
    | _ => false
  | .for_ tg it b _, st => match st with
    | .For t i body [] _ => chkI S G N it sc t i && chkT N N sc tg t && chkSs b body
    | _ => false
  | .wh c b _, st => match st with
    | .While e body [] _ => chkE S G N c sc e && chkSs b body
    | _ => false
  | .ret a, st => match st with
    | .Return (some e) _ => chkE S G N a sc e && (!fr || isF a)
    | .Return none _ => (match a with | .con .non => !fr | _ => false)
    | _ => false
  | .drop a, st => match st with
    | .Expr e _ => chkE S G N a sc e && !isLc e
    | _ => false
  | .brk, st => match st with
    | .Break _ => true
    | _ => false
  | .cnt, st => match st with
    | .Continue _ => true
    | _ => false
  | .frz _, _ => false
def chkSs : Ss → List Stmt → Bool
  | .nil, l => l.isEmpty
  | .cons (.frz _) ss, l => chkSs ss l
  | .cons s ss, l => match l with
    | [] => false
    | st :: l => chkS s st && chkSs ss l
end
end

theorem PS.imp {X : Cx} {st : Stmt} {t t' : TS} (h : PS X st t) (w : ∀ D σ H, t' D σ H → t D σ H) : PS X st t' := ⟨fun pins s σ H D I q => h.run pins s σ H D I (w D σ H q)⟩
theorem PSs.imp {X : Cx} {st : List Stmt} {t t' : TS} (h : PSs X st t) (w : ∀ D σ H, t' D σ H → t D σ H) : PSs X st t' := ⟨fun pins s σ H D I q => h.run pins s σ H D I (w D σ H q)⟩
/-- a thing is from here on written no more -/
theorem pss_frz {X : Cx} {st : List Stmt} {t : TS} (h : PSs X st t) : PSs X st (fun D σ H => t D σ H ∨ ∃ p u, H p = some u ∧ Mut (some u) ∧ ∀ od, t D σ (upd H p (.frz od u))) := by
  refine ⟨fun pins s σ H D I q => ?_⟩
  rcases q with q | ⟨p, u, e, m, q⟩
  · exact h.run pins s σ H D I q
  · obtain ⟨od, I1⟩ := I.lock e m
    exact h.run pins s σ _ D I1 (q od)
theorem noneO_of {r : Option (Option (List Str))} (h : noneO r = true) : r = some none := by
  unfold noneO at h
  split at h
  · rfl
  · cases h
theorem namesO_of {r : Option (Option (List Str))} {xs : List Str} (h : namesO r xs = true) : r = some (some xs) := by
  unfold namesO at h
  split at h
  · rw [of_decide_eq_true h]
  · cases h
section
variable {S : List FnS} {G : List (Str × D)} {F : CallF} {N : List Str} {n : Nat} {X : Cx} {sc : Scope}
theorem sw_none {e : Expr} {l : Nat} {c : Ex} {env : Env} (h : chkE S G N c sc e = true) (hl : isLc e = false) : swapsWith e none l env = pure false := by
  cases e <;> first | rfl | (cases hl; done) | (cases c <;> simp [chkE, nameIs] at h)
theorem sw_false {e tg : Expr} {l : Nat} {c : Ex} {env : Env} (hs : env.scope = sc) (hk : sc.kind = .function) (h : chkE S G N c sc e = true) (hw : swB sc tg e = false) : swapsWith e (some tg) l env = pure false := by
  cases e <;> first | rfl | (cases c <;> simp [chkE, nameIs] at h; done) | skip
  rename_i elt gs s p
  cases tg <;> first | rfl | skip
  rename_i y py
  subst hs
  have hb : env.blockKind = .function := by unfold Env.blockKind; rw [hk]; rfl
  unfold swapsWith
  simp only [hb]
  show pure _ = pure false
  refine congrArg pure ?_
  rw [← hw]
  unfold swB
  simp only [Expr.pos, beq_self_eq_true, Bool.true_and]
  rfl
theorem sw_sub {e o i : Expr} {p : Pos} {l : Nat} {c : Ex} {env : Env} (h : chkE S G N c sc e = true) : swapsWith e (some (.Subscript o i p)) l env = pure false := by
  cases e <;> first | rfl | (cases c <;> simp [chkE, nameIs] at h)
theorem lcl_of {i : Nat} {x : Str} (h : lcl N sc i x = true) : N[i]? = some x ∧ sc.names.lookup x = some .local := by
  obtain ⟨h1, h2⟩ := and2 h
  refine ⟨of_decide_eq_true h1, ?_⟩
  split at h2
  · assumption
  · cases h2
theorem ps_chkA (hX : SX S G F N sc N n X) {t : Tg} {a : Ex} {st : Stmt} (h : chkA S G N sc t a st = true) : PS X st (tAsg (tE F X.K a) (gT X.K t)) := by
  unfold chkA at h
  split at h
  · rename_i tg v pos
    obtain ⟨h1, h2, h3⟩ := and3 h
    have hg : PG X tg (gT X.K t) := pgT hX.calm hX.nd hX.hN hX.hsc hX.fn h1
    have hf : (assignEach [tg] X.env).map (·.2) = [assign tg X.env] := by
      obtain ⟨b, e1, e2⟩ := chkT_each h1 [] X.env
      rw [e1, e2]
      rfl
    have hw : swappedStores [tg] v X.env = pure none := swSt_ok hX.hsc hX.fk (noneO_of h3)
    cases hs : swB sc tg v with
    | false => exact ps_asg (sndE a hX h2).1 hg (sw_false hX.hsc hX.fk h2 hs) hw hf
    | true =>
      unfold swB at hs
      split at hs
      · rename_i el gs s p
        split at hs
        · rename_i y py
          simp only [Bool.and_eq_true, beq_iff_eq, Bool.not_eq_true'] at hs
          obtain ⟨⟨hs1, hs2⟩, hs3⟩ := hs
          cases t with
          | tup ts => unfold chkT at h1; cases h1
          | name i =>
            unfold chkT at h1
            obtain ⟨g1, g2, g3⟩ := and3 h1
            cases a <;> first | (simp [chkE, nameIs] at h2; done) | skip
            · rename_i own tg2 it cs elt
              unfold chkE at h2
              split at h2
              · rename_i el t2 i2 ifs scope pos2 heq
                cases heq
                obtain ⟨k1, k2, k3, k4, k5, k6, k7, k8⟩ := and7 h2
                have hb : blkC X.N X.env.scope s (own.map fun i => (N.getD i "", i)) = true := by rw [hX.hN, hX.hsc]; exact k2
                have ok := blkOk_by hb
                have hvs : (own.map fun i => (N.getD i "", i)).map (·.2) = own := by rw [List.map_map]; exact List.map_id' own
                have B := fun s' H C cl fp => hX.blk own ok.kind k7 s' H C cl fp
                have p := ps_setLc (X := X) (i := i) (y := y) (py := py) (wi := tI F X.K it) (g := gT X.K tg2) (tt := tCs F X.K cs) (te := tE F X.K elt) (pos := p) (spos := pos) (elt := el) (tg := t2) (iter := i2) (ifs := ifs) (scope := s) hX.calm hX.nd (by rw [hX.hN]; exact of_decide_eq_true g1) (by rw [hX.hsc]; exact hs1)
                  (sw_true (by rw [hX.hsc]; exact hX.fk) (by rw [hX.hsc]; exact hs1) (by rw [hs2]; exact beq_self_eq_true _) hs3) (sndI it hX k1) ok (fun s' H C cl fp => pgT (B s' H C cl fp).calm (B s' H C cl fp).nd (B s' H C cl fp).hN (B s' H C cl fp).hsc (B s' H C cl fp).fn k3)
                  (fun s' H C cl fp => (sndA cs (B s' H C cl fp) k4).2.2 (of_decide_eq_true k6)) (fun s' H C cl fp => (sndE elt (B s' H C cl fp) k5).1) (chkI_fold k1 X.env)
                rw [hvs] at p
                have hsl : ∀ i ∈ slTg tg2, i ∈ own := fun i hi => of_decide_eq_true (List.all_eq_true.mp k8 i hi)
                exact PS.imp p fun D σ H hh => lc_read hsl hh
              · cases h2
            · rename_i j own tg2 cs elt
              unfold chkE at h2
              split at h2
              · rename_i el t2 i2 ifs scope pos2 heq
                cases heq
                obtain ⟨k1, k2, k3, k4, k5, k6, k7, k8⟩ := and7 h2
                cases i2 <;> first | (simp [nmK] at k1; done) | skip
                rename_i x px
                unfold nmK at k1
                obtain ⟨n1, n2, n3⟩ := and3 k1
                have hb : blkC X.N X.env.scope s (own.map fun i => (N.getD i "", i)) = true := by rw [hX.hN, hX.hsc]; exact k2
                have ok := blkOk_by hb
                have hvs : (own.map fun i => (N.getD i "", i)).map (·.2) = own := by rw [List.map_map]; exact List.map_id' own
                have B := fun s' H C cl fp => hX.blk own ok.kind k7 s' H C cl fp
                have p := ps_setLc (X := X) (i := i) (y := y) (py := py) (wi := iList X.K (tVar j)) (g := gT X.K tg2) (tt := tCs F X.K cs) (te := tE F X.K elt) (pos := p) (spos := pos) (elt := el) (tg := t2) (iter := .Name x px) (ifs := ifs) (scope := s) hX.calm hX.nd (by rw [hX.hN]; exact of_decide_eq_true g1) (by rw [hX.hsc]; exact hs1)
                  (sw_true (by rw [hX.hsc]; exact hX.fk) (by rw [hX.hsc]; exact hs1) (by rw [hs2]; exact beq_self_eq_true _) hs3) (pi_list (pe_var (by rw [hX.hN]; exact of_decide_eq_true n1) (by rw [hX.hsc]; exact visK_vis n2) (okN_1 n3) (okN_2 n3))) ok (fun s' H C cl fp => pgT (B s' H C cl fp).calm (B s' H C cl fp).nd (B s' H C cl fp).hN (B s' H C cl fp).hsc (B s' H C cl fp).fn k3)
                  (fun s' H C cl fp => (sndA cs (B s' H C cl fp) k4).2.2 (of_decide_eq_true k6)) (fun s' H C cl fp => (sndE elt (B s' H C cl fp) k5).1) (fun x => rfl)
                rw [hvs] at p
                have hsl : ∀ i ∈ slTg tg2, i ∈ own := fun i hi => of_decide_eq_true (List.all_eq_true.mp k8 i hi)
                exact PS.imp p fun D σ H hh => lcO_read hsl hh
              · cases h2
            · rename_i own tg2 it own1 tg3 it1 cs elt
              unfold chkE at h2
              split at h2
              · rename_i el t2 i2 t3 i3 ifs scope pos2 heq
                cases heq
                obtain ⟨h2, k12⟩ := and2 h2
                obtain ⟨h2, k11⟩ := and2 h2
                obtain ⟨h2, k10⟩ := and2 h2
                obtain ⟨h2, k9⟩ := and2 h2
                obtain ⟨k1, k2, k3, k4, k5, k6, k7, k8⟩ := and7 h2
                have hb : blkC X.N X.env.scope s (own.map fun i => (N.getD i "", i)) = true := by rw [hX.hN, hX.hsc]; exact k2
                have ok := blkOk_by hb
                have hvs : (own.map fun i => (N.getD i "", i)).map (·.2) = own := by rw [List.map_map]; exact List.map_id' own
                have B := fun s' H C cl fp => hX.blk own ok.kind k9 s' H C cl fp
                have hsl : ∀ i ∈ slTg tg2, i ∈ own := fun i hi => of_decide_eq_true (List.all_eq_true.mp k10 i hi)
                have hsl1 : ∀ i ∈ slTg tg3, i ∈ own1 := fun i hi => of_decide_eq_true (List.all_eq_true.mp k11 i hi)
                have hoo : ∀ i ∈ own1, i ∈ own := fun i hi => of_decide_eq_true (List.all_eq_true.mp k12 i hi)
                have p := ps_setLc2 (X := X) (i := i) (y := y) (py := py) (wi := tI F X.K it) (g := gT X.K tg2) (tt := tYes) (wi1 := tI F X.K it1) (g1 := gT X.K tg3) (tt1 := tCs F X.K cs) (te := tE F X.K elt) (vs1 := own1) (pos := p) (spos := pos) (elt := el) (tg := t2) (iter := i2) (ifs := []) (tg1 := t3) (iter1 := i3) (ifs1 := ifs) (scope := s) hX.calm hX.nd (by rw [hX.hN]; exact of_decide_eq_true g1) (by rw [hX.hsc]; exact hs1)
                  (sw_true (by rw [hX.hsc]; exact hX.fk) (by rw [hX.hsc]; exact hs1) (by rw [hs2]; exact beq_self_eq_true _) hs3) (sndI it hX k1) ok (by rw [hvs]; exact hoo) (fun s' H C cl fp => pgT (B s' H C cl fp).calm (B s' H C cl fp).nd (B s' H C cl fp).hN (B s' H C cl fp).hsc (B s' H C cl fp).fn k3) (fun s' H C cl fp => pts_nil)
                  (fun s' H C cl fp => sndI it1 (B s' H C cl fp) k4) (fun s' H C cl fp => pgT (B s' H C cl fp).calm (B s' H C cl fp).nd (B s' H C cl fp).hN (B s' H C cl fp).hsc (B s' H C cl fp).fn k5)
                  (fun s' H C cl fp => (sndA cs (B s' H C cl fp) k6).2.2 (of_decide_eq_true k8)) (fun s' H C cl fp => (sndE elt (B s' H C cl fp) k7).1) (chkI_fold k1 X.env) (fun env => chkI_fold k4 env)
                rw [hvs] at p
                exact PS.imp p fun D σ H hh => lc2_read hsl hsl1 hoo hh
              · cases h2
        · cases hs
      · cases hs
  · cases h
theorem p_all : ∀ {es : Es} {os : List Bool} {l : List Expr}, SX S G F N sc N n X → chkP S G N sc os es l = true → PA X l (tP F X.K os es)
  | .nil, [], l, hX, h => by
    unfold chkP at h
    cases l with
    | nil => exact p_nil
    | cons _ _ => cases h
  | .nil, _ :: _, l, hX, h => by cases l <;> cases h
  | .cons a r, [], l, hX, h => by cases l <;> cases h
  | .cons a r, o :: os, [], hX, h => by cases h
  | .cons a r, o :: os, e :: l, hX, h => by
    unfold chkP at h
    obtain ⟨h1, h2⟩ := and2 h
    split at h1
    · rename_i h0
      obtain ⟨f1, f2⟩ := and2 h1
      subst f1
      cases a <;> first | cases h0 | skip
      unfold isDt at f2
      split at f2
      · exact p_consN (p_all hX h2)
      · cases f2
    · obtain ⟨f1, f2⟩ := and2 h1
      exact p_cons (sndE a hX f2).1 f1 (p_all hX h2) (star_cons (chk_ns f2))
theorem as_sub {o i : Expr} {p : Pos} {c : Ex} {env : Env} (h : chkE S G N c sc i = true) (v : Value) : assign (.Subscript o i p) env v = (do
      let ov ← holding [v] (eval o env)
      let iv ← holding [v, ov] (eval i env)
      standAt p
      holding [v, ov, iv] (setItem ov iv v)
      release [v, ov, iv] []) := by
  cases i <;> first | rfl | (rw [chk_slice] at h; cases h)
theorem aug_st {i : Expr} {c : Ex} (h : chkE S G N c sc i = true) (ov iv new : Value) : augStore i ov iv new = (do holding [new, ov, iv] (setItem ov iv new); release [new, ov, iv] []; pure .next) := by
  cases i <;> first | rfl | (rw [chk_slice] at h; cases h)
theorem chkV_of {i : Nat} {x : Str} {p : Pos} (hX : SX S G F N sc N n X) (h : chkV N sc i x = true) : PE X (.Name x p) (tVar i) := by
  obtain ⟨h1, h2, h3⟩ := and3 h
  exact pe_var (by rw [hX.hN]; exact of_decide_eq_true h1) (by rw [hX.hsc]; exact visK_vis h2) (okN_1 h3) (okN_2 h3)
theorem pg_subs : ∀ {is : List Nat} {ixs : Es} {l : List Expr}, SX S G F N sc N n X → chkSubs S G N sc is ixs l = true → PGs X l (gSubs F X.K is ixs) ∧ (assignEach l X.env).length = is.length ∧ (assignEach l X.env).findIdx? (·.1) = none
  | [], .nil, l, hX, h => by
    unfold chkSubs at h
    cases l with
    | nil => exact ⟨pgs_nil, rfl, rfl⟩
    | cons _ _ => cases h
  | [], .cons _ _, l, hX, h => by cases l <;> cases h
  | _ :: _, .nil, l, hX, h => by cases l <;> cases h
  | _ :: _, .cons _ _, [], hX, h => by cases h
  | i :: is, .cons ix r, e :: l, hX, h => by
    unfold chkSubs at h
    obtain ⟨h1, h2⟩ := and2 h
    split at h1
    · rename_i x p1 k p2
      obtain ⟨h3, h4⟩ := and2 h1
      obtain ⟨i1, i2, i3⟩ := pg_subs (is := is) hX h2
      refine ⟨pgs_cons (pg_sub (chkV_of hX h3) (sndE ix hX h4).1 set_list (as_sub h4)) i1 rfl, ?_, ?_⟩
      · show (assignEach l X.env).length + 1 = is.length + 1
        rw [i2]
      · show ((false, assign (.Subscript (.Name x p1) k p2) X.env) :: assignEach l X.env).findIdx? (·.1) = none
        rw [List.findIdx?_cons]
        simp [i3]
    · cases h1
theorem pg_names : ∀ {is : List Nat} {l : List Expr}, SX S G F N sc N n X → chkNs N sc is l = true → PGs X l (gNames is) ∧ (assignEach l X.env).length = is.length ∧ (assignEach l X.env).findIdx? (·.1) = none
  | [], l, hX, h => by
    unfold chkNs at h
    cases l with
    | nil => exact ⟨pgs_nil, rfl, rfl⟩
    | cons _ _ => cases h
  | i :: is, l, hX, h => by
    unfold chkNs at h
    split at h
    · rename_i x p l
      obtain ⟨h1, h2, h3⟩ := and3 h
      obtain ⟨i1, i2, i3⟩ := pg_names (is := is) hX h3
      have hi : X.N[i]? = some x := by rw [hX.hN]; exact of_decide_eq_true h1
      refine ⟨pgs_cons (pg_name hX.nd hi (by rw [hX.hsc]; exact locK_loc h2) (hX.fn x (List.mem_iff_getElem?.mpr ⟨i, of_decide_eq_true h1⟩))) i1 rfl, ?_, ?_⟩
      · show (assignEach l X.env).length + 1 = is.length + 1
        rw [i2]
      · show ((false, assign (.Name x p) X.env) :: assignEach l X.env).findIdx? (·.1) = none
        rw [List.findIdx?_cons]
        simp [i3]
    · cases h
theorem ps_meth {i : Nat} {x m : Str} {a : Ex} {id : String} {r : V → List V → Hp → VK → Prop} {p ap cp pos : Pos} {e : Expr} (hX : SX S G F N sc N n X) (slot : Slot "list" m id) (hty : typeOf (.builtin id) = pure (.type "method_descriptor")) (hm : MtR X id r) (hv : chkV N sc i x = true) (hl : (ap.endLine == cp.line) = true) (h : chkE S G N a sc e = true) :
    PS X (.Expr (.Call (.Attribute (.Name x p) m ap) [e] [] cp) pos) (tDrop (tBM X.K "list" r (tVar i) (tCons (tE F X.K a) tNil))) := by
  have hs : starEach [e] X.env = (false, eval e X.env) :: starEach [] X.env := star_cons (chk_ns h)
  refine ps_expr (pe_bm PySem.F.plainAttrs_list slot hty hm (chkV_of hX hv) (pa_cons (sndE a hX h).1 pa_nil hs) rfl ?_ hl hs rfl) rfl
  rw [hs]
  rfl
end
end PC
set_option Elab.async false
set_option linter.all false
set_option maxRecDepth 100000
/-! PyCore, part 15: every checked block means what denSs says. -/
namespace PC
open PySem PySem.Spec PyProof.Rows L2
section
variable {S : List FnS} {G : List (Str × D)} {F : CallF} {N : List Str} {n : Nat} {sc : Scope} {fr : Bool}
theorem hpO {X : Cx} (hX : SX S G F N sc N n X) : PassesOwn (model X.prog X.w) X.A X.env X.xe := by
  rw [hX.xe]
  exact .never
theorem ne_of_get {N : List Str} {i j : Nat} {x y : Str} (hi : N[i]? = some x) (hj : N[j]? = some y) (h : x ≠ y) : i ≠ j := fun e => by
  subst e
  rw [hi] at hj
  exact h (Option.some.inj hj)
mutual
theorem sndS : ∀ (c : Sx) {X : Cx} {st : Stmt}, SX S G F N sc N n X → chkS S G N sc fr c st = true → PS X st (tS F X.K fr c)
  | .asg t a, X, st, hX, h => by
    unfold chkS at h
    exact PS.imp (ps_chkA hX h) fun D σ H => rd_asg
  | .asgO i a, X, st, hX, h => by
    unfold chkS at h
    split at h
    · rename_i h0
      cases a <;> first | cases h0 | skip
      split at h
      · rename_i x p1 p2 pos
        obtain ⟨h1, h2⟩ := and2 h
        have hi : X.N[i]? = some x := by rw [hX.hN]; exact of_decide_eq_true h1
        exact PS.imp (ps_set hX.nd hi (by rw [hX.hsc]; exact locK_loc h2) e_new rfl (hX.fn x (List.mem_iff_getElem?.mpr ⟨i, of_decide_eq_true h1⟩))) fun D σ H q => rd_asgN q
      · cases h
    · obtain ⟨h1, h2⟩ := and2 h
      exact PS.imp (ps_chkA hX h2) fun D σ H q => rd_asgO h1 q
  | .par is os es, X, st, hX, h => by
    unfold chkS at h
    have hh := Bool.or_eq_true_iff.mp h
    clear h
    rcases hh with h | h
    · unfold chkPar at h
      split at h
      · split at h
        · rename_i x px y py kt pt v w k2 pt2 pos i j
          simp only [Bool.and_eq_true, decide_eq_true_eq] at h
          obtain ⟨⟨⟨⟨⟨h1, h2⟩, h3⟩, h4⟩, h5⟩, h7⟩ := h
          obtain ⟨g1, g2⟩ := lcl_of h1
          obtain ⟨g3, g4⟩ := lcl_of h2
          match os, h4, h5 with
          | [o, p], h4, _ =>
            exact PS.imp (ps_par (X := X) (i := i) (j := j) hX.calm hX.nd (by rw [hX.hN]; exact g1) (by rw [hX.hN]; exact g3) h3 (by rw [hX.hsc]; exact g2) (by rw [hX.hsc]; exact g4) (p_all hX h4) (swSt_ok hX.hsc hX.fk (namesO_of h7)) rfl) fun D σ H q => rd_par2 q
        · cases h
      · split at h
        · rename_i x px y py z pz kt pt v w u k2 pt2 pos i j l
          simp only [Bool.and_eq_true, decide_eq_true_eq] at h
          obtain ⟨⟨⟨⟨⟨⟨h1, h2⟩, h2'⟩, h3⟩, h4⟩, h5⟩, h7⟩ := h
          obtain ⟨g1, g2⟩ := lcl_of h1
          obtain ⟨g3, g4⟩ := lcl_of h2
          obtain ⟨g5, g6⟩ := lcl_of h2'
          match os, h4, h5 with
          | [o, p, t], h4, _ =>
            exact PS.imp (ps_par3 (X := X) (i := i) (j := j) (l := l) hX.calm hX.nd (by rw [hX.hN]; exact g1) (by rw [hX.hN]; exact g3) (by rw [hX.hN]; exact g5) h3.1 h3.2.1 h3.2.2 (by rw [hX.hsc]; exact g2) (by rw [hX.hsc]; exact g4) (by rw [hX.hsc]; exact g6) (p_all hX h4) (swSt_ok hX.hsc hX.fk (namesO_of h7)) rfl) fun D σ H q => rd_par3 q
        · cases h
      · cases h
    · split at h
      · rename_i l kt pt vs k2 pt2 pos
        obtain ⟨h1, h2, h3, h4⟩ := and4 h
        obtain ⟨i1, i2, i3⟩ := pg_names (F := F) hX h1
        have p := ps_asg (X := X) (pos := pos) (pe_tup (X := X) (pos := pt2) (p_all (F := F) hX h3)) (pg_tup (pos := pt) (k := kt) hX.calm i1 i2 i3) rfl (swSt_ok hX.hsc hX.fk (noneO_of h4)) rfl
        exact PS.imp p fun D σ H q => rd_parT q (of_decide_eq_true h2)
      · cases h
  | .aug i o a, X, st, hX, h => by
    unfold chkS at h
    split at h
    · rename_i x p op v pos
      obtain ⟨h1, h2, h3, h4⟩ := and4 h
      have hi : X.N[i]? = some x := by rw [hX.hN]; exact of_decide_eq_true h2
      have hf : X.fn x = true ∨ X.env.scope.names.lookup x = some .local := hX.fn x (List.mem_iff_getElem?.mpr ⟨i, of_decide_eq_true h2⟩)
      split at h1
      · exact PS.imp (ps_aug hX.nd hi (by rw [hX.hsc]; exact locK_loc h3) (sndE a hX h4).1 ip_add hf) fun D σ H q => rd_augA q
      · exact PS.imp (ps_aug hX.nd hi (by rw [hX.hsc]; exact locK_loc h3) (sndE a hX h4).1 ip_sub hf) fun D σ H q => rd_augS q
      · cases h1
    · cases h
  | .setI i ix a, X, st, hX, h => by
    unfold chkS at h
    split at h
    · rename_i x p1 e p2 v pos
      obtain ⟨h1, h2, h3⟩ := and3 h
      have hs : swapsWithSole [.Subscript (.Name x p1) e p2] v pos.line X.env = pure false := sw_sub (o := .Name x p1) (i := e) (p := p2) (l := pos.line) (env := X.env) h3
      have p := ps_asg (X := X) (pos := pos) (sndE (F := F) a hX h3).1 (pg_sub (chkV_of hX h1) (sndE (F := F) ix hX h2).1 set_list (as_sub h2)) hs rfl rfl
      exact PS.imp p fun D σ H q => rd_setI q
    · cases h
  | .augI i ix a, X, st, hX, h => by
    unfold chkS at h
    split at h
    · rename_i x p1 e p2 v pos
      obtain ⟨h1, h2, h3⟩ := and3 h
      have p := ps_augS (X := X) (pos := pos) (tpos := p2) (chkV_of (p := p1) hX h1) (sndE (F := F) ix hX h2).1 get_list (sndE (F := F) a hX h3).1 ip_add set_list (aug_st h2)
      exact PS.imp p fun D σ H q => rd_augI q
    · cases h
  | .subs is ixs a, X, st, hX, h => by
    unfold chkS at h
    split at h
    · rename_i es kt pt v pos
      obtain ⟨h1, h2, h3⟩ := and3 h
      obtain ⟨i1, i2, i3⟩ := pg_subs (F := F) hX h1
      have hs : swapsWithSole [.Tuple es kt pt] v pos.line X.env = pure false := sw_false (tg := .Tuple es kt pt) (l := pos.line) hX.hsc hX.fk h2 (by unfold swB; split <;> first | rfl | (split <;> first | rfl | (rename_i z _ _; cases z)))
      have p := ps_asg (X := X) (pos := pos) (sndE (F := F) a hX h2).1 (pg_tup (pos := pt) (k := kt) hX.calm i1 i2 i3) hs (swSt_ok hX.hsc hX.fk (noneO_of h3)) rfl
      exact PS.imp p fun D σ H q => rd_subs q
    · cases h
  | .put i ix a, X, st, hX, h => by
    unfold chkS at h
    split at h
    · rename_i x p1 e p2 v pos
      obtain ⟨h1, h2, h3⟩ := and3 h
      have hs : swapsWith v (some (.Subscript (.Name x p1) e p2)) pos.line X.env = pure false := sw_sub (o := .Name x p1) (i := e) (p := p2) (l := pos.line) (env := X.env) h3
      have p := ps_dput (X := X) (pos := pos) (by have := hX.un; omega) (chkV_of hX h1) (sndE (F := F) ix hX h2).1 (sndE (F := F) a hX h3).1 hs
      exact PS.imp p fun D σ H q => rd_put q
    · cases h
  | .app i a, X, st, hX, h => by
    unfold chkS at h
    split at h
    · obtain ⟨h1, h2, h3, h4⟩ := and4 h
      have e := of_decide_eq_true h2
      subst e
      exact PS.imp (ps_meth hX PySem.F.slot_list_append PySem.F.type_list_append mt_append h1 h3 h4) fun D σ H q => rd_app q
    · cases h
  | .ext i a, X, st, hX, h => by
    unfold chkS at h
    split at h
    · obtain ⟨h1, h2, h3, h4⟩ := and4 h
      have e := of_decide_eq_true h2
      subst e
      exact PS.imp (ps_meth hX PySem.F.slot_list_extend PySem.F.type_list_extend mt_extend h1 h3 h4) fun D σ H q => rd_ext q
    · cases h
  | .ifs c a b, X, st, hX, h => by
    unfold chkS at h
    split at h
    · obtain ⟨h1, h2, h3⟩ := and3 h
      exact PS.imp (ps_if (sndE c hX h1).2 (sndSs a hX h2) (sndSs b hX h3)) fun D σ H q => rd_if q
    · cases h
  | .for_ tg it b fg, X, st, hX, h => by
    unfold chkS at h
    split at h
    · obtain ⟨h1, h2, h3⟩ := and3 h
      exact PS.imp (ps_for (hpO hX) hX.calm (sndI it hX h1) (pgT hX.calm hX.nd hX.hN hX.hsc hX.fn h2) (sndSs b hX h3) (chkI_fold h1 X.env)) fun D σ H q => rd_for q
    · cases h
  | .wh c b fg, X, st, hX, h => by
    unfold chkS at h
    split at h
    · obtain ⟨h1, h2⟩ := and2 h
      exact PS.imp (ps_while (hpO hX) (sndE c hX h1).2 (sndSs b hX h2)) fun D σ H q => rd_wh q
    · cases h
  | .ret a, X, st, hX, h => by
    unfold chkS at h
    split at h
    · obtain ⟨h1, h2⟩ := and2 h
      exact PS.imp (ps_ret (sndE a hX h1).1) fun D σ H q => rd_ret h2 q
    · split at h
      · refine PS.imp ps_retN fun D σ H q => ?_
        obtain ⟨Mo, pins, env, r, C, hd, q⟩ := q
        simp only [denS, denE, Option.bind_some] at hd
        cases hd
        exact q .non σ H C .refl rfl fun z => absurd z (by simpa using h)
      · cases h
    · cases h
  | .drop a, X, st, hX, h => by
    unfold chkS at h
    split at h
    · obtain ⟨h1, h2⟩ := and2 h
      exact PS.imp (ps_expr (sndE a hX h1).1 (sw_none h1 (by simpa using h2))) fun D σ H q => rd_drop q
    · cases h
  | .brk, X, st, hX, h => by
    unfold chkS at h
    split at h
    · exact PS.imp ps_break fun D σ H q => rd_brk q
    · cases h
  | .cnt, X, st, hX, h => by
    unfold chkS at h
    split at h
    · exact PS.imp ps_continue fun D σ H q => rd_cnt q
    · cases h
  | .frz i, X, st, hX, h => by
    unfold chkS at h
    cases h
theorem sndSs : ∀ (c : Ss) {X : Cx} {l : List Stmt}, SX S G F N sc N n X → chkSs S G N sc fr c l = true → PSs X l (tSs F X.K fr c)
  | .nil, X, l, hX, h => by
    unfold chkSs at h
    cases l with
    | nil => exact PSs.imp pss_nil fun D σ H q => rd_nil q
    | cons _ _ => cases h
  | .cons s ss, X, l, hX, h => by
    by_cases hf : ∃ i, s = .frz i
    · obtain ⟨i, rfl⟩ := hf
      unfold chkSs at h
      exact PSs.imp (pss_frz (sndSs ss hX h)) fun D σ H q => rd_frz q
    · cases l with
      | nil => cases s <;> first | exact absurd ⟨_, rfl⟩ hf | (unfold chkSs at h; cases h)
      | cons st l =>
        have h' : chkS S G N sc fr s st = true ∧ chkSs S G N sc fr ss l = true := by
          cases s <;> first | exact absurd ⟨_, rfl⟩ hf | (unfold chkSs at h; exact and2 h)
        exact PSs.imp (pss_cons (sndS s hX h'.1) (sndSs ss hX h'.2)) fun D σ H q => rd_seq q
end
end
end PC
set_option Elab.async false
set_option linter.all false
set_option maxRecDepth 100000
/-! PyCore, part 16: every def of a checked program keeps the promise that run makes, level by level. -/
namespace PC
open PySem PySem.Spec PyProof.Rows L2

structure DefT where
  name : Str
  args : Arguments
  body : List Stmt
  sc : Scope
  ps : List Str
  N : List Str
  dfl : List D
  df : Df
  fr : Bool
  kw : List (List Str × List Nat)
def sigs (T : List DefT) : List FnS := T.map fun d => ⟨d.name, d.ps.length, d.dfl, d.fr, d.kw⟩
def chkD (S : List FnS) (G : List (Str × D)) (d : DefT) : Bool :=
  (match d.sc.kind with | .function => true | _ => false) && !d.sc.isCoroutine && !d.sc.isGenerator && decide d.N.Nodup && decide (d.N.take d.ps.length = d.ps) && (d.ps.all fun x => locK d.sc x) &&
    (d.sc.names.all fun y => match y.2 with | .free => false | _ => true) && decide (d.df.ar = d.ps.length) && decide (d.df.sl = d.N.length) && chkSs S G d.N d.sc d.fr d.df.body d.body
theorem chkD_scope {S : List FnS} {G : List (Str × D)} {d : DefT} (h : chkD S G d = true) : FnScope d.N d.ps d.sc ∧ d.df.ar = d.ps.length ∧ d.df.sl = d.N.length ∧ chkSs S G d.N d.sc d.fr d.df.body d.body = true := by
  unfold chkD at h
  simp only [Bool.and_eq_true, Bool.not_eq_true', decide_eq_true_eq] at h
  obtain ⟨⟨⟨⟨⟨⟨⟨⟨⟨h1, h2⟩, h3⟩, h4⟩, h5⟩, h6⟩, h7⟩, h8⟩, h9⟩, h10⟩ := h
  refine ⟨⟨?_, h2, h3, h4, h5, fun x hx => locK_loc (List.all_eq_true.mp h6 x hx), fun y hy e => ?_⟩, h8, h9, h10⟩
  · split at h1
    · assumption
    · cases h1
  · have := List.all_eq_true.mp h7 y hy
    rw [e] at this
    cases this
/-- what stands of a def behind the top -/
structure DefF (K : PySem.W.Frag) (mg : Str → Option Value) (d : DefT) (fa : Addr) (fd : FuncData) : Prop where
  mg : mg d.name = some (.ref fa)
  fn : FunD K d.name d.name d.args d.body d.sc (d.dfl.map flatV) [] fa fd
  bd : ∀ j, j ≤ d.dfl.length → ∃ ds, Vals ((d.dfl.drop j).map flatV) ds ∧ Binds K fd d.ps ds
  kb : ∀ q ∈ d.kw, KBn K fd d.ps 0 q.1 (fun _ ws => permR q.2 ws) (fun _ zs => permR q.2 zs)

section
variable {K : PySem.W.Frag} {Mo : Addr → Prop} {H H' : Hp} {as : List Sl} {vs : List V}
theorem tagged_len : ∀ {as : List Sl} {k : Nat}, (tagged k as).length = as.length
  | [], k => rfl
  | .no :: r, k => by rw [tagged, List.length_cons, List.length_cons, tagged_len]; exact fun _ _ z => by cases z
  | .val _ :: r, k => by rw [tagged, List.length_cons, List.length_cons, tagged_len]; exact fun _ _ z => by cases z
  | .own _ _ :: r, k => by rw [tagged, List.length_cons, List.length_cons, tagged_len]
theorem tagged_get : ∀ {as : List Sl} {k i : Nat}, (tagged k as)[i]? = (as[i]?).map fun s => match s with
    | .own _ xs => .own (some (k + i)) xs
    | s => s
  | [], k, i => by simp [tagged]
  | .own t xs :: r, k, 0 => by simp [tagged]
  | .val d :: r, k, 0 => by simp [tagged]
  | .no :: r, k, 0 => by simp [tagged]
  | .own t xs :: r, k, i + 1 => by
    simp only [tagged, List.getElem?_cons_succ]
    rw [tagged_get]
    cases r[i]? with
    | none => rfl
    | some s => cases s <;> first | rfl | (simp only [Option.map_some]; rw [show k + 1 + i = k + (i + 1) by omega])
  | .val d :: r, k, i + 1 => by
    have e : tagged k (.val d :: r) = .val d :: tagged (k + 1) r := by rw [tagged]; exact fun _ _ z => by cases z
    rw [e, List.getElem?_cons_succ, List.getElem?_cons_succ, tagged_get]
    cases r[i]? with
    | none => rfl
    | some s => cases s <;> first | rfl | (simp only [Option.map_some]; rw [show k + 1 + i = k + (i + 1) by omega])
  | .no :: r, k, i + 1 => by
    have e : tagged k (.no :: r) = .no :: tagged (k + 1) r := by rw [tagged]; exact fun _ _ z => by cases z
    rw [e, List.getElem?_cons_succ, List.getElem?_cons_succ, tagged_get]
    cases r[i]? with
    | none => rfl
    | some s => cases s <;> first | rfl | (simp only [Option.map_some]; rw [show k + 1 + i = k + (i + 1) by omega])
def env0 (as : List Sl) (n : Nat) : En := tagged 0 as ++ List.replicate n .no
theorem env0_get {n i : Nat} {s : Sl} (h : (env0 as n)[i]? = some s) : (∃ a, as[i]? = some a ∧ s = (match a with | .own _ xs => .own (some i) xs | s => s)) ∨ s = .no := by
  unfold env0 at h
  by_cases hi : i < (tagged 0 as).length
  · rw [List.getElem?_append_left hi, tagged_get] at h
    obtain ⟨a, e1, e2⟩ := omap h
    refine .inl ⟨a, e1, ?_⟩
    rw [← e2]
    cases a <;> first | rfl | simp
  · rw [List.getElem?_append_right (by omega), List.getElem?_replicate] at h
    split at h
    · exact .inr (Option.some.inj h).symm
    · cases h
theorem env0_own {n i : Nat} {t : Option Nat} {xs : D} (h : (env0 as n)[i]? = some (.own t xs)) : t = some i ∧ ∃ u, as[i]? = some (.own u xs) := by
  rcases env0_get h with ⟨a, e1, e2⟩ | e
  · cases a with
    | own u ys =>
      cases e2
      exact ⟨rfl, u, e1⟩
    | _ => cases e2
  · cases e
theorem env0_val {n i : Nat} {d : D} (h : (env0 as n)[i]? = some (.val d)) : as[i]? = some (.val d) := by
  rcases env0_get h with ⟨a, e1, e2⟩ | e
  · cases a with
    | val u =>
      cases e2
      exact e1
    | _ => cases e2
  · cases e
theorem own_env0 {n i : Nat} {u : Option Nat} {xs : D} (h : as[i]? = some (.own u xs)) : (env0 as n)[i]? = some (.own (some i) xs) := by
  have hi : i < as.length := (List.getElem?_eq_some_iff.mp h).1
  unfold env0
  rw [List.getElem?_append_left (by rw [tagged_len]; exact hi), tagged_get, h]
  simp
theorem start_get {N : List Str} {i : Nat} {v : V} (h : vs[i]? = some v) : (L2.start N vs)[i]? = some (some v) := by
  have hi : i < vs.length := (List.getElem?_eq_some_iff.mp h).1
  unfold L2.start
  rw [List.getElem?_append_left (by simpa using hi), List.getElem?_map, h]
  rfl
def pinV (vs : List V) (k : Nat) : Addr := match vs[k]? with
  | some (.ref p) => p
  | _ => 0
theorem pinV_eq {k : Nat} {p : Addr} (h : vs[k]? = some (.ref p)) : pinV vs k = p := by
  unfold pinV
  rw [h]
theorem own0 {N : List Str} {n : Nat} (ha : ARs K Mo H as vs) (a : Addr) : Own (env0 as n) (L2.start N vs) a ↔ OwnA as vs a := by
  constructor
  · rintro ⟨i, t, xs, e1, e2⟩
    obtain ⟨_, u, e3⟩ := env0_own e1
    obtain ⟨p, ws, e4, _⟩ := ha.own e3
    rw [start_get e4] at e2
    cases e2
    exact ⟨i, u, xs, e3, e4⟩
  · rintro ⟨i, t, xs, e1, e2⟩
    exact ⟨i, _, xs, own_env0 e1, start_get e2⟩
theorem corr0 {N : List Str} (hl : as.length ≤ N.length) (hm : OM Mo H) (ha : ARs K Mo H as vs) (hd : DisA as vs) : Corr K Mo (pinV vs) (env0 as (N.length - as.length)) (L2.start N vs) H := by
  have sub : ∀ a, MM Mo (env0 as (N.length - as.length)) (L2.start N vs) a → Mo a := fun a z => by
    rcases z with z | z
    · exact z
    · obtain ⟨i, t, xs, e1, e2⟩ := (own0 ha a).mp z
      obtain ⟨p, ws, e3, m, _⟩ := ha.own e1
      rw [e2] at e3
      cases e3
      exact m
  refine ⟨?_, hm, fun i d e => ?_, fun i t xs e => ?_, fun i j t u xs ys p hij e1 e2 f1 f2 => ?_⟩
  · unfold env0 L2.start
    rw [List.length_append, List.length_append, tagged_len, List.length_map, List.length_replicate, List.length_replicate, ha.length]
  · obtain ⟨v, e1, r1⟩ := ha.val (env0_val e)
    exact ⟨v, start_get e1, r1.anti sub⟩
  · obtain ⟨rfl, u, e1⟩ := env0_own e
    obtain ⟨p, ws, e2, m, e3, r⟩ := ha.own e1
    refine ⟨p, ws, start_get e2, e3, r.anti sub, nofun, fun k z => ?_⟩
    cases z
    exact ⟨(pinV_eq e2).symm, m⟩
  · obtain ⟨_, t', e3⟩ := env0_own e1
    obtain ⟨_, u', e4⟩ := env0_own e2
    obtain ⟨p1, _, g1, _⟩ := ha.own e3
    obtain ⟨p2, _, g2, _⟩ := ha.own e4
    rw [start_get g1] at f1
    rw [start_get g2] at f2
    cases f1
    cases f2
    exact hd i j _ _ xs ys _ hij e3 e4 g1 g2
theorem outsOf_get {e : En} : ∀ {as : List Sl} {k i : Nat} {outs : List Sl} {t : Option Nat} {xs : D}, outsOf e k as = some outs → as[i]? = some (.own t xs) → ∃ ys, e[k + i]? = some (.own (some (k + i)) ys) ∧ outs[i]? = some (.own none ys)
  | [], k, i, outs, t, xs, h, e1 => by simp at e1
  | .own u zs :: r, k, i, outs, t, xs, h, e1 => by
    unfold outsOf at h
    split at h
    · rename_i j ys he
      split at h
      · rename_i hj
        obtain ⟨o, h1, rfl⟩ := omap h
        cases i with
        | zero => exact ⟨ys, by rw [Nat.add_zero, he, hj], rfl⟩
        | succ i =>
          obtain ⟨ys', h2, h3⟩ := outsOf_get h1 (i := i) (by simpa using e1)
          rw [show k + 1 + i = k + (i + 1) by omega] at h2
          exact ⟨ys', h2, by simpa using h3⟩
      · cases h
    · cases h
  | .val d :: r, k, 0, outs, t, xs, h, e1 => by simp at e1
  | .no :: r, k, 0, outs, t, xs, h, e1 => by simp at e1
  | .val d :: r, k, i + 1, outs, t, xs, h, e1 => by
    rw [outsOf] at h
    · obtain ⟨o, h1, rfl⟩ := omap h
      obtain ⟨ys', h2, h3⟩ := outsOf_get h1 (i := i) (by simpa using e1)
      rw [show k + 1 + i = k + (i + 1) by omega] at h2
      exact ⟨ys', h2, by simpa using h3⟩
    · exact fun _ _ z => by cases z
  | .no :: r, k, i + 1, outs, t, xs, h, e1 => by
    rw [outsOf] at h
    · obtain ⟨o, h1, rfl⟩ := omap h
      obtain ⟨ys', h2, h3⟩ := outsOf_get h1 (i := i) (by simpa using e1)
      rw [show k + 1 + i = k + (i + 1) by omega] at h2
      exact ⟨ys', h2, by simpa using h3⟩
    · exact fun _ _ z => by cases z
theorem outsOf_len {e : En} : ∀ {as : List Sl} {k : Nat} {outs : List Sl}, outsOf e k as = some outs → outs.length = as.length
  | [], k, outs, h => by
    cases h
    rfl
  | .own u zs :: r, k, outs, h => by
    unfold outsOf at h
    split at h
    · split at h
      · obtain ⟨o, h1, rfl⟩ := omap h
        rw [List.length_cons, List.length_cons, outsOf_len h1]
      · cases h
    · cases h
  | .val d :: r, k, outs, h => by
    rw [outsOf] at h
    · obtain ⟨o, h1, rfl⟩ := omap h
      rw [List.length_cons, List.length_cons, outsOf_len h1]
    · exact fun _ _ z => by cases z
  | .no :: r, k, outs, h => by
    rw [outsOf] at h
    · obtain ⟨o, h1, rfl⟩ := omap h
      rw [List.length_cons, List.length_cons, outsOf_len h1]
    · exact fun _ _ z => by cases z
theorem ou_of {M : Addr → Prop} {e : En} {σ' : L2.St} {outs : List Sl} (ha : ARs K Mo H as vs) (C : Corr K M (pinV vs) e σ' H') (ho : outsOf e 0 as = some outs) : ∀ (i : Nat) (t : Option Nat) (xs : D), as[i]? = some (.own t xs) → ∃ (u : Option Nat) (ys : D) (p : Addr) (ws : HO), outs[i]? = some (.own u ys) ∧ vs[i]? = some (.ref p) ∧ H' p = some ws ∧ RepO K M H' ys ws := fun i t xs e1 => by
  obtain ⟨ys, g1, g2⟩ := outsOf_get ho e1
  rw [Nat.zero_add] at g1
  obtain ⟨p, ws, k1, k2, k3, _, k5⟩ := C.ow i _ ys g1
  obtain ⟨q, _, g3, _⟩ := ha.own e1
  have := (k5 i rfl).1
  rw [pinV_eq g3] at this
  subst this
  exact ⟨none, ys, p, ws, g2, g3, k2, k3.anti fun a z => .inl z⟩
theorem frc_of {e : En} {σ' : L2.St} {outs : List Sl} {r : D} {v : V} (ha : ARs K Mo H as vs) (ho : outsOf e 0 as = some outs) (f : FR K Mo (pinV vs) e σ' H H' (.v r) v) : FrC K Mo as vs outs r H v H' := fun hc => by
  obtain ⟨p, ws, g1, g2, g3, C, R⟩ := f r rfl hc
  exact ⟨p, ws, g1, g2, g3, R.anti fun a z => .inl z, ou_of ha C ho⟩
theorem cpost_of {N : List Str} {n : Nat} {e : En} {σ' : L2.St} {outs : List Sl} {r : D} {v : V} (ha : ARs K Mo H as vs) (C : Corr K Mo (pinV vs) e σ' H') (S : FSt (env0 as n) e (L2.start N vs) σ' H H') (ho : outsOf e 0 as = some outs) (R : Rep K (MM Mo e σ') H' r v) : CPost K Mo as vs outs r H v H' where
  kp := ⟨fun a o n e => S.kp.old a o (fun z => n ((own0 ha a).mp z)) e, fun a o z e m => by
    obtain ⟨i, t, xs, e1, e2⟩ := z
    obtain ⟨ys, g1, g2⟩ := outsOf_get ho e1
    rw [Nat.zero_add] at g1
    obtain ⟨p, ws, k1, k2, k3, _, k5⟩ := C.ow i _ ys g1
    have := (k5 i rfl).1
    rw [pinV_eq e2] at this
    subst this
    exact ⟨ws, k2, k3.isM⟩⟩
  ou := fun i t xs e1 => by
    obtain ⟨ys, g1, g2⟩ := outsOf_get ho e1
    rw [Nat.zero_add] at g1
    obtain ⟨p, ws, k1, k2, k3, _, k5⟩ := C.ow i _ ys g1
    obtain ⟨q, _, g3, _⟩ := ha.own e1
    have := (k5 i rfl).1
    rw [pinV_eq g3] at this
    subst this
    exact ⟨none, ys, p, ws, g2, g3, k2, k3.anti fun a z => .inl z⟩
  len := outsOf_len ho
  rep := R.anti fun a z => .inl z
end

section
variable {P : Program} {w : World} {K : PySem.W.Frag} {mg : Str → Option Value} {base : Heap} {T : List DefT} {G : List (Str × D)}
theorem fn_okS {Sp : DefT → Prop} (hchk : ∀ d ∈ T, (d.df.pm = none ∧ chkD (sigs T) G d = true) ∨ Sp d) (hF : ∀ d ∈ T, ∃ fa fd, DefF K mg d fa fd) (hG : ∀ p ∈ G, ∃ u v, mg p.1 = some u ∧ RelV v u ∧ ∀ M H, Rep K M H p.2 v) (hb : ∀ x ∈ biNames, mg x = none) 
    (hsp : ∀ d, Sp d → ∀ (n f : Nat) (fa : Addr) (fd : FuncData), T[f]? = some d → DefF K mg d fa fd → (∀ (g : Nat) (d' : DefT) (fa' : Addr) (fd' : FuncData), T[g]? = some d' → DefF K mg d' fa' fd' → FnOk P w K mg base CX0 (2 * n) fa' fd' d'.ps (spOf K (run (T.map (·.df)) n g) d'.ps.length d'.fr)) → FnOk P w K mg base CX0 (2 * (n + 1)) fa fd d.ps (spOf K (run (T.map (·.df)) (n + 1) f) d.ps.length d.fr)) :
    ∀ (n f : Nat) (d : DefT) (fa : Addr) (fd : FuncData), T[f]? = some d → DefF K mg d fa fd → FnOk P w K mg base CX0 (2 * n) fa fd d.ps (spOf K (run (T.map (·.df)) n f) d.ps.length d.fr)
  | 0, f, d, fa, fd, hd, F => by
    refine ⟨fun vs H Q E h => ?_, fun A outer s H args us vs Q E hr he hbn hv h => ?_⟩
    · obtain ⟨Mo, as, r, outs, _, _, _, _, z, _⟩ := h
      cases z
    · obtain ⟨Mo, as, r, outs, _, _, _, _, z, _⟩ := h
      cases z
  | n + 1, f, d, fa, fd, hd, F => by
    have hm : d ∈ T := List.mem_of_getElem? hd
    rcases hchk d hm with ⟨hpm, hck⟩ | hs
    case inr => exact hsp d hs n f fa fd hd F fun g d' fa' fd' hd' F' => fn_okS hchk hF hG hb hsp n g d' fa' fd' hd' F'
    obtain ⟨S, har, hsl, hss⟩ := chkD_scope hck
    refine F.fn.ok S (fun vs H Q E h => ?_) (fun cdv A outer s H vs Q E hr h => ?_)
    · obtain ⟨Mo, as, r, outs, hl, _, ha, _⟩ := h
      rw [ha.length, hl]
    · obtain ⟨Mo, as, r, outs, hl, hM, ha, hdis, hrun, q⟩ := h
      have hX : SX (sigs T) G (run (T.map (·.df)) n) d.N d.sc d.N (2 * n) (cxOf CX0 P w K mg base d.N d.name d.sc fa cdv A outer s H E).nox := {
        calm := rfl
        nd := S.nd
        hN := rfl
        hsc := rfl
        fk := S.kind
        room := hr.mono (Nat.le_succ _)
        room1 := hr.in1
        fns := fun g sg hg => by
          unfold sigs at hg
          rw [List.getElem?_map] at hg
          obtain ⟨d', hd', rfl⟩ := omap hg
          obtain ⟨fa', fd', F'⟩ := hF d' (List.mem_of_getElem? hd')
          exact ⟨fa', fd', d'.ps, F'.mg, F'.fn.kp, rfl, fn_okS hchk hF hG hb hsp n g d' fa' fd' hd' F', F'.bd, F'.kb⟩
        glo := hG
        bi := hb
        fn := fun x hx => .inl rfl
        xe := rfl }
      refine ⟨_, (sndSs d.df.body hX hss).nox, ?_⟩
      simp only [run, List.getElem?_map, hd, Option.map_some, Option.bind_some] at hrun
      rw [denF_none hpm] at hrun
      unfold denB at hrun
      split at hrun
      · rename_i hlen
        obtain ⟨c, h1, h2⟩ := obind hrun
        have hle : as.length ≤ d.N.length := by
          rw [hl, ← S.pre, List.length_take]
          exact Nat.min_le_right _ _
        have C0 := corr0 (N := d.N) hle hM ha hdis
        have he : env0 as (d.N.length - as.length) = tagged 0 as ++ List.replicate (d.df.sl - d.df.ar) .no := by
          unfold env0
          rw [hsl, hlen]
        refine ⟨Mo, pinV vs, _, c, C0, by rw [he]; exact h1, ?_⟩
        cases c with
        | nx e =>
          obtain ⟨o, ho, h3⟩ := omap h2
          cases h3
          exact fun σ' H' C S => q .non H' (cpost_of ha C S ho rfl) fun z hc => by cases hc
        | ret d' e =>
          obtain ⟨o, ho, h3⟩ := omap h2
          cases h3
          exact fun v σ' H' C S R f => q v H' (cpost_of ha C S ho R) fun z => frc_of ha ho (f z)
        | brk e => cases h2
        | ct e => cases h2
      · cases hrun
theorem fn_ok (hchk : ∀ d ∈ T, d.df.pm = none ∧ chkD (sigs T) G d = true) (hF : ∀ d ∈ T, ∃ fa fd, DefF K mg d fa fd) (hG : ∀ p ∈ G, ∃ u v, mg p.1 = some u ∧ RelV v u ∧ ∀ M H, Rep K M H p.2 v) (hb : ∀ x ∈ biNames, mg x = none) :
    ∀ (n f : Nat) (d : DefT) (fa : Addr) (fd : FuncData), T[f]? = some d → DefF K mg d fa fd → FnOk P w K mg base CX0 (2 * n) fa fd d.ps (spOf K (run (T.map (·.df)) n f) d.ps.length d.fr) :=
  fn_okS (Sp := fun _ => False) (fun d hd => .inl (hchk d hd)) hF hG hb (fun _ z => z.elim)
end
end PC
set_option Elab.async false
set_option linter.all false
set_option maxRecDepth 100000
/-! PyCore, part 17: a row's law, from what run says. -/
namespace PC
open PySem PySem.Spec PyProof.Rows L2

theorem reps_intsV {K : PySem.W.Frag} {M : Addr → Prop} {H : Hp} : ∀ ns : List Int, Reps K M H (ns.map .int) (ns.map V.int)
  | [] => rfl
  | n :: ns => ⟨_, _, rfl, rfl, reps_intsV ns⟩
/-- the law's def gives True at every script -/
theorem law_sp {K : PySem.W.Frag} {G : List Sl → Option (D × List Sl)} {H : Hp} {a : Addr} {ns : List Int} {E : XK} {o : List Sl} (h : G [.val (.scr (ns.map .int))] = some (.bl true, o)) (hO : Only H) (hS : SqL K H a (ns.map V.int)) : spOf K G 1 false [.ref a] H (fun v _ => v = .bl true) E := by
  refine ⟨fun _ => False, [.val (.scr (ns.map .int))], .bl true, o, rfl, fun _ z => z.elim, ⟨.ref a, [], rfl, ⟨a, _, rfl, ?_, reps_intsV ns⟩, rfl⟩, fun i j t u xs ys p hij e1 e2 => ?_, h, fun v H' P _ => P.rep⟩
  · rcases hS with (hS | ⟨ob, hS⟩) | hS
    · rcases hO a with e | ⟨ob, xs, e⟩
      · rw [hS] at e
        cases e
      · rw [hS] at e
        cases e
    · exact .inl ⟨ob, hS⟩
    · exact .inr (.inr hS)
  · cases i with
    | zero => cases e1
    | succ i => simp at e1
end PC
set_option Elab.async false
set_option linter.all false
/-! PyCore, part 18: reasoning about run: weakest preconditions, in plain Lean. -/
namespace PC
open PySem

/-- some value, and then -/
def wpV {α : Type} (o : Option α) (Q : α → Prop) : Prop := ∃ a, o = some a ∧ Q a
/-- a truth, and then -/
def wpB (r : R) (Q : Bool → Prop) : Prop := ∃ k, r = .v (.bl k) ∧ Q k
def wpN (r : R) (Q : Int → Prop) : Prop := ∃ k, r = .v (.int k) ∧ Q k
@[simp] theorem wpV_some {α : Type} {a : α} {Q : α → Prop} : wpV (some a) Q ↔ Q a := by simp [wpV]
@[simp] theorem wpV_none {α : Type} {Q : α → Prop} : wpV none Q ↔ False := by simp [wpV]
theorem wpV_of {α : Type} {o : Option α} {a : α} {Q : α → Prop} (h : o = some a) (q : Q a) : wpV o Q := ⟨a, h, q⟩
@[simp] theorem wpB_bl {k : Bool} {Q : Bool → Prop} : wpB (.v (.bl k)) Q ↔ Q k := by simp [wpB]
@[simp] theorem wpN_int {k : Int} {Q : Int → Prop} : wpN (.v (.int k)) Q ↔ Q k := by simp [wpN]
def wpL (e : En) (i : Nat) (Q : Option Nat → List D → Prop) : Prop := match e[i]? with
  | some (.own t (.lst xs)) => Q t xs
  | _ => False
def wpDc (e : En) (i : Nat) (Q : Option Nat → Bool → List D → List D → Prop) : Prop := match e[i]? with
  | some (.own t (.dic b ks vs)) => Q t b ks vs
  | _ => False
def wpLs (d : D) (Q : List D → Prop) : Prop := match d with
  | .lst xs => Q xs
  | _ => False
theorem wpL_ex {e : En} {i : Nat} {Q : Option Nat → List D → Prop} (h : wpL e i Q) : ∃ t xs, e[i]? = some (.own t (.lst xs)) ∧ Q t xs := by
  unfold wpL at h
  split at h
  · rename_i t xs h1
    exact ⟨t, xs, h1, h⟩
  · exact h.elim
theorem wpDc_ex {e : En} {i : Nat} {Q : Option Nat → Bool → List D → List D → Prop} (h : wpDc e i Q) : ∃ t b ks vs, e[i]? = some (.own t (.dic b ks vs)) ∧ Q t b ks vs := by
  unfold wpDc at h
  split at h
  · rename_i t b ks vs h1
    exact ⟨t, b, ks, vs, h1, h⟩
  · exact h.elim
theorem wpLs_ex {d : D} {Q : List D → Prop} (h : wpLs d Q) : ∃ xs, d = .lst xs ∧ Q xs := by
  unfold wpLs at h
  split at h
  · exact ⟨_, rfl, h⟩
  · exact h.elim
/-- the items of a comprehension, one by one -/
def compF (F : CallF) (own : List Nat) (tg : Tg) (cs : Es) (elt : Ex) (p : En × List D) (x : D) : Option (En × List D) :=
  (setTg tg x (wipeE p.1 own)).bind fun e2 => (denCs F cs e2).bind fun (k, e3) =>
    if k then (denE F elt e3).bind fun (r, e4) => (sol r).map fun d => (e4, p.2 ++ [d]) else some (e3, p.2)

/-- a comprehension over these items -/
def wpComp (F : CallF) (own : List Nat) (tg : Tg) (cs : Es) (elt : Ex) (xs : List D) (e : En) (Q : D → En → Prop) : Prop := wpV (xs.foldlM (compF F own tg cs elt) (wipeE e own, [])) fun p => Q (.lst p.2) (wipeE p.1 own)
/-- two fors, item by item of the first -/
def compF2 (F : CallF) (own : List Nat) (tg : Tg) (own1 : List Nat) (tg1 : Tg) (it1 : It) (cs : Es) (elt : Ex) (p : En × List D) (x : D) : Option (En × List D) :=
  (setTg tg x (wipeE p.1 own)).bind fun e2 => (denI F it1 e2).bind fun (ys, e3) => if p.2.length + ys.length ≤ LINE ∧ noneAt e3 own1 = true then
    ys.foldlM (compF F own1 tg1 cs elt) (e3, p.2) else none
def wpComp2 (F : CallF) (own : List Nat) (tg : Tg) (own1 : List Nat) (tg1 : Tg) (it1 : It) (cs : Es) (elt : Ex) (xs : List D) (e : En) (Q : D → En → Prop) : Prop := wpV (xs.foldlM (compF2 F own tg own1 tg1 it1 cs elt) (wipeE e own, [])) fun p => Q (.lst p.2) (wipeE p.1 own)
section
variable (F : CallF)
def wpC (f : Nat) (as : List Sl) (Q : D → List Sl → Prop) : Prop := ∃ d o, F f as = some (d, o) ∧ Q d o
mutual
@[simp] def WE : Ex → En → (R → En → Prop) → Prop
  | .var i, e, Q => wpV (varR e i) fun r => Q r e
  | .con d, e, Q => Q (.v d) e
  | .glo _ d, e, Q => Q (.v d) e
  | .bin o a b, e, Q => WE a e fun x e1 => WE b e1 fun y e2 => wpV (view e2 x) fun u => wpV (view e2 y) fun w => wpV (binD o u w) fun d => Q (.v d) e2
  | .neg a, e, Q => WE a e fun x e1 => wpV (sol x) fun u => wpV (negD u) fun d => Q (.v d) e1
  | .cmp o a b, e, Q => WE a e fun x e1 => WE b e1 fun y e2 => wpV (view e2 x) fun u => wpV (view e2 y) fun w => wpV (cmpD o u w) fun c => Q (.v (.bl c)) e2
  | .cmp2 o p a b c, e, Q => WE a e fun x e1 => WE b e1 fun y e2 => wpV (sol x) fun u => wpV (sol y) fun w => wpV (cmpD o u w) fun k =>
      (k = true → WE c e2 fun z e3 => wpV (sol z) fun q => wpV (cmpD p w q) fun c => Q (.v (.bl c)) e3) ∧ (k = false → Q (.v (.bl false)) e2)
  | .isC g a d, e, Q => WE a e fun x e1 => wpV (sol x) fun u => wpV (isD u d) fun c => Q (.v (.bl (if g then !c else c))) e1
  | .ands es, e, Q => WAnd es e Q
  | .ors es, e, Q => WOr es e Q
  | .nt a, e, Q => WE a e fun x e1 => wpB x fun k => Q (.v (.bl (!k))) e1
  | .ite c a b, e, Q => WE c e fun x e1 => wpB x fun k => (k = true → WE a e1 Q) ∧ (k = false → WE b e1 Q)
  | .tup es, e, Q => WA es e fun rs e1 => wpV (rs.mapM sol) fun ds => ds.length ≤ LINE ∧ Q (.v (.tup ds)) e1
  | .lst es, e, Q => WA es e fun rs e1 => wpV (rs.mapM sol) fun ds => ds.length ≤ LINE ∧ Q (.v (.lst ds)) e1
  | .rl1 tp b, e, Q => WE b e fun y e2 => wpN y fun n => (-1000000000 ≤ n ∧ n ≤ 16777216) ∧ Q (.v (rngD tp 0 n)) e2
  | .rl2 tp a b, e, Q => WE a e fun x e1 => WE b e1 fun y e2 => wpN x fun m => wpN y fun n => (-1000000000 ≤ m ∧ m ≤ 1000000000 ∧ -1000000000 ≤ n ∧ n ≤ 1000000000 ∧ n - m ≤ 16777216) ∧ Q (.v (rngD tp m n)) e2
  | .idx a i, e, Q => WE a e fun x e1 => WE i e1 fun y e2 => wpV (view e2 x) fun u => wpV (sol y) fun w => wpV (idxD u w) fun d => Q (.v d) e2
  | .slc a lo hi, e, Q => WE a e fun x e1 => WO lo e1 fun l e2 => WO hi e2 fun h e3 => wpV (view e3 x) fun u => wpV (slcD l h u) fun d => Q (.v d) e3
  | .slcS a lo hi st, e, Q => WE a e fun x e1 => WO lo e1 fun l e2 => WO hi e2 fun h e3 => WO st e3 fun k e4 => wpV (view e4 x) fun u => wpV (slcSD l h k u) fun d => Q (.v d) e4
  | .bi b es, e, Q => WA es e fun rs e1 => wpV (rs.mapM (view e1)) fun ds => wpV (biD b ds) fun d => Q (.v d) e1
  | .sset a, e, Q => WE a e fun x e1 => wpV (view e1 x) fun u => wpV (ssetD u) fun d => Q (.v d) e1
  | .minK f a, e, Q => WE a e fun x e1 => wpV (view e1 x) fun u => wpV (wlsD u) fun xs => wpV (xs.mapM fun x => (F f [.val x]).map (·.1)) fun ks => keyOk xs ks = true ∧ wpV (minK (xs.zip ks)) fun d => Q (.v d) e1
  | .isi a t, e, Q => WE a e fun x e1 => wpV (view e1 x) fun u => wpV (isiD t u) fun c => Q (.v (.bl c)) e1
  | .call _ f es ds, e, Q => WA es e fun rs e1 => (slotsOf rs).Nodup ∧ wpV (argsOf e1 rs) fun as => wpC F f (as ++ ds.map .val) fun d outs => wpV (backs rs (outs.take rs.length) e1) fun e2 => Q (.v d) e2
  | .callK _ f pm es, e, Q => WA es e fun rs e1 => (slotsOf (permR pm rs)).Nodup ∧ wpV (argsOf e1 (permR pm rs)) fun as => wpC F f as fun d outs => wpV (backs (permR pm rs) (outs.take (permR pm rs).length) e1) fun e2 => Q (.v d) e2
  | .comp own tg it cs elt, e, Q => WI it e fun xs e1 => (xs.length < LINE ∧ noneAt e1 own = true) ∧ wpComp F own tg cs elt xs e1 fun d e2 => Q (.v d) e2
  | .compO i own tg cs elt, e, Q => wpV (ownL e i) fun q => (q.2.length < LINE ∧ noneAt e own = true) ∧ wpComp F own tg cs elt q.2 (e.set i .no) fun d e2 => Q (.v d) (e2.set i (.own q.1 (.lst q.2)))
  | .comp2 own tg it own1 tg1 it1 cs elt, e, Q => WI it e fun xs e1 => (xs.length < LINE ∧ noneAt e1 own = true) ∧ wpComp2 F own tg own1 tg1 it1 cs elt xs e1 fun d e2 => Q (.v d) e2
  | .index i b, e, Q => wpV (varR e i) fun r => wpV (view e r) fun u => isLst u = true ∧ WE b e fun y e1 => wpV (view e1 r) fun u1 => wpV (view e1 y) fun d => wpLs u1 fun xs => (okD (.lst xs) 60 && okD d 60) = true ∧ wpV (idxEq d xs) fun j => Q (.v (.int (j : Nat))) e1
  | .pop i, e, Q => wpL e i fun t xs => wpV (xs[xs.length - 1]?) fun d => Q (.v d) (e.set i (.own t (.lst xs.dropLast)))
  | .popA i a, e, Q => isOwn e i = true ∧ WE a e fun y e1 => wpL e1 i fun t xs => wpN y fun k => (0 ≤ k ∧ k < xs.length ∧ xs.length ≤ LINE) ∧ wpV (xs[k.toNat]?) fun d => Q (.v d) (e1.set i (.own t (.lst (xs.eraseIdx k.toNat))))
  | .dic0 t, e, Q => Q (.v (.dic t [] [])) e
@[simp] def WA : Es → En → (List R → En → Prop) → Prop
  | .nil, e, Q => Q [] e
  | .cons a es, e, Q => WE a e fun x e1 => WA es e1 fun xs e2 => Q (x :: xs) e2
@[simp] def WAnd : Es → En → (R → En → Prop) → Prop
  | .nil, _, _ => False
  | .cons a .nil, e, Q => WE a e Q
  | .cons a es, e, Q => WE a e fun x e1 => wpB x fun c => (c = true → WAnd es e1 Q) ∧ (c = false → Q (.v (.bl false)) e1)
@[simp] def WOr : Es → En → (R → En → Prop) → Prop
  | .nil, _, _ => False
  | .cons a .nil, e, Q => WE a e Q
  | .cons a es, e, Q => WE a e fun x e1 => wpB x fun c => (c = true → Q (.v (.bl true)) e1) ∧ (c = false → WOr es e1 Q)
@[simp] def WCs : Es → En → (Bool → En → Prop) → Prop
  | .nil, e, Q => Q true e
  | .cons a es, e, Q => WE a e fun x e1 => wpB x fun c => (c = true → WCs es e1 Q) ∧ (c = false → Q false e1)
@[simp] def WO : Oe → En → (Option Int → En → Prop) → Prop
  | .none, e, Q => Q none e
  | .some a, e, Q => WE a e fun x e1 => wpN x fun i => Q (some i) e1
@[simp] def WI : It → En → (List D → En → Prop) → Prop
  | .seq a, e, Q => WE a e fun x e1 => wpV (sol x) fun u => wpV (itOf u) fun xs => Q xs e1
  | .rng1 a, e, Q => WE a e fun x e1 => wpN x fun n => (-1000000000 ≤ n ∧ n ≤ LINE) ∧ Q (rngL 0 n) e1
  | .rng2 a b, e, Q => WE a e fun x e1 => WE b e1 fun y e2 => wpN x fun m => wpN y fun n => (-1000000000 ≤ m ∧ n - m ≤ LINE ∧ m ≤ 1000000000 ∧ n ≤ 1000000000 ∧ -1000000000 ≤ n) ∧ Q (rngL m n) e2
  | .enum a, e, Q => WE a e fun x e1 => wpV (sol x) fun u => wpV (seqOf u) fun xs => Q (xs.mapIdx fun i d => .tup [.int i, d]) e1
  | .zip a b, e, Q => WE a e fun x e1 => WE b e1 fun y e2 => wpV (sol x) fun u => wpV (sol y) fun w => wpV (seqOf u) fun xs => wpV (seqOf w) fun ys => Q ((xs.zip ys).map fun p => .tup [p.1, p.2]) e2
  | .zip3 a b c, e, Q => WE a e fun x e1 => WE b e1 fun y e2 => WE c e2 fun z e3 => wpV (sol x) fun u => wpV (sol y) fun w => wpV (sol z) fun t => wpV (seqOf u) fun xs => wpV (seqOf w) fun ys => wpV (seqOf t) fun zs => Q ((xs.zip (ys.zip zs)).map fun p => .tup [p.1, p.2.1, p.2.2]) e3
  | .rev a, e, Q => WE a e fun x e1 => wpV (sol x) fun u => ∃ xs, u = .lst xs ∧ Q xs.reverse e1
end
end

section
variable {F : CallF}
theorem denE_comp' {own : List Nat} {tg : Tg} {it : It} {cs : Es} {elt : Ex} {e : En} : denE F (.comp own tg it cs elt) e = (denI F it e).bind fun (xs, e1) =>
      if xs.length < LINE ∧ noneAt e1 own = true then (xs.foldlM (compF F own tg cs elt) (wipeE e1 own, [])).map fun p => (.v (.lst p.2), wipeE p.1 own) else none := by
  unfold compF
  rw [denE]
theorem denE_compO' {i : Nat} {own : List Nat} {tg : Tg} {cs : Es} {elt : Ex} {e : En} : denE F (.compO i own tg cs elt) e = (ownL e i).bind fun (t, xs) =>
      if xs.length < LINE ∧ noneAt e own = true then (xs.foldlM (compF F own tg cs elt) (wipeE (e.set i .no) own, [])).map fun p => (.v (.lst p.2), (wipeE p.1 own).set i (.own t (.lst xs))) else none := by
  unfold compF
  rw [denE]
theorem denE_comp2' {own : List Nat} {tg : Tg} {it : It} {own1 : List Nat} {tg1 : Tg} {it1 : It} {cs : Es} {elt : Ex} {e : En} : denE F (.comp2 own tg it own1 tg1 it1 cs elt) e = (denI F it e).bind fun (xs, e1) =>
      if xs.length < LINE ∧ noneAt e1 own = true then (xs.foldlM (compF2 F own tg own1 tg1 it1 cs elt) (wipeE e1 own, [])).map fun p => (.v (.lst p.2), wipeE p.1 own) else none := by
  unfold compF2 compF
  rw [denE]
mutual
theorem sE : ∀ (a : Ex) {e : En} {Q : R → En → Prop}, WE F a e Q → ∃ r e', denE F a e = some (r, e') ∧ Q r e'
  | .var i, e, Q, h => by
    obtain ⟨r, h1, q⟩ := h
    exact ⟨r, e, by simp only [denE, h1, Option.map_some], q⟩
  | .con d, e, Q, h => ⟨_, _, by simp only [denE], h⟩
  | .glo _ d, e, Q, h => ⟨_, _, by simp only [denE], h⟩
  | .bin o a b, e, Q, h => by
    obtain ⟨x, e1, d1, h⟩ := sE a (by simpa only [WE] using h)
    obtain ⟨y, e2, d2, h⟩ := sE b h
    obtain ⟨u, h1, w, h2, d, h3, q⟩ := h
    exact ⟨_, _, by simp only [denE, d1, d2, h1, h2, h3, Option.bind_some, Option.map_some], q⟩
  | .neg a, e, Q, h => by
    obtain ⟨x, e1, d1, h⟩ := sE a (by simpa only [WE] using h)
    obtain ⟨u, h1, d, h3, q⟩ := h
    exact ⟨_, _, by simp only [denE, d1, h1, h3, Option.bind_some, Option.map_some], q⟩
  | .cmp o a b, e, Q, h => by
    obtain ⟨x, e1, d1, h⟩ := sE a (by simpa only [WE] using h)
    obtain ⟨y, e2, d2, h⟩ := sE b h
    obtain ⟨u, h1, w, h2, d, h3, q⟩ := h
    exact ⟨_, _, by simp only [denE, d1, d2, h1, h2, h3, Option.bind_some, Option.map_some], q⟩
  | .cmp2 o p a b c, e, Q, h => by
    obtain ⟨x, e1, d1, h⟩ := sE a (by simpa only [WE] using h)
    obtain ⟨y, e2, d2, h⟩ := sE b h
    obtain ⟨u, h1, w, h2, k, h3, h⟩ := h
    cases k with
    | true =>
      obtain ⟨z, e3, d3, h⟩ := sE c (h.1 rfl)
      obtain ⟨q, h4, c', h5, q'⟩ := h
      exact ⟨_, _, by simp only [denE, d1, d2, h1, h2, h3, d3, h4, h5, Option.bind_some, Option.map_some, if_true], q'⟩
    | false => exact ⟨_, _, by simp only [denE, d1, d2, h1, h2, h3, Option.bind_some, Option.map_some, Bool.false_eq_true, if_false], h.2 rfl⟩
  | .isC g a d, e, Q, h => by
    obtain ⟨x, e1, d1, h⟩ := sE a (by simpa only [WE] using h)
    obtain ⟨u, h1, c, h3, q⟩ := h
    exact ⟨_, _, by simp only [denE, d1, h1, h3, Option.bind_some, Option.map_some], q⟩
  | .ands es, e, Q, h => by
    obtain ⟨r, e', h, q⟩ := sAnd es (by simpa only [WE] using h)
    exact ⟨r, e', by simp only [denE, h], q⟩
  | .ors es, e, Q, h => by
    obtain ⟨r, e', h, q⟩ := sOr es (by simpa only [WE] using h)
    exact ⟨r, e', by simp only [denE, h], q⟩
  | .nt a, e, Q, h => by
    obtain ⟨x, e1, d1, k, rfl, q⟩ := sE a (by simpa only [WE] using h)
    exact ⟨_, _, by simp only [denE, d1, Option.bind_some], q⟩
  | .ite c a b, e, Q, h => by
    obtain ⟨x, e1, d1, k, rfl, h⟩ := sE c (by simpa only [WE] using h)
    cases k with
    | true =>
      obtain ⟨r, e2, d2, q⟩ := sE a (h.1 rfl)
      exact ⟨_, _, by simp only [denE, d1, d2, Option.bind_some, if_true], q⟩
    | false =>
      obtain ⟨r, e2, d2, q⟩ := sE b (h.2 rfl)
      exact ⟨_, _, by simp only [denE, d1, d2, Option.bind_some, Bool.false_eq_true, if_false], q⟩
  | .tup es, e, Q, h => by
    obtain ⟨rs, e1, d1, ds, h1, h2, q⟩ := sA es (by simpa only [WE] using h)
    exact ⟨_, _, by simp only [denE, d1, h1, h2, Option.bind_some, if_true], q⟩
  | .lst es, e, Q, h => by
    obtain ⟨rs, e1, d1, ds, h1, h2, q⟩ := sA es (by simpa only [WE] using h)
    exact ⟨_, _, by simp only [denE, d1, h1, h2, Option.bind_some, if_true], q⟩
  | .rl1 tp b, e, Q, h => by
    obtain ⟨x, e1, d1, n, rfl, h2, q⟩ := sE b (by simpa only [WE] using h)
    exact ⟨_, _, by simp only [denE, d1, h2, Option.bind_some, and_self, if_true], q⟩
  | .rl2 tp a b, e, Q, h => by
    obtain ⟨x, e1, d1, h⟩ := sE a (by simpa only [WE] using h)
    obtain ⟨y, e2, d2, m, rfl, n, rfl, h2, q⟩ := sE b h
    exact ⟨_, _, by simp only [denE, d1, d2, h2, Option.bind_some, and_self, if_true], q⟩
  | .idx a i, e, Q, h => by
    obtain ⟨x, e1, d1, h⟩ := sE a (by simpa only [WE] using h)
    obtain ⟨y, e2, d2, u, h1, w, h2, d, h3, q⟩ := sE i h
    exact ⟨_, _, by simp only [denE, d1, d2, h1, h2, h3, Option.bind_some, Option.map_some], q⟩
  | .slc a lo hi, e, Q, h => by
    obtain ⟨x, e1, d1, h⟩ := sE a (by simpa only [WE] using h)
    obtain ⟨l, e2, d2, h⟩ := sO lo h
    obtain ⟨r, e3, d3, u, h1, d, h3, q⟩ := sO hi h
    exact ⟨_, _, by simp only [denE, d1, d2, d3, h1, h3, Option.bind_some, Option.map_some], q⟩
  | .slcS a lo hi st, e, Q, h => by
    obtain ⟨x, e1, d1, h⟩ := sE a (by simpa only [WE] using h)
    obtain ⟨l, e2, d2, h⟩ := sO lo h
    obtain ⟨r, e3, d3, h⟩ := sO hi h
    obtain ⟨k, e4, d4, u, h1, d, h3, q⟩ := sO st h
    exact ⟨_, _, by simp only [denE, d1, d2, d3, d4, h1, h3, Option.bind_some, Option.map_some], q⟩
  | .bi b es, e, Q, h => by
    obtain ⟨rs, e1, d1, ds, h1, d, h2, q⟩ := sA es (by simpa only [WE] using h)
    exact ⟨_, _, by simp only [denE, d1, h1, h2, Option.bind_some, Option.map_some], q⟩
  | .sset a, e, Q, h => by
    obtain ⟨x, e1, d1, u, h1, c, h3, q⟩ := sE a (by simpa only [WE] using h)
    exact ⟨_, _, by simp only [denE, d1, h1, h3, Option.bind_some, Option.map_some], q⟩
  | .minK f a, e, Q, h => by
    obtain ⟨x, e1, d1, u, h1, xs, h2, ks, h3, h4, d, h5, q⟩ := sE a (by simpa only [WE] using h)
    exact ⟨_, _, by simp only [denE, d1, h1, h2, h3, h4, h5, Option.bind_some, Option.map_some, if_true], q⟩
  | .isi a t, e, Q, h => by
    obtain ⟨x, e1, d1, u, h1, c, h3, q⟩ := sE a (by simpa only [WE] using h)
    exact ⟨_, _, by simp only [denE, d1, h1, h3, Option.bind_some, Option.map_some], q⟩
  | .call _ f es ds, e, Q, h => by
    obtain ⟨rs, e1, d1, h1, as, h2, d, o, h3, e2, h4, q⟩ := sA es (by simpa only [WE] using h)
    exact ⟨_, _, by simp only [denE, d1, h1, h2, h3, h4, Option.bind_some, Option.map_some, if_true], q⟩
  | .callK _ f pm es, e, Q, h => by
    obtain ⟨rs, e1, d1, h1, as, h2, d, o, h3, e2, h4, q⟩ := sA es (by simpa only [WE] using h)
    exact ⟨_, _, by simp only [denE, d1, h1, h2, h3, h4, Option.bind_some, Option.map_some, if_true, List.map_nil, List.append_nil], q⟩
  | .comp own tg it cs elt, e, Q, h => by
    obtain ⟨xs, e1, d1, h1, p, h2, q⟩ := sI it (by simpa only [WE] using h)
    exact ⟨_, _, by rw [denE_comp']; simp only [d1, h1, h2, Option.bind_some, Option.map_some, and_self, if_true], q⟩
  | .compO i own tg cs elt, e, Q, h => by
    obtain ⟨⟨t, xs⟩, h0, h1, p, h2, q⟩ := (by simpa only [WE] using h : wpV _ _)
    exact ⟨_, _, by rw [denE_compO']; simp only [h0, h1, h2, Option.bind_some, Option.map_some, and_self, if_true], q⟩
  | .comp2 own tg it own1 tg1 it1 cs elt, e, Q, h => by
    obtain ⟨xs, e1, d1, h1, p, h2, q⟩ := sI it (by simpa only [WE] using h)
    exact ⟨_, _, by rw [denE_comp2']; simp only [d1, h1, h2, Option.bind_some, Option.map_some, and_self, if_true], q⟩
  | .index i b, e, Q, h => by
    obtain ⟨r, h1, u, h2, h3, h⟩ := (by simpa only [WE] using h : wpV _ _)
    obtain ⟨y, e1, d1, u1, h4, d, h5, h⟩ := sE b h
    obtain ⟨xs, rfl, h6, j, h7, q⟩ := wpLs_ex h
    exact ⟨_, _, by simp only [denE, h1, h2, h3, d1, h4, h5, h6, h7, Option.bind_some, Option.map_some, if_true, Bool.true_eq_false, if_false], q⟩
  | .pop i, e, Q, h => by
    obtain ⟨t, xs, h1, d, h2, q⟩ := wpL_ex (by simpa only [WE] using h)
    exact ⟨_, _, by simp only [denE, h1, h2, Option.map_some], q⟩
  | .popA i a, e, Q, h => by
    obtain ⟨h0, h⟩ := (by simpa only [WE] using h : _ ∧ _)
    obtain ⟨y, e1, d1, h⟩ := sE a h
    obtain ⟨t, xs, h1, k, rfl, h2, d, h3, q⟩ := wpL_ex h
    exact ⟨_, _, by simp only [denE, h0, d1, h1, h2, h3, Option.bind_some, Option.map_some, and_self, if_true, Bool.true_eq_false, if_false], q⟩
  | .dic0 t, e, Q, h => ⟨_, _, by simp only [denE], h⟩
theorem sA : ∀ (a : Es) {e : En} {Q : List R → En → Prop}, WA F a e Q → ∃ r e', denA F a e = some (r, e') ∧ Q r e'
  | .nil, e, Q, h => ⟨_, _, by simp only [denA], h⟩
  | .cons a es, e, Q, h => by
    obtain ⟨x, e1, d1, h⟩ := sE a (by simpa only [WA] using h)
    obtain ⟨xs, e2, d2, q⟩ := sA es h
    exact ⟨_, _, by simp only [denA, d1, d2, Option.bind_some, Option.map_some], q⟩
theorem sAnd : ∀ (a : Es) {e : En} {Q : R → En → Prop}, WAnd F a e Q → ∃ r e', denAnd F a e = some (r, e') ∧ Q r e'
  | .nil, e, Q, h => by simp only [WAnd] at h
  | .cons a .nil, e, Q, h => by
    obtain ⟨x, e1, d1, h⟩ := sE a (by simpa only [WAnd] using h)
    exact ⟨_, _, by simp only [denAnd, d1], h⟩
  | .cons a (.cons b es), e, Q, h => by
    obtain ⟨x, e1, d1, k, rfl, h⟩ := sE a (by simpa only [WAnd] using h)
    cases k with
    | true =>
      obtain ⟨r, e2, d2, q⟩ := sAnd (.cons b es) (by simpa only [WAnd] using h.1 rfl)
      exact ⟨_, _, by simp only [denAnd, d1, d2, Option.bind_some, if_true], q⟩
    | false => exact ⟨_, _, by simp only [denAnd, d1, Option.bind_some, Bool.false_eq_true, if_false], h.2 rfl⟩
theorem sOr : ∀ (a : Es) {e : En} {Q : R → En → Prop}, WOr F a e Q → ∃ r e', denOr F a e = some (r, e') ∧ Q r e'
  | .nil, e, Q, h => by simp only [WOr] at h
  | .cons a .nil, e, Q, h => by
    obtain ⟨x, e1, d1, h⟩ := sE a (by simpa only [WOr] using h)
    exact ⟨_, _, by simp only [denOr, d1], h⟩
  | .cons a (.cons b es), e, Q, h => by
    obtain ⟨x, e1, d1, k, rfl, h⟩ := sE a (by simpa only [WOr] using h)
    cases k with
    | false =>
      obtain ⟨r, e2, d2, q⟩ := sOr (.cons b es) (by simpa only [WOr] using h.2 rfl)
      exact ⟨_, _, by simp only [denOr, d1, d2, Option.bind_some, Bool.false_eq_true, if_false], q⟩
    | true => exact ⟨_, _, by simp only [denOr, d1, Option.bind_some, if_true], h.1 rfl⟩
theorem sCs : ∀ (a : Es) {e : En} {Q : Bool → En → Prop}, WCs F a e Q → ∃ r e', denCs F a e = some (r, e') ∧ Q r e'
  | .nil, e, Q, h => ⟨_, _, by simp only [denCs], h⟩
  | .cons a es, e, Q, h => by
    obtain ⟨x, e1, d1, k, rfl, h⟩ := sE a (by simpa only [WCs] using h)
    cases k with
    | true =>
      obtain ⟨r, e2, d2, q⟩ := sCs es (h.1 rfl)
      exact ⟨_, _, by simp only [denCs, d1, d2, Option.bind_some, if_true], q⟩
    | false => exact ⟨_, _, by simp only [denCs, d1, Option.bind_some, Bool.false_eq_true, if_false], h.2 rfl⟩
theorem sO : ∀ (a : Oe) {e : En} {Q : Option Int → En → Prop}, WO F a e Q → ∃ r e', denO F a e = some (r, e') ∧ Q r e'
  | .none, e, Q, h => ⟨_, _, by simp only [denO], h⟩
  | .some a, e, Q, h => by
    obtain ⟨x, e1, d1, k, rfl, h⟩ := sE a (by simpa only [WO] using h)
    exact ⟨_, _, by simp only [denO, d1, Option.bind_some], h⟩
theorem sI : ∀ (a : It) {e : En} {Q : List D → En → Prop}, WI F a e Q → ∃ r e', denI F a e = some (r, e') ∧ Q r e'
  | .seq a, e, Q, h => by
    obtain ⟨x, e1, d1, u, h1, w, h2, q⟩ := sE a (by simpa only [WI] using h)
    exact ⟨_, _, by simp only [denI, d1, h1, h2, Option.bind_some, Option.map_some], q⟩
  | .rng1 a, e, Q, h => by
    obtain ⟨x, e1, d1, n, rfl, h2, q⟩ := sE a (by simpa only [WI] using h)
    refine ⟨_, _, by simp only [denI, d1, h2, Option.bind_some, and_self, if_true]; rfl, ?_⟩
    have e0 : ((List.range n.toNat).map fun (i : Nat) => D.int (i : Int)) = rngL 0 n := by
      unfold rngL
      simp
    rw [e0]
    exact q
  | .rng2 a b, e, Q, h => by
    obtain ⟨x, e1, d1, h⟩ := sE a (by simpa only [WI] using h)
    obtain ⟨y, e2, d2, m, rfl, n, rfl, h2, q⟩ := sE b h
    exact ⟨_, _, by simp only [denI, d1, d2, h2, Option.bind_some, and_self, if_true]; rfl, q⟩
  | .enum a, e, Q, h => by
    obtain ⟨x, e1, d1, u, h1, w, h2, q⟩ := sE a (by simpa only [WI] using h)
    exact ⟨_, _, by simp only [denI, d1, h1, h2, Option.bind_some, Option.map_some], q⟩
  | .zip a b, e, Q, h => by
    obtain ⟨x, e1, d1, h⟩ := sE a (by simpa only [WI] using h)
    obtain ⟨y, e2, d2, u, h1, w, h2, us, h3, ws, h4, q⟩ := sE b h
    exact ⟨_, _, by simp only [denI, d1, d2, h1, h2, h3, h4, Option.bind_some, Option.map_some], q⟩
  | .zip3 a b c, e, Q, h => by
    obtain ⟨x, e1, d1, h⟩ := sE a (by simpa only [WI] using h)
    obtain ⟨y, e2, d2, h⟩ := sE b h
    obtain ⟨z, e3, d3, u, h1, w, h2, t, h3, us, h4, ws, h5, ts, h6, q⟩ := sE c h
    exact ⟨_, _, by simp only [denI, d1, d2, d3, h1, h2, h3, h4, h5, h6, Option.bind_some, Option.map_some], q⟩
  | .rev a, e, Q, h => by
    obtain ⟨x, e1, d1, u, h1, xs, rfl, q⟩ := sE a (by simpa only [WI] using h)
    exact ⟨_, _, by simp only [denI, d1, h1, Option.bind_some], q⟩
end
end
end PC
set_option Elab.async false
set_option linter.all false
/-! PyCore, part 19: weakest preconditions of statements; rules of loops, comprehensions, calls. -/
namespace PC
open PySem

def wpTp (d : D) (Q : List D → Prop) : Prop := match d with
  | .tup xs => Q xs
  | _ => False
theorem wpTp_ex {d : D} {Q : List D → Prop} (h : wpTp d Q) : ∃ xs, d = .tup xs ∧ Q xs := by
  unfold wpTp at h
  split at h
  · exact ⟨_, rfl, h⟩
  · exact h.elim
def wpOn (e : En) (i : Nat) (Q : D → Prop) : Prop := match e[i]? with
  | some (.own none d) => Q d
  | _ => False
theorem wpOn_ex {e : En} {i : Nat} {Q : D → Prop} (h : wpOn e i Q) : ∃ d, e[i]? = some (.own none d) ∧ Q d := by
  unfold wpOn at h
  split at h
  · rename_i d h1
    exact ⟨d, h1, h⟩
  · exact h.elim
/-- what is handed back -/
def wpRt (r : R) (e : En) (Q : D → En → Prop) : Prop := match r with
  | .v d => Q d e
  | .b i => wpOn e i fun d => wpLs d fun xs => Q (.lst xs) (e.set i (.val (.lst xs)))
/-- a loop over these items -/
def wpFor (F : CallF) (tg : Tg) (b : Ss) (fg : List Nat) (xs : List D) (e : En) (Q : Ctl → Prop) : Prop := wpV (loopF (fun x e2 => (setTg tg x e2).bind (denSs F b)) fg xs e) Q
def wpWh (F : CallF) (c : Ex) (b : Ss) (fg : List Nat) (e : En) (Q : Ctl → Prop) : Prop := wpV (loopW (fun e1 => (denE F c e1).bind testOf) (denSs F b) fg FUEL e) Q
section
variable (F : CallF)
@[simp] def WSubs : List Nat → Es → List D → En → (En → Prop) → Prop
  | [], .nil, [], e, Q => Q e
  | i :: is, .cons ix r, d :: ds, e, Q => isOwn e i = true ∧ WE F ix e fun y e1 => wpL e1 i fun t xs => wpN y fun k => (0 ≤ k ∧ k < xs.length) ∧ WSubs is r ds (e1.set i (.own t (.lst (xs.set k.toNat d)))) Q
  | _, _, _, _, _ => False
mutual
@[simp] def WS : Sx → En → (Ctl → Prop) → Prop
  | .asg t a, e, Q => WE F a e fun x e1 => wpV (sol x) fun d => wpV (setTg t d e1) fun e2 => Q (.nx e2)
  | .asgO i a, e, Q => WE F a e fun x e1 => wpV (sol x) fun d => wpV (putSl true i d e1) fun e2 => Q (.nx e2)
  | .par is os es, e, Q => WA F es e fun rs e1 => wpV (rs.mapM sol) fun ds => wpV (putSls is os ds e1) fun e2 => Q (.nx e2)
  | .aug i o a, e, Q => wpV (varR e i) fun x => wpV (sol x) fun u => WE F a e fun y e1 => wpV (sol y) fun w => (o = .add ∨ o = .sub) ∧ wpN (.v u) fun _ => wpN (.v w) fun _ => wpV (binD o u w) fun r => Q (.nx (e1.set i (.val r)))
  | .setI i ix a, e, Q => isOwn e i = true ∧ WE F a e fun x e1 => WE F ix e1 fun y e2 => wpV (sol x) fun d => wpL e2 i fun t xs => wpN y fun k => (0 ≤ k ∧ k < xs.length) ∧ Q (.nx (e2.set i (.own t (.lst (xs.set k.toNat d)))))
  | .augI i ix a, e, Q => isOwn e i = true ∧ WE F ix e fun y e1 => wpL e1 i fun _ xs => wpN y fun k => (0 ≤ k ∧ k < xs.length) ∧ wpV (xs[k.toNat]?) fun x => wpN (.v x) fun n => WE F a e1 fun z e2 => wpL e2 i fun t us => wpN z fun m => k < us.length ∧ Q (.nx (e2.set i (.own t (.lst (us.set k.toNat (.int (n + m)))))))
  | .subs is ixs a, e, Q => WE F a e fun x e1 => wpV (sol x) fun d => wpTp d fun ds => WSubs F is ixs ds e1 fun e2 => Q (.nx e2)
  | .put i ix a, e, Q => isOwnD e i = true ∧ WE F a e fun x e1 => WE F ix e1 fun y e2 => wpV (sol x) fun d => wpV (sol y) fun k => wpDc e2 i fun t b ks vs => ks.length < LINE ∧ wpV (dPut b ks vs k d) fun r => Q (.nx (e2.set i (.own t r)))
  | .app i a, e, Q => isOwn e i = true ∧ WE F a e fun x e1 => wpV (sol x) fun d => wpL e1 i fun t xs => xs.length < LINE ∧ Q (.nx (e1.set i (.own t (.lst (xs ++ [d])))))
  | .ext i a, e, Q => isOwn e i = true ∧ WE F a e fun x e1 => wpV (sol x) fun d => wpL e1 i fun t xs => wpLs d fun ys => xs.length + ys.length ≤ LINE ∧ Q (.nx (e1.set i (.own t (.lst (xs ++ ys)))))
  | .ifs c a b, e, Q => WE F c e fun x e1 => wpB x fun k => (k = true → WSs a e1 Q) ∧ (k = false → WSs b e1 Q)
  | .for_ tg it b fg, e, Q => WI F it e fun xs e1 => wpFor F tg b fg xs e1 Q
  | .wh c b fg, e, Q => wpWh F c b fg e Q
  | .ret a, e, Q => WE F a e fun x e1 => wpRt x e1 fun d e2 => Q (.ret d e2)
  | .drop a, e, Q => WE F a e fun _ e1 => Q (.nx e1)
  | .brk, e, Q => Q (.brk e)
  | .cnt, e, Q => Q (.ct e)
  | .frz i, e, Q => wpOn e i fun d => Q (.nx (e.set i (.val d)))
@[simp] def WSs : Ss → En → (Ctl → Prop) → Prop
  | .nil, e, Q => Q (.nx e)
  | .cons s ss, e, Q => WS s e fun c => match c with
    | .nx e1 => WSs ss e1 Q
    | c => Q c
end
end
section
variable {F : CallF}
theorem sSubs : ∀ (is : List Nat) (ixs : Es) (ds : List D) {e : En} {Q : En → Prop}, WSubs F is ixs ds e Q → ∃ e', setSubs F is ixs ds e = some e' ∧ Q e'
  | [], .nil, [], e, Q, h => ⟨e, by simp only [setSubs], h⟩
  | i :: is, .cons ix r, d :: ds, e, Q, h => by
    obtain ⟨h0, h⟩ := (by simpa only [WSubs] using h : _ ∧ _)
    obtain ⟨y, e1, d1, h⟩ := sE ix h
    obtain ⟨t, xs, h1, k, rfl, h2, h⟩ := wpL_ex h
    obtain ⟨e', h3, q⟩ := sSubs is r ds h
    exact ⟨e', by simp only [setSubs, h0, d1, h1, h2, h3, Option.bind_some, and_self, if_true, Bool.true_eq_false, if_false], q⟩
  | [], .nil, _ :: _, e, Q, h => by simp [WSubs] at h
  | [], .cons _ _, _, e, Q, h => by simp [WSubs] at h
  | _ :: _, .nil, _, e, Q, h => by simp [WSubs] at h
  | _ :: _, .cons _ _, [], e, Q, h => by simp [WSubs] at h
mutual
theorem sS : ∀ (a : Sx) {e : En} {Q : Ctl → Prop}, WS F a e Q → ∃ c, denS F a e = some c ∧ Q c
  | .asg t a, e, Q, h => by
    obtain ⟨x, e1, d1, d, h1, e2, h2, q⟩ := sE a (by simpa only [WS] using h)
    exact ⟨_, by simp only [denS, d1, h1, h2, Option.bind_some, Option.map_some], q⟩
  | .asgO i a, e, Q, h => by
    obtain ⟨x, e1, d1, d, h1, e2, h2, q⟩ := sE a (by simpa only [WS] using h)
    exact ⟨_, by simp only [denS, d1, h1, h2, Option.bind_some, Option.map_some], q⟩
  | .par is os es, e, Q, h => by
    obtain ⟨x, e1, d1, d, h1, e2, h2, q⟩ := sA es (by simpa only [WS] using h)
    exact ⟨_, by simp only [denS, d1, h1, h2, Option.bind_some, Option.map_some], q⟩
  | .aug i o a, e, Q, h => by
    obtain ⟨x, h1, u, h2, h⟩ := (by simpa only [WS] using h : wpV _ _)
    obtain ⟨y, e1, d1, w, h3, h4, p, hp, q, hq, r, h5, h6⟩ := sE a h
    cases hp
    cases hq
    refine ⟨_, ?_, h6⟩
    rcases h4 with rfl | rfl
    · cases h5
      simp only [denS, h1, h2, d1, h3, Option.bind_some]
    · cases h5
      simp only [denS, h1, h2, d1, h3, Option.bind_some]
  | .setI i ix a, e, Q, h => by
    obtain ⟨h0, h⟩ := (by simpa only [WS] using h : _ ∧ _)
    obtain ⟨x, e1, d1, h⟩ := sE a h
    obtain ⟨y, e2, d2, d, h1, h⟩ := sE ix h
    obtain ⟨t, xs, h2, k, rfl, h3, q⟩ := wpL_ex h
    exact ⟨_, by simp only [denS, h0, d1, d2, h1, h2, h3, Option.bind_some, and_self, if_true, Bool.true_eq_false, if_false], q⟩
  | .augI i ix a, e, Q, h => by
    obtain ⟨h0, h⟩ := (by simpa only [WS] using h : _ ∧ _)
    obtain ⟨y, e1, d1, h⟩ := sE ix h
    obtain ⟨t, xs, h2, k, rfl, h3, x, h4, n, hx, h⟩ := wpL_ex h
    have hx' : x = .int n := R.v.inj hx
    subst hx'
    obtain ⟨z, e2, d2, h⟩ := sE a h
    obtain ⟨t2, us, h5, m, rfl, h6, q⟩ := wpL_ex h
    exact ⟨_, by simp only [denS, h0, d1, d2, h2, h3, h4, h5, h6, Option.bind_some, and_self, if_true, Bool.true_eq_false, if_false], q⟩
  | .subs is ixs a, e, Q, h => by
    obtain ⟨x, e1, d1, d, h1, h⟩ := sE a (by simpa only [WS] using h)
    obtain ⟨ds, rfl, h⟩ := wpTp_ex h
    obtain ⟨e2, h2, q⟩ := sSubs is ixs ds h
    exact ⟨_, by simp only [denS, d1, h1, h2, Option.bind_some, Option.map_some], q⟩
  | .put i ix a, e, Q, h => by
    obtain ⟨h0, h⟩ := (by simpa only [WS] using h : _ ∧ _)
    obtain ⟨x, e1, d1, h⟩ := sE a h
    obtain ⟨y, e2, d2, d, h1, k, h2, h⟩ := sE ix h
    obtain ⟨t, b, ks, vs, h3, h4, r, h5, q⟩ := wpDc_ex h
    exact ⟨_, by simp only [denS, h0, d1, d2, h1, h2, h3, h4, h5, Option.bind_some, Option.map_some, if_true, Bool.true_eq_false, if_false], q⟩
  | .app i a, e, Q, h => by
    obtain ⟨h0, h⟩ := (by simpa only [WS] using h : _ ∧ _)
    obtain ⟨x, e1, d1, d, h1, h⟩ := sE a h
    obtain ⟨t, xs, h2, h3, q⟩ := wpL_ex h
    exact ⟨_, by simp only [denS, h0, d1, h1, h2, h3, Option.bind_some, if_true, Bool.true_eq_false, if_false], q⟩
  | .ext i a, e, Q, h => by
    obtain ⟨h0, h⟩ := (by simpa only [WS] using h : _ ∧ _)
    obtain ⟨x, e1, d1, d, h1, h⟩ := sE a h
    obtain ⟨t, xs, h2, h⟩ := wpL_ex h
    obtain ⟨ys, rfl, h3, q⟩ := wpLs_ex h
    exact ⟨_, by simp only [denS, h0, d1, h1, h2, h3, Option.bind_some, if_true, Bool.true_eq_false, if_false], q⟩
  | .ifs c a b, e, Q, h => by
    obtain ⟨x, e1, d1, k, rfl, h⟩ := sE c (by simpa only [WS] using h)
    cases k with
    | true =>
      obtain ⟨r, d2, q⟩ := sSs a (h.1 rfl)
      exact ⟨_, by simp only [denS, d1, d2, testOf, Option.bind_some, if_true], q⟩
    | false =>
      obtain ⟨r, d2, q⟩ := sSs b (h.2 rfl)
      exact ⟨_, by simp only [denS, d1, d2, testOf, Option.bind_some, Bool.false_eq_true, if_false], q⟩
  | .for_ tg it b fg, e, Q, h => by
    obtain ⟨xs, e1, d1, c, h1, q⟩ := sI it (by simpa only [WS] using h)
    exact ⟨_, by simp only [denS, d1, Option.bind_some]; exact h1, q⟩
  | .wh c b fg, e, Q, h => by
    obtain ⟨c, h1, q⟩ := (by simpa only [WS] using h : wpWh _ _ _ _ _ _)
    exact ⟨_, by simp only [denS]; exact h1, q⟩
  | .ret a, e, Q, h => by
    obtain ⟨x, e1, d1, h⟩ := sE a (by simpa only [WS] using h)
    cases x with
    | v d => exact ⟨_, by simp only [denS, d1, Option.bind_some], h⟩
    | b i =>
      obtain ⟨d, h1, h⟩ := wpOn_ex h
      obtain ⟨xs, rfl, q⟩ := wpLs_ex h
      exact ⟨_, by simp only [denS, d1, h1, Option.bind_some], q⟩
  | .drop a, e, Q, h => by
    obtain ⟨x, e1, d1, q⟩ := sE a (by simpa only [WS] using h)
    exact ⟨_, by simp only [denS, d1, Option.map_some], q⟩
  | .brk, e, Q, h => ⟨_, by simp only [denS], h⟩
  | .cnt, e, Q, h => ⟨_, by simp only [denS], h⟩
  | .frz i, e, Q, h => by
    obtain ⟨d, h1, q⟩ := wpOn_ex (by simpa only [WS] using h)
    exact ⟨_, by simp only [denS, h1], q⟩
theorem sSs : ∀ (a : Ss) {e : En} {Q : Ctl → Prop}, WSs F a e Q → ∃ c, denSs F a e = some c ∧ Q c
  | .nil, e, Q, h => ⟨_, by simp only [denSs], h⟩
  | .cons s ss, e, Q, h => by
    obtain ⟨c, h1, h⟩ := sS s (by simpa only [WSs] using h)
    cases c with
    | nx e1 =>
      obtain ⟨c, h2, q⟩ := sSs ss h
      exact ⟨c, by simp only [denSs, h1, h2, Option.bind_some], q⟩
    | ret d e1 => exact ⟨_, by simp only [denSs, h1, Option.bind_some], h⟩
    | brk e1 => exact ⟨_, by simp only [denSs, h1, Option.bind_some], h⟩
    | ct e1 => exact ⟨_, by simp only [denSs, h1, Option.bind_some], h⟩
end
/-! ### a def -/
@[simp] def outQ (as : List Sl) (Q : D → List Sl → Prop) : Ctl → Prop
  | .ret d e => wpV (outsOf e 0 as) fun o => Q d o
  | .nx e => wpV (outsOf e 0 as) fun o => Q .non o
  | _ => False
theorem wp_def {T : List Df} {n f : Nat} {d : Df} {as : List Sl} {Q : D → List Sl → Prop} (hn : 1 ≤ n) (hd : T[f]? = some d) (hl : as.length = d.ar)
    (h : ∀ m, m + 1 = n → WSs (run T m) d.body (tagged 0 as ++ List.replicate (d.sl - d.ar) .no) (outQ as Q)) (hpm : d.pm = none := by rfl) : wpC (run T n) f as Q := by
  obtain ⟨m, rfl⟩ : ∃ m, n = m + 1 := ⟨n - 1, by omega⟩
  obtain ⟨c, h1, h2⟩ := sSs d.body (h m rfl)
  unfold wpC
  simp only [run, hd, Option.bind_some]
  rw [denF_none hpm]
  unfold denB
  rw [if_pos hl, h1, Option.bind_some]
  cases c with
  | ret d e =>
    obtain ⟨o, h3, q⟩ := h2
    exact ⟨d, o, by simp only [h3, Option.map_some], q⟩
  | nx e =>
    obtain ⟨o, h3, q⟩ := h2
    exact ⟨.non, o, by simp only [h3, Option.map_some], q⟩
  | brk e => exact h2.elim
  | ct e => exact h2.elim
theorem wpC.imp {f : Nat} {as : List Sl} {Q Q' : D → List Sl → Prop} (h : wpC F f as Q) (q : ∀ d o, Q d o → Q' d o) : wpC F f as Q' := by
  obtain ⟨d, o, h1, h2⟩ := h
  exact ⟨d, o, h1, q d o h2⟩
/-! ### loops and comprehensions -/
/-- a loop over items: E st: what the slots are at its head -/
theorem for_rule0 {σ : Type} (E : σ → En) (I : List D → σ → Prop) {body : D → En → Option Ctl} {fg : List Nat} {xs : List D} {e : En} {Q : Ctl → Prop} (st0 : σ) (h0 : wipeE e fg = E st0) (i0 : I [] st0)
    (hs : ∀ done x rest st, xs = done ++ x :: rest → I done st → wpV (body x (E st)) fun c => match c with
      | .nx e1 => ∃ st', wipeE e1 fg = E st' ∧ I (done ++ [x]) st'
      | .ct e1 => ∃ st', wipeE e1 fg = E st' ∧ I (done ++ [x]) st'
      | .brk e1 => Q (.nx (wipeE e1 fg))
      | .ret d e1 => Q (.ret d e1))
    (he : ∀ st, I xs st → Q (.nx (E st))) : wpV (loopF body fg xs e) Q := by
  have key : ∀ (rest done : List D) (e : En) (st : σ), xs = done ++ rest → wipeE e fg = E st → I done st → wpV (loopF body fg rest e) Q := by
    intro rest
    induction rest with
    | nil =>
      intro done e st hx he' hi
      rw [List.append_nil] at hx
      subst hx
      simp only [loopF, wpV_some, he']
      exact he st hi
    | cons x rest ih =>
      intro done e st hx he' hi
      obtain ⟨c, h1, h2⟩ := hs done x rest st hx hi
      simp only [loopF, he', h1, Option.bind_some]
      cases c with
      | nx e1 =>
        obtain ⟨st', h3, h4⟩ := h2
        exact ih (done ++ [x]) e1 st' (by simp [hx]) h3 h4
      | ct e1 =>
        obtain ⟨st', h3, h4⟩ := h2
        exact ih (done ++ [x]) e1 st' (by simp [hx]) h3 h4
      | brk e1 => simpa only [wpV_some] using h2
      | ret d e1 => simpa only [wpV_some] using h2
  exact key xs [] e st0 rfl h0 i0
/-- the body of a for, by its weakest precondition -/
theorem body_of {tg : Tg} {b : Ss} {x : D} {e : En} {Q : Ctl → Prop} (h : wpV (setTg tg x e) fun e2 => WSs F b e2 Q) : wpV ((setTg tg x e).bind (denSs F b)) Q := by
  obtain ⟨e2, h1, h2⟩ := h
  rw [h1, Option.bind_some]
  exact sSs b h2
theorem for_rule {σ : Type} (E : σ → En) (I : List D → σ → Prop) {tg : Tg} {b : Ss} {fg : List Nat} {xs : List D} {e : En} {Q : Ctl → Prop} (st0 : σ) (h0 : wipeE e fg = E st0) (i0 : I [] st0)
    (hs : ∀ done x rest st, xs = done ++ x :: rest → I done st → wpV (setTg tg x (E st)) fun e2 => WSs F b e2 fun c => match c with
      | .nx e1 => ∃ st', wipeE e1 fg = E st' ∧ I (done ++ [x]) st'
      | .ct e1 => ∃ st', wipeE e1 fg = E st' ∧ I (done ++ [x]) st'
      | .brk e1 => Q (.nx (wipeE e1 fg))
      | .ret d e1 => Q (.ret d e1))
    (he : ∀ st, I xs st → Q (.nx (E st))) : wpFor F tg b fg xs e Q :=
  for_rule0 E I st0 h0 i0 (fun done x rest st hx hi => by
    refine body_of ?_
    obtain ⟨e2, h1, h2⟩ := hs done x rest st hx hi
    refine ⟨e2, h1, ?_⟩
    have : (fun c => match c with
      | .nx e1 => ∃ st', wipeE e1 fg = E st' ∧ I (done ++ [x]) st'
      | .ct e1 => ∃ st', wipeE e1 fg = E st' ∧ I (done ++ [x]) st'
      | .brk e1 => Q (.nx (wipeE e1 fg))
      | .ret d e1 => Q (.ret d e1)) = (fun (c : Ctl) => match c with
      | .nx e1 => ∃ st', wipeE e1 fg = E st' ∧ I (done ++ [x]) st'
      | .ct e1 => ∃ st', wipeE e1 fg = E st' ∧ I (done ++ [x]) st'
      | .brk e1 => Q (.nx (wipeE e1 fg))
      | .ret d e1 => Q (.ret d e1)) := rfl
    exact h2) he
theorem wh_rule {σ : Type} (E : σ → En) (I : σ → Prop) (mu : σ → Nat) {c : Ex} {b : Ss} {fg : List Nat} {e : En} {Q : Ctl → Prop} (st0 : σ) (h0 : wipeE e fg = E st0) (i0 : I st0) (hmu : mu st0 < FUEL)
    (hs : ∀ st, I st → WE F c (E st) fun x e1 => wpB x fun k => (k = true → WSs F b e1 fun c => match c with
      | .nx e2 => ∃ st', wipeE e2 fg = E st' ∧ I st' ∧ mu st' < mu st
      | .ct e2 => ∃ st', wipeE e2 fg = E st' ∧ I st' ∧ mu st' < mu st
      | .brk e2 => Q (.nx (wipeE e2 fg))
      | .ret d e2 => Q (.ret d e2)) ∧ (k = false → Q (.nx (wipeE e1 fg)))) : wpWh F c b fg e Q := by
  have key : ∀ (n : Nat) (e : En) (st : σ), wipeE e fg = E st → I st → mu st < n → wpV (loopW (fun e1 => (denE F c e1).bind testOf) (denSs F b) fg n e) Q := by
    intro n
    induction n with
    | zero => intro e st _ _ h; omega
    | succ n ih =>
      intro e st he hi hm
      obtain ⟨x, e1, d1, k, rfl, h⟩ := sE c (hs st hi)
      cases k with
      | false =>
        simp only [loopW, he, d1, testOf, Option.bind_some, Bool.false_eq_true, if_false, wpV_some]
        exact h.2 rfl
      | true =>
        obtain ⟨r, d2, q⟩ := sSs b (h.1 rfl)
        simp only [loopW, he, d1, testOf, d2, Option.bind_some, if_true]
        cases r with
        | nx e2 =>
          obtain ⟨st', h3, h4, h5⟩ := q
          exact ih e2 st' h3 h4 (by omega)
        | ct e2 =>
          obtain ⟨st', h3, h4, h5⟩ := q
          exact ih e2 st' h3 h4 (by omega)
        | brk e2 => simpa only [wpV_some] using q
        | ret d e2 => simpa only [wpV_some] using q
  exact key FUEL e st0 h0 i0 hmu
/-- a comprehension: E st: what the slots are between the items -/
theorem comp_rule {σ : Type} (E : σ → En) (I : List D → List D → σ → Prop) {own : List Nat} {tg : Tg} {cs : Es} {elt : Ex} {xs : List D} {e : En} {Q : D → En → Prop} (st0 : σ) (h0 : wipeE e own = E st0) (i0 : I [] [] st0)
    (hw : ∀ st, wipeE (E st) own = E st)
    (hs : ∀ done x rest acc st, xs = done ++ x :: rest → I done acc st → wpV (setTg tg x (E st)) fun e2 => WCs F cs e2 fun k e3 =>
      (k = true → WE F elt e3 fun r e4 => wpV (sol r) fun d => ∃ st', wipeE e4 own = E st' ∧ I (done ++ [x]) (acc ++ [d]) st') ∧ (k = false → ∃ st', wipeE e3 own = E st' ∧ I (done ++ [x]) acc st'))
    (he : ∀ st acc, I xs acc st → Q (.lst acc) (E st)) : wpComp F own tg cs elt xs e Q := by
  have key : ∀ (rest done : List D) (p : En × List D) (st : σ), xs = done ++ rest → wipeE p.1 own = E st → I done p.2 st → wpV (rest.foldlM (compF F own tg cs elt) p) fun p => Q (.lst p.2) (wipeE p.1 own) := by
    intro rest
    induction rest with
    | nil =>
      intro done p st hx he' hi
      rw [List.append_nil] at hx
      subst hx
      exact ⟨p, rfl, by dsimp only; rw [he']; exact he st p.2 hi⟩
    | cons x rest ih =>
      intro done p st hx he' hi
      obtain ⟨e2, h1, h2⟩ := hs done x rest p.2 st hx hi
      obtain ⟨k, e3, h3, h4, h5⟩ := sCs cs h2
      rw [List.foldlM_cons]
      cases k with
      | true =>
        obtain ⟨r, e4, h6, d, h7, st', h8, h9⟩ := sE elt (h4 rfl)
        have e0 : compF F own tg cs elt p x = some (e4, p.2 ++ [d]) := by
          unfold compF
          simp only [he', h1, h3, h6, h7, Option.bind_some, Option.map_some, if_true]
        show wpV ((compF F own tg cs elt p x).bind _) _
        rw [e0, Option.bind_some]
        exact ih (done ++ [x]) _ st' (by simp [hx]) h8 h9
      | false =>
        obtain ⟨st', h8, h9⟩ := h5 rfl
        have e0 : compF F own tg cs elt p x = some (e3, p.2) := by
          unfold compF
          simp only [he', h1, h3, Option.bind_some, Bool.false_eq_true, if_false]
        show wpV ((compF F own tg cs elt p x).bind _) _
        rw [e0, Option.bind_some]
        exact ih (done ++ [x]) _ st' (by simp [hx]) h8 h9
  refine key xs [] _ st0 rfl ?_ i0
  rw [h0]
  exact hw st0
/-- a comprehension that changes nothing: filter and map -/
theorem comp_pure (E : En) (p : D → Bool) (g : D → D) {own : List Nat} {tg : Tg} {cs : Es} {elt : Ex} {xs : List D} {e : En} {Q : D → En → Prop} (h0 : wipeE e own = E) (hw : wipeE E own = E)
    (hs : ∀ x ∈ xs, wpV (setTg tg x E) fun e2 => WCs F cs e2 fun k e3 => k = p x ∧ (k = true → WE F elt e3 fun r e4 => r = .v (g x) ∧ wipeE e4 own = E) ∧ (k = false → wipeE e3 own = E))
    (he : Q (.lst ((xs.filter p).map g)) E) : wpComp F own tg cs elt xs e Q := by
  have key : ∀ (rest : List D) (q : En × List D), (∀ x ∈ rest, x ∈ xs) → wipeE q.1 own = E → ∃ e', rest.foldlM (compF F own tg cs elt) q = some (e', q.2 ++ (rest.filter p).map g) ∧ wipeE e' own = E := by
    intro rest
    induction rest with
    | nil => intro q _ h; exact ⟨q.1, by simp, h⟩
    | cons x rest ih =>
      intro q hm hq
      obtain ⟨e2, h1, h2⟩ := hs x (hm x List.mem_cons_self)
      obtain ⟨k, e3, h3, h4, h5, h6⟩ := sCs cs h2
      rw [List.foldlM_cons]
      cases k with
      | true =>
        obtain ⟨r, e4, h7, rfl, h8⟩ := sE elt (h5 rfl)
        have e0 : compF F own tg cs elt q x = some (e4, q.2 ++ [g x]) := by
          unfold compF
          simp only [hq, h1, h3, h7, sol, Option.bind_some, Option.map_some, if_true]
        obtain ⟨e', g1, g2⟩ := ih (e4, q.2 ++ [g x]) (fun y hy => hm y (List.mem_cons_of_mem _ hy)) h8
        refine ⟨e', ?_, g2⟩
        show (compF F own tg cs elt q x).bind _ = _
        rw [e0, Option.bind_some, g1]
        simp [← h4]
      | false =>
        have e0 : compF F own tg cs elt q x = some (e3, q.2) := by
          unfold compF
          simp only [hq, h1, h3, Option.bind_some, Bool.false_eq_true, if_false]
        obtain ⟨e', g1, g2⟩ := ih (e3, q.2) (fun y hy => hm y (List.mem_cons_of_mem _ hy)) (h6 rfl)
        refine ⟨e', ?_, g2⟩
        show (compF F own tg cs elt q x).bind _ = _
        rw [e0, Option.bind_some, g1]
        simp [← h4]
  obtain ⟨e', g1, g2⟩ := key xs (wipeE e own, []) (fun _ h => h) (by rw [h0]; exact hw)
  exact ⟨_, g1, by simpa [g2] using he⟩
end
end PC
set_option Elab.async false
set_option linter.all false
/-! PyCore, part 20: slots and data under simp; boxes; what a def with a box gives. -/
namespace PC
open PySem

section
variable {e : En}
@[simp] theorem z_varR_eq {i : Nat} : varR e i = (match e[i]? with
  | some (.val d) => some (.v d)
  | some (.own _ _) => some (.b i)
  | _ => none) := rfl
@[simp] theorem z_view_v {d : D} : view e (.v d) = some d := rfl
@[simp] theorem z_view_b {i : Nat} : view e (.b i) = (match e[i]? with
  | some (.own _ d) => some d
  | _ => none) := rfl
@[simp] theorem z_ownL {i : Nat} : ownL e i = (match e[i]? with
  | some (.own t (.lst xs)) => some (t, xs)
  | _ => none) := rfl
@[simp] theorem z_sol_v {d : D} : sol (.v d) = some d := rfl
@[simp] theorem z_sol_b {i : Nat} : sol (.b i) = none := rfl
@[simp] theorem z_setTg_name {i : Nat} {d : D} : setTg (.name i) d e = some (e.set i (.val d)) := by rw [setTg]
@[simp] theorem z_setTg_tup {ts : List Tg} {xs : List D} : setTg (.tup ts) (.tup xs) e = setTgs ts xs e := by rw [setTg]
@[simp] theorem z_setTgs_nil : setTgs [] [] e = some e := by rw [setTgs]
@[simp] theorem z_setTgs_cons {t : Tg} {ts : List Tg} {d : D} {ds : List D} : setTgs (t :: ts) (d :: ds) e = (setTg t d e).bind (setTgs ts ds) := by rw [setTgs]
@[simp] theorem z_wpL {i : Nat} {Q : Option Nat → List D → Prop} : wpL e i Q = (match e[i]? with
  | some (.own t (.lst xs)) => Q t xs
  | _ => False) := rfl
@[simp] theorem z_wpDc {i : Nat} {Q : Option Nat → Bool → List D → List D → Prop} : wpDc e i Q = (match e[i]? with
  | some (.own t (.dic b ks vs)) => Q t b ks vs
  | _ => False) := rfl
@[simp] theorem z_wpLs {xs : List D} {Q : List D → Prop} : wpLs (.lst xs) Q = Q xs := rfl
@[simp] theorem z_wpTp {xs : List D} {Q : List D → Prop} : wpTp (.tup xs) Q = Q xs := rfl
@[simp] theorem z_wpOn {i : Nat} {Q : D → Prop} : wpOn e i Q = (match e[i]? with
  | some (.own none d) => Q d
  | _ => False) := rfl
@[simp] theorem z_wpRt_v {d : D} {Q : D → En → Prop} : wpRt (.v d) e Q = Q d e := rfl
@[simp] theorem z_wpRt_b {i : Nat} {Q : D → En → Prop} : wpRt (.b i) e Q = wpOn e i fun d => wpLs d fun xs => Q (.lst xs) (e.set i (.val (.lst xs))) := rfl
@[simp] theorem z_wpV_bind {α β : Type} {o : Option α} {f : α → Option β} {Q : β → Prop} : wpV (o.bind f) Q ↔ wpV o fun a => wpV (f a) Q := by
  cases o <;> simp
@[simp] theorem z_wpV_map {α β : Type} {o : Option α} {f : α → β} {Q : β → Prop} : wpV (o.map f) Q ↔ wpV o fun a => Q (f a) := by
  cases o <;> simp
@[simp] theorem z_wpV_if {α : Type} {p : Prop} [Decidable p] {a b : Option α} {Q : α → Prop} : wpV (if p then a else b) Q ↔ (p → wpV a Q) ∧ (¬ p → wpV b Q) := by
  by_cases h : p <;> simp [h]
@[simp] theorem z_wipeE_nil : wipeE e [] = e := rfl
@[simp] theorem z_wipeE_cons {v : Nat} {vs : List Nat} : wipeE e (v :: vs) = (wipeE e vs).set v .no := rfl
@[simp] theorem z_noneAt_nil : noneAt e [] = true := rfl
@[simp] theorem z_noneAt_cons {i : Nat} {r : List Nat} : noneAt e (i :: r) = ((match e[i]? with | some .no => true | _ => false) && noneAt e r) := rfl
@[simp] theorem z_argOf_v {d : D} : argOf e (.v d) = some (.val d) := rfl
@[simp] theorem z_argOf_b {i : Nat} : argOf e (.b i) = (match e[i]? with
    | some (.own _ xs) => some (.own none xs)
    | _ => none) := rfl
@[simp] theorem z_argsOf_nil : argsOf e [] = some [] := rfl
@[simp] theorem z_argsOf_cons {r : R} {rs : List R} : argsOf e (r :: rs) = (argOf e r).bind fun a => (argsOf e rs).map (a :: ·) := rfl
@[simp] theorem z_backs_nil : backs [] [] e = some e := rfl
@[simp] theorem z_backs_v {d : D} {rs : List R} {s : Sl} {ss : List Sl} : backs (.v d :: rs) (s :: ss) e = backs rs ss e := by rw [backs]
@[simp] theorem z_backs_b {i : Nat} {rs : List R} {t : Option Nat} {ys : D} {ss : List Sl} : backs (.b i :: rs) (.own t ys :: ss) e = (match e[i]? with
    | some (.own t _) => backs rs ss (e.set i (.own t ys))
    | _ => none) := by first | (rw [backs]; done) | (rw [backs]; rfl)
@[simp] theorem z_slotsOf_nil : slotsOf [] = [] := rfl
@[simp] theorem z_slotsOf_v {d : D} {rs : List R} : slotsOf (.v d :: rs) = slotsOf rs := rfl
@[simp] theorem z_slotsOf_b {i : Nat} {rs : List R} : slotsOf (.b i :: rs) = i :: slotsOf rs := rfl
@[simp] theorem z_isOwn_eq {i : Nat} : isOwn e i = (match e[i]? with
  | some (.own _ (.lst _)) => true
  | _ => false) := rfl
@[simp] theorem z_isOwnD_eq {i : Nat} : isOwnD e i = (match e[i]? with
  | some (.own _ (.dic _ _ _)) => true
  | _ => false) := rfl
@[simp] theorem z_putSl_t {i : Nat} {d : D} : putSl true i d e = if isCo d then some (e.set i (.own none d)) else none := rfl
@[simp] theorem z_putSl_f {i : Nat} {d : D} : putSl false i d e = some (e.set i (.val d)) := rfl
@[simp] theorem z_isCo_lst {xs : List D} : isCo (.lst xs) = true := rfl
@[simp] theorem z_isCo_dic {t : Bool} {ks xs : List D} : isCo (.dic t ks xs) = true := rfl
@[simp] theorem z_isLst_lst {xs : List D} : isLst (.lst xs) = true := rfl
@[simp] theorem z_putSls_nil : putSls [] [] [] e = some e := rfl
@[simp] theorem z_putSls_cons {i : Nat} {is : List Nat} {o : Bool} {os : List Bool} {d : D} {ds : List D} : putSls (i :: is) (o :: os) (d :: ds) e = (putSl o i d e).bind (putSls is os ds) := rfl
@[simp] theorem z_itOf_tup {xs : List D} : itOf (.tup xs) = some xs := rfl
@[simp] theorem z_itOf_lst {xs : List D} : itOf (.lst xs) = some xs := rfl
@[simp] theorem z_itOf_scr {xs : List D} : itOf (.scr xs) = some xs := rfl
@[simp] theorem z_itOf_dic {t : Bool} {ks vs : List D} : itOf (.dic t ks vs) = some ks := rfl
@[simp] theorem z_seqOf_tup {xs : List D} : seqOf (.tup xs) = some xs := rfl
@[simp] theorem z_seqOf_lst {xs : List D} : seqOf (.lst xs) = some xs := rfl
@[simp] theorem z_tagged_nil {k : Nat} : tagged k [] = [] := rfl
@[simp] theorem z_tagged_own {k : Nat} {t : Option Nat} {xs : D} {r : List Sl} : tagged k (.own t xs :: r) = .own (some k) xs :: tagged (k + 1) r := rfl
@[simp] theorem z_tagged_val {k : Nat} {d : D} {r : List Sl} : tagged k (.val d :: r) = .val d :: tagged (k + 1) r := by rw [tagged]; exact fun _ _ z => by cases z
@[simp] theorem z_outsOf_nil {k : Nat} : outsOf e k [] = some [] := rfl
@[simp] theorem z_outsOf_val {k : Nat} {d : D} {r : List Sl} : outsOf e k (.val d :: r) = (outsOf e (k + 1) r).map (.val d :: ·) := by rw [outsOf]; exact fun _ _ z => by cases z
@[simp] theorem z_outsOf_own {k : Nat} {t : Option Nat} {xs : D} {r : List Sl} : outsOf e k (.own t xs :: r) = (match e[k]? with
    | some (.own (some j) ys) => if j = k then (outsOf e (k + 1) r).map (.own none ys :: ·) else none
    | _ => none) := rfl
end
/-! operators -/
section
variable {i j : Int} {xs ys : List D}
@[simp] theorem z_binD_add : binD .add (.int i) (.int j) = some (.int (i + j)) := rfl
@[simp] theorem z_binD_sub : binD .sub (.int i) (.int j) = some (.int (i - j)) := rfl
@[simp] theorem z_binD_mul : binD .mul (.int i) (.int j) = if mulOk i j then some (.int (i * j)) else none := rfl
@[simp] theorem z_binD_fdiv : binD .fdiv (.int i) (.int j) = if divOk j then some (.int (i.fdiv j)) else none := rfl
@[simp] theorem z_binD_mod : binD .mod (.int i) (.int j) = if j = 0 then none else some (.int (i.fmod j)) := rfl
@[simp] theorem z_binD_pow : binD .pow (.int i) (.int j) = if powOk i j then some (.int (i ^ j.toNat)) else none := rfl
@[simp] theorem z_binD_catT : binD .add (.tup xs) (.tup ys) = if xs.length + ys.length ≤ LINE then some (.tup (xs ++ ys)) else none := rfl
@[simp] theorem z_binD_catL : binD .add (.lst xs) (.lst ys) = if xs.length + ys.length ≤ LINE then some (.lst (xs ++ ys)) else none := rfl
@[simp] theorem z_binD_rep : binD .mul (.lst xs) (.int j) = if 0 ≤ j ∧ j ≤ 1000000 ∧ xs.length * j.toNat ≤ LINE then some (.lst ((List.replicate j.toNat xs).flatten)) else none := rfl
@[simp] theorem z_negD_int : negD (.int i) = some (.int (-i)) := rfl
@[simp] theorem z_cmpD_lt : cmpD .lt (.int i) (.int j) = some (decide (i < j)) := rfl
@[simp] theorem z_cmpD_gt : cmpD .gt (.int i) (.int j) = some (decide (j < i)) := rfl
@[simp] theorem z_cmpD_le : cmpD .le (.int i) (.int j) = some (decide (i ≤ j)) := rfl
@[simp] theorem z_cmpD_ge : cmpD .ge (.int i) (.int j) = some (decide (j ≤ i)) := rfl
@[simp] theorem z_cmpD_eq {x y : D} : cmpD .eq x y = if okD x 60 && okD y 60 then some (eqD x y) else none := rfl
@[simp] theorem z_cmpD_ne {x y : D} : cmpD .ne x y = if okD x 60 && okD y 60 then some (!eqD x y) else none := rfl
@[simp] theorem z_cmpD_inT {x : D} : cmpD .isin x (.tup ys) = if okD x 60 && okDs ys 60 then some (inDs x ys) else none := rfl
@[simp] theorem z_cmpD_inL {x : D} : cmpD .isin x (.lst ys) = if okD x 60 && okDs ys 60 then some (inDs x ys) else none := rfl
@[simp] theorem z_cmpD_niT {x : D} : cmpD .notin x (.tup ys) = if okD x 60 && okDs ys 60 then some (!inDs x ys) else none := rfl
@[simp] theorem z_cmpD_niL {x : D} : cmpD .notin x (.lst ys) = if okD x 60 && okDs ys 60 then some (!inDs x ys) else none := rfl
@[simp] theorem z_cmpD_inD {x : D} {t : Bool} {ks vs : List D} : cmpD .isin x (.dic t ks vs) = (dGet t ks vs x).map Option.isSome := rfl
@[simp] theorem z_cmpD_niD {x : D} {t : Bool} {ks vs : List D} : cmpD .notin x (.dic t ks vs) = (dGet t ks vs x).map fun o => !o.isSome := rfl
@[simp] theorem z_isD_nn : isD .non .non = some true := rfl
@[simp] theorem z_isD_bb {a b : Bool} : isD (.bl a) (.bl b) = some (a == b) := rfl
@[simp] theorem z_isD_in : isD (.int i) .non = some false := rfl
@[simp] theorem z_isD_tn : isD (.tup xs) .non = some false := rfl
@[simp] theorem z_isD_ln : isD (.lst xs) .non = some false := rfl
@[simp] theorem z_isD_sn {s : Str} : isD (.str s) .non = some false := rfl
@[simp] theorem z_isD_bn {b : Bool} : isD (.bl b) .non = some false := rfl
@[simp] theorem z_isD_nb {b : Bool} : isD .non (.bl b) = some false := rfl
@[simp] theorem z_isD_ib {b : Bool} : isD (.int i) (.bl b) = some false := rfl
@[simp] theorem z_isD_tb {b : Bool} : isD (.tup xs) (.bl b) = some false := rfl
@[simp] theorem z_isD_lb {b : Bool} : isD (.lst xs) (.bl b) = some false := rfl
@[simp] theorem z_isD_sb {b : Bool} {s : Str} : isD (.str s) (.bl b) = some false := rfl
@[simp] theorem z_idxD_t : idxD (.tup xs) (.int i) = atD xs i := rfl
@[simp] theorem z_idxD_l : idxD (.lst xs) (.int i) = atD xs i := rfl
@[simp] theorem z_idxD_s : idxD (.scr xs) (.int i) = atD xs i := rfl
@[simp] theorem z_idxD_d {t : Bool} {ks vs : List D} {x : D} : idxD (.dic t ks vs) x = (dGet t ks vs x).bind id := rfl
@[simp] theorem z_slcD_t {lo hi : Option Int} : slcD lo hi (.tup xs) = some (.tup (slcL xs lo hi)) := rfl
@[simp] theorem z_slcD_l {lo hi : Option Int} : slcD lo hi (.lst xs) = some (.lst (slcL xs lo hi)) := rfl
@[simp] theorem z_biD_lenT : biD .len [.tup xs] = some (.int xs.length) := rfl
@[simp] theorem z_biD_lenL : biD .len [.lst xs] = some (.int xs.length) := rfl
@[simp] theorem z_biD_lenS : biD .len [.scr xs] = some (.int xs.length) := rfl
@[simp] theorem z_biD_lenD {ks vs : List D} : biD .len [.dic false ks vs] = some (.int ks.length) := rfl
@[simp] theorem z_biD_tupT : biD .tuple [.tup xs] = some (.tup xs) := rfl
@[simp] theorem z_biD_tupL : biD .tuple [.lst xs] = some (.tup xs) := rfl
@[simp] theorem z_biD_lstT : biD .list [.tup xs] = some (.lst xs) := rfl
@[simp] theorem z_biD_lstL : biD .list [.lst xs] = some (.lst xs) := rfl
@[simp] theorem z_biD_lstD {t : Bool} {ks vs : List D} : biD .list [.dic t ks vs] = some (.lst ks) := rfl
@[simp] theorem z_biD_abs : biD .abs [.int i] = some (.int (if i < 0 then -i else i)) := rfl
@[simp] theorem z_biD_int : biD .int [.int i] = some (.int i) := rfl
@[simp] theorem z_biD_sum : biD .sum [.lst xs] = (intsOf xs).map fun ns => .int ns.sum := rfl
@[simp] theorem z_biD_min : biD .min [.lst xs] = ((intsOf xs).bind minI).map .int := rfl
@[simp] theorem z_biD_max : biD .max [.lst xs] = ((intsOf xs).bind maxI).map .int := rfl
@[simp] theorem z_biD_minT : biD .min [.tup xs] = ((intsOf xs).bind minI).map .int := rfl
@[simp] theorem z_biD_maxT : biD .max [.tup xs] = ((intsOf xs).bind maxI).map .int := rfl
@[simp] theorem z_biD_sumT : biD .sum [.tup xs] = (intsOf xs).map fun ns => .int ns.sum := rfl
@[simp] theorem z_biD_max2 : biD .max2 [.int i, .int j] = some (.int (if j > i then j else i)) := rfl
@[simp] theorem z_biD_min2 : biD .min2 [.int i, .int j] = some (.int (if j < i then j else i)) := rfl
@[simp] theorem z_biD_any : biD .any [.lst xs] = (boolsOf xs).map fun bs => .bl (bs.any id) := rfl
@[simp] theorem z_biD_all : biD .all [.lst xs] = (boolsOf xs).map fun bs => .bl (bs.all id) := rfl
@[simp] theorem z_biD_minTL {x : D} : biD .minT [.lst (x :: xs)] = if sortOk (x :: xs) && (x :: xs).all (fun d => !isCo d) then some (minB x xs) else none := rfl
@[simp] theorem z_biD_sumLL : biD .sumL [.lst xs, .lst []] = (lstsOf xs).bind fun ys => if xs.length ≠ 0 ∧ ys.flatten.length ≤ LINE then some (.lst ys.flatten) else none := rfl
theorem z_biD_srtL : biD .sorted [.lst xs] = if sortOk xs then some (.lst (xs.mergeSort leB)) else none := rfl
theorem z_biD_srtT : biD .sorted [.tup xs] = if sortOk xs then some (.lst (xs.mergeSort leB)) else none := rfl
@[simp] theorem z_ssetD_l : ssetD (.lst xs) = ssetL xs := rfl
@[simp] theorem z_ssetD_t : ssetD (.tup xs) = if (intsOf xs).isSome then ssetL xs else none := rfl
@[simp] theorem z_isiD_ii : isiD .int (.int i) = some true := rfl
@[simp] theorem z_isiD_ib {b : Bool} : isiD .int (.bl b) = some true := rfl
@[simp] theorem z_isiD_bb {b : Bool} : isiD .bool (.bl b) = some true := rfl
@[simp] theorem z_isiD_bi : isiD .bool (.int i) = some false := rfl
@[simp] theorem z_isiD_tt : isiD .tuple (.tup xs) = some true := rfl
@[simp] theorem z_isiD_ll : isiD .list (.lst xs) = some true := rfl
@[simp] theorem z_isiD_ss {s : Str} : isiD .str (.str s) = some true := rfl
@[simp] theorem z_isiD_tn : isiD .tuple .non = some false := rfl
@[simp] theorem z_isiD_ti : isiD .tuple (.int i) = some false := rfl
@[simp] theorem z_isiD_tb {b : Bool} : isiD .tuple (.bl b) = some false := rfl
@[simp] theorem z_isiD_ts {s : Str} : isiD .tuple (.str s) = some false := rfl
@[simp] theorem z_isiD_tl : isiD .tuple (.lst xs) = some false := rfl
@[simp] theorem z_isiD_in : isiD .int .non = some false := rfl
@[simp] theorem z_isiD_it : isiD .int (.tup xs) = some false := rfl
@[simp] theorem z_isiD_il : isiD .int (.lst xs) = some false := rfl
@[simp] theorem z_isiD_is {s : Str} : isiD .int (.str s) = some false := rfl
@[simp] theorem z_isiD_bn : isiD .bool .non = some false := rfl
@[simp] theorem z_isiD_bt : isiD .bool (.tup xs) = some false := rfl
@[simp] theorem z_isiD_bl {xs : List D} : isiD .bool (.lst xs) = some false := rfl
@[simp] theorem z_isiD_bs {s : Str} : isiD .bool (.str s) = some false := rfl
@[simp] theorem z_isiD_sn : isiD .str .non = some false := rfl
@[simp] theorem z_isiD_si : isiD .str (.int i) = some false := rfl
@[simp] theorem z_isiD_sb {b : Bool} : isiD .str (.bl b) = some false := rfl
@[simp] theorem z_isiD_st : isiD .str (.tup xs) = some false := rfl
@[simp] theorem z_isiD_sl : isiD .str (.lst xs) = some false := rfl
@[simp] theorem z_okD_non {n : Nat} : okD .non n = true := by rw [okD]
@[simp] theorem z_okD_bl {b : Bool} {n : Nat} : okD (.bl b) n = true := by rw [okD]
@[simp] theorem z_okD_int {n : Nat} : okD (.int i) n = true := by rw [okD]
@[simp] theorem z_okD_tup {n : Nat} : okD (.tup xs) (n + 1) = okDs xs n := by rw [okD]
@[simp] theorem z_okD_lst {n : Nat} : okD (.lst xs) (n + 1) = okDs xs n := by rw [okD]
@[simp] theorem z_okDs_nil {n : Nat} : okDs [] n = true := by rw [okDs]
@[simp] theorem z_okDs_cons {x : D} {n : Nat} : okDs (x :: xs) n = (okD x n && okDs xs n) := by rw [okDs]
theorem okDs_of {n : Nat} : ∀ {xs : List D}, (∀ x ∈ xs, okD x n = true) → okDs xs n = true
  | [], _ => by simp
  | x :: xs, h => by
    rw [z_okDs_cons, h x List.mem_cons_self, okDs_of fun y hy => h y (List.mem_cons_of_mem _ hy)]
    rfl
@[simp] theorem z_okDs_ints {n : Nat} (ns : List Int) : okDs (ns.map .int) n = true := okDs_of fun x hx => by
  obtain ⟨k, _, rfl⟩ := List.mem_map.mp hx
  simp
@[simp] theorem z_okD_tupI {n : Nat} (ns : List Int) : okD (tupI ns) (n + 1) = true := by simp [tupI]
@[simp] theorem z_okDs_tups {n : Nat} (ws : List (List Int)) : okDs (ws.map tupI) (n + 1) = true := okDs_of fun x hx => by
  obtain ⟨k, _, rfl⟩ := List.mem_map.mp hx
  simp
@[simp] theorem z_inDs_ints (k : Int) (ns : List Int) : inDs (.int k) (ns.map .int) = decide (k ∈ ns) := inDs_map eqD_int k ns
@[simp] theorem z_inDs_tups (k : List Int) (ns : List (List Int)) : inDs (tupI k) (ns.map tupI) = decide (k ∈ ns) := (inDs_map eqD_tupI k ns).trans (decide_eq_decide.mpr .rfl)
@[simp] theorem z_intsOf_ints (ns : List Int) : intsOf (ns.map .int) = some ns := ints_intsOf ns
@[simp] theorem z_tupsOf_tups (ns : List (List Int)) : tupsOf (ns.map tupI) = some ns := tups_tupsOf ns
theorem bools_boolsOf : ∀ ns : List Bool, boolsOf (ns.map .bl) = some ns
  | [] => rfl
  | n :: ns => by rw [List.map_cons, boolsOf, bools_boolsOf ns]; rfl
@[simp] theorem z_boolsOf_bools (ns : List Bool) : boolsOf (ns.map .bl) = some ns := bools_boolsOf ns
end
/-! places -/
@[simp] theorem z_at0 {x : D} {xs : List D} : atD (x :: xs) 0 = some x := rfl
@[simp] theorem z_at1 {x y : D} {xs : List D} : atD (x :: y :: xs) 1 = some y := rfl
@[simp] theorem z_at2 {x y z : D} {xs : List D} : atD (x :: y :: z :: xs) 2 = some z := rfl
@[simp] theorem z_at3 {x y z w : D} {xs : List D} : atD (x :: y :: z :: w :: xs) 3 = some w := rfl
theorem atD_nat {xs : List D} {i : Int} (h : 0 ≤ i) : atD xs i = xs[i.toNat]? := by
  unfold atD
  rw [if_pos h]
theorem atD_last {xs : List D} : atD xs (-1) = xs.getLast? := by
  unfold atD
  rw [if_neg (by decide)]
  cases xs with
  | nil => simp
  | cons x xs =>
    rw [if_pos (by simp; omega)]
    rw [List.getLast?_eq_getElem?]
    have e : ((-1 : Int) + ((x :: xs).length : Int)).toNat = (x :: xs).length - 1 := by
      simp only [List.length_cons]
      omega
    rw [e]
theorem smallI_of {i : Int} (h : -18446744073709551616 < i) (g : i < 18446744073709551616) : smallI i = true := by
  unfold smallI SM
  simp [h, g]
theorem mulOk_r {i j : Int} (h : -18446744073709551616 < j) (g : j < 18446744073709551616) : mulOk i j = true := by
  unfold mulOk
  rw [smallI_of h g]
  simp
theorem mulOk_l {i j : Int} (h : -18446744073709551616 < i) (g : i < 18446744073709551616) : mulOk i j = true := by
  unfold mulOk
  rw [smallI_of h g]
  simp
theorem divOk_of {j : Int} (h : 0 < j) (g : j < 1073741824) : divOk j = true := by
  unfold divOk
  simp
  omega
/-! ### boxes -/
structure Box where
  g : Int
  s : Int
def bxD (b : Box) : D := .lst [.int b.g, .int b.s]
def BxOk (b : Box) : Prop := 0 ≤ b.g ∧ 0 ≤ b.s ∧ b.s < 4294967296
/-- a def that takes a box and data: what it gives -/
def Gen (T : List Df) (n f : Nat) (as : List D) (P : D → Prop) : Prop := ∀ b, BxOk b → ∃ d b', BxOk b' ∧ P d ∧ run T n f (.own none (bxD b) :: as.map .val) = some (d, .own none (bxD b') :: as.map .val)
/-- a def of data -/
def Fun (T : List Df) (n f : Nat) (as : List D) (P : D → Prop) : Prop := ∃ d, P d ∧ run T n f (as.map .val) = some (d, as.map .val)
section
variable {T : List Df} {n f : Nat} {as : List D} {P : D → Prop} {Q : D → List Sl → Prop} {b : Box}
theorem Gen.wp (h : Gen T n f as P) (hb : BxOk b) (q : ∀ d b', BxOk b' → P d → Q d (.own none (bxD b') :: as.map .val)) : wpC (run T n) f (.own none (bxD b) :: as.map .val) Q := by
  obtain ⟨d, b', h1, h2, h3⟩ := h b hb
  exact ⟨d, _, h3, q d b' h1 h2⟩
theorem Gen.of (h : ∀ b, BxOk b → wpC (run T n) f (.own none (bxD b) :: as.map .val) fun d o => ∃ b', BxOk b' ∧ P d ∧ o = .own none (bxD b') :: as.map .val) : Gen T n f as P := fun b hb => by
  obtain ⟨d, o, h1, b', h2, h3, rfl⟩ := h b hb
  exact ⟨d, b', h2, h3, h1⟩
theorem Fun.wp (h : Fun T n f as P) (q : ∀ d, P d → Q d (as.map .val)) : wpC (run T n) f (as.map .val) Q := by
  obtain ⟨d, h1, h2⟩ := h
  exact ⟨d, _, h2, q d h1⟩
theorem Fun.of (h : wpC (run T n) f (as.map .val) fun d o => P d ∧ o = as.map .val) : Fun T n f as P := by
  obtain ⟨d, o, h1, h2, rfl⟩ := h
  exact ⟨d, h2, h1⟩
end
end PC
set_option Elab.async false
set_option linter.all false
/-! PyCore, part 21: loops and comprehensions over told items; more about data. -/
namespace PC
open PySem

section
variable {F : CallF} {κ : Type}
theorem map_split {f : κ → D} : ∀ {ks : List κ} {done : List D} {x : D} {rest : List D}, ks.map f = done ++ x :: rest → ∃ kd k kr, ks = kd ++ k :: kr ∧ done = kd.map f ∧ x = f k ∧ rest = kr.map f := by
  intro ks done x rest h
  obtain ⟨kd, l, h1, h2, h3⟩ := List.map_eq_append_iff.mp h
  obtain ⟨k, kr, h4, h5, h6⟩ := List.map_eq_cons_iff.mp h3
  exact ⟨kd, k, kr, by rw [h1, h4], h2.symm, h5.symm, h6.symm⟩
theorem comp_emb {f : κ → D} {ks : List κ} (E : En) (p : κ → Bool) (g : κ → D) {own : List Nat} {tg : Tg} {cs : Es} {elt : Ex} {e : En} {Q : D → En → Prop} (h0 : wipeE e own = E) (hw : wipeE E own = E)
    (hs : ∀ k ∈ ks, wpV (setTg tg (f k) E) fun e2 => WCs F cs e2 fun c e3 => c = p k ∧ (c = true → WE F elt e3 fun r e4 => r = .v (g k) ∧ wipeE e4 own = E) ∧ (c = false → wipeE e3 own = E))
    (he : Q (.lst ((ks.filter p).map g)) E) : wpComp F own tg cs elt (ks.map f) e Q := by
  have key : ∀ (rest : List κ) (q : En × List D), (∀ x ∈ rest, x ∈ ks) → wipeE q.1 own = E → ∃ e', (rest.map f).foldlM (compF F own tg cs elt) q = some (e', q.2 ++ (rest.filter p).map g) ∧ wipeE e' own = E := by
    intro rest
    induction rest with
    | nil => intro q _ h; exact ⟨q.1, by simp, h⟩
    | cons x rest ih =>
      intro q hm hq
      obtain ⟨e2, h1, h2⟩ := hs x (hm x List.mem_cons_self)
      obtain ⟨k, e3, h3, h4, h5, h6⟩ := sCs cs h2
      rw [List.map_cons, List.foldlM_cons]
      cases k with
      | true =>
        obtain ⟨r, e4, h7, rfl, h8⟩ := sE elt (h5 rfl)
        have e0 : compF F own tg cs elt q (f x) = some (e4, q.2 ++ [g x]) := by
          unfold compF
          simp only [hq, h1, h3, h7, sol, Option.bind_some, Option.map_some, if_true]
        obtain ⟨e', g1, g2⟩ := ih (e4, q.2 ++ [g x]) (fun y hy => hm y (List.mem_cons_of_mem _ hy)) h8
        refine ⟨e', ?_, g2⟩
        show (compF F own tg cs elt q (f x)).bind _ = _
        rw [e0, Option.bind_some, g1]
        simp [← h4]
      | false =>
        have e0 : compF F own tg cs elt q (f x) = some (e3, q.2) := by
          unfold compF
          simp only [hq, h1, h3, Option.bind_some, Bool.false_eq_true, if_false]
        obtain ⟨e', g1, g2⟩ := ih (e3, q.2) (fun y hy => hm y (List.mem_cons_of_mem _ hy)) (h6 rfl)
        refine ⟨e', ?_, g2⟩
        show (compF F own tg cs elt q (f x)).bind _ = _
        rw [e0, Option.bind_some, g1]
        simp [← h4]
  obtain ⟨e', g1, g2⟩ := key ks (wipeE e own, []) (fun _ h => h) (by rw [h0]; exact hw)
  exact ⟨_, g1, by simpa [g2] using he⟩
theorem comp_map {f : κ → D} {ks : List κ} (E : En) (g : κ → D) {own : List Nat} {tg : Tg} {elt : Ex} {e : En} {Q : D → En → Prop} (h0 : wipeE e own = E) (hw : wipeE E own = E)
    (hs : ∀ k ∈ ks, wpV (setTg tg (f k) E) fun e2 => WE F elt e2 fun r e4 => r = .v (g k) ∧ wipeE e4 own = E)
    (he : Q (.lst (ks.map g)) E) : wpComp F own tg .nil elt (ks.map f) e Q := by
  refine comp_emb E (fun _ => true) g h0 hw (fun k hk => ?_) ?_
  · obtain ⟨e2, h1, h2⟩ := hs k hk
    exact ⟨e2, h1, rfl, fun _ => h2, fun h => by cases h⟩
  · rw [List.filter_eq_self.mpr (fun _ _ => rfl)]
    exact he
theorem wq_get {e : En} {i : Nat} : ∀ {vs : List Nat}, i ∉ vs → (wipeE e vs)[i]? = e[i]?
  | [], _ => rfl
  | v :: vs, h => by
    unfold wipeE
    rw [List.getElem?_set_ne (fun z => h (by rw [z]; exact List.mem_cons_self))]
    exact wq_get fun z => h (List.mem_cons_of_mem _ z)
theorem wq_len {e : En} : ∀ {vs : List Nat}, (wipeE e vs).length = e.length
  | [] => rfl
  | v :: vs => by
    unfold wipeE
    rw [List.length_set, wq_len]
theorem wq_in {e : En} {i : Nat} (hi : i < e.length) : ∀ {vs : List Nat}, i ∈ vs → (wipeE e vs)[i]? = some .no
  | v :: vs, h => by
    unfold wipeE
    by_cases hv : v = i
    · subst hv
      rw [List.getElem?_set_self (by rw [wq_len]; exact hi)]
    · rw [List.getElem?_set_ne hv]
      rcases List.mem_cons.mp h with z | z
      · exact absurd z.symm hv
      · exact wq_in hi z
theorem wq_at {e : En} {i : Nat} : ∀ {vs : List Nat}, noneAt e vs = true → i ∈ vs → e[i]? = some .no
  | v :: vs, h, hi => by
    unfold noneAt at h
    simp only [Bool.and_eq_true] at h
    obtain ⟨h1, h2⟩ := h
    rcases List.mem_cons.mp hi with z | z
    · subst z
      split at h1
      · assumption
      · cases h1
    · exact wq_at h2 z
theorem wq_none {e : En} {vs : List Nat} (h : noneAt e vs = true) : wipeE e vs = e := by
  apply List.ext_getElem?
  intro i
  by_cases hi : i ∈ vs
  · have h1 := wq_at h hi
    rw [wq_in (List.getElem?_eq_some_iff.mp h1).1 hi, h1]
  · exact wq_get hi
theorem wq_twice {e : En} {own own1 : List Nat} (h : ∀ i ∈ own1, i ∈ own) : wipeE (wipeE e own1) own = wipeE e own := by
  apply List.ext_getElem?
  intro i
  by_cases hi : i ∈ own
  · by_cases hl : i < e.length
    · rw [wq_in (by rw [wq_len]; exact hl) hi, wq_in hl hi]
    · rw [List.getElem?_eq_none (by rw [wq_len, wq_len]; omega), List.getElem?_eq_none (by rw [wq_len]; omega)]
  · rw [wq_get hi, wq_get hi, wq_get fun z => hi (h i z)]
theorem compF_acc {own : List Nat} {tg : Tg} {cs : Es} {elt : Ex} (a : List D) : ∀ (ys : List D) (e : En) (b : List D), ys.foldlM (compF F own tg cs elt) (e, a ++ b) = (ys.foldlM (compF F own tg cs elt) (e, b)).map fun q => (q.1, a ++ q.2)
  | [], e, b => rfl
  | y :: ys, e, b => by
    rw [List.foldlM_cons, List.foldlM_cons]
    show (compF F own tg cs elt (e, a ++ b) y).bind _ = ((compF F own tg cs elt (e, b) y).bind _).map _
    unfold compF
    dsimp only
    cases setTg tg y (wipeE e own) with
    | none => rfl
    | some e2 =>
      simp only [Option.bind_some]
      cases denCs F cs e2 with
      | none => rfl
      | some q =>
        obtain ⟨k, e3⟩ := q
        simp only [Option.bind_some]
        cases k with
        | false =>
          simp only [Bool.false_eq_true, if_false, Option.bind_some]
          exact compF_acc a ys e3 b
        | true =>
          simp only [if_true]
          cases denE F elt e3 with
          | none => rfl
          | some q =>
            obtain ⟨r, e4⟩ := q
            simp only [Option.bind_some]
            cases sol r with
            | none => rfl
            | some d =>
              simp only [Option.map_some, Option.bind_some, List.append_assoc]
              exact compF_acc a ys e4 (b ++ [d])
/-- two fors that change nothing -/
theorem comp2_emb {f : κ → D} {ks : List κ} (E : En) (g : κ → List D) (m : Nat) {own own1 : List Nat} {tg tg1 : Tg} {it1 : It} {cs : Es} {elt : Ex} {e : En} {Q : D → En → Prop} (hoo : ∀ i ∈ own1, i ∈ own) (hm : ks.length * m ≤ LINE) (h0 : wipeE e own = E) (hw : wipeE E own = E)
    (hs : ∀ k ∈ ks, wpV (setTg tg (f k) E) fun e2 => WI F it1 e2 fun ys e3 => noneAt e3 own1 = true ∧ ys.length ≤ m ∧ (g k).length ≤ m ∧ wpComp F own1 tg1 cs elt ys e3 fun d e4 => d = .lst (g k) ∧ wipeE e4 own = E)
    (he : Q (.lst (ks.flatMap g)) E) : wpComp2 F own tg own1 tg1 it1 cs elt (ks.map f) e Q := by
  have key : ∀ (rest : List κ) (q : En × List D), (∀ x ∈ rest, x ∈ ks) → q.2.length + rest.length * m ≤ LINE → wipeE q.1 own = E → ∃ e', (rest.map f).foldlM (compF2 F own tg own1 tg1 it1 cs elt) q = some (e', q.2 ++ rest.flatMap g) ∧ wipeE e' own = E := by
    intro rest
    induction rest with
    | nil => intro q _ _ h; exact ⟨q.1, by simp, h⟩
    | cons x rest ih =>
      intro q hmem hlen hq
      obtain ⟨e2, h1, h2⟩ := hs x (hmem x List.mem_cons_self)
      obtain ⟨ys, e3, h3, h4, h5, h6, p, h7, h8, h9⟩ := sI it1 h2
      have hp : p.2 = g x := by injection h8
      have hlen' : q.2.length + (rest.length * m + m) ≤ LINE := by
        rw [List.length_cons, Nat.succ_mul] at hlen
        exact hlen
      have h10 : ys.foldlM (compF F own1 tg1 cs elt) (e3, q.2) = some (p.1, q.2 ++ g x) := by
        have := compF_acc (F := F) (own := own1) (tg := tg1) (cs := cs) (elt := elt) q.2 ys e3 []
        rw [List.append_nil] at this
        rw [this]
        rw [wq_none h4] at h7
        rw [h7, Option.map_some, hp]
      have e0 : compF2 F own tg own1 tg1 it1 cs elt q (f x) = some (p.1, q.2 ++ g x) := by
        unfold compF2
        simp only [hq, h1, h3, Option.bind_some]
        rw [if_pos ⟨by omega, h4⟩, h10]
      rw [wq_twice hoo] at h9
      obtain ⟨e', g1, g2⟩ := ih (p.1, q.2 ++ g x) (fun y hy => hmem y (List.mem_cons_of_mem _ hy)) (by rw [List.length_append]; omega) h9
      refine ⟨e', ?_, g2⟩
      rw [List.map_cons, List.foldlM_cons]
      show (compF2 F own tg own1 tg1 it1 cs elt q (f x)).bind _ = _
      rw [e0, Option.bind_some, g1]
      simp
  obtain ⟨e', g1, g2⟩ := key ks (wipeE e own, []) (fun _ h => h) (by simpa using hm) (by rw [h0]; exact hw)
  exact ⟨_, g1, by simpa [g2] using he⟩
theorem for_emb {σ : Type} {f : κ → D} {ks : List κ} (E : σ → En) (I : List κ → σ → Prop) {tg : Tg} {b : Ss} {fg : List Nat} {e : En} {Q : Ctl → Prop} (st0 : σ) (h0 : wipeE e fg = E st0) (i0 : I [] st0)
    (hs : ∀ done k rest st, ks = done ++ k :: rest → I done st → wpV (setTg tg (f k) (E st)) fun e2 => WSs F b e2 fun c => match c with
      | .nx e1 => ∃ st', wipeE e1 fg = E st' ∧ I (done ++ [k]) st'
      | .ct e1 => ∃ st', wipeE e1 fg = E st' ∧ I (done ++ [k]) st'
      | .brk e1 => Q (.nx (wipeE e1 fg))
      | .ret d e1 => Q (.ret d e1))
    (he : ∀ st, I ks st → Q (.nx (E st))) : wpFor F tg b fg (ks.map f) e Q := by
  have key : ∀ (rest done : List κ) (e : En) (st : σ), ks = done ++ rest → wipeE e fg = E st → I done st → wpFor F tg b fg (rest.map f) e Q := by
    intro rest
    induction rest with
    | nil =>
      intro done e st hx he' hi
      rw [List.append_nil] at hx
      subst hx
      simp only [wpFor, List.map_nil, loopF, wpV_some, he']
      exact he st hi
    | cons x rest ih =>
      intro done e st hx he' hi
      obtain ⟨e2, h1, h2⟩ := hs done x rest st hx hi
      obtain ⟨c, h3, h4⟩ := sSs b h2
      simp only [wpFor, List.map_cons, loopF, he', h1, h3, Option.bind_some]
      cases c with
      | nx e1 =>
        obtain ⟨st', h5, h6⟩ := h4
        exact ih (done ++ [x]) e1 st' (by simp [hx]) h5 h6
      | ct e1 =>
        obtain ⟨st', h5, h6⟩ := h4
        exact ih (done ++ [x]) e1 st' (by simp [hx]) h5 h6
      | brk e1 => simpa only [wpV_some] using h4
      | ret d e1 => simpa only [wpV_some] using h4
  exact key ks [] e st0 rfl h0 i0
theorem comp_st {σ : Type} {f : κ → D} {ks : List κ} (E : σ → En) (I : List κ → List D → σ → Prop) {own : List Nat} {tg : Tg} {cs : Es} {elt : Ex} {e : En} {Q : D → En → Prop} (st0 : σ) (h0 : wipeE e own = E st0) (i0 : I [] [] st0)
    (hw : ∀ st, wipeE (E st) own = E st)
    (hs : ∀ done k rest acc st, ks = done ++ k :: rest → I done acc st → wpV (setTg tg (f k) (E st)) fun e2 => WCs F cs e2 fun c e3 =>
      (c = true → WE F elt e3 fun r e4 => wpV (sol r) fun d => ∃ st', wipeE e4 own = E st' ∧ I (done ++ [k]) (acc ++ [d]) st') ∧ (c = false → ∃ st', wipeE e3 own = E st' ∧ I (done ++ [k]) acc st'))
    (he : ∀ st acc, I ks acc st → Q (.lst acc) (E st)) : wpComp F own tg cs elt (ks.map f) e Q := by
  have key : ∀ (rest done : List κ) (q : En × List D) (st : σ), ks = done ++ rest → wipeE q.1 own = E st → I done q.2 st → wpV ((rest.map f).foldlM (compF F own tg cs elt) q) fun p => Q (.lst p.2) (wipeE p.1 own) := by
    intro rest
    induction rest with
    | nil =>
      intro done q st hx he' hi
      rw [List.append_nil] at hx
      subst hx
      exact ⟨q, rfl, by dsimp only; rw [he']; exact he st q.2 hi⟩
    | cons x rest ih =>
      intro done q st hx he' hi
      obtain ⟨e2, h1, h2⟩ := hs done x rest q.2 st hx hi
      obtain ⟨k, e3, h3, h4, h5⟩ := sCs cs h2
      rw [List.map_cons, List.foldlM_cons]
      cases k with
      | true =>
        obtain ⟨r, e4, h6, d, h7, st', h8, h9⟩ := sE elt (h4 rfl)
        have e0 : compF F own tg cs elt q (f x) = some (e4, q.2 ++ [d]) := by
          unfold compF
          simp only [he', h1, h3, h6, h7, Option.bind_some, Option.map_some, if_true]
        show wpV ((compF F own tg cs elt q (f x)).bind _) _
        rw [e0, Option.bind_some]
        exact ih (done ++ [x]) _ st' (by simp [hx]) h8 h9
      | false =>
        obtain ⟨st', h8, h9⟩ := h5 rfl
        have e0 : compF F own tg cs elt q (f x) = some (e3, q.2) := by
          unfold compF
          simp only [he', h1, h3, Option.bind_some, Bool.false_eq_true, if_false]
        show wpV ((compF F own tg cs elt q (f x)).bind _) _
        rw [e0, Option.bind_some]
        exact ih (done ++ [x]) _ st' (by simp [hx]) h8 h9
  exact key ks [] _ st0 rfl (by rw [h0]; exact hw st0) i0
end
/-! lists -/
theorem eqDs_nil : ∀ xs : List D, eqDs xs [] = xs.isEmpty
  | [] => rfl
  | _ :: _ => rfl
@[simp] theorem z_eqL_nil (xs : List D) : eqD (.lst xs) (.lst []) = xs.isEmpty := by rw [eqD, eqDs_nil]
@[simp] theorem z_eqT_nil (xs : List D) : eqD (.tup xs) (.tup []) = xs.isEmpty := by rw [eqD, eqDs_nil]
@[simp] theorem z_eqI (i j : Int) : eqD (.int i) (.int j) = decide (i = j) := eqD_int i j
@[simp] theorem z_eqtupI (i j : List Int) : eqD (tupI i) (tupI j) = decide (i = j) := eqD_tupI i j
@[simp] theorem z_okI_map {κ : Type} {n : Nat} (g : κ → Int) (l : List κ) : okDs (l.map fun k => .int (g k)) n = true := okDs_of fun x hx => by
  obtain ⟨k, _, rfl⟩ := List.mem_map.mp hx
  simp
@[simp] theorem z_rngL_len (m n : Int) : (rngL m n).length = (n - m).toNat := by simp [rngL]
theorem rngL_eq (m n : Int) : rngL m n = ((List.range (n - m).toNat).map fun (i : Nat) => m + (i : Int)).map .int := by simp [rngL]
/-- the ints m .. n - 1 -/
def rgI (m n : Int) : List Int := (List.range (n - m).toNat).map fun (i : Nat) => m + (i : Int)
theorem rngL_rgI (m n : Int) : rngL m n = (rgI m n).map .int := rngL_eq m n
theorem mem_rgI {m n k : Int} : k ∈ rgI m n ↔ m ≤ k ∧ k < n := by
  unfold rgI
  simp only [List.mem_map, List.mem_range]
  constructor
  · rintro ⟨i, h1, rfl⟩; omega
  · rintro ⟨h1, h2⟩; exact ⟨(k - m).toNat, by omega, by omega⟩
theorem rgI_nd (m n : Int) : (rgI m n).Nodup := by
  unfold rgI
  refine List.pairwise_map.mpr (List.Pairwise.imp ?_ List.nodup_range)
  intro a b h e
  exact h (by omega)
theorem rgI_len (m n : Int) : (rgI m n).length = (n - m).toNat := by simp [rgI]
/-- a list of ints without doubles in 0 .. N - 1 is short -/
theorem nd_len {l : List Int} {N : Nat} (h : l.Nodup) (g : ∀ k ∈ l, 0 ≤ k ∧ k < N) : l.length ≤ N := by
  have : ∀ (l m : List Int), l.Nodup → (∀ k ∈ l, k ∈ m) → l.length ≤ m.length := by
    intro l
    induction l with
    | nil => intro m _ _; exact Nat.zero_le _
    | cons x l ih =>
      intro m h1 h2
      obtain ⟨h3, h4⟩ := List.nodup_cons.mp h1
      have hx : x ∈ m := h2 x List.mem_cons_self
      have := ih (m.erase x) h4 fun y hy => (List.mem_erase_of_ne (fun (e : y = x) => h3 (by rw [← e]; exact hy))).mpr (h2 y (List.mem_cons_of_mem _ hy))
      have e := List.length_erase_of_mem hx
      have := List.length_pos_of_mem hx
      rw [List.length_cons]
      omega
  have h5 := this l (rgI 0 N) h fun k hk => mem_rgI.mpr (g k hk)
  rw [rgI_len] at h5
  omega
theorem nd_sub {l m : List Int} (h1 : l.Nodup) (h2 : ∀ k ∈ l, k ∈ m) : l.length ≤ m.length := by
  induction l generalizing m with
  | nil => exact Nat.zero_le _
  | cons x l ih =>
    obtain ⟨h3, h4⟩ := List.nodup_cons.mp h1
    have hx : x ∈ m := h2 x List.mem_cons_self
    have := ih (m := m.erase x) h4 fun y hy => (List.mem_erase_of_ne (fun (e : y = x) => h3 (by rw [← e]; exact hy))).mpr (h2 y (List.mem_cons_of_mem _ hy))
    have e := List.length_erase_of_mem hx
    have := List.length_pos_of_mem hx
    rw [List.length_cons]
    omega
/-! sorted -/
def srt (ns : List Int) : List Int := ns.mergeSort fun a b => decide (a ≤ b)
theorem srt_perm (ns : List Int) : (srt ns).Perm ns := List.mergeSort_perm _ _
@[simp] theorem mem_srt {k : Int} {ns : List Int} : k ∈ srt ns ↔ k ∈ ns := (srt_perm ns).mem_iff
@[simp] theorem srt_len (ns : List Int) : (srt ns).length = ns.length := (srt_perm ns).length_eq
theorem srt_nd {ns : List Int} (h : ns.Nodup) : (srt ns).Nodup := (srt_perm ns).nodup_iff.mpr h
theorem srt_sorted (ns : List Int) : (srt ns).Pairwise (· ≤ ·) := (List.pairwise_mergeSort (le := fun a b : Int => decide (a ≤ b)) (fun a b c h g => by simp at h g ⊢; omega) (fun a b => by simp; omega) ns).imp fun h => by simpa using h
@[simp] theorem srt_nil {ns : List Int} : srt ns = [] ↔ ns = [] := by rw [← List.length_eq_zero_iff, srt_len, List.length_eq_zero_iff]
theorem srt_ints (ns : List Int) : (ns.map D.int).mergeSort leB = (srt ns).map .int := (List.map_mergeSort (fun a _ b _ => (leB_int a b).symm)).symm
theorem sortOk_ints {ns : List Int} (h : ns.length ≤ LINE) : sortOk (ns.map .int) = true := by
  unfold sortOk
  simp [likeB, isAtom, h]
theorem z_sorted_ints {ns : List Int} (h : ns.length ≤ LINE) : biD .sorted [.lst (ns.map .int)] = some (.lst ((srt ns).map .int)) := by
  rw [z_biD_srtL, if_pos (sortOk_ints h), srt_ints]
theorem z_sortedT_ints {ns : List Int} (h : ns.length ≤ LINE) : biD .sorted [.tup (ns.map .int)] = some (.lst ((srt ns).map .int)) := by
  rw [z_biD_srtT, if_pos (sortOk_ints h), srt_ints]
def srtW (ws : List (List Int)) : List (List Int) := ws.mergeSort leI
theorem srtW_perm (ws : List (List Int)) : (srtW ws).Perm ws := List.mergeSort_perm _ _
@[simp] theorem mem_srtW {k : List Int} {ws : List (List Int)} : k ∈ srtW ws ↔ k ∈ ws := (srtW_perm ws).mem_iff
@[simp] theorem srtW_len (ws : List (List Int)) : (srtW ws).length = ws.length := (srtW_perm ws).length_eq
theorem srtW_tups (ws : List (List Int)) : (ws.map tupI).mergeSort leB = (srtW ws).map tupI := (List.map_mergeSort (fun a _ b _ => (leB_tupI a b).symm)).symm
theorem likeBs_ints : ∀ xs ys : List Int, likeBs (xs.map .int) (ys.map .int) = true
  | [], _ => by simp [likeBs]
  | _ :: _, [] => by simp [likeBs]
  | x :: xs, y :: ys => by simp [likeBs, likeB, likeBs_ints xs ys]
theorem sortOk_tups {ws : List (List Int)} (h : ws.length ≤ LINE) (hn : ∀ w ∈ ws, w ≠ []) : sortOk (ws.map tupI) = true := by
  unfold sortOk
  have h1 : (ws.map tupI).all isTupC = true := by
    rw [List.all_eq_true]
    intro x hx
    obtain ⟨w, hw, rfl⟩ := List.mem_map.mp hx
    cases w with
    | nil => exact absurd rfl (hn _ hw)
    | cons a w => rfl
  have h2 : ((ws.map tupI).all fun x => (ws.map tupI).all fun y => likeB x y) = true := by
    rw [List.all_eq_true]
    intro x hx
    rw [List.all_eq_true]
    intro y hy
    obtain ⟨w, hw, rfl⟩ := List.mem_map.mp hx
    obtain ⟨v, hv, rfl⟩ := List.mem_map.mp hy
    simp [tupI, likeB, likeBs_ints]
  rw [h1, h2]
  simp [h]
theorem z_sorted_tups {ws : List (List Int)} (h : ws.length ≤ LINE) (hn : ∀ w ∈ ws, w ≠ []) : biD .sorted [.lst (ws.map tupI)] = some (.lst ((srtW ws).map tupI)) := by
  rw [z_biD_srtL, if_pos (sortOk_tups h hn), srtW_tups]
theorem z_sortedT_tups {ws : List (List Int)} (h : ws.length ≤ LINE) (hn : ∀ w ∈ ws, w ≠ []) : biD .sorted [.tup (ws.map tupI)] = some (.lst ((srtW ws).map tupI)) := by
  rw [z_biD_srtT, if_pos (sortOk_tups h hn), srtW_tups]
theorem z_ssetL_ints {ns : List Int} (h : ns.length < 64) : ssetL (ns.map .int) = some (.lst ((srt (ded ns)).map .int)) := by
  unfold ssetL
  rw [if_pos ⟨by simpa using h, .inl (by simp)⟩, dedD_map eqD_int, srt_ints]
theorem z_ssetL_tups {ws : List (List Int)} (h : ws.length < 64) (hn : ∀ w ∈ ws, w ≠ []) : ssetL (ws.map tupI) = some (.lst ((srtW (ded ws)).map tupI)) := by
  have h1 : (ws.map tupI).all isTupC = true := by
    rw [List.all_eq_true]
    intro x hx
    obtain ⟨w, hw, rfl⟩ := List.mem_map.mp hx
    cases w with
    | nil => exact absurd rfl (hn _ hw)
    | cons a w => rfl
  unfold ssetL
  rw [if_pos ⟨by simpa using h, .inr ⟨by simp, h1⟩⟩, dedD_map eqD_tupI, srtW_tups]
theorem ded_len {κ : Type} [DecidableEq κ] : ∀ xs : List κ, (ded xs).length ≤ xs.length
  | [] => Nat.le_refl _
  | x :: xs => by
    unfold ded
    have := ded_len xs
    split <;> simp <;> omega
theorem LINE_eq : LINE = 16777216 := rfl
end PC
set_option Elab.async false
set_option linter.all false
/-! PyCore, part 22: dicts with int keys; gathered lists. -/
namespace PC
open PySem
theorem keyD_ints (us : List Int) : ((us.map D.int).mapM keyD : Option (List (Sum Int Str))) = some (us.map .inl) := by
  induction us with
  | nil => rfl
  | cons u us ih => rw [List.map_cons, List.mapM_cons, ih]; rfl
theorem getL_map {κ κ' α : Type} [DecidableEq κ] [DecidableEq κ'] {f : κ' → κ} (hf : ∀ a b, f a = f b → a = b) (g : κ' → α) (k : κ') : ∀ us : List κ', getL (us.map f) (us.map g) (f k) = if k ∈ us then some (g k) else none
  | [] => by simp [getL]
  | u :: us => by
    rw [List.map_cons, List.map_cons, getL, getL_map hf g k us]
    by_cases h : u = k
    · subst h; simp
    · have h1 : ¬ f u = f k := fun e => h (hf _ _ e)
      have h2 : ¬ k = u := fun e => h e.symm
      simp [h1, h2]
theorem dGet_ints (us : List Int) (g : Int → D) (k : Int) : dGet false (us.map .int) (us.map g) (.int k) = some (if k ∈ us then some (g k) else none) := by
  unfold dGet
  simp only [keyD, Option.bind_some, keyD_ints, Option.map_some]
  rw [getL_map (fun a b h => by injection h)]
theorem dPut_ints {us : List Int} {vs : List D} {k : Int} {d : D} (h : k ∉ us) : dPut false (us.map .int) vs (.int k) d = some (.dic false ((us ++ [k]).map .int) (vs ++ [d])) := by
  unfold dPut
  have h1 : ¬ (Sum.inl k : Sum Int Str) ∈ us.map Sum.inl := fun z => by
    obtain ⟨u, hu, e⟩ := List.mem_map.mp z
    injection e with e
    exact h (e ▸ hu)
  simp only [keyD, Option.bind_some, keyD_ints, Option.map_some, putKs, putL, if_neg h1, List.map_append, List.map_cons, List.map_nil]
/-- the names 0, 1, .. of what comes -/
def nmI (us : List Int) : List D := us.map fun k => .int (us.idxOf k : Nat)
theorem nmI_snoc {us : List Int} {k : Int} (h : k ∉ us) : nmI (us ++ [k]) = nmI us ++ [.int us.length] := by
  unfold nmI
  rw [List.map_append]
  congr 1
  · refine List.map_congr_left fun j hj => ?_
    rw [List.idxOf_append, if_pos hj]
  · simp [List.idxOf_append, h]
theorem dGet_nm (us : List Int) (k : Int) : dGet false (us.map .int) (nmI us) (.int k) = some (if k ∈ us then some (.int (us.idxOf k : Nat)) else none) := dGet_ints us _ k
theorem dPut_nm {us : List Int} {k : Int} (h : k ∉ us) : dPut false (us.map .int) (nmI us) (.int k) (.int us.length) = some (.dic false ((us ++ [k]).map .int) (nmI (us ++ [k]))) := by
  rw [dPut_ints h, nmI_snoc h]
theorem idxOf_lt' {us : List Int} {k : Int} (h : k ∈ us) : us.idxOf k < us.length := List.idxOf_lt_length_of_mem h
theorem idxOf_inj' {us : List Int} {a b : Int} (ha : a ∈ us) (hb : b ∈ us) (h : us.idxOf a = us.idxOf b) : a = b := by
  have h1 := List.getElem_idxOf (idxOf_lt' ha)
  have h2 := List.getElem_idxOf (idxOf_lt' hb)
  rw [← h1, ← h2]
  congr 1
theorem nd_map {κ κ' : Type} {f : κ → κ'} {l : List κ} (h : l.Nodup) (hf : ∀ a ∈ l, ∀ b ∈ l, f a = f b → a = b) : (l.map f).Nodup :=
  List.pairwise_map.mpr (List.Pairwise.imp_of_mem (fun {a b} ha hb hn e => hn (hf a ha b hb e)) h)
theorem idxEq_ints (k : Int) : ∀ us : List Int, idxEq (.int k) (us.map .int) = if k ∈ us then some (us.idxOf k) else none
  | [] => by simp [idxEq]
  | u :: us => by
    rw [List.map_cons, idxEq, eqD_int, idxEq_ints k us]
    by_cases h : u = k
    · subst h; simp [List.idxOf_cons]
    · have h2 : ¬ k = u := fun e => h e.symm
      by_cases h3 : k ∈ us
      · have h4 : (u == k) = false := by simpa using h
        simp [h, h2, h3, List.idxOf_cons, h4]
      · simp [h, h2, h3]
/-- what is gathered, way by way, what is there left out -/
def gthr (us : List Int) (w : List Int) : List Int := us ++ w.filter fun k => !decide (k ∈ us)
theorem mem_gthr {us w : List Int} {k : Int} : k ∈ gthr us w ↔ k ∈ us ∨ k ∈ w := by
  unfold gthr
  simp only [List.mem_append, List.mem_filter, Bool.not_eq_true', decide_eq_false_iff_not]
  by_cases h : k ∈ us <;> simp [h]
theorem gthr_nd {us w : List Int} (h : us.Nodup) (g : w.Nodup) : (gthr us w).Nodup := by
  unfold gthr
  refine List.nodup_append.mpr ⟨h, g.filter _, fun a ha b hb e => ?_⟩
  subst e
  have := (List.mem_filter.mp hb).2
  simp at this
  exact this ha
theorem perm_map {κ κ' : Type} {f : κ → κ'} : ∀ {xs : List κ} {ys : List κ'}, ys.Perm (xs.map f) → ∃ os : List κ, ys = os.map f ∧ os.Perm xs := by
  intro xs ys h
  have h' := h.symm
  generalize hz : xs.map f = zs at h'
  induction h' generalizing xs with
  | nil => exact ⟨[], rfl, by rw [List.map_eq_nil_iff.mp hz]⟩
  | cons x p ih =>
    cases xs with
    | nil => cases hz
    | cons a xs =>
      rw [List.map_cons] at hz
      injection hz with h1 h2
      obtain ⟨os, rfl, h3⟩ := ih (by rw [h2]; exact p.symm) h2
      exact ⟨a :: os, by rw [List.map_cons, h1], h3.cons a⟩
  | swap x y l =>
    cases xs with
    | nil => cases hz
    | cons a xs =>
      cases xs with
      | nil => cases hz
      | cons b xs =>
        injection hz with h1 h2
        injection h2 with h2 h3
        exact ⟨b :: a :: xs, by simp only [List.map_cons, h1, h2, h3], List.Perm.swap a b xs⟩
  | trans p q ih1 ih2 =>
    obtain ⟨os, h1, h2⟩ := ih1 (by rw [hz]; exact p.symm) hz
    obtain ⟨os', h3, h4⟩ := ih2 (by rw [← h1]; exact q.symm) h1.symm
    exact ⟨os', h3, h4.trans h2⟩
theorem eraseIdx_map' {κ κ' : Type} (f : κ → κ') : ∀ (l : List κ) (i : Nat), (l.map f).eraseIdx i = (l.eraseIdx i).map f
  | [], _ => rfl
  | _ :: _, 0 => rfl
  | x :: l, i + 1 => by simp [eraseIdx_map' f l i]
theorem z_sortedT_app {a b : List Int} (h : a.length + b.length ≤ LINE) : biD .sorted [.tup (a.map .int ++ b.map .int)] = some (.lst ((srt (a ++ b)).map .int)) := by
  rw [← List.map_append]
  exact z_sortedT_ints (by simpa using h)
theorem maxI_ex {w : List Int} (h : w ≠ []) : ∃ m, maxI w = some m ∧ m ∈ w ∧ ∀ y ∈ w, y ≤ m := by
  cases w with
  | nil => exact absurd rfl h
  | cons x w => exact ⟨_, rfl, maxI_spec (xs := x :: w) rfl⟩
theorem minI_ex {w : List Int} (h : w ≠ []) : ∃ m, minI w = some m ∧ m ∈ w ∧ ∀ y ∈ w, m ≤ y := by
  cases w with
  | nil => exact absurd rfl h
  | cons x w => exact ⟨_, rfl, minI_spec (xs := x :: w) rfl⟩
def mx (w : List Int) : Int := (maxI w).getD 0
def mn (w : List Int) : Int := (minI w).getD 0
theorem mx_eq {w : List Int} (h : w ≠ []) : maxI w = some (mx w) := by
  obtain ⟨m, h1, _⟩ := maxI_ex h
  unfold mx
  rw [h1]; rfl
theorem mx_mem {w : List Int} (h : w ≠ []) : mx w ∈ w ∧ ∀ y ∈ w, y ≤ mx w := by
  obtain ⟨m, h1, h2⟩ := maxI_ex h
  unfold mx
  rw [h1]; exact h2
theorem mn_eq {w : List Int} (h : w ≠ []) : minI w = some (mn w) := by
  obtain ⟨m, h1, _⟩ := minI_ex h
  unfold mn
  rw [h1]; rfl
theorem mn_mem {w : List Int} (h : w ≠ []) : mn w ∈ w ∧ ∀ y ∈ w, mn w ≤ y := by
  obtain ⟨m, h1, h2⟩ := minI_ex h
  unfold mn
  rw [h1]; exact h2
end PC
set_option Elab.async false
set_option linter.all false
/-! PyCore, part 24: cutting a def's body in parts. -/
namespace PC
open PySem
section
variable {F : CallF} {κ : Type}
def wpD (F : CallF) (ss : Ss) (e : En) (Q : Ctl → Prop) : Prop := wpV (denSs F ss e) Q
theorem wpD_of {ss : Ss} {e : En} {Q : Ctl → Prop} (h : WSs F ss e Q) : wpD F ss e Q := sSs ss h
@[simp] def takeS : Nat → Ss → Ss
  | 0, _ => .nil
  | _ + 1, .nil => .nil
  | k + 1, .cons s ss => .cons s (takeS k ss)
@[simp] def dropS : Nat → Ss → Ss
  | 0, ss => ss
  | _ + 1, .nil => .nil
  | k + 1, .cons s ss => dropS k ss
@[simp] def onNx (P : En → Prop) (Q : Ctl → Prop) : Ctl → Prop
  | .nx e => P e
  | .ret d e => Q (.ret d e)
  | .brk e => Q (.brk e)
  | .ct e => Q (.ct e)
theorem den_app : ∀ (k : Nat) (ss : Ss) (e : En), denSs F ss e = (denSs F (takeS k ss) e).bind fun c => match c with
    | .nx e1 => denSs F (dropS k ss) e1
    | c => some c
  | 0, ss, e => by simp [denSs]
  | k + 1, .nil, e => by simp [denSs]
  | k + 1, .cons s ss, e => by
    simp only [takeS, dropS, denSs]
    cases denS F s e with
    | none => rfl
    | some c =>
      cases c with
      | nx e1 =>
        simp only [Option.bind_some]
        exact den_app k ss e1
      | ret d e1 => simp
      | brk e1 => simp
      | ct e1 => simp
theorem wpD_cut (k : Nat) (P : En → Prop) {ss : Ss} {e : En} {Q : Ctl → Prop} (h1 : wpD F (takeS k ss) e (onNx P Q)) (h2 : ∀ e1, P e1 → wpD F (dropS k ss) e1 Q) : wpD F ss e Q := by
  obtain ⟨c, g1, g2⟩ := h1
  unfold wpD
  rw [den_app k ss e, g1, Option.bind_some]
  cases c with
  | nx e1 => exact h2 e1 g2
  | ret d e1 => exact ⟨_, rfl, g2⟩
  | brk e1 => exact ⟨_, rfl, g2⟩
  | ct e1 => exact ⟨_, rfl, g2⟩
/-- the first k, then the rest -/
theorem wpD_cutS (k : Nat) (P : En → Prop) {ss : Ss} {e : En} {Q : Ctl → Prop} (h1 : WSs F (takeS k ss) e (onNx P Q)) (h2 : ∀ e1, P e1 → wpD F (dropS k ss) e1 Q) : wpD F ss e Q := wpD_cut k P (wpD_of h1) h2
theorem wp_defD {T : List Df} {n f : Nat} {d : Df} {as : List Sl} {Q : D → List Sl → Prop} (hn : 1 ≤ n) (hd : T[f]? = some d) (hl : as.length = d.ar)
    (h : ∀ m, m + 1 = n → wpD (run T m) d.body (tagged 0 as ++ List.replicate (d.sl - d.ar) .no) (outQ as Q)) (hpm : d.pm = none := by rfl) : wpC (run T n) f as Q := by
  obtain ⟨m, rfl⟩ : ∃ m, n = m + 1 := ⟨n - 1, by omega⟩
  obtain ⟨c, h1, h2⟩ := h m rfl
  unfold wpC
  simp only [run, hd, Option.bind_some]
  rw [denF_none hpm]
  unfold denB
  rw [if_pos hl, h1, Option.bind_some]
  cases c with
  | ret d e =>
    obtain ⟨o, h3, q⟩ := h2
    exact ⟨d, o, by simp only [h3, Option.map_some], q⟩
  | nx e =>
    obtain ⟨o, h3, q⟩ := h2
    exact ⟨.non, o, by simp only [h3, Option.map_some], q⟩
  | brk e => exact h2.elim
  | ct e => exact h2.elim
/-- a loop over told items, its body cut -/
theorem for_embD {σ : Type} {f : κ → D} {ks : List κ} (E : σ → En) (I : List κ → σ → Prop) {tg : Tg} {b : Ss} {fg : List Nat} {e : En} {Q : Ctl → Prop} (st0 : σ) (h0 : wipeE e fg = E st0) (i0 : I [] st0)
    (hs : ∀ done k rest st, ks = done ++ k :: rest → I done st → wpV (setTg tg (f k) (E st)) fun e2 => wpD F b e2 fun c => match c with
      | .nx e1 => ∃ st', wipeE e1 fg = E st' ∧ I (done ++ [k]) st'
      | .ct e1 => ∃ st', wipeE e1 fg = E st' ∧ I (done ++ [k]) st'
      | .brk e1 => Q (.nx (wipeE e1 fg))
      | .ret d e1 => Q (.ret d e1))
    (he : ∀ st, I ks st → Q (.nx (E st))) : wpFor F tg b fg (ks.map f) e Q := by
  have key : ∀ (rest done : List κ) (e : En) (st : σ), ks = done ++ rest → wipeE e fg = E st → I done st → wpFor F tg b fg (rest.map f) e Q := by
    intro rest
    induction rest with
    | nil =>
      intro done e st hx he' hi
      rw [List.append_nil] at hx
      subst hx
      simp only [wpFor, List.map_nil, loopF, wpV_some, he']
      exact he st hi
    | cons x rest ih =>
      intro done e st hx he' hi
      obtain ⟨e2, h1, h2⟩ := hs done x rest st hx hi
      obtain ⟨c, h3, h4⟩ := h2
      simp only [wpFor, List.map_cons, loopF, he', h1, h3, Option.bind_some]
      cases c with
      | nx e1 =>
        obtain ⟨st', h5, h6⟩ := h4
        exact ih (done ++ [x]) e1 st' (by simp [hx]) h5 h6
      | ct e1 =>
        obtain ⟨st', h5, h6⟩ := h4
        exact ih (done ++ [x]) e1 st' (by simp [hx]) h5 h6
      | brk e1 => simpa only [wpV_some] using h4
      | ret d e1 => simpa only [wpV_some] using h4
  exact key ks [] e st0 rfl h0 i0
end
end PC
set_option Elab.async false
set_option linter.all false
/-! PyCore, part 23: data of rows that may end; loads, prices. -/
namespace PC
open PySem
def oI : Option Int → D
  | none => .non
  | some i => .int i
@[simp] theorem oI_none : oI none = .non := rfl
@[simp] theorem oI_some (i : Int) : oI (some i) = .int i := rfl
theorem oI_inj {a b : Option Int} (h : oI a = oI b) : a = b := by
  cases a <;> cases b <;> simp [oI] at h ⊢
  exact h
@[simp] theorem z_isN_oI (o : Option Int) : isD (oI o) .non = some (!o.isSome) := by cases o <;> rfl
@[simp] theorem z_okD_oI {n : Nat} (o : Option Int) : okD (oI o) n = true := by cases o <;> simp
@[simp] theorem z_okDs_oI {n : Nat} (es : List (Option Int)) : okDs (es.map oI) n = true := okDs_of fun x hx => by
  obtain ⟨o, _, rfl⟩ := List.mem_map.mp hx
  simp
@[simp] theorem z_eqN (o : Option Int) : eqD (oI o) .non = !o.isSome := by cases o <;> simp [eqD, oI]
@[simp] theorem z_eqOI (o : Option Int) (i : Int) : eqD (oI o) (.int i) = decide (o = some i) := by cases o <;> simp [eqD, oI]
@[simp] theorem z_inN_oI (es : List (Option Int)) : inDs .non (es.map oI) = decide (none ∈ es) := by
  induction es with
  | nil => rfl
  | cons o es ih => cases o <;> simp [inDs, ih, eqD]
theorem intsOf_oI : ∀ {es : List (Option Int)}, none ∉ es → intsOf (es.map oI) = some (es.map fun o => o.getD 0)
  | [], _ => rfl
  | none :: es, h => absurd List.mem_cons_self h
  | some i :: es, h => by
    rw [List.map_cons, oI_some, intsOf, intsOf_oI fun z => h (List.mem_cons_of_mem _ z)]
    rfl
def rowD (r : List (Option Int)) : D := .tup (r.map oI)
def tabD (tb : List (List (Option Int))) : D := .tup (tb.map rowD)
/-- an item from the front or from behind -/
def atO (r : List (Option Int)) (l : Int) : Option Int := if 0 ≤ l then r.getD l.toNat none else r.getD (l + r.length).toNat none
theorem atD_row {r : List (Option Int)} {l : Int} (h1 : -(r.length : Int) ≤ l) (h2 : l < r.length) : atD (r.map oI) l = some (oI (atO r l)) := by
  unfold atD atO
  have g : ∀ n, n < r.length → (r.map oI)[n]? = some (oI (r.getD n none)) := fun n hn => by
    rw [List.getElem?_map, List.getElem?_eq_getElem hn, List.getD_eq_getElem?_getD, List.getElem?_eq_getElem hn]
    rfl
  by_cases h : 0 ≤ l
  · rw [if_pos h, if_pos h, g _ (by omega)]
  · rw [if_neg h, if_pos (by rw [List.length_map]; omega), if_neg h, List.length_map, g _ (by omega)]
theorem atD_pos {κ : Type} {f : κ → D} {xs : List κ} {i : Int} {x : κ} (h : 0 ≤ i) (e : xs[i.toNat]? = some x) : atD (xs.map f) i = some (f x) := by
  rw [atD_nat h, List.getElem?_map, e]
  rfl
/-- what a thing's row holds at a load -/
def ent (r : List (Option Int)) (l : Int) : Option Int := if l < r.length then atO r l else none
def entS (tb : List (List (Option Int))) (ls w : List Int) : List (Option Int) := w.map fun t => ent (tb.getD t.toNat []) (ls.getD t.toNat 0)
def price (tb : List (List (Option Int))) (ls w : List Int) : Option Int := if none ∈ entS tb ls w then none else some ((entS tb ls w).map fun o => o.getD 0).sum
theorem price_some {tb : List (List (Option Int))} {ls w : List Int} {v : Int} (h : price tb ls w = some v) : ∀ t ∈ w, ∃ x, ent (tb.getD t.toNat []) (ls.getD t.toNat 0) = some x := fun t ht => by
  unfold price at h
  split at h
  · cases h
  · rename_i hn
    cases e : ent (tb.getD t.toNat []) (ls.getD t.toNat 0) with
    | none => exact absurd (List.mem_map.mpr ⟨t, ht, e⟩) hn
    | some x => exact ⟨x, rfl⟩
@[simp] theorem z_binD_mulT {xs : List D} {i : Int} : binD .mul (.tup xs) (.int i) = if 0 ≤ i ∧ i ≤ 1000 ∧ xs.length ≤ 1000 then some (.tup ((List.replicate i.toNat xs).flatten)) else none := rfl
/-! a dict of marks -/
def insU (us : List Int) (k : Int) : List Int := if k ∈ us then us else us ++ [k]
theorem mem_insU {us : List Int} {k j : Int} : j ∈ insU us k ↔ j ∈ us ∨ j = k := by
  unfold insU
  by_cases h : k ∈ us
  · rw [if_pos h]
    exact ⟨.inl, fun z => z.elim id fun e => by rw [e]; exact h⟩
  · rw [if_neg h, List.mem_append, List.mem_singleton]
theorem insU_nd {us : List Int} {k : Int} (h : us.Nodup) : (insU us k).Nodup := by
  unfold insU
  by_cases g : k ∈ us
  · rw [if_pos g]; exact h
  · rw [if_neg g]
    refine List.nodup_append.mpr ⟨h, by simp, fun a ha b hb e => g ?_⟩
    rw [← List.mem_singleton.mp hb, ← e]
    exact ha
theorem setL_const {d : D} (k : Sum Int Str) : ∀ us : List Int, setL (us.map Sum.inl) (us.map fun _ => d) k d = us.map fun _ => d
  | [] => rfl
  | u :: us => by
    rw [List.map_cons, List.map_cons, setL, setL_const k us]
    split <;> rfl
theorem dPut_mark {us : List Int} {d : D} {k : Int} : dPut false (us.map .int) (us.map fun _ => d) (.int k) d = some (.dic false ((insU us k).map .int) ((insU us k).map fun _ => d)) := by
  have h1 : ((Sum.inl k : Sum Int Str) ∈ us.map Sum.inl) = (k ∈ us) := by simp
  unfold dPut
  simp only [keyD, Option.bind_some, keyD_ints, Option.map_some, putKs, putL, h1, insU]
  by_cases h : k ∈ us
  · simp only [if_pos h, setL_const]
  · simp only [if_neg h, List.map_append, List.map_cons, List.map_nil]
theorem nd_eq_len {us : List Int} {m : Int} (h : us.Nodup) (g : ∀ k, k ∈ us ↔ 0 ≤ k ∧ k < m) : us.length = m.toNat := by
  have h1 := nd_sub h fun k hk => mem_rgI.mpr ((g k).mp hk)
  have h2 := nd_sub (rgI_nd 0 m) fun k hk => (g k).mpr (mem_rgI.mp hk)
  rw [rgI_len] at h1 h2
  omega
/-! enumerate and zip -/
theorem mapIdx_enum {κ : Type} (f : κ → D) (xs : List κ) : ((xs.map f).mapIdx fun i d => D.tup [.int i, d]) = xs.zipIdx.map fun p => .tup [.int (p.2 : Nat), f p.1] := by
  rw [List.mapIdx_eq_zipIdx_map, List.zipIdx_map, List.map_map]
  rfl
theorem zip_two {κ κ' : Type} (f : κ → D) (g : κ' → D) (xs : List κ) (ys : List κ') : ((xs.map f).zip (ys.map g)).map (fun p => D.tup [p.1, p.2]) = (xs.zip ys).map fun p => .tup [f p.1, g p.2] := by
  rw [List.zip_map, List.map_map]
  rfl
theorem zipIdx_split {κ : Type} {xs : List κ} {done rest : List (κ × Nat)} {k : κ × Nat} (h : xs.zipIdx = done ++ k :: rest) : k.2 = done.length ∧ xs[done.length]? = some k.1 ∧ done.length < xs.length := by
  have h1 : xs.zipIdx[done.length]? = some k := by rw [h]; simp
  rw [List.getElem?_zipIdx] at h1
  have hl : done.length < xs.length := by
    have := congrArg List.length h
    simp at this
    omega
  rw [List.getElem?_eq_getElem hl] at h1
  simp at h1
  subst h1
  refine ⟨by simp, by rw [List.getElem?_eq_getElem hl], hl⟩
/-! loads -/
def cnt (wn : List (List Int)) (t : Int) : Int := ((wn.filter fun w => decide (t ∈ w)).length : Nat)
def manyL (m : Int) (wn : List (List Int)) : List Int := (rgI 0 m).map fun t => cnt wn t
theorem rgI_get {m : Int} {i : Nat} (h : i < m.toNat) : (rgI 0 m)[i]? = some (i : Int) := by
  unfold rgI
  rw [List.getElem?_map, List.getElem?_range (by omega)]
  simp
theorem manyL_len (m : Int) (wn : List (List Int)) : (manyL m wn).length = m.toNat := by simp [manyL, rgI_len]
theorem manyL_get {m : Int} {wn : List (List Int)} {t : Int} (h0 : 0 ≤ t) (h1 : t < m) : (manyL m wn).getD t.toNat 0 = cnt wn t := by
  unfold manyL
  rw [List.getD_eq_getElem?_getD, List.getElem?_map, rgI_get (by omega)]
  simp
  congr 1
  omega
theorem cnt_snoc (wn : List (List Int)) (w : List Int) (t : Int) : cnt (wn ++ [w]) t = if t ∈ w then cnt wn t + 1 else cnt wn t := by
  unfold cnt
  rw [List.filter_append, List.length_append]
  by_cases h : t ∈ w
  · simp [h]
  · simp [h]
theorem cnt_nn (wn : List (List Int)) (t : Int) : 0 ≤ cnt wn t := by unfold cnt; omega
theorem cnt_pos {wn : List (List Int)} {w : List Int} {t : Int} (hw : w ∈ wn) (ht : t ∈ w) : 1 ≤ cnt wn t := by
  unfold cnt
  have : w ∈ wn.filter fun w => decide (t ∈ w) := List.mem_filter.mpr ⟨hw, by simpa using ht⟩
  have := List.length_pos_of_mem this
  omega
def addL (ls w : List Int) : List Int := ls.zipIdx.map fun p => if (p.2 : Int) ∈ w then p.1 + 1 else p.1
def lessL (ls w : List Int) : List Int := ls.zipIdx.map fun p => if (p.2 : Int) ∈ w then p.1 - 1 else p.1
theorem addL_many (m : Int) (wn : List (List Int)) (w : List Int) : addL (manyL m wn) w = manyL m (wn ++ [w]) := by
  apply List.ext_getElem?
  intro i
  unfold addL manyL
  rw [List.getElem?_map, List.getElem?_zipIdx, List.getElem?_map, List.getElem?_map]
  by_cases hi : i < m.toNat
  · rw [rgI_get hi]
    simp [cnt_snoc]
  · rw [List.getElem?_eq_none (by rw [rgI_len]; omega)]
    rfl
theorem lessL_len (ls w : List Int) : (lessL ls w).length = ls.length := by simp [lessL]
theorem lessL_get {ls w : List Int} {t : Int} (h0 : 0 ≤ t) (h1 : t < ls.length) : (lessL ls w).getD t.toNat 0 = if t ∈ w then ls.getD t.toNat 0 - 1 else ls.getD t.toNat 0 := by
  unfold lessL
  have e : ls[t.toNat]? = some ls[t.toNat] := List.getElem?_eq_getElem (by omega)
  have e2 : ((t.toNat : Nat) : Int) = t := by omega
  simp [List.getD_eq_getElem?_getD, e, e2]
/-! the cheapest -/
def someP (ps : List (Option Int)) : List Int := (ps.filter fun o => o.isSome).map fun o => o.getD 0
def cheap (ps : List (Option Int)) : List Nat := (ps.zipIdx.filter fun p => p.1.isSome && decide (p.1 = some (mn (someP ps)))).map (·.2)
theorem cheap_mem {ps : List (Option Int)} {i : Nat} (h : i ∈ cheap ps) : ps[i]? = some (some (mn (someP ps))) := by
  unfold cheap at h
  obtain ⟨⟨o, j⟩, h1, rfl⟩ := List.mem_map.mp h
  obtain ⟨h2, h3⟩ := List.mem_filter.mp h1
  simp at h3
  have := List.mem_zipIdx_iff_getElem?.mp h2
  rw [this]
  simp [h3.2]
theorem cheap_len (ps : List (Option Int)) : (cheap ps).length ≤ ps.length := by
  unfold cheap
  rw [List.length_map]
  exact Nat.le_trans (List.length_filter_le _ _) (by simp)
theorem someP_ne {ps : List (Option Int)} {o : Option Int} (h : o ∈ ps) (hs : o.isSome = true) : someP ps ≠ [] := fun e => by
  have : o.getD 0 ∈ someP ps := List.mem_map.mpr ⟨o, List.mem_filter.mpr ⟨h, hs⟩, rfl⟩
  rw [e] at this
  cases this
end PC
set_option Elab.async false
set_option linter.all false
set_option maxRecDepth 100000
/-! PyCore, part 23: from what stands behind the top to a row's walk. -/
namespace PC
open PySem PySem.Spec PyProof.Rows L2

def dvOf : D → He.Dv
  | .bl b => .bl b
  | .int i => .int i
  | .str s => .str s
  | _ => .non
theorem dvOf_v (K : PySem.W.Frag) (d : D) : (dvOf d).v K = flatV d := by cases d <;> rfl
theorem dvOf_vs (K : PySem.W.Frag) (ds : List D) : (ds.map dvOf).map (He.Dv.v K) = ds.map flatV := by
  rw [List.map_map]
  exact List.map_congr_left fun d _ => dvOf_v K d
def defO (d : DefT) : He.DefD := ⟨(d.name, none), d.name, d.name, d.args, d.body, d.sc, d.dfl.map dvOf, []⟩
def BndOk (d : DefT) : Prop := ∀ (K : PySem.W.Frag) (fa : Addr) (fd : FuncData), FunD K d.name d.name d.args d.body d.sc (d.dfl.map flatV) [] fa fd →
  (∀ j, j ≤ d.dfl.length → ∃ ds, Vals ((d.dfl.drop j).map flatV) ds ∧ Binds K fd d.ps ds) ∧ ∀ q ∈ d.kw, KBn K fd d.ps 0 q.1 (fun _ ws => permR q.2 ws) (fun _ zs => permR q.2 zs)
theorem vals_at : ∀ {zs : List V} {ws : List Value} (i : Nat), Vals zs ws → (zs[i]? = none ∧ ws[i]? = none) ∨ ∃ v u, zs[i]? = some v ∧ ws[i]? = some u ∧ RelV v u
  | _, _, i, .nil => .inl ⟨by simp, by simp⟩
  | _, _, 0, .cons r t => .inr ⟨_, _, rfl, rfl, r⟩
  | _, _, i + 1, .cons r t => by simpa using vals_at i t
theorem vals_permR {zs : List V} {ws : List Value} (r : Vals zs ws) : ∀ pm : List Nat, Vals (permR pm zs) (permR pm ws)
  | [] => .nil
  | i :: pm => by
    unfold permR
    rw [List.filterMap_cons, List.filterMap_cons]
    have ih := vals_permR r pm
    unfold permR at ih
    rcases vals_at i r with ⟨a, b⟩ | ⟨v, u, a, b, c⟩
    · rw [a, b]; exact ih
    · rw [a, b]; exact .cons c ih
/-- no defaults -/
theorem bnd_plain {d : DefT} (h0 : d.dfl = []) (h : ∀ (kV doc pm : Value) (an : Option Addr) (cdv ct : Value) (us : List Value), us.length = d.ps.length → bindArgs (PySem.W.fnOf d.name d.name d.args d.body d.sc .none kV doc pm an cdv ct) ⟨us, []⟩ = pure (d.ps.zip us))
    (hk : ∀ q ∈ d.kw, ∀ (kV doc pm : Value) (an : Option Addr) (cdv ct : Value) (ws : List Value), ws.length = q.1.length → bindArgs (PySem.W.fnOf d.name d.name d.args d.body d.sc .none kV doc pm an cdv ct) ⟨[], q.1.zip ws⟩ = pure (d.ps.zip (permR q.2 ws))) : BndOk d := fun K fa fd F => by
  rw [h0] at F
  refine ⟨fun j hj => ⟨[], ?_, FunD.bindsN F h⟩, fun q hq => ?_⟩
  · rw [h0, List.drop_nil]
    exact .nil
  · obtain ⟨oc, od, dV, kV, doc, pm, an, cdv, ct, osl, rfl, lk, hcd, hD, hK⟩ := F.ex
    have e : dV = .none := by
      rcases hD with ⟨_, e⟩ | ⟨e, _⟩
      · exact e
      · exact absurd rfl e
    subst e
    refine ⟨fun s us ws _ h1 h2 => ?_, fun {vs us zs ws} _ r => ?_⟩
    · have : us = [] := List.length_eq_zero_iff.mp h1
      subst this
      exact .of_eq (hk q hq kV doc pm an cdv ct ws h2)
    · exact vals_permR r q.2
def gFa : Str × D → Option He.Fa
  | (x, .int i) => some (.int x i)
  | (x, .str s) => some (.str x s)
  | _ => none
def facs (T : List DefT) (G : List (Str × D)) : List He.Fa := (T.map fun d => .glo d.name) ++ (biNames.map .free ++ G.filterMap gFa)
section
variable {T : List DefT} {G : List (Str × D)} {K : PySem.W.Frag} {h : Heap} {mg : Str → Option Value}
theorem facs_defs (X : K.In h) (Gn : h.Ns mainGlobals mg) (c : He.SaysD (facs T G) (T.map defO) K) (hb : ∀ d ∈ T, BndOk d) : ∀ d ∈ T, ∃ fd, DefF K mg d (He.ga K d.name) fd := fun d hd => by
  obtain ⟨fd, F⟩ := c.defs (d := defO d) (List.mem_map.mpr ⟨d, hd, rfl⟩)
  have F' : FunD K d.name d.name d.args d.body d.sc (d.dfl.map flatV) [] (He.ga K d.name) fd := by
    have e : (defO d).dvs K = d.dfl.map flatV := dvOf_vs K d.dfl
    rw [e] at F
    exact F
  obtain ⟨b1, b2⟩ := hb d hd K _ fd F'
  refine ⟨fd, He.glo_ok X Gn (c.facts (f := .glo d.name) ?_), F', b1, b2⟩
  exact List.mem_append_left _ (List.mem_map.mpr ⟨d, hd, rfl⟩)
theorem facs_free (X : K.In h) (Gn : h.Ns mainGlobals mg) (c : He.SaysD (facs T G) (T.map defO) K) : ∀ x ∈ biNames, mg x = none := fun x hx =>
  He.free_ok X Gn (c.facts (f := .free x) (List.mem_append_right _ (List.mem_append_left _ (List.mem_map.mpr ⟨x, hx, rfl⟩))))
theorem facs_glo (X : K.In h) (Gn : h.Ns mainGlobals mg) (c : He.SaysD (facs T G) (T.map defO) K) (hg : G.all (fun p => (gFa p).isSome) = true) : ∀ p ∈ G, ∃ u v, mg p.1 = some u ∧ RelV v u ∧ ∀ M H, Rep K M H p.2 v := fun p hp => by
  have h1 := List.all_eq_true.mp hg p hp
  obtain ⟨x, d⟩ := p
  cases d with
  | int i =>
    obtain ⟨t, e⟩ := He.int_ok X Gn (c.facts (f := .int x i) (List.mem_append_right _ (List.mem_append_right _ (List.mem_filterMap.mpr ⟨_, hp, rfl⟩))))
    exact ⟨_, .int i, e, ⟨t, rfl⟩, fun _ _ => rfl⟩
  | str z =>
    obtain ⟨t, e⟩ := He.str_ok X Gn (c.facts (f := .str x z) (List.mem_append_right _ (List.mem_append_right _ (List.mem_filterMap.mpr ⟨_, hp, rfl⟩))))
    exact ⟨_, .str z, e, ⟨t, rfl⟩, fun _ _ => rfl⟩
  | _ => cases h1
end
/-- the walk of a law whose def gives True -/
theorem walk_core {l : PySem.W.OpenLaw} {T : List DefT} {G : List (Str × D)} {k f : Nat} {dl : DefT} {q : Program} {loose : List Str} {XP : (Str → Option Value) → Heap → Prop} {d : DefRec}
    (hn : l.most = some 63) (hdf : d.params.defaults = []) (hr : Room (2 * k) callerA) (hdn : d.name = dl.name)
    (hf : T[f]? = some dl) (hps : dl.ps = (["script"] : List Str)) (hfr : dl.fr = false) (hA : ∀ (K : PySem.W.Frag) (fa : Addr) (fd : FuncData), FunD K dl.name dl.name dl.args dl.body dl.sc (dl.dfl.map flatV) [] fa fd → ∀ (s : Shared) (v : Value), BindsTo s fd ⟨[v], []⟩ [(("script" : Str), v)])
    (hchk : ∀ d ∈ T, d.df.pm = none ∧ chkD (sigs T) G d = true) (hb : ∀ d ∈ T, BndOk d) (hg : G.all (fun p => (gFa p).isSome) = true)
    (hrun : ∀ ns : List Int, ∃ o, run (T.map (·.df)) k f [.val (.scr (ns.map .int))] = some (.bl true, o)) :
    PySem.W.WalkO q loose XP (fun _ h => ∃ K : PySem.W.Frag, K.In h ∧ He.SaysD (facs T G) (T.map defO) K) l.row.toRowW d [] (fun f vs => PySem.call f vs) := by
  refine L2.walk_ofE (l := l) (n := 63) (k := 2 * k) (x := "script") (CX := L2.CX0) hn (by decide) hdf hr (fun w mg fa h Y Gn hmg => ?_) (fun _ _ _ _ z => z)
  obtain ⟨K, X, c⟩ := Y
  have hm : dl ∈ T := List.mem_of_getElem? hf
  have FT := facs_defs X Gn c hb
  obtain ⟨fd, F⟩ := FT dl hm
  have e : fa = He.ga K dl.name := by
    have e1 := F.mg
    rw [← hdn, hmg] at e1
    have e2 := Option.some.inj e1
    injection e2 with e3
    rw [e3, hdn]
  subst e
  refine ⟨K, fd, spOf K (run (T.map (·.df)) k f) 1 false, X, hA K _ fd F.fn, fun H a ns _ hO hS => ?_, fun base hB hN => ?_⟩
  · obtain ⟨o, ho⟩ := hrun ns
    exact law_sp ho hO hS
  · have key := fn_ok (P := l.prog) (w := w) (K := K) (mg := mg) (base := base) (T := T) (G := G) hchk (fun d hd => by
      obtain ⟨fd, F⟩ := FT d hd
      exact ⟨_, fd, F⟩) (facs_glo X Gn c hg) (facs_free X Gn c) k f dl _ fd hf F
    rw [hps, hfr] at key
    exact key
end PC
set_option Elab.async false
set_option linter.all false
namespace K
open PySem PC
abbrev i_common_of : Nat := 0
abbrev i_joined_lots : Nat := 1
abbrev i_family_things : Nat := 2
abbrev i_new_ways : Nat := 3
abbrev i_new_things : Nat := 4
abbrev i_by_size : Nat := 5
abbrev i_thing_fault : Nat := 6
abbrev i__law_box : Nat := 7
abbrev i__law_take : Nat := 8
abbrev i__law_same : Nat := 9
abbrev i__law_joined : Nat := 10
abbrev i__law_family : Nat := 11
abbrev i__law_pair : Nat := 12
abbrev i__law_pair_of : Nat := 13
abbrev i__law_grown : Nat := 14
abbrev i__law_rich : Nat := 15
abbrev i__law_bare : Nat := 16
abbrev i_law : Nat := 17
def c_common_of : Ss := (.cons (.ret (.bi .tuple (.cons (.comp [2] (.name 2) (.seq (.var 0)) (.cons (.cmp .isin (.var 2) (.var 1)) .nil) (.var 2)) .nil))) .nil)
abbrev d_common_of : Df := { ar := 2, sl := 3, body := c_common_of }
def c_joined_lots : Ss := (.cons (.asgO 1 (.dic0 false)) (.cons (.for_ (.name 2) (.seq (.var 0)) (.cons (.for_ (.name 3) (.seq (.var 2)) (.cons (.put 1 (.var 3) (.con (.bl true))) .nil) [3]) .nil) [2, 3]) (.cons (.ret (.bi .tuple (.cons (.bi .sorted (.cons (.bi .list (.cons (.var 1) .nil)) .nil)) .nil))) .nil)))
abbrev d_joined_lots : Df := { ar := 1, sl := 4, body := c_joined_lots }
def c_family_things : Ss := (.cons (.ret (.bi .len (.cons (.call false i_joined_lots (.cons (.var 0) .nil) []) .nil))) .nil)
abbrev d_family_things : Df := { ar := 1, sl := 1, body := c_family_things }
def c_new_ways : Ss := (.cons (.ret (.bi .tuple (.cons (.comp [2] (.name 2) (.seq (.var 1)) (.cons (.cmp .notin (.var 2) (.var 0)) .nil) (.var 2)) .nil))) .nil)
abbrev d_new_ways : Df := { ar := 2, sl := 3, body := c_new_ways }
def c_new_things : Ss := (.cons (.ret (.rl2 true (.call false i_family_things (.cons (.var 0) .nil) []) (.call false i_family_things (.cons (.var 1) .nil) []))) .nil)
abbrev d_new_things : Df := { ar := 2, sl := 2, body := c_new_things }
def c_by_size : Ss := (.cons (.ret (.tup (.cons (.bi .len (.cons (.var 0) .nil)) (.cons (.var 0) .nil)))) .nil)
abbrev d_by_size : Df := { ar := 1, sl := 1, body := c_by_size }
def c_thing_fault : Ss := (.cons (.asg (.name 2) (.comp [3] (.name 3) (.seq (.call false i_new_ways (.cons (.var 0) (.cons (.var 1) .nil)) [])) (.cons (.cmp .eq (.bi .len (.cons (.call false i_common_of (.cons (.var 3) (.cons (.call false i_new_things (.cons (.var 0) (.cons (.var 1) .nil)) []) .nil)) []) .nil)) (.con (.int 0))) .nil) (.var 3))) (.cons (.ret (.ite (.cmp .gt (.bi .len (.cons (.var 2) .nil)) (.con (.int 0))) (.minK i_by_size (.var 2)) (.con .non))) .nil))
abbrev d_thing_fault : Df := { ar := 2, sl := 4, body := c_thing_fault }
def c__law_box : Ss := (.cons (.asg (.name 2) (.bin .add (.bin .mul (.con (.int 27011)) (.var 1)) (.con (.int 7741)))) (.cons (.ifs (.cmp .lt (.var 1) (.bi .len (.cons (.var 0) .nil))) (.cons (.asg (.name 2) (.bi .abs (.cons (.bi .int (.cons (.idx (.var 0) (.var 1)) .nil)) .nil))) .nil) (.cons (.ifs (.cmp .gt (.bi .len (.cons (.var 0) .nil)) (.con (.int 0))) (.cons (.asg (.name 2) (.bin .add (.var 2) (.bin .mul (.bin .mod (.bi .int (.cons (.bi .abs (.cons (.bi .int (.cons (.idx (.var 0) (.bin .mod (.bi .int (.cons (.var 1) .nil)) (.bi .len (.cons (.var 0) .nil)))) .nil)) .nil)) .nil)) (.con (.int 2147483563))) (.con (.int 95801))))) .nil) .nil) .nil)) (.cons (.asg (.name 3) (.ite (.cmp .ge (.var 2) (.bin .pow (.con (.int 10)) (.con (.int 18)))) (.var 2) (.con (.int 0)))) (.cons (.ret (.lst (.cons (.var 3) (.cons (.bin .add (.bin .mod (.bi .int (.cons (.bin .add (.bin .mul (.bin .mod (.bi .int (.cons (.var 2) .nil)) (.con (.int 2147483563))) (.con (.int 54250003))) (.bin .mul (.con (.int 7741)) (.var 1))) .nil)) (.con (.int 2147483563))) (.con (.int 1))) .nil)))) .nil))))
abbrev d__law_box : Df := { ar := 2, sl := 4, body := c__law_box }
def c__law_take : Ss := (.cons (.ifs (.cmp .gt (.idx (.var 0) (.con (.int 0))) (.con (.int 0))) (.cons (.asg (.name 2) (.bin .mod (.bi .int (.cons (.idx (.var 0) (.con (.int 0))) .nil)) (.var 1))) (.cons (.setI 0 (.con (.int 0)) (.bin .fdiv (.idx (.var 0) (.con (.int 0))) (.var 1))) (.cons (.ret (.var 2)) .nil))) .nil) (.cons (.asg (.name 3) (.bin .mod (.bi .int (.cons (.bin .add (.bin .mul (.idx (.var 0) (.con (.int 1))) (.con (.int 39373))) (.con (.int 197))) .nil)) (.con (.int 2147483647)))) (.cons (.setI 0 (.con (.int 1)) (.bin .add (.bin .mod (.bi .int (.cons (.bin .add (.bin .mul (.var 3) (.con (.int 40692))) (.con (.int 83))) .nil)) (.con (.int 2147483563))) (.con (.int 1)))) (.cons (.ret (.bin .mod (.bi .int (.cons (.bin .fdiv (.bin .add (.bin .mul (.var 3) (.con (.int 2147483629))) (.idx (.var 0) (.con (.int 1)))) (.con (.int 8243))) .nil)) (.var 1))) .nil))))
abbrev d__law_take : Df := { ar := 2, sl := 4, body := c__law_take }
def c__law_same : Ss := (.cons (.ifs (.isi (.var 1) .tuple) (.cons (.ifs (.ors (.cons (.nt (.isi (.var 0) .tuple)) (.cons (.cmp .ne (.bi .len (.cons (.var 0) .nil)) (.bi .len (.cons (.var 1) .nil))) .nil))) (.cons (.ret (.con (.bl false))) .nil) .nil) (.cons (.for_ (.tup [(.name 2), (.name 3)]) (.zip (.var 0) (.var 1)) (.cons (.ifs (.nt (.call false i__law_same (.cons (.var 2) (.cons (.var 3) .nil)) [])) (.cons (.ret (.con (.bl false))) .nil) .nil) .nil) [2, 3]) (.cons (.ret (.con (.bl true))) .nil))) .nil) (.cons (.ifs (.isC false (.var 1) .non) (.cons (.ret (.isC false (.var 0) .non)) .nil) .nil) (.cons (.ifs (.ors (.cons (.isC false (.var 1) (.bl true)) (.cons (.isC false (.var 1) (.bl false)) .nil))) (.cons (.ret (.ands (.cons (.isi (.var 0) .bool) (.cons (.cmp .eq (.var 0) (.var 1)) .nil)))) .nil) .nil) (.cons (.ifs (.isi (.var 1) .int) (.cons (.ret (.ands (.cons (.isi (.var 0) .int) (.cons (.nt (.isi (.var 0) .bool)) (.cons (.cmp .eq (.var 0) (.var 1)) .nil))))) .nil) .nil) (.cons (.ret (.ands (.cons (.isi (.var 0) .str) (.cons (.isi (.var 1) .str) (.cons (.cmp .eq (.var 0) (.var 1)) .nil))))) .nil)))))
abbrev d__law_same : Df := { ar := 2, sl := 4, body := c__law_same }
def c__law_joined : Ss := (.cons (.asg (.name 2) (.lst .nil)) (.cons (.for_ (.name 3) (.seq (.var 0)) (.cons (.asg (.name 2) (.bin .add (.var 2) (.comp [4] (.name 4) (.seq (.var 1)) .nil (.bi .tuple (.cons (.bi .sorted (.cons (.bin .add (.var 3) (.var 4)) .nil)) .nil))))) .nil) [3]) (.cons (.ret (.var 2)) .nil)))
abbrev d__law_joined : Df := { ar := 2, sl := 5, body := c__law_joined }
def c__law_family : Ss := (.cons (.ret (.bi .tuple (.cons (.sset (.var 0)) .nil))) .nil)
abbrev d__law_family : Df := { ar := 1, sl := 1, body := c__law_family }
def c__law_pair : Ss := (.cons (.ifs (.cmp .eq (.bi .len (.cons (.var 1) .nil)) (.con (.int 1))) (.cons (.ret (.tup (.cons (.lst (.cons (.tup (.cons (.idx (.var 1) (.con (.int 0))) .nil)) .nil)) (.cons (.lst (.cons (.tup (.cons (.idx (.var 1) (.con (.int 0))) .nil)) .nil)) .nil)))) .nil) .nil) (.cons (.asg (.name 2) (.call false i__law_take (.cons (.var 0) (.cons (.con (.int 4)) .nil)) [])) (.cons (.ifs (.ands (.cons (.cmp .eq (.var 2) (.con (.int 3))) (.cons (.cmp .gt (.bi .len (.cons (.var 1) .nil)) (.con (.int 3))) .nil))) (.cons (.asg (.name 3) (.comp [8] (.name 8) (.rng1 (.con (.int 4))) .nil (.slcS (.var 1) (.some (.var 8)) .none (.some (.con (.int 4)))))) (.cons (.asg (.name 4) (.comp [9] (.name 9) (.seq (.var 3)) .nil (.call false i__law_grown (.cons (.var 0) (.cons (.var 9) (.cons (.con (.int 2)) .nil))) []))) (.cons (.par [5, 6] [false, false] (.cons (.bin .add (.idx (.var 4) (.con (.int 0))) (.idx (.var 4) (.con (.int 1)))) (.cons (.bin .add (.idx (.var 4) (.con (.int 2))) (.idx (.var 4) (.con (.int 3)))) .nil))) (.cons (.asg (.name 7) (.bin .add (.call false i__law_joined (.cons (.idx (.var 4) (.con (.int 0))) (.cons (.idx (.var 4) (.con (.int 2))) .nil)) []) (.call false i__law_joined (.cons (.idx (.var 4) (.con (.int 1))) (.cons (.idx (.var 4) (.con (.int 3))) .nil)) []))) (.cons (.ret (.tup (.cons (.var 7) (.cons (.call false i__law_joined (.cons (.var 5) (.cons (.var 6) .nil)) []) .nil)))) .nil))))) .nil) (.cons (.asg (.name 3) (.bin .add (.con (.int 1)) (.call false i__law_take (.cons (.var 0) (.cons (.bin .sub (.bi .len (.cons (.var 1) .nil)) (.con (.int 1))) .nil)) []))) (.cons (.par [5, 6] [false, false] (.cons (.call false i__law_pair_of (.cons (.var 0) (.cons (.slc (.var 1) .none (.some (.var 3))) .nil)) []) (.cons (.call false i__law_pair_of (.cons (.var 0) (.cons (.slc (.var 1) (.some (.var 3)) .none) .nil)) []) .nil))) (.cons (.ifs (.ands (.cons (.cmp .eq (.var 2) (.con (.int 0))) (.cons (.cmp .le (.bin .mul (.bi .len (.cons (.idx (.var 5) (.con (.int 1))) .nil)) (.bi .len (.cons (.idx (.var 6) (.con (.int 1))) .nil))) (.con (.int 16))) .nil))) (.cons (.ret (.tup (.cons (.call false i__law_joined (.cons (.idx (.var 5) (.con (.int 0))) (.cons (.idx (.var 6) (.con (.int 0))) .nil)) []) (.cons (.call false i__law_joined (.cons (.idx (.var 5) (.con (.int 1))) (.cons (.idx (.var 6) (.con (.int 1))) .nil)) []) .nil)))) .nil) .nil) (.cons (.ret (.tup (.cons (.bin .add (.idx (.var 5) (.con (.int 0))) (.idx (.var 6) (.con (.int 0)))) (.cons (.bin .add (.idx (.var 5) (.con (.int 1))) (.idx (.var 6) (.con (.int 1)))) .nil)))) .nil)))))))
abbrev d__law_pair : Df := { ar := 2, sl := 10, body := c__law_pair }
def c__law_pair_of : Ss := (.cons (.ifs (.ands (.cons (.cmp .gt (.bi .len (.cons (.var 1) .nil)) (.con (.int 3))) (.cons (.cmp .eq (.call false i__law_take (.cons (.var 0) (.cons (.con (.int 2)) .nil)) []) (.con (.int 0))) .nil))) (.cons (.asg (.name 2) (.comp [6] (.name 6) (.rng1 (.con (.int 4))) .nil (.slcS (.var 1) (.some (.var 6)) .none (.some (.con (.int 4)))))) (.cons (.asg (.name 3) (.comp [7] (.name 7) (.seq (.var 2)) .nil (.call false i__law_grown (.cons (.var 0) (.cons (.var 7) (.cons (.con (.int 1)) .nil))) []))) (.cons (.asg (.name 4) (.bin .add (.call false i__law_joined (.cons (.idx (.var 3) (.con (.int 0))) (.cons (.idx (.var 3) (.con (.int 2))) .nil)) []) (.call false i__law_joined (.cons (.idx (.var 3) (.con (.int 1))) (.cons (.idx (.var 3) (.con (.int 3))) .nil)) []))) (.cons (.ret (.tup (.cons (.var 4) (.cons (.call false i__law_joined (.cons (.bin .add (.idx (.var 3) (.con (.int 0))) (.idx (.var 3) (.con (.int 1)))) (.cons (.bin .add (.idx (.var 3) (.con (.int 2))) (.idx (.var 3) (.con (.int 3)))) .nil)) []) .nil)))) .nil)))) .nil) (.cons (.asg (.name 5) (.call false i__law_grown (.cons (.var 0) (.cons (.var 1) (.cons (.con (.int 2)) .nil))) [])) (.cons (.ret (.tup (.cons (.var 5) (.cons (.var 5) .nil)))) .nil)))
abbrev d__law_pair_of : Df := { ar := 2, sl := 8, body := c__law_pair_of }
def c__law_grown : Ss := (.cons (.asg (.name 3) (.comp [5] (.name 5) (.seq (.var 1)) .nil (.tup (.cons (.var 5) .nil)))) (.cons (.ifs (.cmp .eq (.bi .len (.cons (.var 1) .nil)) (.con (.int 1))) (.cons (.ret (.var 3)) .nil) .nil) (.cons (.asg (.name 4) (.bin .add (.con (.int 1)) (.call false i__law_take (.cons (.var 0) (.cons (.bin .sub (.bi .len (.cons (.var 1) .nil)) (.con (.int 1))) .nil)) []))) (.cons (.ret (.ite (.ands (.cons (.cmp .eq (.call false i__law_take (.cons (.var 0) (.cons (.var 2) .nil)) []) (.con (.int 0))) (.cons (.cmp .le (.bin .mul (.var 4) (.bin .sub (.bi .len (.cons (.var 1) .nil)) (.var 4))) (.con (.int 6))) .nil))) (.call false i__law_joined (.cons (.slc (.var 3) .none (.some (.var 4))) (.cons (.slc (.var 3) (.some (.var 4)) .none) .nil)) []) (.var 3))) .nil))))
abbrev d__law_grown : Df := { ar := 3, sl := 6, body := c__law_grown }
def c__law_rich : Ss := (.cons (.asg (.name 3) (.bin .add (.con (.int 1)) (.call false i__law_take (.cons (.var 0) (.cons (.var 1) .nil)) []))) (.cons (.asgO 4 (.rl1 false (.var 3))) (.cons (.for_ (.name 5) (.rng1 (.var 3)) (.cons (.asg (.name 6) (.call false i__law_take (.cons (.var 0) (.cons (.var 3) .nil)) [])) (.cons (.subs [4, 4] (.cons (.var 5) (.cons (.var 6) .nil)) (.tup (.cons (.idx (.var 4) (.var 6)) (.cons (.idx (.var 4) (.var 5)) .nil)))) .nil)) [5, 6]) (.cons (.asg (.name 7) (.call false i__law_take (.cons (.var 0) (.cons (.bin .add (.var 2) (.con (.int 1))) .nil)) [])) (.cons (.asg (.name 8) (.ite (.cmp .gt (.var 7) (.con (.int 0))) (.call false i__law_grown (.cons (.var 0) (.cons (.rl2 false (.var 3) (.bin .add (.var 3) (.var 7))) (.cons (.con (.int 2)) .nil))) []) (.lst .nil))) (.cons (.ifs (.ands (.cons (.cmp .gt (.var 7) (.con (.int 0))) (.cons (.cmp .gt (.var 3) (.con (.int 1))) (.cons (.cmp .eq (.call false i__law_take (.cons (.var 0) (.cons (.con (.int 2)) .nil)) []) (.con (.int 0))) .nil)))) (.cons (.asg (.name 9) (.bin .add (.con (.int 1)) (.call false i__law_take (.cons (.var 0) (.cons (.bin .sub (.var 3) (.con (.int 1))) .nil)) []))) (.cons (.par [10, 11] [false, false] (.cons (.call false i__law_pair_of (.cons (.var 0) (.cons (.slc (.var 4) .none (.some (.var 9))) .nil)) []) (.cons (.call false i__law_pair_of (.cons (.var 0) (.cons (.slc (.var 4) (.some (.var 9)) .none) .nil)) []) .nil))) (.cons (.ifs (.cmp .le (.bin .mul (.bin .add (.bi .len (.cons (.idx (.var 10) (.con (.int 1))) .nil)) (.bi .len (.cons (.var 8) .nil))) (.bi .len (.cons (.idx (.var 11) (.con (.int 1))) .nil))) (.con (.int 20))) (.cons (.ret (.tup (.cons (.call false i__law_family (.cons (.call false i__law_joined (.cons (.idx (.var 10) (.con (.int 0))) (.cons (.idx (.var 11) (.con (.int 0))) .nil)) []) .nil) []) (.cons (.call false i__law_family (.cons (.call false i__law_joined (.cons (.bin .add (.idx (.var 10) (.con (.int 1))) (.var 8)) (.cons (.idx (.var 11) (.con (.int 1))) .nil)) []) .nil) []) (.cons (.var 7) .nil))))) .nil) .nil) .nil))) .nil) (.cons (.frz 4) (.cons (.asg (.tup [(.name 12), (.name 13)]) (.call false i__law_pair (.cons (.var 0) (.cons (.var 4) .nil)) [])) (.cons (.asg (.name 13) (.bin .add (.var 13) (.var 8))) (.cons (.ret (.tup (.cons (.call false i__law_family (.cons (.var 12) .nil) []) (.cons (.call false i__law_family (.cons (.var 13) .nil) []) (.cons (.var 7) .nil))))) .nil))))))))))
abbrev d__law_rich : Df := { ar := 3, sl := 14, body := c__law_rich }
def c__law_bare : Ss := (.cons (.asg (.name 2) (.bi .sumL (.cons (.comp [3] (.name 3) (.seq (.var 0)) .nil (.bi .list (.cons (.var 3) .nil))) (.cons (.lst .nil) .nil)))) (.cons (.ret (.comp [3] (.name 3) (.seq (.var 1)) (.cons (.ands (.cons (.cmp .notin (.var 3) (.var 0)) (.cons (.cmp .eq (.comp [4] (.name 4) (.seq (.var 3)) (.cons (.cmp .notin (.var 4) (.var 2)) .nil) (.con (.int 1))) (.lst .nil)) .nil))) .nil) (.var 3))) .nil))
abbrev d__law_bare : Df := { ar := 2, sl := 5, body := c__law_bare }
def c_law : Ss := (.cons (.for_ (.name 1) (.rng1 (.bi .max2 (.cons (.con (.int 3)) (.cons (.bi .min2 (.cons (.bi .len (.cons (.var 0) .nil)) (.cons (.con (.int 8)) .nil))) .nil)))) (.cons (.asgO 2 (.call true i__law_box (.cons (.var 0) (.cons (.var 1) .nil)) [])) (.cons (.asg (.tup [(.name 3), (.name 4), (.name 5)]) (.call false i__law_rich (.cons (.var 2) (.cons (.con (.int 7)) (.cons (.con (.int 2)) .nil))) [])) (.cons (.asg (.name 6) (.call true i__law_bare (.cons (.var 3) (.cons (.var 4) .nil)) [])) (.cons (.asg (.name 7) (.ite (.cmp .ne (.var 6) (.lst .nil)) (.idx (.bi .minT (.cons (.comp [8] (.name 8) (.seq (.var 6)) .nil (.tup (.cons (.bi .len (.cons (.var 8) .nil)) (.cons (.var 8) .nil)))) .nil)) (.con (.int 1))) (.con .non))) (.cons (.ifs (.ors (.cons (.nt (.call false i__law_same (.cons (.callK false i_thing_fault [0, 1] (.cons (.var 3) (.cons (.var 4) .nil))) (.cons (.var 7) .nil)) [])) (.cons (.nt (.call false i__law_same (.cons (.call false i_thing_fault (.cons (.var 3) (.cons (.var 3) .nil)) []) (.cons (.con .non) .nil)) [])) .nil))) (.cons (.ret (.con (.bl false))) .nil) .nil) .nil))))) [1, 2, 3, 4, 5, 6, 7]) (.cons (.asg (.name 4) (.tup (.cons (.tup (.cons (.con (.int 0)) (.cons (.con (.int 1)) (.cons (.con (.int 2)) .nil)))) (.cons (.tup (.cons (.con (.int 0)) (.cons (.con (.int 3)) .nil))) (.cons (.tup (.cons (.con (.int 1)) (.cons (.con (.int 2)) (.cons (.con (.int 4)) .nil)))) (.cons (.tup (.cons (.con (.int 3)) (.cons (.con (.int 4)) .nil))) .nil)))))) (.cons (.ret (.call false i__law_same (.cons (.call false i_thing_fault (.cons (.tup (.cons (.tup (.cons (.con (.int 0)) (.cons (.con (.int 1)) (.cons (.con (.int 2)) .nil)))) (.cons (.tup (.cons (.con (.int 3)) (.cons (.con (.int 4)) .nil))) .nil))) (.cons (.var 4) .nil)) []) (.cons (.tup (.cons (.con (.int 0)) (.cons (.con (.int 3)) .nil))) .nil)) [])) .nil)))
abbrev d_law : Df := { ar := 1, sl := 9, body := c_law }
def Tb : List Df := [d_common_of, d_joined_lots, d_family_things, d_new_ways, d_new_things, d_by_size, d_thing_fault, d__law_box, d__law_take, d__law_same, d__law_joined, d__law_family, d__law_pair, d__law_pair_of, d__law_grown, d__law_rich, d__law_bare, d_law]
theorem at_common_of : Tb[i_common_of]? = some d_common_of := rfl
theorem at_joined_lots : Tb[i_joined_lots]? = some d_joined_lots := rfl
theorem at_family_things : Tb[i_family_things]? = some d_family_things := rfl
theorem at_new_ways : Tb[i_new_ways]? = some d_new_ways := rfl
theorem at_new_things : Tb[i_new_things]? = some d_new_things := rfl
theorem at_by_size : Tb[i_by_size]? = some d_by_size := rfl
theorem at_thing_fault : Tb[i_thing_fault]? = some d_thing_fault := rfl
theorem at__law_box : Tb[i__law_box]? = some d__law_box := rfl
theorem at__law_take : Tb[i__law_take]? = some d__law_take := rfl
theorem at__law_same : Tb[i__law_same]? = some d__law_same := rfl
theorem at__law_joined : Tb[i__law_joined]? = some d__law_joined := rfl
theorem at__law_family : Tb[i__law_family]? = some d__law_family := rfl
theorem at__law_pair : Tb[i__law_pair]? = some d__law_pair := rfl
theorem at__law_pair_of : Tb[i__law_pair_of]? = some d__law_pair_of := rfl
theorem at__law_grown : Tb[i__law_grown]? = some d__law_grown := rfl
theorem at__law_rich : Tb[i__law_rich]? = some d__law_rich := rfl
theorem at__law_bare : Tb[i__law_bare]? = some d__law_bare := rfl
theorem at_law : Tb[i_law]? = some d_law := rfl
end K
set_option Elab.async false
set_option linter.all false
set_option maxRecDepth 20000
namespace K
open PySem PC
theorem take_ok {n : Nat} {m : Int} (hn : 1 ≤ n) (hm : 0 < m) (hm2 : m < 1073741824) : Gen Tb n i__law_take [.int m] fun d => ∃ k : Int, d = .int k ∧ 0 ≤ k ∧ k < m := by
  refine Gen.of fun b hb => wp_def hn at__law_take rfl fun n' _ => ?_
  obtain ⟨g, s⟩ := b
  obtain ⟨h1, h2, h3⟩ := hb
  dsimp only at h1 h2 h3
  have hm0 : m ≠ 0 := by omega
  have f1 : ∀ x : Int, 0 ≤ x.fmod m ∧ x.fmod m < m := fun x => ⟨Int.fmod_nonneg_of_pos _ hm, Int.fmod_lt_of_pos _ hm⟩
  have f2 : ∀ x : Int, 0 ≤ x.fmod 2147483563 ∧ x.fmod 2147483563 < 2147483563 := fun x => ⟨Int.fmod_nonneg_of_pos _ (by omega), Int.fmod_lt_of_pos _ (by omega)⟩
  have dv : divOk 8243 = true := by decide
  simp only [bxD]
  simp [c__law_take, hm0, mulOk, smallI, SM, divOk_of hm hm2, dv, f1]
  have f3 := f2 ((s * 39373 + 197).fmod 2147483647 * 40692 + 83)
  exact ⟨fun h => ⟨⟨_, _⟩, ⟨Int.fdiv_nonneg h1 (by omega), h2, h3⟩, rfl, rfl⟩, fun h => ⟨⟨_, _⟩, ⟨h1, by dsimp only; omega, by dsimp only; omega⟩, rfl, rfl⟩⟩
theorem rngL_len (m n : Int) : (rngL m n).length = (n - m).toNat := by simp [rngL]
theorem box_ok {n : Nat} {ns : List Int} {k : Int} (hn : 1 ≤ n) (h1 : 0 ≤ k) (h2 : k ≤ 1000) : Fun Tb n i__law_box [.scr (ns.map .int), .int k] fun d => ∃ b, BxOk b ∧ d = bxD b := by
  refine Fun.of (wp_def hn at__law_box rfl fun n' hn' => ?_)
  have hz : 2 ≤ LINE := by decide
  have f2 : ∀ x : Int, 0 ≤ x.fmod 2147483563 ∧ x.fmod 2147483563 < 2147483563 := fun x => ⟨Int.fmod_nonneg_of_pos _ (by omega), Int.fmod_lt_of_pos _ (by omega)⟩
  have p1 : powOk 10 18 = true := by decide
  -- what is done with a cell
  have fin : ∀ c : Int, 0 ≤ c → (1000000000000000000 ≤ c → ∃ b, BxOk b ∧ D.lst [.int c, .int ((c.fmod 2147483563 * 54250003 + 7741 * k).fmod 2147483563 + 1)] = bxD b) ∧
      (c < 1000000000000000000 → ∃ b, BxOk b ∧ D.lst [.int 0, .int ((c.fmod 2147483563 * 54250003 + 7741 * k).fmod 2147483563 + 1)] = bxD b) := fun c hc => by
    have := f2 (c.fmod 2147483563 * 54250003 + 7741 * k)
    exact ⟨fun _ => ⟨⟨_, _⟩, ⟨hc, by dsimp only; omega, by dsimp only; omega⟩, rfl⟩, fun _ => ⟨⟨_, _⟩, ⟨by dsimp only; omega, by dsimp only; omega, by dsimp only; omega⟩, rfl⟩⟩
  have m1 : ∀ i : Int, mulOk 27011 i = true := fun i => mulOk_l (by omega) (by omega)
  have m2 : ∀ i : Int, mulOk i 95801 = true := fun i => mulOk_r (by omega) (by omega)
  have m3 : ∀ i : Int, mulOk i 54250003 = true := fun i => mulOk_r (by omega) (by omega)
  have m4 : ∀ i : Int, mulOk 7741 i = true := fun i => mulOk_l (by omega) (by omega)
  simp [c__law_box, m1, m2, m3, m4, p1, hz]
  refine ⟨fun hk => ?_, fun hk => ⟨fun h0 => ⟨by intro e; rw [e] at h0; simp at h0, fun _ => ?_⟩, fun _ => fin _ (by omega)⟩⟩
  · have e : ns[k.toNat]? = some ns[k.toNat] := List.getElem?_eq_getElem (by omega)
    simp [atD_nat h1, e, m3]
    exact fin _ (by split <;> omega)
  · have g1 : 0 ≤ k.fmod ns.length := Int.fmod_nonneg_of_pos _ (by omega)
    have g2 : k.fmod ns.length < ns.length := Int.fmod_lt_of_pos _ (by omega)
    have e : ns[(k.fmod ns.length).toNat]? = some ns[(k.fmod ns.length).toNat] := List.getElem?_eq_getElem (by omega)
    simp [atD_nat g1, e, m3, m2]
    refine fin _ ?_
    have := (f2 (if ns[(k.fmod ns.length).toNat] < 0 then -ns[(k.fmod ns.length).toNat] else ns[(k.fmod ns.length).toNat])).1
    omega
mutual
/-- data that a law tells -/
def okT : D → Nat → Bool
  | .non, _ => true
  | .bl _, _ => true
  | .int _, _ => true
  | .str x, _ => PyData.strOk x
  | .tup xs, h + 1 => okTs xs h
  | _, _ => false
def okTs : List D → Nat → Bool
  | [], _ => true
  | x :: xs, h => okT x h && okTs xs h
end
theorem okTs_mem : ∀ {xs : List D} {h : Nat} {x : D}, okTs xs h = true → x ∈ xs → okT x h = true
  | y :: xs, h, x, a, m => by
    have a' : okT y h = true ∧ okTs xs h = true := by simpa [okTs] using a
    rcases List.mem_cons.mp m with e | m
    · rw [e]; exact a'.1
    · exact okTs_mem a'.2 m
theorem zip_self_mem {xs : List D} {p : D × D} (h : p ∈ xs.zip xs) : p.1 = p.2 ∧ p.1 ∈ xs := by
  induction xs with
  | nil => simp at h
  | cons x xs ih =>
    rw [List.zip_cons_cons] at h
    rcases List.mem_cons.mp h with e | h
    · rw [e]; exact ⟨rfl, List.mem_cons_self⟩
    · exact ⟨(ih h).1, List.mem_cons_of_mem _ (ih h).2⟩
theorem same_ok : ∀ {h n : Nat} {d : D}, h + 1 ≤ n → okT d h = true → Fun Tb n i__law_same [d, d] fun r => r = .bl true := by
  intro h
  induction h with
  | zero =>
    intro n d hn hd
    refine Fun.of (wp_def (by omega) at__law_same rfl fun n' hn' => ?_)
    cases d with
    | tup xs => simp [okT] at hd
    | lst xs => simp [okT] at hd
    | dic t ks vs => simp [okT] at hd
    | scr xs => simp [okT] at hd
    | non => simp [c__law_same]
    | bl b => cases b <;> simp [c__law_same, eqD]
    | int i => simp [c__law_same]
    | str x =>
      have : okD (.str x) 60 = true := by simpa [okD, okT] using hd
      simp [c__law_same, this, eqD]
  | succ h ih =>
    intro n d hn hd
    refine Fun.of (wp_def (by omega) at__law_same rfl fun n' hn' => ?_)
    cases d with
    | tup xs =>
      have hx : okTs xs h = true := by simpa [okT] using hd
      simp [c__law_same]
      refine for_emb (f := fun p : D × D => .tup [p.1, p.2]) (σ := Unit) (fun _ => [.val (.tup xs), .val (.tup xs), .no, .no]) (fun _ _ => True) () rfl trivial ?_ ?_
      · rintro done p rest _ hp _
        obtain ⟨e, hm⟩ := zip_self_mem (p := p) (xs := xs) (by rw [hp]; simp)
        simp
        rw [← e]
        refine (ih (n := n') (by omega) (okTs_mem hx hm)).wp ?_
        rintro d rfl
        simp
      · simp
    | lst xs => simp [okT] at hd
    | dic t ks vs => simp [okT] at hd
    | scr xs => simp [okT] at hd
    | non => simp [c__law_same]
    | bl b => cases b <;> simp [c__law_same, eqD]
    | int i => simp [c__law_same]
    | str x =>
      have : okD (.str x) 60 = true := by simpa [okD, okT] using hd
      simp [c__law_same, this, eqD]


def tW (ws : List (List Int)) : D := .tup (ws.map tupI)
structure WaysOk (N : Nat) (ws : List (List Int)) : Prop where
  ne : ws ≠ []
  len : ws.length ≤ 80
  way : ∀ w ∈ ws, w ≠ [] ∧ w.Nodup ∧ ∀ x ∈ w, 0 ≤ x ∧ x < N
theorem WaysOk.wl {N : Nat} {ws : List (List Int)} (h : WaysOk N ws) {w : List Int} (hw : w ∈ ws) : w.length ≤ N := nd_len (h.way w hw).2.1 (h.way w hw).2.2
def FullW (m : Int) (ws : List (List Int)) : Prop := ∀ k : Int, (∃ w ∈ ws, k ∈ w) ↔ (0 ≤ k ∧ k < m)
theorem joined_ok {n : Nat} {ws : List (List Int)} (hn : 1 ≤ n) (hl : ws.length < LINE) (h : ∀ w ∈ ws, w.Nodup ∧ ∀ k ∈ w, 0 ≤ k ∧ k < 1000) : Fun Tb n i_joined_lots [.lst (ws.map tupI)] fun d => ∃ us : List Int, d = tupI us ∧ us.Nodup ∧ ∀ k, k ∈ us ↔ ∃ w ∈ ws, k ∈ w := by
  refine Fun.of (wp_def hn at_joined_lots rfl fun n' hn' => ?_)
  have hL : LINE = 16777216 := rfl
  simp [c_joined_lots]
  refine for_emb (f := tupI) (σ := List Int) (fun us => [.val (.lst (ws.map tupI)), .own none (.dic false (us.map .int) (us.map fun _ => .bl true)), .no, .no])
    (fun done us => us.Nodup ∧ ∀ k, k ∈ us ↔ ∃ w ∈ done, k ∈ w) [] rfl ⟨.nil, by simp⟩ ?_ ?_
  · rintro done w rest us hd ⟨h1, h2⟩
    have hw : w ∈ ws := by rw [hd]; simp
    have e : tupI w = .tup (w.map .int) := rfl
    rw [e]
    simp
    refine for_emb (f := D.int) (σ := List Int) (fun vs => [.val (.lst (ws.map tupI)), .own none (.dic false (vs.map .int) (vs.map fun _ => .bl true)), .val (tupI w), .no])
      (fun dn vs => vs.Nodup ∧ ∀ k, k ∈ vs ↔ k ∈ us ∨ k ∈ dn) us rfl ⟨h1, by simp⟩ ?_ ?_
    · rintro dn k rk vs hk ⟨g1, g2⟩
      have hvl : vs.length < LINE := by
        have : vs.length ≤ 1000 := nd_len g1 fun j hj => by
          have hj : j ∈ us ∨ j ∈ dn := (g2 j).mp hj
          rcases hj with hj | hj
          · obtain ⟨v, hv, hj⟩ := (h2 j).mp hj
            exact (h v (by rw [hd]; exact List.mem_append_left _ hv)).2 j hj
          · exact (h w hw).2 j (by rw [hk]; exact List.mem_append_left _ hj)
        omega
      simp [hvl, dPut_mark]
      refine ⟨insU vs k, ⟨rfl, by simp⟩, insU_nd g1, fun j => ?_⟩
      rw [mem_insU, g2]
      exact or_assoc
    · rintro vs ⟨g1, g2⟩
      simp
      refine ⟨vs, ⟨rfl, by simp⟩, g1, fun k => ?_⟩
      rw [g2, h2]
  · rintro us ⟨h1, h2⟩
    have hul : us.length ≤ 1000 := nd_len h1 fun j hj => by
      obtain ⟨v, hv, hj⟩ := (h2 j).mp hj
      exact (h v hv).2 j hj
    simp [z_sorted_ints (ns := us) (by omega)]
    exact ⟨srt us, rfl, srt_nd h1, fun k => by rw [mem_srt, h2]⟩
theorem zero_many (m : Int) : (rgI 0 m).map (fun _ => D.int 0) = (manyL m []).map .int := by
  simp [manyL, cnt]
theorem way_get {ws : List (List Int)} {k : Int} (h0 : 0 ≤ k) (h1 : k < ws.length) : ws[k.toNat]? = some (ws.getD k.toNat []) ∧ ws.getD k.toNat [] ∈ ws := by
  have e : ws[k.toNat]? = some ws[k.toNat] := List.getElem?_eq_getElem (by omega)
  rw [List.getD_eq_getElem?_getD, e]
  exact ⟨rfl, List.getElem_mem _⟩
theorem joinedT_ok {n : Nat} {ws : List (List Int)} (hn : 1 ≤ n) (h : ∀ w ∈ ws, w.Nodup ∧ ∀ k ∈ w, 0 ≤ k ∧ k < 1000) : Fun Tb n i_joined_lots [tW ws] fun d => ∃ us : List Int, d = tupI us ∧ us.Nodup ∧ ∀ k, k ∈ us ↔ ∃ w ∈ ws, k ∈ w := by
  refine Fun.of (wp_def hn at_joined_lots rfl fun n' hn' => ?_)
  have hL : LINE = 16777216 := rfl
  have e0 : tW ws = .tup (ws.map tupI) := rfl
  simp [c_joined_lots]
  rw [e0]
  simp
  refine for_emb (f := tupI) (σ := List Int) (fun us => [.val (tW ws), .own none (.dic false (us.map .int) (us.map fun _ => .bl true)), .no, .no])
    (fun done us => us.Nodup ∧ ∀ k, k ∈ us ↔ ∃ w ∈ done, k ∈ w) [] rfl ⟨.nil, by simp⟩ ?_ ?_
  · rintro done w rest us hd ⟨h1, h2⟩
    have hw : w ∈ ws := by rw [hd]; simp
    have e : tupI w = .tup (w.map .int) := rfl
    rw [e]
    simp
    refine for_emb (f := D.int) (σ := List Int) (fun vs => [.val (tW ws), .own none (.dic false (vs.map .int) (vs.map fun _ => .bl true)), .val (tupI w), .no])
      (fun dn vs => vs.Nodup ∧ ∀ k, k ∈ vs ↔ k ∈ us ∨ k ∈ dn) us rfl ⟨h1, by simp⟩ ?_ ?_
    · rintro dn k rk vs hk ⟨g1, g2⟩
      have hvl : vs.length < LINE := by
        have : vs.length ≤ 1000 := nd_len g1 fun j hj => by
          have hj : j ∈ us ∨ j ∈ dn := (g2 j).mp hj
          rcases hj with hj | hj
          · obtain ⟨v, hv, hj⟩ := (h2 j).mp hj
            exact (h v (by rw [hd]; exact List.mem_append_left _ hv)).2 j hj
          · exact (h w hw).2 j (by rw [hk]; exact List.mem_append_left _ hj)
        omega
      simp [hvl, dPut_mark]
      refine ⟨insU vs k, ⟨rfl, by simp⟩, insU_nd g1, fun j => ?_⟩
      rw [mem_insU, g2]
      exact or_assoc
    · rintro vs ⟨g1, g2⟩
      simp
      refine ⟨vs, ⟨rfl, by simp⟩, g1, fun k => ?_⟩
      rw [g2, h2]
  · rintro us ⟨h1, h2⟩
    have hul : us.length ≤ 1000 := nd_len h1 fun j hj => by
      obtain ⟨v, hv, hj⟩ := (h2 j).mp hj
      exact (h v hv).2 j hj
    simp [z_sorted_ints (ns := us) (by omega)]
    exact ⟨srt us, rfl, srt_nd h1, fun k => by rw [mem_srt, h2]⟩
theorem addL_nil (ls : List Int) : addL ls [] = ls := by
  unfold addL
  simp
theorem addL_len (ls w : List Int) : (addL ls w).length = ls.length := by simp [addL]
theorem addL_get {ls w : List Int} {i : Nat} {l : Int} (h : ls[i]? = some l) : (addL ls w)[i]? = some (if (i : Int) ∈ w then l + 1 else l) := by
  unfold addL
  rw [List.getElem?_map, List.getElem?_zipIdx, h]
  simp
theorem addL_set {ls dn : List Int} {t x : Int} (h0 : 0 ≤ t) (h1 : ls[t.toNat]? = some x) (hn : t ∉ dn) : (addL ls dn).set t.toNat (x + 1) = addL ls (dn ++ [t]) := by
  have hlt := (List.getElem?_eq_some_iff.mp h1).1
  apply List.ext_getElem?
  intro i
  by_cases hi : i < ls.length
  · have e : ls[i]? = some ls[i] := List.getElem?_eq_getElem hi
    rw [addL_get (w := dn ++ [t]) e]
    by_cases h : t.toNat = i
    · subst h
      rw [List.getElem?_set_self (by rw [addL_len]; exact hlt)]
      rw [h1] at e
      have e2 := Option.some.inj e
      rw [if_pos (by rw [show ((t.toNat : Nat) : Int) = t by omega]; simp), ← e2]
    · rw [List.getElem?_set_ne h, addL_get e]
      have : ((i : Int) ∈ dn ++ [t]) = ((i : Int) ∈ dn) := by
        simp only [List.mem_append, List.mem_singleton, eq_iff_iff]
        exact ⟨fun z => z.elim id fun z => absurd z (by omega), .inl⟩
      simp only [this]
  · rw [List.getElem?_eq_none (by rw [List.length_set, addL_len]; omega), List.getElem?_eq_none (by rw [addL_len]; omega)]
end K
set_option Elab.async false
set_option linter.all false
set_option maxRecDepth 20000
namespace K
open PySem PC
/-! ways over some things -/
structure Ws (S : List Int) (W : List (List Int)) : Prop where
  ne : W ≠ []
  way : ∀ w ∈ W, w ≠ [] ∧ w.Pairwise (· < ·)
  full : ∀ k, k ∈ S ↔ ∃ w ∈ W, k ∈ w
theorem pw_nd {w : List Int} (h : w.Pairwise (· < ·)) : w.Nodup := h.imp fun h e => by omega
theorem Ws.len {S : List Int} {W : List (List Int)} (h : Ws S W) {w : List Int} (hw : w ∈ W) : w.length ≤ S.length := nd_sub (pw_nd (h.way w hw).2) fun k hk => (h.full k).mpr ⟨w, hw, hk⟩
theorem Ws.app {S T : List Int} {W U : List (List Int)} (h : Ws S W) (g : Ws T U) : Ws (S ++ T) (W ++ U) := by
  refine ⟨fun e => h.ne (List.append_eq_nil_iff.mp e).1, fun w hw => ?_, fun k => ?_⟩
  · rcases List.mem_append.mp hw with hw | hw
    · exact h.way w hw
    · exact g.way w hw
  · rw [List.mem_append, h.full, g.full]
    constructor
    · rintro (⟨w, hw, hk⟩ | ⟨w, hw, hk⟩)
      · exact ⟨w, List.mem_append_left _ hw, hk⟩
      · exact ⟨w, List.mem_append_right _ hw, hk⟩
    · rintro ⟨w, hw, hk⟩
      rcases List.mem_append.mp hw with hw | hw
      · exact .inl ⟨w, hw, hk⟩
      · exact .inr ⟨w, hw, hk⟩
theorem Ws.congr {S T : List Int} {W : List (List Int)} (h : Ws S W) (g : ∀ k, k ∈ T ↔ k ∈ S) : Ws T W := ⟨h.ne, h.way, fun k => (g k).trans (h.full k)⟩
def jn (W U : List (List Int)) : List (List Int) := W.flatMap fun a => U.map fun b => srt (a ++ b)
theorem mem_jn {W U : List (List Int)} {w : List Int} : w ∈ jn W U ↔ ∃ a ∈ W, ∃ b ∈ U, w = srt (a ++ b) := by
  unfold jn
  rw [List.mem_flatMap]
  constructor
  · rintro ⟨a, ha, hw⟩
    obtain ⟨b, hb, rfl⟩ := List.mem_map.mp hw
    exact ⟨a, ha, b, hb, rfl⟩
  · rintro ⟨a, ha, b, hb, rfl⟩
    exact ⟨a, ha, List.mem_map.mpr ⟨b, hb, rfl⟩⟩
theorem jn_len (W U : List (List Int)) : (jn W U).length = W.length * U.length := by
  unfold jn
  rw [List.length_flatMap]
  induction W with
  | nil => simp
  | cons a W ih =>
    rw [List.map_cons, List.sum_cons, ih, List.length_map, List.length_cons, Nat.add_mul]
    omega
theorem jn_mono {W W' U U' : List (List Int)} (h : ∀ w ∈ W, w ∈ W') (g : ∀ w ∈ U, w ∈ U') : ∀ w ∈ jn W U, w ∈ jn W' U' := fun w hw => by
  obtain ⟨a, ha, b, hb, e⟩ := mem_jn.mp hw
  exact mem_jn.mpr ⟨a, h a ha, b, g b hb, e⟩
theorem srt_lt {a : List Int} (h : a.Nodup) : (srt a).Pairwise (· < ·) := by
  have h1 := srt_sorted a
  have h2 := srt_nd h
  exact (List.pairwise_and_iff.mpr ⟨h1, h2⟩).imp fun ⟨p, q⟩ => by omega
theorem Ws.jn {S T : List Int} {W U : List (List Int)} (h : Ws S W) (g : Ws T U) (d : ∀ k ∈ S, k ∉ T) : Ws (S ++ T) (jn W U) := by
  obtain ⟨a0, ha0⟩ := List.exists_mem_of_ne_nil _ h.ne
  obtain ⟨b0, hb0⟩ := List.exists_mem_of_ne_nil _ g.ne
  refine ⟨fun e => ?_, fun w hw => ?_, fun k => ?_⟩
  · have := mem_jn.mpr ⟨a0, ha0, b0, hb0, rfl⟩
    rw [e] at this
    cases this
  · obtain ⟨a, ha, b, hb, rfl⟩ := mem_jn.mp hw
    refine ⟨fun e => (h.way a ha).1 (List.append_eq_nil_iff.mp (srt_nil.mp e)).1, srt_lt ?_⟩
    refine List.nodup_append.mpr ⟨pw_nd (h.way a ha).2, pw_nd (g.way b hb).2, fun x hx y hy e => ?_⟩
    subst e
    exact d x ((h.full x).mpr ⟨a, ha, hx⟩) ((g.full x).mpr ⟨b, hb, hy⟩)
  · rw [List.mem_append, h.full, g.full]
    constructor
    · rintro (⟨a, ha, hk⟩ | ⟨b, hb, hk⟩)
      · exact ⟨_, mem_jn.mpr ⟨a, ha, b0, hb0, rfl⟩, by rw [mem_srt]; exact List.mem_append_left _ hk⟩
      · exact ⟨_, mem_jn.mpr ⟨a0, ha0, b, hb, rfl⟩, by rw [mem_srt]; exact List.mem_append_right _ hk⟩
    · rintro ⟨w, hw, hk⟩
      obtain ⟨a, ha, b, hb, rfl⟩ := mem_jn.mp hw
      rw [mem_srt] at hk
      rcases List.mem_append.mp hk with hk | hk
      · exact .inl ⟨a, ha, hk⟩
      · exact .inr ⟨b, hb, hk⟩
theorem joined_ok' {n : Nat} {W U : List (List Int)} (hn : 1 ≤ n) (hW : W.length ≤ 100) (hU : U.length ≤ 100) (h : ∀ w ∈ W, w.length ≤ 100) (g : ∀ w ∈ U, w.length ≤ 100) : Fun Tb n i__law_joined [.lst (W.map tupI), .lst (U.map tupI)] fun d => d = .lst ((jn W U).map tupI) := by
  refine Fun.of (wp_def hn at__law_joined rfl fun n' hn' => ?_)
  have hL : LINE = 16777216 := rfl
  simp [c__law_joined]
  refine for_emb (f := tupI) (σ := List (List Int)) (fun L => [.val (.lst (W.map tupI)), .val (.lst (U.map tupI)), .val (.lst (L.map tupI)), .no, .no]) (fun dn L => L = jn dn U) [] rfl rfl ?_ ?_
  · rintro dn a rest L hd rfl
    have ha := h a (by rw [hd]; simp)
    have hdn : dn.length ≤ 100 := by
      have := congrArg List.length hd
      simp at this
      omega
    have hjl : (jn dn U).length ≤ 10000 := by
      rw [jn_len]
      exact Nat.le_trans (Nat.mul_le_mul hdn hU) (by decide)
    have ea : tupI a = .tup (a.map .int) := rfl
    simp
    refine ⟨by omega, ?_⟩
    rw [ea]
    refine comp_map (f := tupI) [_, _, _, _, .no] (fun b => tupI (srt (a ++ b))) rfl rfl (fun b hb => ?_) ?_
    · have hb' := g b hb
      have eb : tupI b = .tup (b.map .int) := rfl
      have hab : a.length + b.length ≤ LINE := by omega
      rw [eb]
      simp [hab, z_sortedT_app hab, tupI]
    · have hfin : (jn dn U).length + U.length ≤ LINE := by omega
      have e : jn (dn ++ [a]) U = jn dn U ++ U.map fun b => srt (a ++ b) := by simp [jn]
      simp [hfin, e]
  · rintro L rfl
    simp
theorem single_ws {S : List Int} (h : S ≠ []) : Ws S (S.map fun k => [k]) := by
  refine ⟨by simpa using h, fun w hw => ?_, fun k => ?_⟩
  · obtain ⟨k, _, rfl⟩ := List.mem_map.mp hw
    exact ⟨by simp, by simp⟩
  · constructor
    · intro hk
      exact ⟨[k], List.mem_map.mpr ⟨k, hk, rfl⟩, by simp⟩
    · rintro ⟨w, hw, hk⟩
      obtain ⟨j, hj, rfl⟩ := List.mem_map.mp hw
      rw [List.mem_singleton.mp hk]
      exact hj
theorem slcS_suf {xs : List D} {k : Int} (h : 0 ≤ k) : slcL xs (some k) none = xs.drop k.toNat := by
  unfold slcL endO endOf
  simp [h]
  by_cases g : k.toNat ≤ xs.length
  · rw [Nat.min_eq_left g, List.take_of_length_le (by simp)]
  · rw [Nat.min_eq_right (by omega), List.drop_of_length_le (by omega), List.drop_of_length_le (by omega)]
    simp
theorem slcS_pre {xs : List D} {k : Int} (h : 0 ≤ k) : slcL xs none (some k) = xs.take k.toNat := by
  unfold slcL endO endOf
  simp [h]
theorem grown_ok {n : Nat} {S : List Int} {most : Int} (hn : 2 ≤ n) (h0 : S ≠ []) (hnd : S.Nodup) (hl : S.length ≤ 6) (m1 : 1 ≤ most) (m2 : most ≤ 2) : Gen Tb n i__law_grown [.lst (S.map .int), .int most] fun d => ∃ W, d = .lst (W.map tupI) ∧ Ws S W ∧ W.length ≤ 6 ∧ (S.length ≤ 2 → W.length ≤ S.length) := by
  refine Gen.of fun b hb => wp_def (by omega) at__law_grown rfl fun n' hn' => ?_
  have hL : LINE = 16777216 := rfl
  have hz1 : 1 ≤ LINE := by omega
  have hpos := List.length_pos_iff.mpr h0
  have hS := single_ws h0
  simp [c__law_grown]
  refine ⟨by omega, ?_⟩
  refine comp_map (f := D.int) [_, _, _, _, _, .no] (fun k => tupI [k]) rfl rfl (fun k hk => ?_) ?_
  · simp [hz1, tupI]
  · have e : S.map (fun k => tupI [k]) = (S.map fun k => [k]).map tupI := by rw [List.map_map]; rfl
    rw [e]
    obtain ⟨W, hW⟩ : ∃ W, W = S.map fun k => [k] := ⟨_, rfl⟩
    have hWl : W.length = S.length := by rw [hW]; simp
    rw [← hW] at hS ⊢
    simp
    refine ⟨fun h1 => ⟨b, hb, ⟨W, rfl, hS, by omega, fun _ => by omega⟩, rfl⟩, fun h1 => ?_⟩
    refine (take_ok (m := (S.length : Int) - 1) (by omega) (by omega) (by omega)).wp hb ?_
    rintro d b1 hb1 ⟨q, rfl, q1, q2⟩
    simp
    refine (take_ok (m := most) (by omega) (by omega) (by omega)).wp hb1 ?_
    rintro d b2 hb2 ⟨r, rfl, r1, r2⟩
    simp
    have hno : ∃ b', BxOk b' ∧ (∃ W', W.map tupI = W'.map tupI ∧ Ws S W' ∧ W'.length ≤ 6 ∧ (S.length ≤ 2 → W'.length ≤ S.length)) ∧ bxD b2 = bxD b' := ⟨b2, hb2, ⟨W, rfl, hS, by omega, fun _ => by omega⟩, rfl⟩
    have hmul : mulOk (1 + q) ((S.length : Int) - (1 + q)) = true := by
      have : 1 + q = 1 ∨ 1 + q = 2 ∨ 1 + q = 3 ∨ 1 + q = 4 ∨ 1 + q = 5 := by omega
      rcases this with e | e | e | e | e <;> rw [e] <;> exact mulOk_l (by omega) (by omega)
    refine ⟨fun _ => ⟨fun _ => ⟨fun h6 => ?_, fun _ => hno⟩, hmul⟩, fun _ => hno⟩
    have hc : (1 + q).toNat < S.length := by omega
    have eW1 : W.take (1 + q).toNat = (S.take (1 + q).toNat).map fun k => [k] := by rw [hW, List.map_take]
    have eW2 : W.drop (1 + q).toNat = (S.drop (1 + q).toNat).map fun k => [k] := by rw [hW, List.map_drop]
    have n1 : S.take (1 + q).toNat ≠ [] := fun e => by
      have := congrArg List.length e
      rw [List.length_take, List.length_nil] at this
      omega
    have n2 : S.drop (1 + q).toNat ≠ [] := fun e => by
      have := congrArg List.length e
      rw [List.length_drop, List.length_nil] at this
      omega
    have w1 := single_ws n1
    have w2 := single_ws n2
    rw [← eW1] at w1
    rw [← eW2] at w2
    have hsp := List.take_append_drop (1 + q).toNat S
    have hdis : ∀ k ∈ S.take (1 + q).toNat, k ∉ S.drop (1 + q).toNat := fun k h1 h2 => by
      have := hnd
      rw [← hsp] at this
      exact (List.nodup_append.mp this).2.2 k h1 k h2 rfl
    have hj := w1.jn w2 hdis
    rw [hsp] at hj
    have hjl : (jn (W.take (1 + q).toNat) (W.drop (1 + q).toNat)).length ≤ 6 := by
      rw [jn_len, List.length_take, List.length_drop, hWl, Nat.min_eq_left (by omega)]
      have : (((1 + q).toNat * (S.length - (1 + q).toNat) : Nat) : Int) = (1 + q) * ((S.length : Int) - (1 + q)) := by
        rw [Int.natCast_mul]
        congr 1 <;> omega
      omega
    rw [slcS_pre (by omega), slcS_suf (by omega), ← List.map_take, ← List.map_drop]
    refine (joined_ok' (n := n') (by omega) (by rw [List.length_take]; omega) (by rw [List.length_drop]; omega) (fun w hw => ?_) (fun w hw => ?_)).wp ?_
    · have := w1.len hw; rw [List.length_take] at this; omega
    · have := w2.len hw; rw [List.length_drop] at this; omega
    rintro d rfl
    simp
    refine ⟨b2, hb2, ⟨_, rfl, hj, hjl, fun h2 => ?_⟩, rfl⟩
    rw [jn_len, List.length_take, List.length_drop, hWl, Nat.min_eq_left (by omega)]
    have : (1 + q).toNat = 1 ∧ S.length = 2 := by omega
    rw [this.1, this.2]
    decide
end K
set_option Elab.async false
set_option linter.all false
set_option maxRecDepth 20000
namespace K
open PySem PC
def lW (W : List (List Int)) : D := .lst (W.map tupI)
def lI (s : List Int) : D := .lst (s.map .int)
structure P2 (S : List Int) (A B : List (List Int)) : Prop where
  a : Ws S A
  b : Ws S B
  sub : ∀ w ∈ A, w ∈ B
theorem slc_at {xs : List D} {lo : Int} {n : Nat} {is : List Nat} (hn : xs.length = n) (h : plcS (bndS (some lo) none 4 n).1 (bndS (some lo) none 4 n).2 4 = is) : slcSL xs (some lo) none 4 = is.filterMap (xs[·]?) := by
  subst hn
  unfold slcSL
  rw [h]
theorem sl4 {S : List Int} (h1 : 4 ≤ S.length) (h2 : S.length ≤ 6) (hnd : S.Nodup) : ∃ s0 s1 s2 s3 : List Int, slcSL (S.map .int) (some 0) none 4 = s0.map .int ∧ slcSL (S.map .int) (some 1) none 4 = s1.map .int ∧ slcSL (S.map .int) (some 2) none 4 = s2.map .int ∧ slcSL (S.map .int) (some 3) none 4 = s3.map .int ∧
    (∀ k, k ∈ S ↔ k ∈ (s0 ++ s2) ++ (s1 ++ s3)) ∧ ((s0 ++ s2) ++ (s1 ++ s3)).Nodup ∧ s0 ≠ [] ∧ s1 ≠ [] ∧ s2 ≠ [] ∧ s3 ≠ [] ∧ s0.length ≤ 2 ∧ s1.length ≤ 2 ∧ s2.length ≤ 1 ∧ s3.length ≤ 1 := by
  match S, h1, h2, hnd with
  | [a, b, c, d], _, _, hnd =>
    refine ⟨[a], [b], [c], [d], (slc_at (n := 4) (is := [0]) rfl (by decide)).trans rfl, (slc_at (n := 4) (is := [1]) rfl (by decide)).trans rfl, (slc_at (n := 4) (is := [2]) rfl (by decide)).trans rfl, (slc_at (n := 4) (is := [3]) rfl (by decide)).trans rfl, fun k => ?_, ?_, by simp⟩
    · simp
      constructor <;> (intro h; rcases h with h | h | h | h <;> simp [h])
    · simp at hnd ⊢
      omega
  | [a, b, c, d, e], _, _, hnd =>
    refine ⟨[a, e], [b], [c], [d], (slc_at (n := 5) (is := [0, 4]) rfl (by decide)).trans rfl, (slc_at (n := 5) (is := [1]) rfl (by decide)).trans rfl, (slc_at (n := 5) (is := [2]) rfl (by decide)).trans rfl, (slc_at (n := 5) (is := [3]) rfl (by decide)).trans rfl, fun k => ?_, ?_, by simp⟩
    · simp
      constructor <;> (intro h; rcases h with h | h | h | h | h <;> simp [h])
    · simp at hnd ⊢
      omega
  | [a, b, c, d, e, f], _, _, hnd =>
    refine ⟨[a, e], [b, f], [c], [d], (slc_at (n := 6) (is := [0, 4]) rfl (by decide)).trans rfl, (slc_at (n := 6) (is := [1, 5]) rfl (by decide)).trans rfl, (slc_at (n := 6) (is := [2]) rfl (by decide)).trans rfl, (slc_at (n := 6) (is := [3]) rfl (by decide)).trans rfl, fun k => ?_, ?_, by simp⟩
    · simp
      constructor <;> (intro h; rcases h with h | h | h | h | h | h <;> simp [h])
    · simp at hnd ⊢
      omega
/-- two halves of a square, and the square -/
theorem square {s0 s1 s2 s3 : List Int} {w0 w1 w2 w3 : List (List Int)} (hnd : ((s0 ++ s2) ++ (s1 ++ s3)).Nodup) (h0 : Ws s0 w0) (h1 : Ws s1 w1) (h2 : Ws s2 w2) (h3 : Ws s3 w3) : P2 ((s0 ++ s2) ++ (s1 ++ s3)) (jn w0 w2 ++ jn w1 w3) (jn (w0 ++ w1) (w2 ++ w3)) := by
  have hx := List.nodup_append.mp hnd
  have hy := List.nodup_append.mp hx.1
  have hz := List.nodup_append.mp hx.2.1
  have d02 : ∀ k ∈ s0, k ∉ s2 := fun k a b => hy.2.2 k a k b rfl
  have d13 : ∀ k ∈ s1, k ∉ s3 := fun k a b => hz.2.2 k a k b rfl
  have dd : ∀ k ∈ s0 ++ s1, k ∉ s2 ++ s3 := fun k a b => by
    rcases List.mem_append.mp a with a | a <;> rcases List.mem_append.mp b with b | b
    · exact d02 k a b
    · exact hx.2.2 k (List.mem_append_left _ a) k (List.mem_append_right _ b) rfl
    · exact hx.2.2 k (List.mem_append_right _ b) k (List.mem_append_left _ a) rfl
    · exact d13 k a b
  refine ⟨(h0.jn h2 d02).app (h1.jn h3 d13), ((h0.app h1).jn (h2.app h3) dd).congr fun k => ?_, fun w hw => ?_⟩
  · simp only [List.mem_append]
    constructor
    · rintro ((h | h) | (h | h)) <;> simp [h]
    · rintro ((h | h) | (h | h)) <;> simp [h]
  · rcases List.mem_append.mp hw with hw | hw
    · exact jn_mono (fun w h => List.mem_append_left _ h) (fun w h => List.mem_append_left _ h) w hw
    · exact jn_mono (fun w h => List.mem_append_right _ h) (fun w h => List.mem_append_right _ h) w hw
theorem P2.congr {S T : List Int} {A B : List (List Int)} (h : P2 S A B) (g : ∀ k, k ∈ T ↔ k ∈ S) : P2 T A B := ⟨h.a.congr g, h.b.congr g, h.sub⟩
theorem Ws.l100 {S : List Int} {W : List (List Int)} (h : Ws S W) (hs : S.length ≤ 100) : ∀ w ∈ W, w.length ≤ 100 := fun w hw => Nat.le_trans (h.len hw) hs
theorem joinedW {n : Nat} {S T : List Int} {W U : List (List Int)} (hn : 1 ≤ n) (hW : W.length ≤ 100) (hU : U.length ≤ 100) (h : Ws S W) (g : Ws T U) (hs : S.length ≤ 100) (ht : T.length ≤ 100) : Fun Tb n i__law_joined [lW W, lW U] fun d => d = lW (jn W U) := joined_ok' hn hW hU (h.l100 hs) (g.l100 ht)
theorem catW {W U : List (List Int)} (hW : W.length ≤ 1000) (hU : U.length ≤ 1000) : binD .add (lW W) (lW U) = some (lW (W ++ U)) := by
  have hL : LINE = 16777216 := rfl
  unfold lW
  rw [z_binD_catL, if_pos (by rw [List.length_map, List.length_map]; omega), List.map_append]
inductive F2 {α β : Type} (P : α → β → Prop) : List α → List β → Prop
  | nil : F2 P [] []
  | cons {a : α} {b : β} {l : List α} {m : List β} : P a b → F2 P l m → F2 P (a :: l) (b :: m)
theorem four {P : List Int → List (List Int) → Prop} {s0 s1 s2 s3 : List Int} {L : List (List (List Int))} (h : F2 P [s0, s1, s2, s3] L) : ∃ w0 w1 w2 w3, L = [w0, w1, w2, w3] ∧ P s0 w0 ∧ P s1 w1 ∧ P s2 w2 ∧ P s3 w3 := by
  match L, h with
  | [w0, w1, w2, w3], .cons a (.cons b (.cons c (.cons d .nil))) => exact ⟨w0, w1, w2, w3, rfl, a, b, c, d⟩
theorem f2_snoc {α β : Type} {P : α → β → Prop} {l : List α} {m : List β} {a : α} {b : β} (h : F2 P l m) (g : P a b) : F2 P (l ++ [a]) (m ++ [b]) := by
  induction h with
  | nil => exact .cons g .nil
  | cons h1 _ ih => exact .cons h1 ih
theorem pair_of_ok {n : Nat} {S : List Int} (hn : 3 ≤ n) (h0 : S ≠ []) (hnd : S.Nodup) (hl : S.length ≤ 6) : Gen Tb n i__law_pair_of [lI S] fun d => ∃ A B, d = .tup [lW A, lW B] ∧ P2 S A B ∧ A.length ≤ 6 ∧ B.length ≤ 8 := by
  refine Gen.of fun b hb => wp_defD (by omega) at__law_pair_of rfl fun n' hn' => ?_
  have hL : LINE = 16777216 := rfl
  have hz2 : 2 ≤ LINE := by omega
  have eS : lI S = .lst (S.map .int) := rfl
  have hlS : biD .len [lI S] = some (.int S.length) := by rw [eS]; simp
  refine wpD_cutS 1 (fun e => ∃ (b : Box), BxOk b ∧ e = [.own (some 0) (bxD b), .val (lI S), .no, .no, .no, .no, .no, .no]) ?_ ?_
  · simp [c__law_pair_of, hlS]
    refine ⟨fun h4 => ?_, fun _ => ⟨b, hb, rfl⟩⟩
    refine (take_ok (m := 2) (by omega) (by omega) (by omega)).wp hb ?_
    rintro d b1 hb1 ⟨q, rfl, q1, q2⟩
    simp
    refine ⟨fun hq => ?_, fun _ => ⟨b1, hb1, rfl⟩⟩
    obtain ⟨s0, s1, s2, s3, e0, e1, e2, e3, hm, hn4, n0, n1, n2, n3, l0, l1, l2, l3⟩ := sl4 (by omega) hl hnd
    have hx := List.nodup_append.mp hn4
    have hy := List.nodup_append.mp hx.1
    have hz := List.nodup_append.mp hx.2.1
    refine ⟨by omega, by omega, ?_⟩
    rw [rngL_rgI]
    refine comp_map (f := D.int) [.own (some 0) (bxD b1), .val (lI S), .no, .no, .no, .no, .no, .no] (fun k => .lst (slcSL (S.map .int) (some k) none 4)) rfl rfl (fun k hk => ?_) ?_
    · have hkr := mem_rgI.mp hk
      have hlen : (slcSL (S.map .int) (some k) none 4).length ≤ LINE := by
        have : k = 0 ∨ k = 1 ∨ k = 2 ∨ k = 3 := by omega
        rcases this with rfl | rfl | rfl | rfl
        · rw [e0, List.length_map]; omega
        · rw [e1, List.length_map]; omega
        · rw [e2, List.length_map]; omega
        · rw [e3, List.length_map]; omega
      rw [eS]
      simp [slcSD, hlen]
    · have er : (rgI 0 4).map (fun k => D.lst (slcSL (S.map .int) (some k) none 4)) = [s0, s1, s2, s3].map lI := by
        show [D.lst (slcSL (S.map .int) (some 0) none 4), D.lst (slcSL (S.map .int) (some 1) none 4), D.lst (slcSL (S.map .int) (some 2) none 4), D.lst (slcSL (S.map .int) (some 3) none 4)] = _
        rw [e0, e1, e2, e3]
        rfl
      rw [er]
      simp
      refine ⟨by omega, ?_⟩
      have e4 : [lI s0, lI s1, lI s2, lI s3] = [s0, s1, s2, s3].map lI := rfl
      have hs : ∀ s ∈ [s0, s1, s2, s3], s ≠ [] ∧ s.Nodup ∧ s.length ≤ 2 := by
        simp
        exact ⟨⟨n0, hy.1, l0⟩, ⟨n1, hz.1, l1⟩, ⟨n2, hy.2.1, by omega⟩, ⟨n3, hz.2.1, by omega⟩⟩
      rw [e4]
      refine comp_st (f := lI) (σ := Box) (fun st => [.own (some 0) (bxD st), .val (lI S), .val (.lst ([s0, s1, s2, s3].map lI)), .no, .no, .no, .no, .no]) (fun kd acc st => BxOk st ∧ ∃ L : List (List (List Int)), acc = L.map lW ∧ F2 (fun s W => Ws s W ∧ W.length ≤ s.length) kd L) b1 rfl ⟨hb1, [], rfl, .nil⟩ (fun _ => rfl) ?_ ?_
      · rintro kd s kr acc b2 hk ⟨hb2, L, rfl, hF⟩
        have hss := hs s (by rw [hk]; simp)
        simp
        refine (show Gen Tb n' i__law_grown [lI s, .int 1] _ from grown_ok (by omega) hss.1 hss.2.1 (by omega) (by omega) (by omega)).wp hb2 ?_
        rintro d b3 hb3 ⟨W, rfl, hW, w6, w2⟩
        simp
        exact ⟨b3, rfl, hb3, L ++ [W], by simp [lW], f2_snoc hF ⟨hW, w2 hss.2.2⟩⟩
      · rintro b2 acc ⟨hb2, L, rfl, hF⟩
        obtain ⟨w0, w1, w2, w3, rfl, ⟨g0, k0⟩, ⟨g1, k1⟩, ⟨g2, k2⟩, ⟨g3, k3⟩⟩ := four hF
        have c1 := catW (W := jn w0 w2) (U := jn w1 w3)
        have c2 := catW (W := w0) (U := w1) (by omega) (by omega)
        have c3 := catW (W := w2) (U := w3) (by omega) (by omega)
        have j1 : (jn w0 w2).length ≤ 2 := by rw [jn_len]; exact Nat.le_trans (Nat.mul_le_mul (Nat.le_trans k0 l0) (Nat.le_trans k2 l2)) (by decide)
        have j2 : (jn w1 w3).length ≤ 2 := by rw [jn_len]; exact Nat.le_trans (Nat.mul_le_mul (Nat.le_trans k1 l1) (Nat.le_trans k3 l3)) (by decide)
        have j3 : (jn (w0 ++ w1) (w2 ++ w3)).length ≤ 8 := by rw [jn_len, List.length_append, List.length_append]; exact Nat.le_trans (Nat.mul_le_mul (show w0.length + w1.length ≤ 4 by omega) (show w2.length + w3.length ≤ 2 by omega)) (by decide)
        have c1 := c1 (by omega) (by omega)
        have hsq := (square hn4 g0 g1 g2 g3).congr hm
        simp
        refine (joinedW (n := n') (by omega) (by omega) (by omega) g0 g2 (by omega) (by omega)).wp ?_
        rintro d rfl
        simp
        refine (joinedW (n := n') (by omega) (by omega) (by omega) g1 g3 (by omega) (by omega)).wp ?_
        rintro d rfl
        simp [c1, c2, c3]
        refine (joinedW (n := n') (by omega) (by rw [List.length_append]; omega) (by rw [List.length_append]; omega) (g0.app g1) (g2.app g3) (by rw [List.length_append]; omega) (by rw [List.length_append]; omega)).wp ?_
        rintro d rfl
        simp [hz2]
        exact ⟨b2, hb2, ⟨_, _, ⟨rfl, rfl⟩, hsq, by rw [List.length_append]; omega, j3⟩, rfl⟩
  · rintro e ⟨b1, hb1, rfl⟩
    apply wpD_of
    simp [c__law_pair_of]
    rw [eS]
    refine (grown_ok (n := n') (S := S) (most := 2) (by omega) h0 hnd hl (by omega) (by omega)).wp hb1 ?_
    rintro d b2 hb2 ⟨W, rfl, hW, w6, _⟩
    simp [hz2]
    exact ⟨b2, hb2, ⟨W, W, ⟨rfl, rfl⟩, ⟨hW, hW, fun w h => h⟩, w6, by omega⟩, rfl⟩
end K
set_option Elab.async false
set_option linter.all false
set_option maxRecDepth 20000
namespace K
open PySem PC
theorem lW_len {W : List (List Int)} : biD .len [lW W] = some (.int W.length) := by
  unfold lW
  simp
theorem P2.app {S T : List Int} {A B C E : List (List Int)} (h : P2 S A B) (g : P2 T C E) : P2 (S ++ T) (A ++ C) (B ++ E) := ⟨h.a.app g.a, h.b.app g.b, fun w hw => by
  rcases List.mem_append.mp hw with hw | hw
  · exact List.mem_append_left _ (h.sub w hw)
  · exact List.mem_append_right _ (g.sub w hw)⟩
theorem P2.jn {S T : List Int} {A B C E : List (List Int)} (h : P2 S A B) (g : P2 T C E) (d : ∀ k ∈ S, k ∉ T) : P2 (S ++ T) (jn A C) (jn B E) := ⟨h.a.jn g.a d, h.b.jn g.b d, jn_mono h.sub g.sub⟩
theorem sl7 {S : List Int} (h1 : 4 ≤ S.length) (h2 : S.length ≤ 7) (hnd : S.Nodup) : ∃ s0 s1 s2 s3 : List Int, slcSL (S.map .int) (some 0) none 4 = s0.map .int ∧ slcSL (S.map .int) (some 1) none 4 = s1.map .int ∧ slcSL (S.map .int) (some 2) none 4 = s2.map .int ∧ slcSL (S.map .int) (some 3) none 4 = s3.map .int ∧
    (∀ k, k ∈ S ↔ k ∈ (s0 ++ s2) ++ (s1 ++ s3)) ∧ ((s0 ++ s2) ++ (s1 ++ s3)).Nodup ∧ s0 ≠ [] ∧ s1 ≠ [] ∧ s2 ≠ [] ∧ s3 ≠ [] ∧ s0.length ≤ 2 ∧ s1.length ≤ 2 ∧ s2.length ≤ 2 ∧ s3.length ≤ 1 := by
  match S, h1, h2, hnd with
  | [a, b, c, d], _, _, hnd =>
    refine ⟨[a], [b], [c], [d], (slc_at (n := 4) (is := [0]) rfl (by decide)).trans rfl, (slc_at (n := 4) (is := [1]) rfl (by decide)).trans rfl, (slc_at (n := 4) (is := [2]) rfl (by decide)).trans rfl, (slc_at (n := 4) (is := [3]) rfl (by decide)).trans rfl, fun k => ?_, ?_, by simp⟩
    · simp
      constructor <;> (intro h; rcases h with h | h | h | h <;> simp [h])
    · simp at hnd ⊢
      omega
  | [a, b, c, d, e], _, _, hnd =>
    refine ⟨[a, e], [b], [c], [d], (slc_at (n := 5) (is := [0, 4]) rfl (by decide)).trans rfl, (slc_at (n := 5) (is := [1]) rfl (by decide)).trans rfl, (slc_at (n := 5) (is := [2]) rfl (by decide)).trans rfl, (slc_at (n := 5) (is := [3]) rfl (by decide)).trans rfl, fun k => ?_, ?_, by simp⟩
    · simp
      constructor <;> (intro h; rcases h with h | h | h | h | h <;> simp [h])
    · simp at hnd ⊢
      omega
  | [a, b, c, d, e, f], _, _, hnd =>
    refine ⟨[a, e], [b, f], [c], [d], (slc_at (n := 6) (is := [0, 4]) rfl (by decide)).trans rfl, (slc_at (n := 6) (is := [1, 5]) rfl (by decide)).trans rfl, (slc_at (n := 6) (is := [2]) rfl (by decide)).trans rfl, (slc_at (n := 6) (is := [3]) rfl (by decide)).trans rfl, fun k => ?_, ?_, by simp⟩
    · simp
      constructor <;> (intro h; rcases h with h | h | h | h | h | h <;> simp [h])
    · simp at hnd ⊢
      omega
  | [a, b, c, d, e, f, g], _, _, hnd =>
    refine ⟨[a, e], [b, f], [c, g], [d], (slc_at (n := 7) (is := [0, 4]) rfl (by decide)).trans rfl, (slc_at (n := 7) (is := [1, 5]) rfl (by decide)).trans rfl, (slc_at (n := 7) (is := [2, 6]) rfl (by decide)).trans rfl, (slc_at (n := 7) (is := [3]) rfl (by decide)).trans rfl, fun k => ?_, ?_, by simp⟩
    · simp
      constructor <;> (intro h; rcases h with h | h | h | h | h | h | h <;> simp [h])
    · have hp : (([a, e] ++ [c, g]) ++ ([b, f] ++ [d])).Perm [a, b, c, d, e, f, g] := by
        rw [List.perm_iff_count]
        intro x
        simp only [List.cons_append, List.nil_append, List.count_cons, List.count_nil]
        ac_rfl
      exact hp.nodup_iff.mpr hnd
theorem split_ok {S : List Int} {c : Int} (hnd : S.Nodup) (c0 : 1 ≤ c) (c1 : c < S.length) : S.take c.toNat ≠ [] ∧ S.drop c.toNat ≠ [] ∧ (S.take c.toNat).Nodup ∧ (S.drop c.toNat).Nodup ∧ (∀ k ∈ S.take c.toNat, k ∉ S.drop c.toNat) ∧ (S.take c.toNat).length + 1 ≤ S.length ∧ (S.drop c.toNat).length + 1 ≤ S.length := by
  have hsp := List.take_append_drop c.toNat S
  have h2 := hnd
  rw [← hsp] at h2
  have h3 := List.nodup_append.mp h2
  refine ⟨fun e => ?_, fun e => ?_, h3.1, h3.2.1, fun k a b => h3.2.2 k a k b rfl, by rw [List.length_take]; omega, by rw [List.length_drop]; omega⟩
  · have := congrArg List.length e
    rw [List.length_take, List.length_nil] at this
    omega
  · have := congrArg List.length e
    rw [List.length_drop, List.length_nil] at this
    omega
theorem pair_ok {n : Nat} {S : List Int} (hn : 4 ≤ n) (h0 : S ≠ []) (hnd : S.Nodup) (hl : S.length ≤ 7) : Gen Tb n i__law_pair [lI S] fun d => ∃ A B, d = .tup [lW A, lW B] ∧ P2 S A B ∧ A.length ≤ 36 ∧ B.length ≤ 16 := by
  refine Gen.of fun b hb => wp_defD (by omega) at__law_pair rfl fun n' hn' => ?_
  have hL : LINE = 16777216 := rfl
  have hz1 : 1 ≤ LINE := by omega
  have hz2 : 2 ≤ LINE := by omega
  have eS : lI S = .lst (S.map .int) := rfl
  have hlS : biD .len [lI S] = some (.int S.length) := by rw [eS]; simp
  have hpos := List.length_pos_iff.mpr h0
  have g0 : idxD (lI S) (.int 0) = some (.int (S.getD 0 0)) := by
    rw [eS, z_idxD_l]
    refine atD_pos (f := D.int) (by omega) ?_
    rw [List.getD_eq_getElem?_getD]
    show S[0]? = _
    rw [List.getElem?_eq_getElem hpos]
    rfl
  refine wpD_cutS 2 (fun e => ∃ (b : Box) (kd : Int), BxOk b ∧ 2 ≤ S.length ∧ e = [.own (some 0) (bxD b), .val (lI S), .val (.int kd), .no, .no, .no, .no, .no, .no, .no]) ?_ ?_
  · simp [c__law_pair, hlS, g0, hz1, hz2]
    refine ⟨fun h1 => ?_, fun h1 => ?_⟩
    · obtain ⟨t, ht⟩ : ∃ t, S = [t] := by
        match S, h1 with
        | [t], _ => exact ⟨t, rfl⟩
      subst ht
      have hw : Ws [t] [[t]] := single_ws (S := [t]) (by simp)
      exact ⟨b, hb, ⟨[[t]], [[t]], by simp [lW, tupI], ⟨hw, hw, fun w h => h⟩, by simp, by simp⟩, rfl⟩
    · refine (take_ok (m := 4) (by omega) (by omega) (by omega)).wp hb ?_
      rintro d b1 hb1 ⟨q, rfl, q1, q2⟩
      simp
      exact ⟨b1, hb1, by omega, rfl⟩
  rintro e ⟨b1, kd, hb1, hl2, rfl⟩
  refine wpD_cutS 1 (fun e => ∃ (b : Box), BxOk b ∧ e = [.own (some 0) (bxD b), .val (lI S), .val (.int kd), .no, .no, .no, .no, .no, .no, .no]) ?_ ?_
  · simp [c__law_pair, hlS]
    refine ⟨fun hk3 => ⟨fun h4 => ?_, fun _ => ⟨b1, hb1, rfl⟩⟩, fun _ => ⟨b1, hb1, rfl⟩⟩
    obtain ⟨s0, s1, s2, s3, e0, e1, e2, e3, hm, hn4, n0, n1, n2, n3, l0, l1, l2, l3⟩ := sl7 (by omega) hl hnd
    have hx := List.nodup_append.mp hn4
    have hy := List.nodup_append.mp hx.1
    have hz := List.nodup_append.mp hx.2.1
    refine ⟨by omega, by omega, ?_⟩
    rw [rngL_rgI]
    refine comp_map (f := D.int) [.own (some 0) (bxD b1), .val (lI S), .val (.int kd), .no, .no, .no, .no, .no, .no, .no] (fun k => .lst (slcSL (S.map .int) (some k) none 4)) rfl rfl (fun k hk => ?_) ?_
    · have hkr := mem_rgI.mp hk
      have hlen : (slcSL (S.map .int) (some k) none 4).length ≤ LINE := by
        have : k = 0 ∨ k = 1 ∨ k = 2 ∨ k = 3 := by omega
        rcases this with rfl | rfl | rfl | rfl
        · rw [e0, List.length_map]; omega
        · rw [e1, List.length_map]; omega
        · rw [e2, List.length_map]; omega
        · rw [e3, List.length_map]; omega
      rw [eS]
      simp [slcSD, hlen]
    · have er : (rgI 0 4).map (fun k => D.lst (slcSL (S.map .int) (some k) none 4)) = [s0, s1, s2, s3].map lI := by
        show [D.lst (slcSL (S.map .int) (some 0) none 4), D.lst (slcSL (S.map .int) (some 1) none 4), D.lst (slcSL (S.map .int) (some 2) none 4), D.lst (slcSL (S.map .int) (some 3) none 4)] = _
        rw [e0, e1, e2, e3]
        rfl
      rw [er]
      simp
      refine ⟨by omega, ?_⟩
      have e4 : [lI s0, lI s1, lI s2, lI s3] = [s0, s1, s2, s3].map lI := rfl
      have hs : ∀ s ∈ [s0, s1, s2, s3], s ≠ [] ∧ s.Nodup ∧ s.length ≤ 2 := by
        simp
        exact ⟨⟨n0, hy.1, l0⟩, ⟨n1, hz.1, l1⟩, ⟨n2, hy.2.1, by omega⟩, ⟨n3, hz.2.1, by omega⟩⟩
      rw [e4]
      refine comp_st (f := lI) (σ := Box) (fun st => [.own (some 0) (bxD st), .val (lI S), .val (.int kd), .val (.lst ([s0, s1, s2, s3].map lI)), .no, .no, .no, .no, .no, .no]) (fun kd acc st => BxOk st ∧ ∃ L : List (List (List Int)), acc = L.map lW ∧ F2 (fun s W => Ws s W ∧ W.length ≤ s.length) kd L) b1 rfl ⟨hb1, [], rfl, .nil⟩ (fun _ => rfl) ?_ ?_
      · rintro kd s kr acc b2 hk ⟨hb2, L, rfl, hF⟩
        have hss := hs s (by rw [hk]; simp)
        simp
        refine (show Gen Tb n' i__law_grown [lI s, .int 2] _ from grown_ok (by omega) hss.1 hss.2.1 (by omega) (by omega) (by omega)).wp hb2 ?_
        rintro d b3 hb3 ⟨W, rfl, hW, w6, w2⟩
        simp
        exact ⟨b3, rfl, hb3, L ++ [W], by simp [lW], f2_snoc hF ⟨hW, w2 hss.2.2⟩⟩
      · rintro b2 acc ⟨hb2, L, rfl, hF⟩
        obtain ⟨w0, w1, w2, w3, rfl, ⟨g0, k0⟩, ⟨g1, k1⟩, ⟨g2, k2⟩, ⟨g3, k3⟩⟩ := four hF
        have c2 := catW (W := w0) (U := w1) (by omega) (by omega)
        have c3 := catW (W := w2) (U := w3) (by omega) (by omega)
        have j1 : (jn w0 w2).length ≤ 4 := by rw [jn_len]; exact Nat.le_trans (Nat.mul_le_mul (Nat.le_trans k0 l0) (Nat.le_trans k2 l2)) (by decide)
        have j2 : (jn w1 w3).length ≤ 2 := by rw [jn_len]; exact Nat.le_trans (Nat.mul_le_mul (Nat.le_trans k1 l1) (Nat.le_trans k3 l3)) (by decide)
        have j3 : (jn (w0 ++ w1) (w2 ++ w3)).length ≤ 16 := by rw [jn_len, List.length_append, List.length_append]; exact Nat.le_trans (Nat.mul_le_mul (show w0.length + w1.length ≤ 4 by omega) (show w2.length + w3.length ≤ 4 by omega)) (by decide)
        have c1 := catW (W := jn w0 w2) (U := jn w1 w3) (by omega) (by omega)
        have hsq := (square hn4 g0 g1 g2 g3).congr hm
        simp [c2, c3]
        refine (joinedW (n := n') (by omega) (by omega) (by omega) g0 g2 (by omega) (by omega)).wp ?_
        rintro d rfl
        simp
        refine (joinedW (n := n') (by omega) (by omega) (by omega) g1 g3 (by omega) (by omega)).wp ?_
        rintro d rfl
        simp [c1]
        refine (joinedW (n := n') (by omega) (by rw [List.length_append]; omega) (by rw [List.length_append]; omega) (g0.app g1) (g2.app g3) (by rw [List.length_append]; omega) (by rw [List.length_append]; omega)).wp ?_
        rintro d rfl
        simp [hz2]
        exact ⟨b2, hb2, ⟨_, _, ⟨rfl, rfl⟩, hsq, by rw [List.length_append]; omega, by omega⟩, rfl⟩
  rintro e ⟨b2, hb2, rfl⟩
  refine wpD_cutS 2 (fun e => ∃ (b : Box) (c : Int) (A1 B1 A2 B2 : List (List Int)), BxOk b ∧ 1 ≤ c ∧ c < S.length ∧ P2 (S.take c.toNat) A1 B1 ∧ P2 (S.drop c.toNat) A2 B2 ∧ A1.length ≤ 6 ∧ B1.length ≤ 8 ∧ A2.length ≤ 6 ∧ B2.length ≤ 8 ∧ e = [.own (some 0) (bxD b), .val (lI S), .val (.int kd), .val (.int c), .no, .val (.tup [lW A1, lW B1]), .val (.tup [lW A2, lW B2]), .no, .no, .no]) ?_ ?_
  · simp [c__law_pair, hlS]
    refine (take_ok (m := (S.length : Int) - 1) (by omega) (by omega) (by omega)).wp hb2 ?_
    rintro d b3 hb3 ⟨q, rfl, q1, q2⟩
    obtain ⟨t1, t2, t3, t4, t5, t6, t7⟩ := split_ok (c := 1 + q) hnd (by omega) (by omega)
    have hp1 : slcD none (some (1 + q)) (lI S) = some (lI (S.take (1 + q).toNat)) := by rw [eS, z_slcD_l, slcS_pre (by omega), ← List.map_take]; rfl
    have hp2 : slcD (some (1 + q)) none (lI S) = some (lI (S.drop (1 + q).toNat)) := by rw [eS, z_slcD_l, slcS_suf (by omega), ← List.map_drop]; rfl
    simp [hp1, hp2]
    refine (pair_of_ok (n := n') (by omega) t1 t3 (by omega)).wp hb3 ?_
    rintro d b4 hb4 ⟨A1, B1, rfl, P1, a1, b1'⟩
    simp [hp2]
    refine (pair_of_ok (n := n') (by omega) t2 t4 (by omega)).wp hb4 ?_
    rintro d b5 hb5 ⟨A2, B2, rfl, P2', a2, b2'⟩
    simp
    exact ⟨b5, hb5, 1 + q, by omega, by omega, A1, B1, P1, A2, B2, P2', a1, b1', a2, b2', rfl, rfl, ⟨rfl, rfl⟩, rfl, rfl⟩
  rintro e ⟨b3, c, A1, B1, A2, B2, hb3, c0, c1, P1, P2', a1, b1', a2, b2', rfl⟩
  obtain ⟨t1, t2, t3, t4, t5, t6, t7⟩ := split_ok (c := c) hnd c0 c1
  have hsp := List.take_append_drop c.toNat S
  apply wpD_of
  have hmul : mulOk (B1.length : Int) (B2.length : Int) = true := mulOk_l (by omega) (by omega)
  have ca := catW (W := A1) (U := A2) (by omega) (by omega)
  have cb := catW (W := B1) (U := B2) (by omega) (by omega)
  have happ := P1.app P2'
  have hjn := P1.jn P2' t5
  rw [hsp] at happ hjn
  have hfin : ∃ b', BxOk b' ∧ (∃ A B, (lW (A1 ++ A2) = lW A ∧ lW (B1 ++ B2) = lW B) ∧ P2 S A B ∧ A.length ≤ 36 ∧ B.length ≤ 16) ∧ bxD b3 = bxD b' := ⟨b3, hb3, ⟨_, _, ⟨rfl, rfl⟩, happ, by rw [List.length_append]; omega, by rw [List.length_append]; omega⟩, rfl⟩
  simp [c__law_pair, lW_len, hmul, ca, cb, hz2]
  refine ⟨fun _ => ⟨fun h16 => ?_, fun _ => hfin⟩, fun _ => hfin⟩
  refine (joinedW (n := n') (by omega) (by omega) (by omega) P1.a P2'.a (by omega) (by omega)).wp ?_
  rintro d rfl
  simp
  refine (joinedW (n := n') (by omega) (by omega) (by omega) P1.b P2'.b (by omega) (by omega)).wp ?_
  rintro d rfl
  simp [hz2]
  refine ⟨b3, hb3, ⟨_, _, ⟨rfl, rfl⟩, hjn, ?_, ?_⟩, rfl⟩
  · rw [jn_len]; exact Nat.le_trans (Nat.mul_le_mul a1 a2) (by decide)
  · rw [jn_len]
    have : ((B1.length * B2.length : Nat) : Int) = (B1.length : Int) * (B2.length : Int) := Int.natCast_mul _ _
    omega
end K
set_option Elab.async false
set_option linter.all false
set_option maxRecDepth 20000
namespace K
open PySem PC
theorem lfamily_ok {n : Nat} {ws : List (List Int)} (hn : 1 ≤ n) (h : ∀ w ∈ ws, w ≠ []) (hl : ws.length < 64) : Fun Tb n i__law_family [lW ws] fun d => d = tW (srtW (ded ws)) := by
  refine Fun.of (wp_def hn at__law_family rfl fun n' hn' => ?_)
  simp [c__law_family, ssetD, lW, z_ssetL_tups hl h, tW]
/-- a family: its ways sorted, each once -/
def famL (W : List (List Int)) : List (List Int) := srtW (ded W)
theorem mem_famL {W : List (List Int)} {w : List Int} : w ∈ famL W ↔ w ∈ W := by rw [famL, mem_srtW, ded_mem]
theorem famL_len (W : List (List Int)) : (famL W).length ≤ W.length := by rw [famL, srtW_len]; exact ded_len W
theorem Ws.fam {S : List Int} {W : List (List Int)} (h : Ws S W) : Ws S (famL W) := by
  obtain ⟨w, hw⟩ := List.exists_mem_of_ne_nil _ h.ne
  refine ⟨fun e => ?_, fun w hw => h.way w (mem_famL.mp hw), fun k => ?_⟩
  · have := mem_famL.mpr hw
    rw [e] at this
    cases this
  · rw [h.full]
    constructor <;> (rintro ⟨w, hw, hk⟩; first | exact ⟨w, mem_famL.mpr hw, hk⟩ | exact ⟨w, mem_famL.mp hw, hk⟩)
/-- what a rich pair is -/
structure Rich (m nw : Int) (A B : List (List Int)) : Prop where
  a : Ws (rgI 0 m) A
  b : Ws (rgI 0 (m + nw)) B
  sub : ∀ w ∈ A, w ∈ B
  al : A.length ≤ 40
  bl : B.length ≤ 40
  m1 : 1 ≤ m
  m6 : m ≤ 7
  n0 : 0 ≤ nw
  n2 : nw ≤ 2
theorem rgI_app {m nw : Int} (h0 : 0 ≤ m) (h1 : 0 ≤ nw) (k : Int) : k ∈ rgI 0 (m + nw) ↔ k ∈ rgI 0 m ∨ k ∈ rgI m (m + nw) := by
  rw [mem_rgI, mem_rgI, mem_rgI]
  omega
theorem rich_ok {n : Nat} (hn : 5 ≤ n) : Gen Tb n i__law_rich [.int 7, .int 2] fun d => ∃ m nw A B, d = .tup [tW A, tW B, .int nw] ∧ Rich m nw A B := by
  refine Gen.of fun b hb => wp_defD (by omega) at__law_rich rfl fun n' hn' => ?_
  have hL : LINE = 16777216 := rfl
  have hz3 : 3 ≤ LINE := by omega
  -- the order
  refine wpD_cutS 3 (fun e => ∃ (b : Box) (m : Int) (o : List Int), BxOk b ∧ 1 ≤ m ∧ m ≤ 7 ∧ o.Perm (rgI 0 m) ∧ e = [.own (some 0) (bxD b), .val (.int 7), .val (.int 2), .val (.int m), .own none (lI o), .no, .no, .no, .no, .no, .no, .no, .no, .no]) ?_ ?_
  · simp [c__law_rich]
    refine (take_ok (m := 7) (by omega) (by omega) (by omega)).wp hb ?_
    rintro d b1 hb1 ⟨q, rfl, q1, q2⟩
    have hrd : ∀ a b : Int, rngD false a b = lI (rgI a b) := fun a b => by unfold rngD; rw [rngL_rgI]; rfl
    have hco : ∀ s, isCo (lI s) = true := fun _ => rfl
    simp [rngL_rgI, hrd, hco]
    refine ⟨by omega, by omega, ?_⟩
    refine for_emb (f := D.int) (σ := Box × List Int) (fun s => [.own (some 0) (bxD s.1), .val (.int 7), .val (.int 2), .val (.int (1 + q)), .own none (lI s.2), .no, .no, .no, .no, .no, .no, .no, .no, .no]) (fun _ s => BxOk s.1 ∧ s.2.Perm (rgI 0 (1 + q))) (b1, rgI 0 (1 + q)) rfl ⟨hb1, .refl _⟩ ?_ ?_
    · rintro dn k rest ⟨b2, o⟩ hk ⟨hb2, hp⟩
      dsimp only at hb2 hp
      have hkr := mem_rgI.mp (show k ∈ rgI 0 (1 + q) by rw [hk]; simp)
      have hol := hp.length_eq
      rw [rgI_len] at hol
      simp
      refine (take_ok (m := 1 + q) (by omega) (by omega) (by omega)).wp hb2 ?_
      rintro d b3 hb3 ⟨j, rfl, j1, j2⟩
      have ej : o[j.toNat]? = some o[j.toNat] := List.getElem?_eq_getElem (by omega)
      have ek : o[k.toNat]? = some o[k.toNat] := List.getElem?_eq_getElem (by omega)
      have gj : idxD (lI o) (.int j) = some (.int o[j.toNat]) := atD_pos (f := D.int) j1 ej
      have gk : idxD (lI o) (.int k) = some (.int o[k.toNat]) := atD_pos (f := D.int) hkr.1 ek
      have hperm := List.set_set_perm (as := o) (i := k.toNat) (j := j.toNat) (by omega) (by omega)
      simp [gj, gk]
      refine ⟨by omega, rfl, ?_⟩
      show (0 ≤ k ∧ k < ((o.map D.int).length : Int)) ∧ (0 ≤ j ∧ j < ((o.map D.int).length : Int)) ∧ ∃ (a : Box) (b : List Int), (bxD b3 = bxD a ∧ (none : Option Nat) = none ∧ D.lst (((o.map D.int).set k.toNat (D.int o[j.toNat])).set j.toNat (D.int o[k.toNat])) = lI b) ∧ BxOk a ∧ b.Perm (rgI 0 (1 + q))
      rw [List.length_map]
      exact ⟨⟨hkr.1, by omega⟩, ⟨j1, by omega⟩, b3, _, ⟨rfl, rfl, by simp [lI, List.map_set]⟩, hb3, hperm.trans hp⟩
    · rintro ⟨b2, o⟩ ⟨hb2, hp⟩
      exact ⟨b2, hb2, 1 + q, by omega, by omega, o, hp, rfl⟩
  rintro e ⟨b1, m, o, hb1, m1, m6, ho, rfl⟩
  have hond : o.Nodup := ho.nodup_iff.mpr (rgI_nd _ _)
  have hol : o.length = m.toNat := by rw [ho.length_eq, rgI_len]; omega
  have hmem : ∀ k, k ∈ o ↔ k ∈ rgI 0 m := fun k => ho.mem_iff
  have hone : o ≠ [] := fun e => by rw [e] at hol; simp at hol; omega
  refine wpD_cutS 2 (fun e => ∃ (b : Box) (nw : Int) (M : List (List Int)), BxOk b ∧ 0 ≤ nw ∧ nw ≤ 2 ∧ (0 < nw → Ws (rgI m (m + nw)) M) ∧ (nw = 0 → M = []) ∧ M.length ≤ 2 ∧ e = [.own (some 0) (bxD b), .val (.int 7), .val (.int 2), .val (.int m), .own none (lI o), .no, .no, .val (.int nw), .val (lW M), .no, .no, .no, .no, .no]) ?_ ?_
  · simp [c__law_rich]
    refine (take_ok (m := 3) (by omega) (by omega) (by omega)).wp hb1 ?_
    rintro d b2 hb2 ⟨q, rfl, q1, q2⟩
    have hrd : ∀ a b : Int, rngD false a b = lI (rgI a b) := fun a b => by unfold rngD; rw [rngL_rgI]; rfl
    simp [hrd]
    refine ⟨fun h0 => ⟨⟨by omega, by omega, by omega, by omega, by omega⟩, ?_⟩, fun h0 => ⟨b2, hb2, q, q1, by omega, [], fun h => absurd h (by omega), fun _ => rfl, by simp, rfl, rfl, rfl⟩⟩
    have hne : rgI m (m + q) ≠ [] := fun e => by
      have := congrArg List.length e
      rw [rgI_len, List.length_nil] at this
      omega
    have hlen : (rgI m (m + q)).length ≤ 2 := by rw [rgI_len]; omega
    refine (show Gen Tb n' i__law_grown [lI (rgI m (m + q)), .int 2] _ from grown_ok (by omega) hne (rgI_nd _ _) (by omega) (by omega) (by omega)).wp hb2 ?_
    rintro d b3 hb3 ⟨M, rfl, hM, _, M2⟩
    simp
    exact ⟨b3, hb3, q, q1, by omega, M, fun _ => hM, fun h => absurd h (by omega), by have := M2 hlen; omega, rfl, rfl, rfl⟩
  rintro e ⟨b2, nw, M, hb2, n0, n2, hM, hM0, M2, rfl⟩
  have eo : lI o = .lst (o.map .int) := rfl
  have hfa : ∀ {A B : List (List Int)}, Ws (rgI 0 m) A → Ws (rgI 0 (m + nw)) B → (∀ w ∈ A, w ∈ B) → A.length ≤ 40 → B.length ≤ 40 → Rich m nw (famL A) (famL B) := fun {A B} hA hB hs ha hb => ⟨hA.fam, hB.fam, fun w hw => mem_famL.mpr (hs w (mem_famL.mp hw)), Nat.le_trans (famL_len A) ha, Nat.le_trans (famL_len B) hb, m1, m6, n0, n2⟩
  refine wpD_cutS 1 (fun e => ∃ (b : Box) (x y z : Sl), BxOk b ∧ e = [.own (some 0) (bxD b), .val (.int 7), .val (.int 2), .val (.int m), .own none (lI o), .no, .no, .val (.int nw), .val (lW M), x, y, z, .no, .no]) ?_ ?_
  · simp [c__law_rich]
    refine ⟨fun h0 => ⟨fun hm1 => ?_, fun _ => ⟨b2, hb2, rfl⟩⟩, fun _ => ⟨b2, hb2, rfl⟩⟩
    refine (take_ok (m := 2) (by omega) (by omega) (by omega)).wp hb2 ?_
    rintro d b3 hb3 ⟨q, rfl, q1, q2⟩
    simp
    refine ⟨fun _ => ?_, fun _ => ⟨b3, hb3, rfl⟩⟩
    refine (take_ok (m := m - 1) (by omega) (by omega) (by omega)).wp hb3 ?_
    rintro d b4 hb4 ⟨c', rfl, c0, c1⟩
    obtain ⟨c, hc⟩ : ∃ c, c = 1 + c' := ⟨_, rfl⟩
    obtain ⟨t1, t2, t3, t4, t5, t6, t7⟩ := split_ok (c := c) hond (by omega) (by omega)
    have hp1 : slcD none (some c) (lI o) = some (lI (o.take c.toNat)) := by rw [eo, z_slcD_l, slcS_pre (by omega), ← List.map_take]; rfl
    have hp2 : slcD (some c) none (lI o) = some (lI (o.drop c.toNat)) := by rw [eo, z_slcD_l, slcS_suf (by omega), ← List.map_drop]; rfl
    have hsp := List.take_append_drop c.toNat o
    simp [← hc, hp1, hp2]
    refine (pair_of_ok (n := n') (by omega) t1 t3 (by omega)).wp hb4 ?_
    rintro d b5 hb5 ⟨A1, B1, rfl, P1, a1, b1'⟩
    simp [hp2]
    refine (pair_of_ok (n := n') (by omega) t2 t4 (by omega)).wp hb5 ?_
    rintro d b6 hb6 ⟨A2, B2, rfl, P2', a2, b2'⟩
    have hmul : mulOk ((B1.length : Int) + (M.length : Int)) (B2.length : Int) = true := mulOk_l (by omega) (by omega)
    have cb := catW (W := B1) (U := M) (by omega) (by omega)
    simp [lW_len, hmul, cb]
    refine ⟨fun h20 => ?_, fun _ => ⟨b6, hb6, rfl⟩⟩
    have hjn := P1.jn P2' t5
    rw [hsp] at hjn
    have hMw := hM h0
    have hdis : ∀ k ∈ o.take c.toNat ++ rgI m (m + nw), k ∉ o.drop c.toNat := fun k hk hk2 => by
      rcases List.mem_append.mp hk with hk | hk
      · exact t5 k hk hk2
      · have h1 := mem_rgI.mp hk
        have h2 := mem_rgI.mp ((hmem k).mp (List.mem_of_mem_drop hk2))
        omega
    have hB : Ws (rgI 0 (m + nw)) (jn (B1 ++ M) B2) := ((P1.b.app hMw).jn P2'.b hdis).congr fun k => by
      rw [rgI_app (by omega) n0, ← hmem]
      have : k ∈ o ↔ k ∈ o.take c.toNat ∨ k ∈ o.drop c.toNat := by rw [← List.mem_append, hsp]
      rw [this]
      simp only [List.mem_append]
      constructor
      · rintro ((h | h) | h) <;> simp [h]
      · rintro ((h | h) | h) <;> simp [h]
    have hA : Ws (rgI 0 m) (jn A1 A2) := hjn.a.congr fun k => (hmem k).symm
    have hsub : ∀ w ∈ jn A1 A2, w ∈ jn (B1 ++ M) B2 := jn_mono (fun w hw => List.mem_append_left _ (P1.sub w hw)) P2'.sub
    have hal : (jn A1 A2).length ≤ 36 := by rw [jn_len]; exact Nat.le_trans (Nat.mul_le_mul a1 a2) (by decide)
    have hbl : (jn (B1 ++ M) B2).length ≤ 20 := by
      rw [jn_len, List.length_append]
      have : (((B1.length + M.length) * B2.length : Nat) : Int) = ((B1.length : Int) + (M.length : Int)) * (B2.length : Int) := by rw [Int.natCast_mul, Int.natCast_add]
      omega
    have hR := hfa hA hB hsub (by omega) (by omega)
    have hML : (rgI m (m + nw)).length ≤ 2 := by rw [rgI_len]; omega
    refine (joinedW (n := n') (by omega) (by omega) (by omega) P1.a P2'.a (by omega) (by omega)).wp ?_
    rintro d rfl
    simp
    refine (lfamily_ok (n := n') (by omega) (fun w hw => (hA.way w hw).1) (by omega)).wp ?_
    rintro d rfl
    simp [cb]
    refine (joinedW (n := n') (by omega) (by rw [List.length_append]; omega) (by omega) (P1.b.app hMw) P2'.b (by rw [List.length_append]; omega) (by omega)).wp ?_
    rintro d rfl
    simp
    refine (lfamily_ok (n := n') (by omega) (fun w hw => (hB.way w hw).1) (by omega)).wp ?_
    rintro d rfl
    simp [hz3]
    exact ⟨b6, hb6, ⟨m, nw, _, _, ⟨rfl, rfl, rfl⟩, hR⟩, rfl⟩
  rintro e ⟨b3, x, y, z, hb3, rfl⟩
  apply wpD_of
  simp [c__law_rich]
  refine (pair_ok (n := n') (by omega) hone hond (by omega)).wp hb3 ?_
  rintro d b4 hb4 ⟨A, B, rfl, P, al, bl⟩
  have cb := catW (W := B) (U := M) (by omega) (by omega)
  have hA : Ws (rgI 0 m) A := P.a.congr fun k => (hmem k).symm
  have hB : Ws (rgI 0 (m + nw)) (B ++ M) := by
    by_cases h0 : 0 < nw
    · exact (P.b.app (hM h0)).congr fun k => by rw [rgI_app (by omega) n0, List.mem_append, hmem]
    · have : nw = 0 := by omega
      rw [hM0 this, List.append_nil, this, Int.add_zero]
      exact P.b.congr fun k => (hmem k).symm
  have hR := hfa hA hB (fun w hw => List.mem_append_left _ (P.sub w hw)) (by omega) (by rw [List.length_append]; omega)
  simp [cb]
  refine (lfamily_ok (n := n') (by omega) (fun w hw => (hA.way w hw).1) (by omega)).wp ?_
  rintro d rfl
  simp
  refine (lfamily_ok (n := n') (by omega) (fun w hw => (hB.way w hw).1) (by rw [List.length_append]; omega)).wp ?_
  rintro d rfl
  simp [hz3]
  exact ⟨b4, hb4, ⟨m, nw, _, _, ⟨rfl, rfl, rfl⟩, hR⟩, rfl⟩
end K
set_option Elab.async false
set_option linter.all false
set_option maxRecDepth 20000
namespace K
open PySem PC
@[simp] theorem z_permR {α : Type} {pm : List Nat} {l : List α} : permR pm l = pm.filterMap (l[·]?) := rfl
theorem new_ways_ok {n : Nat} {A B : List (List Int)} (hn : 1 ≤ n) (hB : B.length ≤ 100) : Fun Tb n i_new_ways [tW A, tW B] fun d => d = tW (B.filter fun w => decide (w ∉ A)) := by
  refine Fun.of (wp_def hn at_new_ways rfl fun n' hn' => ?_)
  have hL : LINE = 16777216 := rfl
  have ea : tW A = .tup (A.map tupI) := rfl
  have eb : tW B = .tup (B.map tupI) := rfl
  rw [ea, eb]
  simp [c_new_ways]
  refine ⟨by omega, ?_⟩
  refine comp_emb (f := tupI) [_, _, .no] (fun w => decide (w ∉ A)) tupI rfl rfl (fun w hw => ?_) ?_
  · simp
  · simp [tW]
theorem fthings_ok {n : Nat} {m : Int} {ws : List (List Int)} (hn : 2 ≤ n) (m0 : 0 ≤ m) (m1 : m ≤ 100) (hl : ws.length ≤ 100) (h : Ws (rgI 0 m) ws) : Fun Tb n i_family_things [tW ws] fun d => d = .int m := by
  refine Fun.of (wp_def (by omega) at_family_things rfl fun n' hn' => ?_)
  simp [c_family_things]
  refine (joinedT_ok (n := n') (by omega) fun w hw => ⟨pw_nd (h.way w hw).2, fun k hk => by have := mem_rgI.mp ((h.full k).mpr ⟨w, hw, hk⟩); omega⟩).wp ?_
  rintro d ⟨us, rfl, u1, u2⟩
  have := nd_eq_len (m := m) u1 fun k => by rw [u2, ← h.full k, mem_rgI]
  simp [tupI, this]
  omega
theorem rng_tup (a b : Int) : rngD true a b = tupI (rgI a b) := by
  unfold rngD
  rw [rngL_rgI]
  rfl
theorem new_things_ok {n : Nat} {m nw : Int} {A B : List (List Int)} (hn : 3 ≤ n) (R : Rich m nw A B) : Fun Tb n i_new_things [tW A, tW B] fun d => d = tupI (rgI m (m + nw)) := by
  refine Fun.of (wp_def (by omega) at_new_things rfl fun n' hn' => ?_)
  have hL : LINE = 16777216 := rfl
  have h1 := R.m1
  have h6 := R.m6
  have h0 := R.n0
  have h2 := R.n2
  have al := R.al
  have bl := R.bl
  simp [c_new_things]
  refine (fthings_ok (n := n') (m := m) (by omega) (by omega) (by omega) (by omega) R.a).wp ?_
  rintro d rfl
  simp
  refine (fthings_ok (n := n') (m := m + nw) (by omega) (by omega) (by omega) (by omega) R.b).wp ?_
  rintro d rfl
  simp [rng_tup]
  omega
theorem okTs_of {n : Nat} : ∀ {xs : List D}, (∀ x ∈ xs, okT x n = true) → okTs xs n = true
  | [], _ => by simp [okTs]
  | x :: xs, h => by simp [okTs, h x List.mem_cons_self, okTs_of fun y hy => h y (List.mem_cons_of_mem _ hy)]
theorem okT_tupI (r : List Int) (h : Nat) : okT (tupI r) (h + 1) = true := by
  rw [tupI, okT]
  exact okTs_of fun x hx => by
    obtain ⟨o, _, rfl⟩ := List.mem_map.mp hx
    simp [okT]
theorem okT_tW (W : List (List Int)) : okT (tW W) 2 = true := by
  rw [tW, okT]
  exact okTs_of fun x hx => by
    obtain ⟨o, _, rfl⟩ := List.mem_map.mp hx
    exact okT_tupI _ _
theorem common_ok {n : Nat} {ls w : List Int} (hn : 1 ≤ n) (hl : ls.length < LINE) : Fun Tb n i_common_of [tupI ls, tupI w] fun d => d = tupI (ls.filter fun t => decide (t ∈ w)) := by
  refine Fun.of (wp_def hn at_common_of rfl fun n' hn' => ?_)
  have e1 : tupI ls = .tup (ls.map .int) := rfl
  have e2 : tupI w = .tup (w.map .int) := rfl
  rw [e1, e2]
  simp [c_common_of]
  refine ⟨hl, ?_⟩
  refine comp_emb (f := D.int) [_, _, .no] (fun t => decide (t ∈ w)) D.int rfl rfl (fun t ht => ?_) ?_
  · simp
  · simp [tupI]

/-! the least by size, then by itself -/
def keyW (w : List Int) : D := .tup [.int w.length, tupI w]
def pickW (w : List Int) (ws : List (List Int)) : List Int := ws.foldl (fun a v => if ltB (keyW v) (keyW a) then v else a) w
def leastD : List (List Int) → D
  | [] => .non
  | w :: ws => tupI (pickW w ws)
theorem minB_key : ∀ (ws : List (List Int)) (w : List Int), minB (keyW w) (ws.map keyW) = keyW (pickW w ws)
  | [], _ => rfl
  | v :: ws, w => by
    have e := minB_key ws (if ltB (keyW v) (keyW w) then v else w)
    show (ws.map keyW).foldl _ (if ltB (keyW v) (keyW w) then keyW v else keyW w) = keyW (ws.foldl _ (if ltB (keyW v) (keyW w) then v else w))
    cases h : ltB (keyW v) (keyW w) with
    | true => rw [h] at e; exact e
    | false => rw [h] at e; exact e
theorem minK_fold : ∀ (ws : List (List Int)) (w : List Int), (((ws.map tupI).zip (ws.map keyW)).foldl (fun a q => if ltB q.2 a.2 then q else a) (tupI w, keyW w)).1 = tupI (pickW w ws)
  | [], _ => rfl
  | v :: ws, w => by
    have e := minK_fold ws (if ltB (keyW v) (keyW w) then v else w)
    show (((ws.map tupI).zip (ws.map keyW)).foldl _ (if ltB (keyW v) (keyW w) then (tupI v, keyW v) else (tupI w, keyW w))).1 = tupI (ws.foldl _ (if ltB (keyW v) (keyW w) then v else w))
    cases h : ltB (keyW v) (keyW w) with
    | true => rw [h] at e; exact e
    | false => rw [h] at e; exact e
theorem minK_key (w : List Int) (ws : List (List Int)) : minK (((w :: ws).map tupI).zip ((w :: ws).map keyW)) = some (tupI (pickW w ws)) := by
  show some _ = _
  rw [← minK_fold]
  rfl
theorem sortOk_keys {ws : List (List Int)} (h : ws.length ≤ LINE) : sortOk (ws.map keyW) = true := by
  unfold sortOk
  have h1 : (ws.map keyW).all isTupC = true := by
    rw [List.all_eq_true]
    intro x hx
    obtain ⟨w, hw, rfl⟩ := List.mem_map.mp hx
    rfl
  have h2 : ((ws.map keyW).all fun x => (ws.map keyW).all fun y => likeB x y) = true := by
    rw [List.all_eq_true]
    intro x hx
    rw [List.all_eq_true]
    intro y hy
    obtain ⟨w, hw, rfl⟩ := List.mem_map.mp hx
    obtain ⟨v, hv, rfl⟩ := List.mem_map.mp hy
    simp [keyW, tupI, likeB, likeBs, likeBs_ints]
  have h3 : okDs (ws.map keyW) 60 = true := okDs_of fun x hx => by
    obtain ⟨w, hw, rfl⟩ := List.mem_map.mp hx
    simp [keyW, okD, okDs]
  rw [h1, h2, h3]
  simp [h]
theorem nco_tups (ws : List (List Int)) : (ws.map tupI).all (fun d => !isCo d) = true := by
  rw [List.all_eq_true]
  intro x hx
  obtain ⟨w, hw, rfl⟩ := List.mem_map.mp hx
  rfl
theorem nco_keys (ws : List (List Int)) : (ws.map keyW).all (fun d => !isCo d) = true := by
  rw [List.all_eq_true]
  intro x hx
  obtain ⟨w, hw, rfl⟩ := List.mem_map.mp hx
  rfl
theorem size_ok {n : Nat} (w : List Int) (hn : 1 ≤ n) : Fun Tb n i_by_size [tupI w] fun d => d = keyW w := by
  refine Fun.of (wp_def hn at_by_size rfl fun n' hn' => ?_)
  have hL : LINE = 16777216 := rfl
  have e : tupI w = .tup (w.map .int) := rfl
  rw [e]
  simp [c_by_size]
  refine ⟨by omega, ?_⟩
  simp [keyW, e]
theorem keys_mapM {n : Nat} (hn : 1 ≤ n) : ∀ ws : List (List Int), (ws.map tupI).mapM (fun x => (run Tb n i_by_size [.val x]).map (·.1)) = some (ws.map keyW)
  | [] => rfl
  | w :: ws => by
    obtain ⟨d, hd, h⟩ := size_ok w hn
    rw [List.map_cons, List.mapM_cons, keys_mapM hn ws]
    have h' : run Tb n i_by_size [.val (tupI w)] = some (d, [.val (tupI w)]) := h
    rw [h', hd]
    rfl
/-- the new ways all of whose things are old -/
def bareW (m : Int) (A B : List (List Int)) : List (List Int) := B.filter fun w => decide (w ∉ A) && w.all fun k => decide (k < m)
theorem thing_fault_ok {n : Nat} {m nw : Int} {A B : List (List Int)} (hn : 5 ≤ n) (R : Rich m nw A B) : Fun Tb n i_thing_fault [tW A, tW B] fun d => d = leastD (bareW m A B) := by
  refine Fun.of (wp_defD (by omega) at_thing_fault rfl fun n' hn' => ?_)
  have hL : LINE = 16777216 := rfl
  have bl := R.bl
  have hnwl : (B.filter fun w => decide (w ∉ A)).length ≤ B.length := List.length_filter_le _ _
  refine wpD_cutS 1 (fun e => e = [.val (tW A), .val (tW B), .val (lW (bareW m A B)), .no]) ?_ ?_
  · simp [c_thing_fault]
    refine (new_ways_ok (n := n') (A := A) (B := B) (by omega) (by omega)).wp ?_
    rintro d rfl
    have et : ∀ W, tW W = .tup (W.map tupI) := fun _ => rfl
    rw [et (List.filter _ _)]
    simp
    refine ⟨Nat.lt_of_le_of_lt (List.length_filter_le _ _) (by omega), ?_⟩
    refine comp_emb (f := tupI) [.val (tW A), .val (tW B), .no, .no] (fun w => decide ((w.filter fun t => decide (t ∈ rgI m (m + nw))) = [])) tupI rfl rfl (fun w hw => ?_) ?_
    · have hwB : w ∈ B := (List.mem_filter.mp hw).1
      have hwl := R.b.len hwB
      rw [rgI_len] at hwl
      have m6 := R.m6
      have n2 := R.n2
      simp
      refine (new_things_ok (n := n') (by omega) R).wp ?_
      rintro d rfl
      simp
      refine (common_ok (n := n') (ls := w) (w := rgI m (m + nw)) (by omega) (by omega)).wp ?_
      rintro d rfl
      have et2 : ∀ W, tupI W = .tup (W.map .int) := fun _ => rfl
      generalize hg : (w.filter fun t => decide (t ∈ rgI m (m + nw))) = g
      rw [et2 g]
      simp
      refine ⟨fun h a ha hc => ?_, fun h => ?_⟩
      · rw [h] at hg
        exact absurd (decide_eq_true hc) (List.filter_eq_nil_iff.mp hg a ha)
      · obtain ⟨x, hx⟩ := List.exists_mem_of_ne_nil g h
        rw [← hg] at hx
        obtain ⟨h1, h2⟩ := List.mem_filter.mp hx
        exact ⟨x, h1, of_decide_eq_true h2⟩
    · have e : ((B.filter fun w => decide (w ∉ A)).filter fun w => decide ((w.filter fun t => decide (t ∈ rgI m (m + nw))) = [])) = bareW m A B := by
        rw [List.filter_filter]
        unfold bareW
        refine List.filter_congr fun w hwB => ?_
        have hrng : ∀ k ∈ w, 0 ≤ k ∧ k < m + nw := fun k hk => mem_rgI.mp ((R.b.full k).mpr ⟨w, hwB, hk⟩)
        rw [Bool.and_comm]
        congr 1
        rw [Bool.eq_iff_iff, decide_eq_true_iff, List.filter_eq_nil_iff, List.all_eq_true]
        constructor
        · intro h k hk
          have h1 := h k hk
          have h2 := hrng k hk
          rw [decide_eq_true_iff, mem_rgI] at h1
          rw [decide_eq_true_iff]
          omega
        · intro h k hk
          have h1 := h k hk
          rw [decide_eq_true_iff] at h1
          rw [decide_eq_true_iff, mem_rgI]
          omega
      have e2 : ((B.filter fun w => !decide (w ∈ A)).filter fun w => decide ((w.filter fun t => decide (t ∈ rgI m (m + nw))) = [])) = bareW m A B := by rw [← e]; simp
      first | rw [e2] | rw [e]
      simp [lW]
  rintro e rfl
  apply wpD_of
  have hbl : (bareW m A B).length ≤ B.length := List.length_filter_le _ _
  generalize bareW m A B = W at hbl ⊢
  cases W with
  | nil =>
    simp [c_thing_fault, lW, leastD]
  | cons w ws =>
    have hk := keys_mapM (n := n') (by omega) (w :: ws)
    have hok : keyOk ((w :: ws).map tupI) ((w :: ws).map keyW) = true := by
      unfold keyOk
      rw [sortOk_keys (by omega), nco_tups]
      simp
      simp at hbl
      omega
    have hm := minK_key w ws
    have hwl : wlsD (lW (w :: ws)) = some ((w :: ws).map tupI) := rfl
    have hpos : (0 : Int) < ((w :: ws).length : Int) := by simp
    have hll := lW_len (W := w :: ws)
    generalize (w :: ws).map keyW = ks at hk hok hm
    generalize (w :: ws).map tupI = xs at hk hok hm hwl
    generalize lW (w :: ws) = L at hwl hll ⊢
    simp [c_thing_fault, hll, hwl, hk, hok, hm, leastD, hpos]

theorem lsts_map (ws : List (List Int)) : lstsOf (ws.map lI) = some (ws.map fun w => w.map D.int)
  := by
  induction ws with
  | nil => rfl
  | cons w ws ih =>
    show (lstsOf (ws.map lI)).map _ = _
    rw [ih]
    rfl
theorem flat_ints (ws : List (List Int)) : (ws.map fun w => w.map D.int).flatten = ws.flatten.map .int := by
  induction ws with
  | nil => rfl
  | cons w ws ih => rw [List.map_cons, List.flatten_cons, ih, List.flatten_cons, List.map_append]
theorem flat_len {c : Nat} : ∀ {ws : List (List Int)}, (∀ w ∈ ws, w.length ≤ c) → ws.flatten.length ≤ ws.length * c
  | [], _ => by simp
  | w :: ws, h => by
    have h1 := h w List.mem_cons_self
    have h2 := flat_len (ws := ws) fun v hv => h v (List.mem_cons_of_mem _ hv)
    rw [List.flatten_cons, List.length_append, List.length_cons, Nat.add_mul]
    omega
theorem bare_ok {n : Nat} {m nw : Int} {A B : List (List Int)} (hn : 1 ≤ n) (R : Rich m nw A B) : Fun Tb n i__law_bare [tW A, tW B] fun d => d = lW (bareW m A B) := by
  refine Fun.of (wp_defD (by omega) at__law_bare rfl fun n' hn' => ?_)
  have hL : LINE = 16777216 := rfl
  have bl := R.bl
  have al := R.al
  have hA0 : A.length ≠ 0 := fun h => R.a.ne (List.eq_nil_of_length_eq_zero h)
  have ea : tW A = .tup (A.map tupI) := rfl
  have eb : tW B = .tup (B.map tupI) := rfl
  have hlenA : ∀ w ∈ A, w.length ≤ 9 := fun w hw => by
    have := R.a.len hw
    rw [rgI_len] at this
    have := R.m6
    omega
  have hlenB : ∀ w ∈ B, w.length ≤ 9 := fun w hw => by
    have := R.b.len hw
    rw [rgI_len] at this
    have := R.m6
    have := R.n2
    omega
  have hfl : A.flatten.length ≤ 400 := Nat.le_trans (flat_len hlenA) (by omega)
  refine wpD_cutS 1 (fun e => e = [.val (tW A), .val (tW B), .val (.lst (A.flatten.map .int)), .no, .no]) ?_ ?_
  · simp [c__law_bare]
    rw [ea]
    simp
    refine ⟨by omega, ?_⟩
    rw [← ea]
    refine comp_map (f := tupI) [.val (tW A), .val (tW B), .no, .no, .no] lI rfl rfl (fun w hw => ?_) ?_
    · have e : tupI w = .tup (w.map .int) := rfl
      rw [e]
      simp [lI]
    · have h1 := lsts_map A
      have h2 := flat_ints A
      have h3 : biD .sumL [.lst (A.map lI), .lst []] = some (.lst (A.flatten.map .int)) := by
        rw [z_biD_sumLL, h1, Option.bind_some, h2, if_pos ⟨by rw [List.length_map]; exact hA0, by rw [List.length_map]; omega⟩]
      generalize A.map lI = xs at h3
      simp [h3]
  rintro e rfl
  apply wpD_of
  generalize ho : A.flatten = old at hfl
  have hold : ∀ k, k ∈ old ↔ k ∈ rgI 0 m := fun k => by
    rw [← ho, R.a.full k, List.mem_flatten]
  simp [c__law_bare]
  rw [eb]
  simp
  refine ⟨by omega, ?_⟩
  rw [← eb]
  refine comp_emb (f := tupI) [.val (tW A), .val (tW B), .val (.lst (old.map .int)), .no, .no] (fun w => decide (w ∉ A) && w.all fun k => decide (k < m)) tupI rfl rfl (fun w hw => ?_) ?_
  · have hrng : ∀ k ∈ w, 0 ≤ k ∧ k < m + nw := fun k hk => mem_rgI.mp ((R.b.full k).mpr ⟨w, hw, hk⟩)
    have hwl := hlenB w hw
    rw [ea]
    simp
    refine ⟨fun hA => ?_, fun h1 h2 => absurd h1 h2⟩
    have ew : tupI w = .tup (w.map .int) := rfl
    have hit : itOf (tupI w) = some (w.map .int) := by rw [ew]; rfl
    simp only [hit, wpV_some]
    refine ⟨by rw [List.length_map]; omega, ?_⟩
    refine comp_emb (f := D.int) [.val (.tup (A.map tupI)), .val (tW B), .val (.lst (old.map .int)), .val (tupI w), .no] (fun k => decide (k ∉ old)) (fun _ => .int 1) rfl rfl (fun k hk => ?_) ?_
    · simp
    · generalize hg : (w.filter fun k => decide (k ∉ old)) = g
      have h3 : g = [] ↔ ∀ k ∈ w, k < m := by
        rw [← hg, List.filter_eq_nil_iff]
        constructor
        · intro h k hk
          have h1 := h k hk
          have h2 := hrng k hk
          rw [decide_eq_true_iff, hold, mem_rgI] at h1
          omega
        · intro h k hk
          have h1 := h k hk
          have h2 := hrng k hk
          rw [decide_eq_true_iff, hold, mem_rgI]
          omega
      have h4 : (∃ x, x ∈ w ∧ m ≤ x) ↔ ¬ ∀ k ∈ w, k < m := by
        constructor
        · rintro ⟨x, h1, h2⟩ h
          have := h x h1
          omega
        · intro h
          by_cases h' : ∃ x, x ∈ w ∧ m ≤ x
          · exact h'
          · exact absurd (fun k hk => by
              by_cases h5 : k < m
              · exact h5
              · exact absurd ⟨k, hk, by omega⟩ h') h
      have e1 : g.map (fun _ => D.int 1) = (g.map fun _ => (1 : Int)).map .int := by rw [List.map_map]; rfl
      rw [e1]
      simp [h4, ← h3, hA]
      rw [← List.map_map]
      exact z_okDs_ints _
  · simp [lW, bareW]
end K
set_option Elab.async false
set_option linter.all false
set_option maxRecDepth 20000
namespace K
open PySem PC
theorem Rich.self {m nw : Int} {A B : List (List Int)} (R : Rich m nw A B) : Rich m 0 A A := ⟨R.a, by rw [Int.add_zero]; exact R.a, fun w h => h, R.al, R.al, R.m1, R.m6, by omega, by omega⟩
theorem bareW_self (m : Int) (A : List (List Int)) : bareW m A A = [] := List.filter_eq_nil_iff.mpr fun w hw => by simp [hw]
theorem okT_least (W : List (List Int)) : okT (leastD W) 1 = true := by
  cases W with
  | nil => rfl
  | cons w ws => exact okT_tupI _ _
def lastA : List (List Int) := [[0, 1, 2], [3, 4]]
def lastB : List (List Int) := [[0, 1, 2], [0, 3], [1, 2, 4], [3, 4]]
theorem last_rich : Rich 5 0 lastA lastB := by
  have mem5 : ∀ k : Int, k ∈ rgI 0 5 ↔ k = 0 ∨ k = 1 ∨ k = 2 ∨ k = 3 ∨ k = 4 := fun k => by rw [mem_rgI]; omega
  refine ⟨⟨by decide, by decide, fun k => ?_⟩, ⟨by decide, by decide, fun k => ?_⟩, by decide, by decide, by decide, by decide, by decide, by decide, by decide⟩
  · rw [mem5]
    simp [lastA]
    constructor
    · rintro (h | h | h | h | h) <;> simp [h]
    · rintro ((h | h | h) | (h | h)) <;> simp [h]
  · rw [show (5 : Int) + 0 = 5 from rfl, mem5]
    simp [lastB]
    constructor
    · rintro (h | h | h | h | h) <;> simp [h]
    · rintro ((h | h | h) | (h | h) | (h | h | h) | (h | h)) <;> simp [h]
theorem last_least : leastD (bareW 5 lastA lastB) = tupI [0, 3] := by
  have e : bareW 5 lastA lastB = [[0, 3], [1, 2, 4]] := by decide
  rw [e]
  rfl
theorem law_ok {n : Nat} (ns : List Int) (hn : 7 ≤ n) : Fun Tb n i_law [.scr (ns.map .int)] fun d => d = .bl true := by
  refine Fun.of (wp_defD (by omega) at_law rfl fun n' hn' => ?_)
  have hL : LINE = 16777216 := rfl
  obtain ⟨mk, hmk⟩ : ∃ mk : Int, mk = if 3 < if 8 < (ns.length : Int) then 8 else (ns.length : Int) then if 8 < (ns.length : Int) then 8 else (ns.length : Int) else 3 := ⟨_, rfl⟩
  have hm1 : 0 ≤ mk ∧ mk ≤ 8 := by rw [hmk]; split <;> split <;> omega
  refine wpD_cutS 1 (fun e => e = [.val (.scr (ns.map .int)), .no, .no, .no, .no, .no, .no, .no, .no]) ?_ ?_
  · simp [c_law, ← hmk]
    refine ⟨by omega, ?_⟩
    rw [rngL_rgI]
    refine for_embD (f := D.int) (σ := Unit) (fun _ => [.val (.scr (ns.map .int)), .no, .no, .no, .no, .no, .no, .no, .no]) (fun _ _ => True) () rfl trivial ?_ ?_
    · rintro dk k rk _ hk _
      have hkr := mem_rgI.mp (show k ∈ rgI 0 mk by rw [hk]; simp)
      simp
      refine wpD_cutS 2 (fun e => ∃ (b : Box) (m nw : Int) (A B : List (List Int)), Rich m nw A B ∧ e = [.val (.scr (ns.map .int)), .val (.int k), .own none (bxD b), .val (tW A), .val (tW B), .val (.int nw), .no, .no, .no]) ?_ ?_
      · simp
        refine (box_ok (n := n') (ns := ns) (k := k) (by omega) (by omega) (by omega)).wp ?_
        rintro d ⟨b0, hb0, rfl⟩
        have hco : isCo (bxD b0) = true := rfl
        simp [hco]
        refine (rich_ok (n := n') (by omega)).wp hb0 ?_
        rintro d b1 hb1 ⟨m, nw, A, B, rfl, R⟩
        simp
        exact ⟨b1, m, nw, A, B, R, rfl, ⟨rfl, rfl, rfl⟩⟩
      rintro e ⟨b, m, nw, A, B, R, rfl⟩
      have hbl : (bareW m A B).length ≤ 40 := Nat.le_trans (List.length_filter_le _ _) R.bl
      refine wpD_cutS 2 (fun e => ∃ z, e = [.val (.scr (ns.map .int)), .val (.int k), .own none (bxD b), .val (tW A), .val (tW B), .val (.int nw), z, .val (leastD (bareW m A B)), .no]) ?_ ?_
      · have hbare := bare_ok (n := n') (by omega) R
        generalize bareW m A B = W at hbl hbare ⊢
        simp
        refine hbare.wp ?_
        rintro d rfl
        cases W with
        | nil =>
          simp [lW, leastD]
        | cons w ws =>
          have hok : biD .minT [.lst ((w :: ws).map keyW)] = some (keyW (pickW w ws)) := by
            show biD .minT [.lst (keyW w :: ws.map keyW)] = _
            rw [z_biD_minTL, if_pos, minB_key]
            rw [Bool.and_eq_true]
            exact ⟨sortOk_keys (ws := w :: ws) (by omega), nco_keys (w :: ws)⟩
          have eL : lW (w :: ws) = .lst ((w :: ws).map tupI) := rfl
          have hne : eqD (.lst ((w :: ws).map tupI)) (.lst []) = false := by simp [eqD, eqDs]
          have okl : okD (.lst ((w :: ws).map tupI)) 60 = true := by
            simp [okD]
          rw [eL]
          simp only [List.map_cons] at hne okl
          simp [hne, okl]
          have hl2 : ws.length + 1 ≤ 40 := hbl
          refine ⟨by omega, ?_⟩
          refine comp_map (f := tupI) (ks := w :: ws) [.val (.scr (ns.map .int)), .val (.int k), .own none (bxD b), .val (tW A), .val (tW B), .val (.int nw), .val (.lst (tupI w :: ws.map tupI)), .no, .no] keyW rfl rfl (fun v hv => ?_) ?_
          · have e : biD .len [tupI v] = some (.int v.length) := by rw [show tupI v = .tup (v.map .int) from rfl]; simp
            simp [e]
            refine ⟨by omega, rfl⟩
          · have hi : idxD (keyW (pickW w ws)) (.int 1) = some (tupI (pickW w ws)) := rfl
            simp only [List.map_cons] at hok
            simp [hok, hi, leastD]
      rintro e ⟨z, rfl⟩
      apply wpD_of
      simp
      refine (thing_fault_ok (n := n') (by omega) R).wp ?_
      rintro d rfl
      simp
      refine (same_ok (n := n') (h := 1) (by omega) (okT_least _)).wp ?_
      rintro d rfl
      simp
      refine (thing_fault_ok (n := n') (by omega) R.self).wp ?_
      rintro d rfl
      rw [bareW_self]
      simp [leastD]
      refine (same_ok (n := n') (h := 1) (d := .non) (by omega) rfl).wp ?_
      rintro d rfl
      simp
    · intro _ _
      simp
  rintro e rfl
  apply wpD_of
  have e1 : D.tup [.tup [.int 0, .int 1, .int 2], .tup [.int 3, .int 4]] = tW lastA := rfl
  have e2 : D.tup [.tup [.int 0, .int 1, .int 2], .tup [.int 0, .int 3], .tup [.int 1, .int 2, .int 4], .tup [.int 3, .int 4]] = tW lastB := rfl
  simp [c_law]
  refine ⟨by omega, by omega, by omega, by omega, by omega, by omega, by omega, ?_⟩
  rw [e1, e2]
  refine (thing_fault_ok (n := n') (by omega) last_rich).wp ?_
  rintro d rfl
  rw [last_least, show D.tup [D.int 0, D.int 3] = tupI [0, 3] from rfl]
  simp
  refine ⟨by omega, ?_⟩
  refine (same_ok (n := n') (h := 1) (by omega) (okT_tupI _ _)).wp ?_
  rintro d rfl
  simp
end K
set_option Elab.async false
set_option linter.all false
set_option maxRecDepth 100000
set_option maxHeartbeats 0
namespace K
open PySem PySem.Spec PyProof.Rows L2 PC
/-! the row: its defs -/
def topS (i : Nat) : Stmt := PySem.Challenge.pw_sameorapart_k25_new_ways_without_a_new_t.main.body.getD i (.Pass ⟨0, 0, 0, 0⟩)
def t_common_of : DefT := ⟨"common_of", defArgs (topS 1), defBody (topS 1), defScope (topS 1), ["one", "two"], ["one", "two", "entry"], [], d_common_of, false, []⟩
def t_joined_lots : DefT := ⟨"joined_lots", defArgs (topS 2), defBody (topS 2), defScope (topS 2), ["lots"], ["lots", "found", "lot", "entry"], [], d_joined_lots, false, []⟩
def t_family_things : DefT := ⟨"family_things", defArgs (topS 4), defBody (topS 4), defScope (topS 4), ["family"], ["family"], [], d_family_things, false, []⟩
def t_new_ways : DefT := ⟨"new_ways", defArgs (topS 6), defBody (topS 6), defScope (topS 6), ["one", "two"], ["one", "two", "way"], [], d_new_ways, false, []⟩
def t_new_things : DefT := ⟨"new_things", defArgs (topS 7), defBody (topS 7), defScope (topS 7), ["one", "two"], ["one", "two"], [], d_new_things, false, []⟩
def t_by_size : DefT := ⟨"by_size", defArgs (topS 8), defBody (topS 8), defScope (topS 8), ["lot"], ["lot"], [], d_by_size, false, []⟩
def t_thing_fault : DefT := ⟨"thing_fault", defArgs (topS 9), defBody (topS 9), defScope (topS 9), ["one", "two"], ["one", "two", "some", "way"], [], d_thing_fault, false, [(["one", "two"], [0, 1])]⟩
def t__law_box : DefT := ⟨"_law_box", defArgs (topS 11), defBody (topS 11), defScope (topS 11), ["script", "k"], ["script", "k", "cell", "great"], [], d__law_box, true, []⟩
def t__law_take : DefT := ⟨"_law_take", defArgs (topS 12), defBody (topS 12), defScope (topS 12), ["box", "many"], ["box", "many", "digit", "raw"], [], d__law_take, false, []⟩
def t__law_same : DefT := ⟨"_law_same", defArgs (topS 13), defBody (topS 13), defScope (topS 13), ["told", "due"], ["told", "due", "one", "other"], [], d__law_same, false, []⟩
def t__law_joined : DefT := ⟨"_law_joined", defArgs (topS 14), defBody (topS 14), defScope (topS 14), ["one", "two"], ["one", "two", "found", "way", "other"], [], d__law_joined, false, []⟩
def t__law_family : DefT := ⟨"_law_family", defArgs (topS 15), defBody (topS 15), defScope (topS 15), ["ways"], ["ways"], [], d__law_family, false, []⟩
def t__law_pair : DefT := ⟨"_law_pair", defArgs (topS 16), defBody (topS 16), defScope (topS 16), ["box", "things"], ["box", "things", "kind", "cut", "lots", "first", "second", "one", "spot", "some"], [], d__law_pair, false, []⟩
def t__law_pair_of : DefT := ⟨"_law_pair_of", defArgs (topS 17), defBody (topS 17), defScope (topS 17), ["box", "things"], ["box", "things", "cut", "lots", "one", "ways", "spot", "some"], [], d__law_pair_of, false, []⟩
def t__law_grown : DefT := ⟨"_law_grown", defArgs (topS 18), defBody (topS 18), defScope (topS 18), ["box", "things", "most"], ["box", "things", "most", "ways", "cut", "thing"], [], d__law_grown, false, []⟩
def t__law_rich : DefT := ⟨"_law_rich", defArgs (topS 19), defBody (topS 19), defScope (topS 19), ["box", "most", "news"], ["box", "most", "news", "many", "order", "spot", "other", "new", "more", "cut", "first", "second", "one", "two"], [], d__law_rich, false, []⟩
def t__law_bare : DefT := ⟨"_law_bare", defArgs (topS 20), defBody (topS 20), defScope (topS 20), ["one", "two"], ["one", "two", "old", "way", "thing"], [], d__law_bare, true, []⟩
def t_law : DefT := ⟨"law", defArgs (topS 21), defBody (topS 21), defScope (topS 21), ["script"], ["script", "k", "box", "one", "two", "new", "bare", "due", "way"], [], d_law, false, []⟩
def T : List DefT := [t_common_of, t_joined_lots, t_family_things, t_new_ways, t_new_things, t_by_size, t_thing_fault, t__law_box, t__law_take, t__law_same, t__law_joined, t__law_family, t__law_pair, t__law_pair_of, t__law_grown, t__law_rich, t__law_bare, t_law]
theorem T_Tb : T.map (·.df) = Tb := rfl
def G : List (Str × D) := []
theorem bn_common_of : BndOk t_common_of := bnd_plain rfl (fun kV doc pm an cdv ct us hl => match us, (show us.length = 2 from hl) with | [_, _], _ => rfl) (fun q hq => nomatch hq)
theorem bn_joined_lots : BndOk t_joined_lots := bnd_plain rfl (fun kV doc pm an cdv ct us hl => match us, (show us.length = 1 from hl) with | [_], _ => rfl) (fun q hq => nomatch hq)
theorem bn_family_things : BndOk t_family_things := bnd_plain rfl (fun kV doc pm an cdv ct us hl => match us, (show us.length = 1 from hl) with | [_], _ => rfl) (fun q hq => nomatch hq)
theorem bn_new_ways : BndOk t_new_ways := bnd_plain rfl (fun kV doc pm an cdv ct us hl => match us, (show us.length = 2 from hl) with | [_, _], _ => rfl) (fun q hq => nomatch hq)
theorem bn_new_things : BndOk t_new_things := bnd_plain rfl (fun kV doc pm an cdv ct us hl => match us, (show us.length = 2 from hl) with | [_, _], _ => rfl) (fun q hq => nomatch hq)
theorem bn_by_size : BndOk t_by_size := bnd_plain rfl (fun kV doc pm an cdv ct us hl => match us, (show us.length = 1 from hl) with | [_], _ => rfl) (fun q hq => nomatch hq)
theorem bn_thing_fault : BndOk t_thing_fault := by
  refine bnd_plain rfl (fun kV doc pm an cdv ct us hl => match us, (show us.length = 2 from hl) with | [_, _], _ => rfl) fun q hq kV doc pm an cdv ct ws hl => ?_
  rcases List.mem_cons.mp hq with rfl | hq
  · exact match ws, (show ws.length = 2 from hl) with | [_, _], _ => rfl
  cases hq
theorem bn__law_box : BndOk t__law_box := bnd_plain rfl (fun kV doc pm an cdv ct us hl => match us, (show us.length = 2 from hl) with | [_, _], _ => rfl) (fun q hq => nomatch hq)
theorem bn__law_take : BndOk t__law_take := bnd_plain rfl (fun kV doc pm an cdv ct us hl => match us, (show us.length = 2 from hl) with | [_, _], _ => rfl) (fun q hq => nomatch hq)
theorem bn__law_same : BndOk t__law_same := bnd_plain rfl (fun kV doc pm an cdv ct us hl => match us, (show us.length = 2 from hl) with | [_, _], _ => rfl) (fun q hq => nomatch hq)
theorem bn__law_joined : BndOk t__law_joined := bnd_plain rfl (fun kV doc pm an cdv ct us hl => match us, (show us.length = 2 from hl) with | [_, _], _ => rfl) (fun q hq => nomatch hq)
theorem bn__law_family : BndOk t__law_family := bnd_plain rfl (fun kV doc pm an cdv ct us hl => match us, (show us.length = 1 from hl) with | [_], _ => rfl) (fun q hq => nomatch hq)
theorem bn__law_pair : BndOk t__law_pair := bnd_plain rfl (fun kV doc pm an cdv ct us hl => match us, (show us.length = 2 from hl) with | [_, _], _ => rfl) (fun q hq => nomatch hq)
theorem bn__law_pair_of : BndOk t__law_pair_of := bnd_plain rfl (fun kV doc pm an cdv ct us hl => match us, (show us.length = 2 from hl) with | [_, _], _ => rfl) (fun q hq => nomatch hq)
theorem bn__law_grown : BndOk t__law_grown := bnd_plain rfl (fun kV doc pm an cdv ct us hl => match us, (show us.length = 3 from hl) with | [_, _, _], _ => rfl) (fun q hq => nomatch hq)
theorem bn__law_rich : BndOk t__law_rich := bnd_plain rfl (fun kV doc pm an cdv ct us hl => match us, (show us.length = 3 from hl) with | [_, _, _], _ => rfl) (fun q hq => nomatch hq)
theorem bn__law_bare : BndOk t__law_bare := bnd_plain rfl (fun kV doc pm an cdv ct us hl => match us, (show us.length = 2 from hl) with | [_, _], _ => rfl) (fun q hq => nomatch hq)
theorem bn_law : BndOk t_law := bnd_plain rfl (fun kV doc pm an cdv ct us hl => match us, (show us.length = 1 from hl) with | [_], _ => rfl) (fun q hq => nomatch hq)
theorem bn_all : ∀ d ∈ T, BndOk d := by
  intro d hd
  simp only [T, List.mem_cons, List.not_mem_nil, or_false] at hd
  rcases hd with rfl | rfl | rfl | rfl | rfl | rfl | rfl | rfl | rfl | rfl | rfl | rfl | rfl | rfl | rfl | rfl | rfl | rfl
  · exact bn_common_of
  · exact bn_joined_lots
  · exact bn_family_things
  · exact bn_new_ways
  · exact bn_new_things
  · exact bn_by_size
  · exact bn_thing_fault
  · exact bn__law_box
  · exact bn__law_take
  · exact bn__law_same
  · exact bn__law_joined
  · exact bn__law_family
  · exact bn__law_pair
  · exact bn__law_pair_of
  · exact bn__law_grown
  · exact bn__law_rich
  · exact bn__law_bare
  · exact bn_law
theorem chk_all : ∀ d ∈ T, d.df.pm = none ∧ chkD (sigs T) G d = true := by
  have h : T.all (fun d => d.df.pm.isNone && chkD (sigs T) G d) = true := by decide +kernel
  intro d hd
  have := List.all_eq_true.mp h d hd
  simp only [Bool.and_eq_true, Option.isNone_iff_eq_none] at this
  exact this
theorem run_all (ns : List Int) : ∃ o, PC.run (T.map (·.df)) 7 i_law [.val (.scr (ns.map .int))] = some (.bl true, o) := by
  obtain ⟨d, rfl, h⟩ := law_ok (n := 7) ns (by omega)
  exact ⟨_, h⟩
/-! the head -/
def fa : List He.Fa := facs T G
def fn : List He.DefD := T.map defO
abbrev R0 : PySem.W.OpenRow := PySem.W.OpenLaw.row PySem.Challenge.rw_sameorapart_k25_new_ways_without_a_new_t
abbrev hk : PySem.W.Hook := He.hookD 4 fa fn
def ob (s : PySem.W.SharedT) : He.AlD := He.obsDG 4 fa fn (HandSHeadRun.getT s)
theorem ob_eq (s : PySem.W.SharedT) : ob s = hk.obs s.abs := He.obsDG_eq (HandSHeadRun.getT_eq s)
def loose : List Str := (["common_of", "joined_lots", "family_things", "new_ways", "new_things", "by_size", "thing_fault", "_law_box", "_law_take", "_law_same", "_law_joined", "_law_family", "_law_pair", "_law_pair_of", "_law_grown", "_law_rich", "_law_bare"] : List Str)
theorem run0 (w : World) : HandSHeadRun.RunEq R0 (PySem.W.view R0.prog [21]) hk ob 6000 loose w := by
  intro os
  kernel_rfl
end K
open PySem PySem.W PySem.Calls PyProof.Rows
theorem PySem.Challenge.cw_sameorapart_k25_new_ways_without_a_new_t_holds : PySem.Challenge.rw_sameorapart_k25_new_ways_without_a_new_t.Holds := by
  w_on; o_law
  refine HandSHeadRun.head_any (r := OpenLaw.row PySem.Challenge.rw_sameorapart_k25_new_ways_without_a_new_t) (q := view (OpenLaw.row PySem.Challenge.rw_sameorapart_k25_new_ways_without_a_new_t).prog [21]) (H := K.hk) (ob := K.ob) (M := 6000) (loose := K.loose) (d := HandSHeadRun.topDef (OpenLaw.row PySem.Challenge.rw_sameorapart_k25_new_ways_without_a_new_t).prog 21) (kwd := []) K.ob_eq
    (by kernel_rfl) (fun s => by kernel_rfl) K.run0 (by kernel_rfl) (by kernel_rfl) (by kernel_rfl) (by rfl) (by first | assumption | decide +kernel) (by decide +kernel) ⟨rfl, rfl, rfl, rfl, rfl, by decide +kernel⟩ ?hw ?hc
  case hw => w_witness2
  case hc =>
    exact PC.walk_core (l := PySem.Challenge.rw_sameorapart_k25_new_ways_without_a_new_t) (T := K.T) (G := K.G) (k := 7) (f := K.i_law) (dl := K.t_law) rfl (by kernel_rfl) ⟨rfl, by decide, by decide⟩ (by kernel_rfl) rfl rfl rfl
      (fun _ _ _ F s v => L2.FunD.bindsA (ps := ["script"]) F (fun _ _ _ _ _ _ us hl => match us, (show us.length = 1 from hl) with | [_], _ => rfl) s [v] rfl)
      K.chk_all K.bn_all rfl K.run_all
