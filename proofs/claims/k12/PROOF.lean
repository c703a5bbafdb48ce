import PyProof.Rows.All
import Wide.All
import OpenK.AllK
import Wide.FinOn
import KE.DataMinMax
import HandS.Deep
import HandS.ForMost
import HandS.ForExc
import HandS.Wide
import HandS.Walk
import HandS.Rev
import HandS.TupAny
import HandS.TupMul
import HandS.SortInts
import HandS.Gcd
import HandS.EndBits
import HandS.ExcInit
import HandS.ExcField
import HandS.Style
import HandS.Conv
import HandS.SetFor
import HandS.Strs
import HandS.Text
import HandS.IsInst
import PyProof.ListRange
import HandS.TupLe
import HandS.Replace
import HandS.More
import HandS.Proxy
import HandS.Iter
import HandS.Zip
import KE.GoesMore
import KE.GoesEnum
import HandS.SetKeys
import HandS.Small
import HandS.TryOnly
import HandS.Defaults
import HandS.Head0
import HandS.Head1
import HandS.Head2
import HandS.HeadEnd
import HandS.HeadHook1
import HandS.HeadHook2
import HandS.HeadHook3
import HandS.HeadHook4
import HandS.Codes
import HandS.Head3
import PySem.Challenge.RW_knothouse_k12_canonical_words
import KE.DatumOrd
set_option Elab.async false
set_option linter.all false
set_option maxRecDepth 100000
/-! a small evaluator of the subset of Python that the program and the laws use: data by value, one owner each -/
namespace Kh
open PySem L2

/-- what never changes -/
inductive I where
  | non | bl (b : Bool) | int (i : Int) | str (s : Str) | tup (xs : List I)
/-- a value: what never changes, or a thing with one owner; scr: the script -/
inductive D where
  | im (x : I) | tup (xs : List D) | lst (xs : List D) | dct (t : Bool) (kvs : List (I × D)) | scr (ns : List Int)
/-- a name's place: empty, its own value, a borrowed one (read only) -/
inductive Slot where
  | no | own (d : D) | bor (d : D)
abbrev En := List Slot
/-- a result: a value and the places, an error of a class with code and place, or nothing is said -/
inductive Out (α : Type) where
  | ok (a : α) (e : En) | exc (c : Str) (x y : I) (e : En) | bad
def Out.bind {α β : Type} : Out α → (α → En → Out β) → Out β
  | .ok a e, f => f a e
  | .exc c x y e, _ => .exc c x y e
  | .bad, _ => .bad
def lift {α : Type} (o : Option α) (e : En) : Out α := match o with
  | some a => .ok a e
  | none => .bad

inductive Op where | add | sub | mul | mod | fdiv | pow
inductive Cm where | eq | ne | lt | le | gt | ge | isN | notN | inn | nin
/-- what an except suite says: the caught error's code and place, a name's value that never changes -/
inductive HE where
  | code | place | cst (x : I) | var (i : Nat) | pair (a b : HE) | eq (a b : HE) | ite (p q a b : HE) | ite2 (p q r s a b : HE)
inductive Hs where
  | rt (e : HE) | ct
/-- built-in functions -/
inductive Bi where | len | tuple | list | int | abs | min | max | sum | any | all | sorted | str | gcd | range
/-- methods that only read -/
inductive Me where | get | index | count | join | split | replace
/-- methods that change their object -/
inductive Mm where | append | extend | pop | insert | remove | setdefault | sort
mutual
inductive Tg where | name (i : Nat) | tup (ts : Tgs)
inductive Tgs where | nil | cons (t : Tg) (r : Tgs)
end

mutual
inductive E where
  | var (i : Nat) | cst (x : I) | glob (x : Str)
  | tup (es : Es) | lst (es : Es) | dnew
  | bin (op : Op) (a b : E) | neg (a : E) | not (a : E)
  | cmp (op : Cm) (a b : E) | chain (o1 o2 : Cm) (a b c : E)
  | one (a : E) | and (a b : E) | or (a b : E) | ite (c a b : E)
  | ix (a b : E) | sl (a : E) (lo hi : Eo) | rev (a : E)
  | ixv (i : Nat) (b : E) | slv (i : Nat) (lo hi : Eo)
  | lrange (es : Es) | disp (ks vs : List I) | dispD (ks : List I) (vs : List D) | isin (a : E) (t : Str) | gin (neg : Bool) (x : Str) (a : E) | gix (x : Str) (a : E) | gcd (a b : E)
  | call (f : Str) (es : Es)
  | bi (f : Bi) (es : Es)
  | me (m : Me) (r : E) (es : Es)
  | mut (m : Mm) (i : Nat) (es : Es)
  | lc (w : Wk) (tg : Tg) (own : List (Str × Nat)) (c : Eo) (elt : E)
inductive Es where | nil | cons (e : E) (r : Es)
inductive Eo where | no | so (e : E)
/-- what a for walks -/
inductive Wk where
  | it (e : E) | range (es : Es) | rev (e : E) | enum (e : E) | zip (a b : E) | items (e : E)
end
mutual
inductive S where
  | setv (i : Nat) (e : E) | asg (t : Tg) (e : E) | unp (ts : Tgs) (e : E) | par (i j : Nat) (a b : E)
  | ret (e : E) | retN | expr (e : E) | doc
  | ifs (c : E) (a b : Ss) | fors (w : Wk) (t : Tg) (dead : List Nat) (body : Ss) | whiles (c : E) (dead : List Nat) (body : Ss)
  | raise (c : Str) (es : Es) | tryx (body : Ss) (c : Str) (v : Option Nat) (suite : Hs)
  | pass | brk | cont
  | setix (i : Nat) (path : Es) (e : E) | swapix (i : Nat) (p q : E)
inductive Ss where | nil | cons (s : S) (r : Ss)
end

/-! ### data -/
def ims : List D → Option (List I)
  | [] => some []
  | .im x :: r => (ims r).map (x :: ·)
  | _ :: _ => none
def mkTup (ds : List D) : D := match ims ds with
  | some xs => .im (.tup xs)
  | none => .tup ds
def intsOf : List I → Option (List Int)
  | [] => some []
  | .int i :: r => (intsOf r).map (i :: ·)
  | _ :: _ => none
mutual
def I.py : I → PyData
  | .non => .none
  | .bl b => .bool b
  | .int i => .int i
  | .str s => .str s
  | .tup xs => .tuple (I.pys xs)
def I.pys : List I → List PyData
  | [] => []
  | x :: xs => I.py x :: I.pys xs
end
mutual
/-- equal as Python has it; True and 1 are equal there: such pairs are left out -/
def I.eq : I → I → Option Bool
  | .non, .non => some true
  | .bl a, .bl b => some (a == b)
  | .int a, .int b => some (a == b)
  | .str a, .str b => some (a == b)
  | .tup a, .tup b => I.eqs a b
  | .bl _, .int _ => none
  | .int _, .bl _ => none
  | _, _ => some false
def I.eqs : List I → List I → Option Bool
  | [], [] => some true
  | x :: xs, y :: ys => (I.eq x y).bind fun e => (I.eqs xs ys).map fun r => e && r
  | _, _ => some false
end
mutual
/-- nested at most n deep -/
def I.shal : Nat → I → Bool
  | _, .str s => PyData.strOk s
  | 0, .tup _ => false
  | n + 1, .tup xs => I.shals n xs
  | _, _ => true
def I.shals : Nat → List I → Bool
  | _, [] => true
  | n, x :: xs => I.shal n x && I.shals n xs
end
def big : Nat := 1000000
/-- a list of data as what never changes, for == -/
def D.seen : D → Option I
  | .im x => some x
  | _ => none
def lkup (k : I) : List (I × D) → Option (Option D)
  | [] => some none
  | (j, d) :: r => (I.eq j k).bind fun e => if e then some (some d) else lkup k r
def dput (k : I) (v : D) : List (I × D) → Option (List (I × D))
  | [] => some [(k, v)]
  | (j, d) :: r => (I.eq j k).bind fun e => if e then some ((j, v) :: r) else (dput k v r).map ((j, d) :: ·)
def isKey : I → Bool
  | .int _ => true
  | .str _ => true
  | _ => false
def isKeyT : I → Bool
  | .tup xs => xs.all isKey
  | _ => false
def keyOk (t : Bool) (k : I) : Bool := !t && isKey k
/-- True and False alone -/
def boolsOf : List I → Option (List Bool)
  | [] => some []
  | .bl i :: r => (boolsOf r).map (i :: ·)
  | _ :: _ => none
def strsOf : List I → Option (List Str)
  | [] => some []
  | .str i :: r => (strsOf r).map (i :: ·)
  | _ :: _ => none
def cutStr (s : Str) (lo hi : Option Int) : Str := cutS s lo hi
def signs (s : Str) : List D := s.cps.toList.map fun c => .im (.str ⟨#[c]⟩)
def distinct : List I → Bool
  | [] => true
  | x :: r => (match memI0 x r with
    | some b => !b
    | none => false) && distinct r
where memI0 (x : I) : List I → Option Bool
  | [] => some false
  | y :: r => (I.eq y x).bind fun e => (memI0 x r).map fun q => e || q
def memI (x : I) : List I → Option Bool
  | [] => some false
  | y :: r => (I.eq y x).bind fun e => (memI x r).map fun q => e || q
/-- data that Python can order with one another -/
def alkI (zs : List I) : Bool := zs.all fun x => (zs.all fun y => PySem.W.alike (I.py x) (I.py y)) && (match x with | .non => false | _ => true)
def minI (y : I) (ys : List I) : I := ys.foldl (fun a z => if PySem.W.dataLt (I.py z) (I.py a) then z else a) y
/-- the least of the data, where they can be ordered -/
def minZ : List I → Option I
  | [] => none
  | y :: ys => if alkI (y :: ys) && I.shals 59 (y :: ys) then some (minI y ys) else none
def ltI : List Int → List Int → Bool := HT.lexLt

/-! ### operators by values -/
def binI : Op → Int → Int → Option Int
  | .add, i, j => some (i + j)
  | .sub, i, j => some (i - j)
  | .mul, i, j => if i.natAbs.log2 + j.natAbs.log2 < 1000000 then some (i * j) else none
  | .mod, i, j => if 0 < j then some (i % j) else if j < 0 then some (i.fmod j) else none
  | .fdiv, i, j => if (0 < j ∧ j.natAbs.log2 < 9000) then some (i / j) else if (j < 0 ∧ j.natAbs.log2 < 9000) then some (i.fdiv j) else none
  | .pow, i, j => if (0 ≤ j ∧ j ≤ 1000000 ∧ i.natAbs < 2 ^ 64) then some (i ^ j.toNat) else none
def binD : Op → D → D → Option D
  | op, .im (.int i), .im (.int j) => (binI op i j).map fun k => .im (.int k)
  | .add, .im (.tup xs), .im (.tup ys) => if xs.length + ys.length ≤ big then some (.im (.tup (xs ++ ys))) else none
  | .add, .im (.str a), .im (.str b) => if a.length + b.length ≤ big then some (.im (.str (a ++ b))) else none
  | .add, .lst xs, .lst ys => if xs.length + ys.length ≤ big then
      (match ims xs, ims ys with
        | some _, some _ => some (.lst (xs ++ ys))
        | _, _ => none) else none
  | .mul, .lst xs, .im (.int k) => if 0 ≤ k ∧ xs.length * k.toNat ≤ big ∧ k ≤ 1000000 then
      (match ims xs with
        | some _ => some (.lst (List.replicate k.toNat xs).flatten)
        | _ => none) else none
  | .mul, .im (.str s), .im (.int k) => if 0 ≤ k ∧ k ≤ 1000000 ∧ s.length * k.toNat ≤ big then some (.im (.str (Txt.mul s k))) else none
  | _, _, _ => none
def cmpI : Cm → Int → Int → Bool
  | .lt, i, j => decide (i < j)
  | .le, i, j => decide (i ≤ j)
  | .gt, i, j => decide (j < i)
  | .ge, i, j => decide (j ≤ i)
  | _, _, _ => false
def cmpD : Cm → D → D → Option Bool
  | .eq, .im (.str a), .im (.str b) => some (decide (a = b))
  | .ne, .im (.str a), .im (.str b) => some (!decide (a = b))
  | .eq, .im x, .im y => if I.shal 60 x && I.shal 60 y then I.eq x y else none
  | .ne, .im x, .im y => if I.shal 60 x && I.shal 60 y then (I.eq x y).map (!·) else none
  | .eq, .lst xs, .lst ys => (ims xs).bind fun a => (ims ys).bind fun b => if I.shals 59 a && I.shals 59 b then I.eqs a b else none
  | .ne, .lst xs, .lst ys => (ims xs).bind fun a => (ims ys).bind fun b => if I.shals 59 a && I.shals 59 b then (I.eqs a b).map (!·) else none
  | .isN, .im x, .im .non => some (match x with | .non => true | _ => false)
  | .notN, .im x, .im .non => some (match x with | .non => false | _ => true)
  | .isN, .im (.bl a), .im (.bl b) => some (decide (a = b))
  | .notN, .im (.bl a), .im (.bl b) => some (!decide (a = b))
  | .lt, .im (.int i), .im (.int j) => some (decide (i < j))
  | .le, .im (.int i), .im (.int j) => some (decide (i ≤ j))
  | .gt, .im (.int i), .im (.int j) => some (decide (j < i))
  | .ge, .im (.int i), .im (.int j) => some (decide (j ≤ i))
  | .inn, .im x, .im (.tup ys) => if isKey x && ys.all isKey then memI x ys else none
  | .nin, .im x, .im (.tup ys) => if isKey x && ys.all isKey then (memI x ys).map (!·) else none
  | .inn, .im (.str x), .im (.str y) => some (!(Builtin.Str.occurrences y x 0 y.length 1).isEmpty)
  | .nin, .im (.str x), .im (.str y) => some (!(!(Builtin.Str.occurrences y x 0 y.length 1).isEmpty))
  | .inn, .im x, .lst ys => (ims ys).bind fun b => if isKey x && b.all isKey then memI x b else if I.shal 60 x && I.shals 59 b then memI x b else none
  | .nin, .im x, .lst ys => (ims ys).bind fun b => if isKey x && b.all isKey then (memI x b).map (!·) else if I.shal 60 x && I.shals 59 b then (memI x b).map (!·) else none
  | .inn, .im x, .dct t kvs => if keyOk t x then (lkup x kvs).map (·.isSome) else none
  | .nin, .im x, .dct t kvs => if keyOk t x then (lkup x kvs).map (!·.isSome) else none
  | _, _, _ => none
/-- o[i] -/
def ixD : D → D → Option D
  | .im (.tup xs), .im (.int i) => (atI xs i).map .im
  | .tup xs, .im (.int i) => atI xs i
  | .lst xs, .im (.int i) => atI xs i
  | .scr ns, .im (.int i) => (atI ns i).map fun n => .im (.int n)
  | .im (.str s), .im (.int i) => if s.length ≤ big then (atI s.cps.toList i).map fun c => .im (.str ⟨#[c]⟩) else none
  | .dct t kvs, .im k => if keyOk t k then (lkup k kvs).join else none
  | _, _ => none
/-- the same, dicts left out -/
def ixV : D → D → Option D
  | .dct _ _, _ => none
  | x, y => ixD x y
def cutL {α : Type} (xs : List α) (lo hi : Option Int) : List α := (xs.drop (HT.sIx xs.length 0 lo)).take (HT.sIx xs.length xs.length hi - HT.sIx xs.length 0 lo)
def slD : D → Option Int → Option Int → Option D
  | .im (.tup xs), lo, hi => some (.im (.tup (cutL xs lo hi)))
  | .lst xs, lo, hi => (ims xs).map fun _ => .lst (cutL xs lo hi)
  | .im (.str s), lo, hi => if s.length ≤ big then some (.im (.str (cutS s lo hi))) else none
  | _, _, _ => none
/-- x[::-1] -/
def revD : D → Option D
  | .lst xs => (ims xs).map fun _ => .lst xs.reverse
  | .im (.tup xs) => if xs.length ≤ big then some (.im (.tup xs.reverse)) else none
  | _ => none
/-- isinstance -/
def isinD (t : Str) : I → Option Bool
  | .str _ => if t == "str" then some true else if t == "tuple" ∨ t == "int" then some false else none
  | .tup _ => if t == "tuple" then some true else if t == "str" ∨ t == "int" then some false else none
  | .int _ => if t == "int" then some true else if t == "str" ∨ t == "tuple" then some false else none
  | _ => none
def minL : List Int → Option Int
  | [] => none
  | x :: r => some (r.foldl min x)
def maxL : List Int → Option Int
  | [] => none
  | x :: r => some (r.foldl max x)
def biD : Bi → List D → Option D
  | .len, [.im (.tup xs)] => some (.im (.int xs.length))
  | .len, [.tup xs] => some (.im (.int xs.length))
  | .len, [.lst xs] => some (.im (.int xs.length))
  | .len, [.scr xs] => some (.im (.int xs.length))
  | .len, [.dct false xs] => some (.im (.int xs.length))
  | .len, [.im (.str s)] => if s.length ≤ big then some (.im (.int s.length)) else none
  | .tuple, [.im (.tup xs)] => some (.im (.tup xs))
  | .tuple, [.lst xs] => (ims xs).map fun ys => .im (.tup ys)
  | .list, [.im (.tup xs)] => some (.lst (xs.map .im))
  | .list, [.lst xs] => (ims xs).map fun _ => .lst xs
  | .list, [.scr ns] => some (.lst (ns.map fun n => .im (.int n)))
  | .int, [.im (.int i)] => some (.im (.int i))
  | .abs, [.im (.int i)] => some (.im (.int i.natAbs))
  | .min, [.im (.int i), .im (.int j)] => some (.im (.int (min i j)))
  | .max, [.im (.int i), .im (.int j)] => some (.im (.int (max i j)))
  | .sum, [.lst xs] => ((ims xs).bind intsOf).map fun ns => .im (.int ns.sum)
  | .sorted, [.dct false kvs] => (intsOf (kvs.map (·.1))).map fun ns => .lst ((ns.mergeSort (fun a b => decide (a ≤ b))).map fun n => .im (.int n))
  | .sorted, [.lst xs] => ((ims xs).bind intsOf).map fun ns => .lst ((ns.mergeSort (fun a b => decide (a ≤ b))).map fun n => .im (.int n))
  | .sorted, [.im (.tup xs)] => (intsOf xs).map fun ns => .lst ((ns.mergeSort (fun a b => decide (a ≤ b))).map fun n => .im (.int n))
  | .any, [.lst xs] => ((ims xs).bind boolsOf).map fun bs => .im (.bl (bs.any id))
  | .all, [.lst xs] => ((ims xs).bind boolsOf).map fun bs => .im (.bl (bs.all id))
  | .min, [.lst xs] => ((((ims xs).bind intsOf).bind minL).map fun n => .im (.int n)).or (((ims xs).bind minZ).map fun z => .im z)
  | .max, [.lst xs] => (((ims xs).bind intsOf).bind maxL).map fun n => .im (.int n)
  | .gcd, [.im (.int i), .im (.int j)] => some (.im (.int ((Nat.gcd i.natAbs j.natAbs : Nat) : Int)))
  | .str, [.im (.int i)] => if i.natAbs.log2 < 1000 then some (.im (.str (toString i))) else none
  | .int, [.im (.str s)] => if s.length ≤ 640 then (PySem.intText? s).map fun n => .im (.int n) else none
  | _, _ => none
def getIm (d : I) : Option D → Option D
  | none => some (.im d)
  | some (.im x) => some (.im x)
  | some _ => none
def meD : Me → D → List I → Option D
  | .get, .dct t kvs, [k, d] => if keyOk t k then (lkup k kvs).bind (getIm d) else none
  | _, _, _ => none
/-- the place of the first item that is x -/
def findI (x : I) : List I → Option (Option Nat)
  | [] => some none
  | y :: r => (I.eq y x).bind fun e => if e then some (some 0) else (findI x r).map fun o => o.map (· + 1)
def cntI (x : I) : List I → Option Nat
  | [] => some 0
  | y :: r => (I.eq y x).bind fun e => (cntI x r).map fun n => if e then n + 1 else n
/-- methods with data alone, that change nothing -/
def mxD : Me → D → List D → Option D
  | .index, .lst xs, [.im x] => (ims xs).bind fun ys => if isKey x && ys.all isKey then (findI x ys).join.map fun (j : Nat) => D.im (.int (j : Int)) else none
  | .count, .lst xs, [.im (.int x)] => ((ims xs).bind intsOf).map fun ns => .im (.int (ns.count x : Nat))
  | .count, .im (.str s), [.im (.str t)] => some (.im (.int (Txt.count s t)))
  | .index, .im (.str s), [.im (.str t)] => match Builtin.Str.occurrences s t 0 s.length 1 with
    | i :: _ => some (.im (.int (i : Nat)))
    | [] => none
  | .join, .im (.str s), [.lst xs] => ((ims xs).bind strsOf).bind fun ys => if (ys.map (·.length)).sum + ys.length * s.length ≤ big then some (.im (.str (Txt.join s ys))) else none
  | .split, .im (.str s), [.im (.str t)] => if t.length ≠ 0 ∧ s.length ≤ big then some (.lst ((Txt.split s t).map fun x => .im (.str x))) else none
  | _, _, _ => none
def mxOk : Me → D → Bool
  | .index, .lst _ => true | .count, .lst _ => true
  | .index, .im (.str _) => true | .count, .im (.str _) => true | .join, .im (.str _) => true | .split, .im (.str _) => true
  | _, _ => false
/-- a method's receiver -/
def meOk : Me → D → Bool
  | .get, .dct false _ => true
  | _, _ => false
/-- what a for walks -/
def wkD : D → Option (List D)
  | .im (.tup xs) => some (xs.map .im)
  | .lst xs => some xs
  | .scr ns => some (ns.map fun n => .im (.int n))
  | .im (.str s) => some (signs s)
  | _ => none
/-- constants as a displayed dict has them -/
def constD : D → Bool
  | .im (.tup xs) => xs.all isKey && decide (xs.length ≤ 100)
  | .im x => isKey x
  | .lst ds => match ims ds with
    | some xs => xs.all isKey && decide (xs.length ≤ 100)
    | none => false
  | _ => false
/-- what is unpacked: a tuple or list of what never changes -/
def itemsIm : D → Option (List I)
  | .im (.tup xs) => some xs
  | .lst ds => ims ds
  | _ => none
def wkR : D → Option (List D)
  | .im (.tup xs) => some (xs.map .im)
  | .lst xs => some xs
  | .scr ns => some (ns.map fun n => .im (.int n))
  | _ => none
/-- what enumerate gives -/
def enumL : Nat → List D → List D
  | _, [] => []
  | k, d :: r => mkTup [.im (.int k), d] :: enumL (k + 1) r
def zipL : List D → List D → List D
  | x :: xs, y :: ys => mkTup [x, y] :: zipL xs ys
  | _, _ => []
/-- what enumerate is served for -/
def enumD : D → Option (List D)
  | .im (.tup xs) => some (xs.map .im)
  | .lst xs => some xs
  | .im (.str s) => some (signs s)
  | _ => none
def zipD : D → D → Option (List D × List D)
  | .im (.tup xs), .im (.tup ys) => some (xs.map .im, ys.map .im)
  | .lst xs, .lst ys => some (xs, ys)
  | _, _ => none
def rangeS (lo c : Int) (n : Nat) : List D := (List.range n).map fun (i : Nat) => .im (.int (lo + (i : Int) * c))
def rangeL (lo : Int) (n : Nat) : List D := (List.range n).map fun (i : Nat) => .im (.int (lo + (i : Int)))
def mutD : Mm → D → List D → Option (D × D)
  | .append, .lst xs, [d] => if xs.length < big then some (.im .non, .lst (xs ++ [d])) else none
  | .extend, .lst xs, [.lst ys] => if xs.length + ys.length ≤ big then some (.im .non, .lst (xs ++ ys)) else none
  | .pop, .lst xs, [] => (xs.getLast?).map fun d => (d, .lst xs.dropLast)
  | .pop, .lst xs, [.im (.int i)] => (if xs.length ≤ big then ixN xs.length i else none).bind fun k => (ims xs).bind fun ys => ys[k]?.map fun y => (.im y, .lst (xs.eraseIdx k))
  | .insert, .lst xs, [.im (.int i), .im y] => if xs.length < big ∧ 0 ≤ i ∧ i ≤ big then (ims xs).map fun _ => (.im .non, .lst (xs.take i.toNat ++ [.im y] ++ xs.drop i.toNat)) else none
  | _, _, _ => none
def Mm.sup : Mm → Bool
  | .append => true | .extend => true | .pop => true | .insert => true
  | _ => false
def Mm.sd : Mm → Bool
  | .setdefault => true
  | _ => false
def setD : D → D → D → Option D
  | .lst xs, .im (.int i), v => (ixN xs.length i).map fun j => .lst (xs.set j v)
  | .dct t kvs, .im k, v => if keyOk t k && decide (kvs.length < big) then (dput k v kvs).map (.dct t ·) else none
  | _, _, _ => none

/-! ### targets -/
def keepS (d : D) (b : Bool) : Slot := match d with
  | .im _ => .own d
  | _ => if b then .bor d else .own d
mutual
def bindT : Tg → D → Bool → En → Option En
  | .name i, d, b, e => if i < e.length then some (e.set i (keepS d b)) else none
  | .tup ts, .im (.tup xs), b, e => bindTs ts (xs.map .im) b e
  | .tup ts, .tup ds, b, e => bindTs ts ds b e
  | .tup _, _, _, _ => none
def bindTs : Tgs → List D → Bool → En → Option En
  | .nil, [], _, e => some e
  | .cons t r, d :: ds, b, e => (bindT t d b e).bind fun e => bindTs r ds b e
  | _, _, _, _ => none
end
mutual
def Tg.slots : Tg → List Nat
  | .name i => [i]
  | .tup ts => ts.slots
def Tgs.slots : Tgs → List Nat
  | .nil => []
  | .cons t r => t.slots ++ r.slots
end

/-! ### what an expression may take its value from; which change nothing -/
def Es.len : Es → Nat
  | .nil => 0
  | .cons _ r => r.len + 1
def E.src : E → List Nat
  | .var i => [i]
  | .ix a _ => a.src
  | .ite _ a b => a.src ++ b.src
  | .one a => a.src
  | .and _ b => b.src
  | .or _ b => b.src
  | _ => []
def Wk.src : Wk → List Nat
  | .it e | .rev e | .enum e | .items e => e.src
  | .zip a b => a.src ++ b.src
  | .range _ => []
mutual
def E.pure : E → Bool
  | .var _ | .cst _ | .glob _ | .dnew => true
  | .bin _ a b => a.pure && b.pure
  | .neg a | .not a | .one a | .rev a => a.pure
  | .lrange es => es.pure
  | .disp _ _ => true
  | .dispD _ _ => true
  | .isin a _ | .gin _ _ a | .gix _ a => a.pure
  | .gcd a b => a.pure && b.pure
  | .cmp _ a b | .and a b | .or a b => a.pure && b.pure
  | .chain _ _ a b c | .ite a b c => a.pure && b.pure && c.pure
  | .ix a b => a.pure && b.pure
  | .sl a lo hi => a.pure && lo.pure && hi.pure
  | .bi _ es => es.pure
  | .me _ r es => r.pure && es.pure
  | _ => false
def Es.pure : Es → Bool
  | .nil => true
  | .cons e r => e.pure && r.pure
def Eo.pure : Eo → Bool
  | .no => true
  | .so e => e.pure
end
def D.isIm : D → Bool
  | .im _ => true
  | _ => false
def Slot.isOwnMut : Slot → Bool
  | .own (.im _) => false
  | .own _ => true
  | _ => false
/-- places lent to a loop that reads from them -/
def lockAll : List Nat → En → En
  | [], e => e
  | i :: r, e => lockAll r (match e[i]? with
    | some (.own d) => if d.isIm then e else e.set i (.bor d)
    | _ => e)
def Slot.imOf : Slot → Slot
  | .own (.im x) => .own (.im x)
  | _ => .no
def Slot.borOf : Slot → Slot
  | .bor d => .bor d
  | _ => .no
/-- behind a loop: what was lent is owned again, what was borrowed in it is forgotten; own: a comprehension's names -/
def settleGo (src asg own : List Nat) : Nat → En → En → En
  | k, w :: ws, s :: ss => (if w.isOwnMut && src.contains k then w else if own.contains k then w.imOf else match s with
    | .bor _ => if asg.contains k then .no else w.borOf
    | s => s) :: settleGo src asg own (k + 1) ws ss
  | _, _, _ => []
def settle (was : En) (src asg own : List Nat) (e : En) : En := settleGo src asg own 0 was e
def clear : List Nat → En → En
  | [], e => e
  | i :: r, e => (clear r e).set i .no
def readS (i : Nat) (own : Bool) (e : En) : Out D := match e[i]? with
  | some (.own (.im x)) => .ok (.im x) e
  | some (.own d) => if own then .ok d (e.set i .no) else .ok d e
  | some (.bor (.im x)) => .ok (.im x) e
  | some (.bor d) => if own then .bad else .ok d e
  | _ => .bad
def lendS (i : Nat) (e : En) : Out (Slot × Option Nat) := match e[i]? with
  | some (.own (.im x)) => .ok (.own (.im x), none) e
  | some (.own d) => .ok (.own d, some i) (e.set i .no)
  | some (.bor d) => .ok (keepS d true, none) e
  | _ => .bad
def needIm (own : Bool) (d : D) (e : En) : Out D := if own then (if d.isIm then .ok d e else .bad) else .ok d e
/-- d.setdefault(k, v), data that never change -/
def sdO (i : Nat) (xs : List I) (e : En) : Out D := match e[i]?, xs with
  | some (.own (.dct false kvs)), [k, v] => if keyOk false k && decide (kvs.length < big) then (match lkup k kvs with
    | some none => (match dput k (.im v) kvs with
      | some kvs' => .ok (.im v) (e.set i (.own (.dct false kvs')))
      | none => .bad)
    | some (some (.im y)) => .ok (.im y) e
    | _ => .bad) else .bad
  | _, _ => .bad
/-- the first operand must stand still while the second one is reckoned -/
def still {α : Type} (d : D) (b : Bool) (o : Out α) : Out α := if d.isIm || b then o else .bad
def asBool (d : D) (e : En) : Out Bool := match d with
  | .im (.bl b) => .ok b e
  | _ => .bad
def asInt (d : D) (e : En) : Out Int := match d with
  | .im (.int i) => .ok i e
  | _ => .bad
def asIm (d : D) (e : En) : Out I := match d with
  | .im x => .ok x e
  | _ => .bad
def stillAll (ds : List D) : Bool := (ims ds).isSome
/-- the functions of the text: from the arguments' places to the value and the places behind -/
abbrev Fn := List Slot → Out D
structure Tab where
  fn : Str → Option Fn
  gl : Str → Option I
  gd : Str → Option (List (Str × I))
  im : Bool
  ec : List Str
/-- put back what was lent -/
def giveBack : List (Option Nat) → List Slot → En → Option En
  | some i :: r, f :: fs, e => (match e[i]? with
    | some .no => giveBack r fs (e.set i f)
    | _ => none)
  | none :: r, _ :: fs, e => giveBack r fs e
  | [], _, e => some e
  | _, _, _ => none
def callF (f : Fn) (as : List (Slot × Option Nat)) (e : En) : Out D := match f (as.map (·.1)) with
  | .ok d fin => (match giveBack (as.map (·.2)) fin e with
    | some e' => .ok d e'
    | none => .bad)
  | .exc c x y _ => .exc c x y e
  | .bad => .bad
/-- where no error may leave -/
def Out.nx {α : Type} : Out α → Out α
  | .ok a e => .ok a e
  | _ => .bad
/-- the turns of a comprehension -/
def lcGo (turn : D → En → Out (Option D)) : List D → En → Out (List D)
  | [], e => .ok [] e
  | d :: ds, e => (turn d e).bind fun o e => (lcGo turn ds e).bind fun r e => .ok (match o with
    | some y => y :: r
    | none => r) e
section
variable (T : Tab)
mutual
def evalE : E → Bool → En → Out D
  | .var i, own, e => readS i own e
  | .cst x, _, e => .ok (.im x) e
  | .glob x, _, e => lift ((T.gl x).map .im) e
  | .tup es, _, e => (evalEs es e).bind fun ds e => .ok (mkTup ds) e
  | .lst es, _, e => (evalEs es e).bind fun ds e => .ok (.lst ds) e
  | .dnew, _, e => .ok (.dct false []) e
  | .bin op a b, _, e => (evalE a false e).bind fun x e => still x (b.pure || a.src.isEmpty) ((evalE b false e).bind fun y e => lift (binD op x y) e)
  | .neg a, _, e => (evalE a false e).bind fun x e => (asInt x e).bind fun i e => .ok (.im (.int (-i))) e
  | .not a, _, e => (evalE a false e).bind fun x e => (asBool x e).bind fun b e => .ok (.im (.bl (!b))) e
  | .cmp op a b, _, e => (evalE a false e).bind fun x e => still x b.pure ((evalE b false e).bind fun y e => lift ((cmpD op x y).map fun b => .im (.bl b)) e)
  | .chain o1 o2 a b c, _, e => (evalE a false e).bind fun x e => (asInt x e).bind fun i e => (evalE b false e).bind fun y e => (asInt y e).bind fun j e =>
      if cmpI o1 i j then (evalE c false e).bind fun z e => (asInt z e).bind fun k e => .ok (.im (.bl (cmpI o2 j k))) e else .ok (.im (.bl false)) e
  | .one a, own, e => evalE a own e
  | .and a b, own, e => (evalE a false e).bind fun x e => (asBool x e).bind fun k e => if k then evalE b own e else .ok (.im (.bl false)) e
  | .or a b, own, e => (evalE a false e).bind fun x e => (asBool x e).bind fun k e => if k then .ok (.im (.bl true)) e else evalE b own e
  | .ite c a b, own, e => (evalT c e).bind fun k e => if k then evalE a own e else evalE b own e
  | .ix a b, own, e => (evalE a false e).bind fun x e => (still x b.pure ((evalE b false e).bind fun y e => lift (ixD x y) e)).bind fun d e => needIm own d e
  | .sl a lo hi, _, e => (evalE a false e).bind fun x e => still x (lo.pure && hi.pure) ((evalO lo e).bind fun l e => (evalO hi e).bind fun h e => lift (slD x l h) e)
  | .ixv i b, _, e => (readS i false e).bind fun _ e => (evalE b false e).bind fun y e => (readS i false e).bind fun x e => (lift (ixV x y) e).bind fun d e => if d.isIm then .ok d e else .bad
  | .slv i lo hi, _, e => (readS i false e).bind fun _ e => (evalO lo e).bind fun l e => (evalO hi e).bind fun h e => (readS i false e).bind fun x e => lift (slD x l h) e
  | .rev a, _, e => (evalE a false e).bind fun x e => lift (revD x) e
  | .lrange es, _, e => if es.len = 0 ∨ 2 < es.len then .bad else (evalBs es e).bind fun ds e => (match ds with
    | [.int j] => if j ≤ 1000000 ∧ -1000000 ≤ j then .ok (.lst (rangeL 0 j.toNat)) e else .bad
    | [.int i, .int j] => if (j ≤ 1000000 ∧ -1000000 ≤ j) ∧ (i ≤ 1000000 ∧ -1000000 ≤ i) then .ok (.lst (rangeL i (j - i).toNat)) e else .bad
    | _ => .bad)
  | .disp ks vs, _, e => if ks.length ≤ 15 ∧ ks.all isKey ∧ vs.all isKey ∧ distinct ks then .ok (.dct false (ks.zip (vs.map .im))) e else .bad
  | .dispD ks vs, _, e => if ks.length ≤ 15 ∧ ks.all isKey ∧ vs.all constD ∧ distinct ks then .ok (.dct false (ks.zip vs)) e else .bad
  | .gcd a b, _, e => if T.im then (evalE a false e).bind fun x e => still x b.pure ((evalE b false e).bind fun y e => lift (biD .gcd [x, y]) e) else .bad
  | .isin a t, _, e => (evalE a false e).bind fun x e => (asIm x e).bind fun x e => lift ((isinD t x).map fun b => .im (.bl b)) e
  | .gin neg x a, _, e => (match T.gd x with
    | some kvs => (evalE a false e).bind fun y e => (asIm y e).bind fun y e => (match y with
      | .str z => .ok (.im (.bl (neg != (kvs.lookup z).isSome))) e
      | _ => .bad)
    | none => .bad)
  | .gix x a, _, e => (match T.gd x with
    | some kvs => (evalE a false e).bind fun y e => (asIm y e).bind fun y e => (match y with
      | .str z => lift ((kvs.lookup z).map .im) e
      | _ => .bad)
    | none => .bad)
  | .call f es, _, e => match T.fn f with
    | some g => (evalAs es e).bind fun as e => callF g as e
    | none => .bad
  | .bi f es, _, e => match es with
    | .cons a .nil => (evalE a false e).bind fun x e => lift (biD f [x]) e
    | .cons a (.cons b .nil) => (evalE a false e).bind fun x e => still x b.pure ((evalE b false e).bind fun y e => lift (biD f [x, y]) e)
    | _ => .bad
  | .me m r es, _, e => match m with
    | .get => (evalE r false e).bind fun x e => if meOk m x then still x es.pure ((evalBs es e).bind fun xs e => lift (meD m x xs) e) else .bad
    | m => match es with
      | .cons a .nil => (evalE r false e).bind fun x e => if mxOk m x then still x a.pure ((evalE a false e).bind fun y e => lift (mxD m x [y]) e) else .bad
      | _ => .bad
  | .mut m i es, _, e => if Mm.sup m = false then (if Mm.sd m = true then (match e[i]? with
      | some (.own (.dct false _)) => (evalBs es e).bind fun xs e => sdO i xs e
      | _ => .bad) else .bad) else match e[i]? with
    | some (.own (.lst _)) => (evalEs es e).bind fun ds e => (match e[i]? with
      | some (.own d) => (match mutD m d ds with
        | some (r, d') => .ok r (e.set i (.own d'))
        | none => .bad)
      | _ => .bad)
    | _ => .bad
  | .lc w tg own c elt, _, e => (evalW w e).bind fun xs e => if xs.length ≤ big then
      (lcGo (fun d e => match bindT tg d true e with
        | some e1 => ((evalC c e1).bind fun k e2 => if k then (evalE elt true e2).bind fun y e3 => .ok (some y) (clear (own.map (·.2)) e3) else .ok none (clear (own.map (·.2)) e2)).nx
        | none => .bad) xs (clear (own.map (·.2)) (lockAll w.src e))).bind fun ys e' => .ok (.lst ys) (settle e w.src (own.map (·.2)) (own.map (·.2)) e') else .bad
def evalEs : Es → En → Out (List D)
  | .nil, e => .ok [] e
  | .cons a r, e => (evalE a true e).bind fun x e => (evalEs r e).bind fun xs e => .ok (x :: xs) e
/-- arguments that never change -/
def evalBs : Es → En → Out (List I)
  | .nil, e => .ok [] e
  | .cons a r, e => (evalE a false e).bind fun d e => (asIm d e).bind fun x e => (evalBs r e).bind fun xs e => .ok (x :: xs) e
/-- arguments of a call: a name's own thing is lent -/
def evalAs : Es → En → Out (List (Slot × Option Nat))
  | .nil, e => .ok [] e
  | .cons a r, e => (match a with
    | .var i => lendS i e
    | a => (evalE a true e).bind fun x e => .ok (Slot.own x, none) e).bind fun s e => (evalAs r e).bind fun ss e => .ok (s :: ss) e
def evalO : Eo → En → Out (Option Int)
  | .no, e => .ok none e
  | .so a, e => (evalE a false e).bind fun x e => (asInt x e).bind fun i e => .ok (some i) e
def evalC : Eo → En → Out Bool
  | .no, e => .ok true e
  | .so a, e => evalT a e
/-- a test -/
def evalT : E → En → Out Bool
  | .not a, e => (evalT a e).bind fun b e => .ok (!b) e
  | .one a, e => evalT a e
  | .and a b, e => (evalT a e).bind fun k e => if k then evalT b e else .ok false e
  | .or a b, e => (evalT a e).bind fun k e => if k then .ok true e else evalT b e
  | .ite _ _ _, _ => .bad
  | a, e => (evalE a false e).bind fun x e => asBool x e
def evalW : Wk → En → Out (List D)
  | .it a, e => (evalE a false e).bind fun x e => lift (wkD x) e
  | .rev a, e => (evalE a false e).bind fun x e => lift ((wkR x).map List.reverse) e
  | .range es, e => if es.len = 0 ∨ 3 < es.len then .bad else (evalEs es e).bind fun ds e => (match ds with
    | [.im (.int j)] => if j ≤ 1000000 ∧ -1000000 ≤ j then .ok (rangeL 0 j.toNat) e else .bad
    | [.im (.int i), .im (.int j)] => if (j ≤ 1000000 ∧ -1000000 ≤ j) ∧ (i ≤ 1000000 ∧ -1000000 ≤ i) then .ok (rangeL i (j - i).toNat) e else .bad
    | [.im (.int i), .im (.int j), .im (.int c)] => if c = -1 ∧ (j ≤ 1000000 ∧ -1000000 ≤ j) ∧ (i ≤ 1000000 ∧ -1000000 ≤ i) then .ok (rangeS i (-1) (i - j).toNat) e else .bad
    | _ => .bad)
  | .enum a, e => (evalE a false e).bind fun x e => lift ((enumD x).map (enumL 0)) e
  | .zip a b, e => (evalE a false e).bind fun x e => still x b.pure ((evalE b false e).bind fun y e => lift ((zipD x y).map fun p => zipL p.1 p.2) e)
  | .items _, _ => .bad
end
end

end Kh

set_option Elab.async false
set_option linter.all false
set_option maxRecDepth 100000
set_option maxHeartbeats 2000000
/-! rules that the hand layer lacks: t[::-1] of a tuple, list(range(..)), sorted of a tuple, index and count of tuples -/
namespace Kq
open PySem PySem.Spec PyProof.Rows L2 HT
theorem fmc {α β : Type} {f g : α → Option β} : ∀ {l : List α}, (∀ a ∈ l, f a = g a) → l.filterMap f = l.filterMap g
  | [], _ => rfl
  | a :: l, h => by
    rw [List.filterMap_cons, List.filterMap_cons, h a List.mem_cons_self, fmc fun b m => h b (List.mem_cons_of_mem _ m)]
section
variable {prog : Program} {w : World} {A : Around} {E : Value → Shared → Prop} {s : Shared}
theorem sliceApplied_rev {sl : Addr} {vl vu vs : Value} {n : Nat} {Q : Int × Int × Nat → Shared → Prop} (hs : s.heap.IsSliceOf sl vl vu vs) (pl : IsPart vl none) (pu : IsPart vu none) (ps : IsPart vs (some (-1)))
    (h : Q ((n : Int) - 1, -1, n) s) : wpAny (model prog w) A (Builtin.Slice.sliceApplied (.ref sl) (pure (n : Int))) Q E s := by
  obtain ⟨os, hos, hcs, hds⟩ := id hs
  unfold Builtin.Slice.sliceApplied Builtin.Slice.sliceFields
  refine wpAny_bind (wpAny_bind (wpAny_field hos hds (x := vl) rfl (wpAny_bind (wpAny_field hos hds (x := vu) rfl (wpAny_bind (wpAny_field hos hds (x := vs) rfl (wpAny_pure ?_)))))))
  refine wpAny_bind (slicePart_ ps ?_)
  show wpAny _ _ (if ((-1 : Int) == 0) = true then _ else _) _ _ s
  rw [if_neg (by decide)]
  refine wpAny_bind (slicePart_ pl (wpAny_bind (slicePart_ pu (wpAny_bind (wpAny_pure ?_)))))
  have e : Builtin.Slice.sliceAdjust none none (-1) (n : Int) = ((n : Int) - 1, -1) := by
    unfold Builtin.Slice.sliceAdjust
    simp
  have e2 : Builtin.Slice.slicePlaces ((n : Int) - 1) (-1) (-1) = n := by
    unfold Builtin.Slice.slicePlaces
    simp
    try omega
  show wpAny _ _ (match Builtin.Slice.sliceAdjust none none (-1) (n : Int) with | (lo, hi) => pure (lo, (-1 : Int), Builtin.Slice.slicePlaces lo hi (-1))) _ _ s
  rw [e]
  show wpAny _ _ (pure ((n : Int) - 1, (-1 : Int), Builtin.Slice.slicePlaces ((n : Int) - 1) (-1) (-1))) _ _ s
  rw [e2]
  exact wpAny_pure h
theorem pick_rev (xs : Array Value) : ((List.range xs.size).filterMap fun (m : Nat) => xs[((xs.size : Int) - 1 + (m : Int) * (-1)).toNat]?).toArray = xs.toList.reverse.toArray := by
  have e : ((List.range xs.size).filterMap fun (m : Nat) => xs[((xs.size : Int) - 1 + (m : Int) * (-1)).toNat]?) = (((List.range xs.size).map fun k => xs.size - 1 - k).filterMap (xs[·]?)) := by
    rw [List.filterMap_map]
    refine fmc fun m hm => ?_
    have := List.mem_range.mp hm
    have e3 : ((xs.size : Int) - 1 + (m : Int) * (-1)).toNat = xs.size - 1 - m := by omega
    rw [e3]
    rfl
  rw [e, PySem.W.krv_range, List.filterMap_reverse, PySem.W.krv_all]
theorem getItem_tuple_rev {t sl : Addr} {items : Array Value} {vl vu vs : Value} {Q : Value → Shared → Prop} (ht : IsTup s.heap t items) (hs : s.heap.IsSliceOf sl vl vu vs) (pl : IsPart vl none) (pu : IsPart vu none) (ps : IsPart vs (some (-1)))
    (h : Q (.ref s.heap.objs.size) { s with heap := s.heap.push { cls := .type "tuple", data := .seq items.toList.reverse.toArray } })
    (hsz : items.size ≤ sizeLine) : wpAny (model prog w) A (getItem (.ref t) (.ref sl)) Q E s := by
  have htake : sizeOk (.seq items.toList.reverse.toArray) := by
    show items.toList.reverse.toArray.size ≤ sizeLine
    rw [List.size_toArray, List.length_reverse, Array.length_toList]
    exact hsz
  obtain ⟨os, hos, hcs, hds⟩ := id hs
  have hTs : s.TypeIs (.ref sl) "slice" := ⟨os, hos, hcs⟩
  unfold getItem
  try with_reducible refine wpAny_holding ?_
  first | refine wpAny_bind (wpAny_pure ?_) | skip
  refine wpAny_bind (wpAny_sequenceKey ht.typeIs (by decide) ?_)
  refine wpAny_bind (wpAny_callSpecial?_slot (name := Str.ofString "__getitem__") ht.typeIs PyProof.Rows.slot_tuple_getitem
    (wpAny_call_entry PyProof.Rows.slot_tuple_getitem ht.typeIs entry_tuple_getitem ?_ (args_tuple_getitem _ _)))
  show wpAny _ _ (Builtin.Tuple.tupleItemsOf (.ref t) >>= _) _ _ s
  refine wpAny_bind (tupleItemsOf_ ht ?_)
  refine wpAny_bind (wpAny_typeOf hTs ?_)
  rw [if_pos (by decide)]
  refine wpAny_bind (sliceApplied_rev hs pl pu ps ?_)
  have hno : ¬ ((((items.size : Int) - 1) == 0 && (-1 : Int) == 1 && items.size == items.size) = true) := by
    intro q
    rw [Bool.and_eq_true, Bool.and_eq_true] at q
    exact absurd q.1.2 (by decide)
  show wpAny _ _ (if (((items.size : Int) - 1) == 0 && (-1 : Int) == 1 && items.size == items.size) = true then _ else _) _ _ s
  rw [if_neg hno, pick_rev]
  first
    | exact wpAny_bind (m := Builtin.Tuple.tupleExact _) (wpAny_newObj_type (wpAny_pure ⟨_, rfl, wpAny_pure h⟩) htake)
    | exact wpAny_bind (m := Builtin.Tuple.tupleExact _) (wpAny_newObj_type (wpAny_bind (wpAny_pure (wpAny_pure ⟨_, rfl, wpAny_pure h⟩))) htake)
    | exact wpAny_bind (wpAny_bind (m := Builtin.Tuple.tupleExact _) (wpAny_newObj_type (wpAny_pure (wpAny_pure ⟨_, rfl, wpAny_pure h⟩)) htake))
    | exact wpAny_bind (wpAny_bind (m := Builtin.Tuple.tupleExact _) (wpAny_newObj_type (wpAny_pure ⟨_, rfl, wpAny_pure h⟩) htake))
end
def tRevT (K : PySem.W.Frag) (te : TE) : TE := fun σ H Q => te σ H fun x H1 => ∃ a xs, x = .ref a ∧ SqT K H1 a xs ∧ ∀ p, H1 p = none → Q (.ref p) (upd H1 p (.tup xs.reverse))
theorem pe_revT {X : Cx} {e : Expr} {te : TE} {k : Nat} {p1 p2 p3 pos : Pos} (he : PE X e te) : PE X (.Subscript e (.Slice none none (some (.UnaryOp .USub (.Constant (.int 1) k p1) p2)) p3) pos) (tRevT X.K te) := by
  refine ⟨fun pins s σ H Q I h => ?_⟩
  refine Subscript_ (thn (he.run pins s σ H _ I h) fun v s1 ⟨x, H1, I1, r1, q1⟩ => ?_)
  obtain ⟨a, xs, ex, hx, q⟩ := q1
  subst ex
  cases r1
  have hst : PO X (some (.UnaryOp .USub (.Constant (.int 1) k p1) p2)) (tPart (tUn (rU fun i => .int (-i)) (tC (.int 1)))) := po_some (pe_un un_neg pe_int)
  refine wpAny_Slice (thn (po_none.run pins s1 σ H1 (fun o H2 => o = none ∧ H2 = H1) I1 ⟨rfl, rfl⟩) fun vl s2 ⟨l, H2, I2, pl, el, e2⟩ => ?_)
  subst el e2
  refine thn (po_none.run pins s2 σ H2 (fun o H3 => o = none ∧ H3 = H2) I2 ⟨rfl, rfl⟩) fun vu s3 ⟨u, H3, I3, pu, eu, e3⟩ => ?_
  subst eu e3
  refine thn (hst.run pins s3 σ H3 (fun o H4 => o = some (-1) ∧ H4 = H3) I3 ⟨1, rfl, -1, rfl, rfl, rfl⟩) fun vs s4 ⟨o, H4, I4, ps, eo, e4⟩ => ?_
  subst eo e4
  have I5 : Inv X pins σ H4 { s4 with heap := s4.heap.push { cls := .type "slice", data := .fields #[vl, vu, vs] } } := I4.kept (t' := s4.toks) fun b ob q => Heap.get?_push_of_some _ q
  obtain ⟨its, r, ht, hz⟩ := I5.tuple hx
  have hlen := r.length
  show wpAny (model X.prog X.w) X.A (subscriptTail e (.Slice none none (some (.UnaryOp .USub (.Constant (.int 1) k p1) p2)) p3) (.ref a) (.ref s4.heap.objs.size)) (EP X pins σ Q) X.xe { s4 with heap := s4.heap.push { cls := .type "slice", data := .fields #[vl, vu, vs] } }
  refine tail_any (ops := [.ref a, .ref s4.heap.objs.size]) ht.typeIs (PyProof.Rows.slot_tuple_getitem.lookup) ?_ (by with_unfolding_all rfl)
  refine getItem_tuple_rev ht (Heap.IsSliceOf.new _ vl vu vs) pl pu ps ?_ (by rw [List.size_toArray]; omega)
  refine ⟨.ref _, _, I5.laid (t' := s4.toks) (o := .tup xs.reverse) (fun b ob q => Heap.get?_push_of_some _ q) (Nat.le_refl _) ?_, rfl, q _ (I5.hok.fresh (Nat.le_refl _))⟩
  exact ⟨by rw [List.length_reverse]; exact hz, _, r.reverse, IsTup.new _ _⟩
/-! ### sorted of a tuple of ints -/
def rSortTup (K : PySem.W.Frag) : List V → Hp → VK → Prop := fun xs H Q => ∃ (a : Addr) (ks : List Int), xs = [.ref a] ∧ SqT K H a (ks.map V.int) ∧
  ∀ (ys : List Int) (p : Addr), ys.Perm ks → ys.Pairwise (· ≤ ·) → H p = none → Q (.ref p) (upd H p (.lst (ys.map V.int)))
theorem sort_tup {X : Cx} : CallR X (.builtin "sorted") (rSortTup X.K) := by
  intro pins s σ H xs us Q I r q
  obtain ⟨a, ks, rfl, hd, q⟩ := q
  obtain rfl : us = [Value.ref a] := Vals.ref1 r
  obtain ⟨its, rv, ht, hz⟩ := I.tuple hd
  have hi := rv.ints
  have hlen0 : its.length = ks.length := by rw [← rv.length, List.length_map]
  refine Calls.call_function_entry PyProof.Rows.kind_sorted PyProof.Rows.plain_sorted PyProof.Rows.entry_sorted (PyProof.Rows.args_sorted1 _) ?_
  unfold Builtin.«sorted»
  refine wpAny_bind (m := checkCount "sorted" 1 1 _) (wpAny_pure ?_)
  obtain ⟨o, ho, hc, n, hdd⟩ := id ht
  refine wpAny_bind (wpAny_collect_seq (A := X.A.in1) a (T := "tuple") (.inr rfl) ho hc hdd (fun h' hk => ?_) (by rw [List.size_toArray]; rw [hlen0, ← List.length_map (f := V.int)]; exact hz))
  have I1 : Inv X pins σ H { s with heap := h' } := I.kept (t' := s.toks) hk
  have hz' : its.toArray.toList.length ≤ sizeLine := by
    show its.length ≤ sizeLine
    rw [hlen0, ← List.length_map (f := V.int)]; exact hz
  refine wpAny_bind (wpAny_newList ?_ hz')
  have hoL : (h'.push (seqObj "list" its.toArray.toList.toArray 0)).get? h'.objs.size = some (seqObj "list" its.toArray.toList.toArray 0) := Heap.get?_push_size _ rfl
  show wpAny _ _ _ _ _ { s with heap := h'.push (seqObj "list" its.toArray.toList.toArray 0) }
  refine wpAny_bind (wpAny_holding (wpAny_call_entry PyProof.Rows.slot_list_sort ⟨_, hoL, rfl⟩ PyProof.Rows.entry_list_sort
    (SrtO.list_sort_ord SrtO.swo_int (s := { s with heap := h'.push (seqObj "list" its.toArray.toList.toArray 0) }) hoL hz' (fun h2 => SrtO.ints_sortable hi h2) fun out h1 h2 => ⟨_, rfl, ?_⟩) (PyProof.Rows.args_list_sort _)))
  obtain ⟨k1, k2, k3⟩ := SrtO.ints_out hi h1 h2
  obtain ⟨e', he'⟩ := PyProof.Rows.sortedHeap_at (vs := its.toArray.toList) (out := out.toArray) hoL
  have hlen : ((out.map SrtO.iv).map V.int).length ≤ sizeLine := by
    rw [List.length_map, k2.length_eq, ← List.length_map (f := V.int)]; exact hz
  refine wpAny_pure ⟨_, rfl, .ref h'.objs.size, upd H h'.objs.size (.lst ((out.map SrtO.iv).map V.int)), I1.laid (t' := s.toks) (fun b u e => ?_) (Nat.le_refl _) ⟨hlen, out, e', vals_of_ints k1, he'⟩, rfl, q _ _ k2 k3 (I1.hok.fresh (Nat.le_refl _))⟩
  have hb : b < h'.objs.size := Heap.lt_size e
  rw [PyProof.Rows.sortedHeap_old (Nat.ne_of_lt hb) (by rw [PyProof.Rows.size_push']; exact Nat.lt_succ_of_lt hb)]
  exact Heap.get?_push_of_some _ e
/-! ### index and count of a tuple -/
def rIndexT (K : PySem.W.Frag) : V → List V → Hp → VK → Prop := fun x xs H Q => ∃ (a : Addr) (ys : List V) (y : V) (j : Nat) (z : V), x = V.ref a ∧ xs = [y] ∧ SqT K H a ys ∧ flatV y = true ∧ ys.all flatV = true ∧ ys[j]? = some z ∧ eqV z y = true ∧
  (∀ (m : Nat) (z' : V), m < j → ys[m]? = some z' → eqV z' y = false) ∧ Q (.int (j : Nat)) H
theorem mt_indexT {X : Cx} : MtR X "tuple.index" (rIndexT X.K) := by
  intro pins s σ H x xs v us Q I rx rxs h
  obtain ⟨a, ys, y, j, z, rfl, rfl, hs, fy, fys, hz, hzj, hno, q⟩ := h
  cases rx
  cases rxs with
  | cons ry rt =>
    rename_i uy ut
    cases rt
    obtain ⟨its, rv, ⟨⟨cls, dd, data, sl⟩, ho, hc, n, hd⟩, hlen⟩ := I.tuple hs
    simp only at hc hd
    subst hc hd
    obtain ⟨u, hu, ru⟩ := rv.get hz
    obtain ⟨hjl, hje⟩ := List.getElem?_eq_some_iff.mp hu
    have hvl := rv.length
    have hj : j < its.toArray.size := by simpa using hjl
    refine call_meets PySem.F.slot_tuple_index ⟨_, ho, rfl⟩ PySem.F.entry_tuple_index (PySem.F.args_tuple_index_2 _ _)
      (TI.tuple_indexAt a its.toArray n dd sl uy (eqU y) j hj ?_ ?_) ⟨ho, fun u' hu' => mem_eqAt ry fy rv fys u' (by simpa using hu'), ?_⟩
    · have e1 : its.toArray[j] = u := by simpa using hje
      rw [e1, eqU_of ru (flat_at fys hz)]
      exact hzj
    · intro m hm hmj
      have hml : m < its.length := by simpa using hm
      have hmy : m < ys.length := by omega
      have hy' : ys[m]? = some ys[m] := List.getElem?_eq_getElem hmy
      obtain ⟨u2, hu2, ru2⟩ := rv.get hy'
      obtain ⟨_, hme⟩ := List.getElem?_eq_some_iff.mp hu2
      have e1 : its.toArray[m] = u2 := by simpa using hme
      rw [e1, eqU_of ru2 (flat_at fys hy')]
      exact hno m _ hmj hy'
    · exact ⟨.int (j : Nat), H, I.tok _, ⟨_, rfl⟩, q⟩
def rCntT (K : PySem.W.Frag) : V → List V → Hp → VK → Prop := fun x xs H Q => ∃ (p : Addr) (ns : List Int) (k : Int), x = .ref p ∧ xs = [.int k] ∧ SqT K H p (ns.map V.int) ∧ Q (.int (ns.count k : Nat)) H
theorem mt_tcount {X : Cx} : MtR X "tuple.count" (rCntT X.K) := by
  intro pins s σ H x xs v us Q I rx rxs h
  obtain ⟨p, ns, k, rfl, rfl, hs, q⟩ := h
  cases rx
  obtain ⟨u, rfl, ru⟩ := rxs.one
  obtain ⟨t, rfl⟩ := ru
  obtain ⟨its, rv, ⟨⟨cls, dd, data, sl⟩, ho, hc, n, hd⟩, hlen⟩ := I.tuple hs
  simp only at hc hd
  subst hc hd
  have hi := ints_of_vals rv
  refine call_meets PySem.F.slot_tuple_count ⟨_, ho, rfl⟩ PySem.F.entry_tuple_count (PySem.F.args_tuple_count_2 _ _)
    (SeqAt.tuple_countAt p its.toArray n dd sl (.int k t) (eqk k)) ⟨ho, fun y hy => (eqk_gives hi y (by simpa using hy)).at _ _, ?_⟩
  have ec : its.toArray.toList.countP (eqk k) = ns.count k := eqk_count hi
  refine ⟨.int (ns.count k : Nat), H, I.tok _, ⟨s.toks, ?_⟩, q⟩
  show Value.int ((its.toArray.toList.countP (eqk k) : Nat) : Int) s.toks = Value.int ((ns.count k : Nat) : Int) s.toks
  rw [ec]
end Kq

set_option Elab.async false
set_option linter.all false
set_option maxRecDepth 100000
set_option maxHeartbeats 1000000
/-! what a value by data is on the abstract heap: footprints, frames -/
namespace Kh
open PySem PySem.Spec PyProof.Rows L2

def keyOf : I → Option Key
  | .int i => some (.inl i)
  | .str s => some (.inr s)
  | _ => none
def keysOf : List I → Option (List Key)
  | [] => some []
  | x :: r => (keyOf x).bind fun k => (keysOf r).map (k :: ·)
def keyT : I → Option (List Key)
  | .tup xs => keysOf xs
  | _ => none

mutual
inductive IR (K : PySem.W.Frag) (H : Hp) : I → V → Prop
  | non : IR K H .non .non
  | bl (b : Bool) : IR K H (.bl b) (.bl b)
  | int (i : Int) : IR K H (.int i) (.int i)
  | str (s : Str) : IR K H (.str s) (.str s)
  | tup {xs : List I} {a : Addr} {vs : List V} : SqT K H a vs → IRs K H xs vs → IR K H (.tup xs) (.ref a)
inductive IRs (K : PySem.W.Frag) (H : Hp) : List I → List V → Prop
  | nil : IRs K H [] []
  | cons {x : I} {v : V} {xs : List I} {vs : List V} : IR K H x v → IRs K H xs vs → IRs K H (x :: xs) (v :: vs)
end
/-- the script -/
def SqF (K : PySem.W.Frag) (H : Hp) (a : Addr) (xs : List V) : Prop :=
  (∃ o, H a = some (.frz o (.lst xs))) ∨
    ∃ (o : Obj) (its : Array Value) (n : Nat), K.lookup a = some o ∧ o.cls = .type "list" ∧ o.dict = none ∧ o.data = .seq its n ∧ its.size ≤ sizeLine ∧ Vals xs its.toList
theorem SqF.l {K : PySem.W.Frag} {H : Hp} {a : Addr} {xs : List V} (h : SqF K H a xs) : SqL K H a xs := by
  rcases h with h | h
  · exact .inl (.inr h)
  · exact .inr h
mutual
inductive DR (K : PySem.W.Frag) (H : Hp) : D → V → List Addr → Prop
  | im {x : I} {v : V} : IR K H x v → DR K H (.im x) v []
  | tup {ds : List D} {a : Addr} {vs : List V} {S : List Addr} : SqT K H a vs → DRs K H ds vs S → DR K H (.tup ds) (.ref a) S
  | lst {ds : List D} {a : Addr} {vs : List V} {S : List Addr} : H a = some (.lst vs) → DRs K H ds vs S → DR K H (.lst ds) (.ref a) (a :: S)
  | dK {kvs : List (I × D)} {a : Addr} {ws : List (Key × V)} {S : List Addr} : (ws.map (·.1)).Nodup → Rd H a (.dK ws) → KRs K H kvs ws S → DR K H (.dct false kvs) (.ref a) (a :: S)
  | dT {kvs : List (I × D)} {a : Addr} {ws : List (List Key × V)} {S : List Addr} : (ws.map (·.1)).Nodup → Rd H a (.dT ws) → TRs K H kvs ws S → DR K H (.dct true kvs) (.ref a) (a :: S)
  | scr {ns : List Int} {a : Addr} : SqF K H a (ns.map V.int) → DR K H (.scr ns) (.ref a) []
inductive DRs (K : PySem.W.Frag) (H : Hp) : List D → List V → List Addr → Prop
  | nil : DRs K H [] [] []
  | cons {d : D} {v : V} {S : List Addr} {ds : List D} {vs : List V} {R : List Addr} : DR K H d v S → DRs K H ds vs R → DRs K H (d :: ds) (v :: vs) (S ++ R)
inductive KRs (K : PySem.W.Frag) (H : Hp) : List (I × D) → List (Key × V) → List Addr → Prop
  | nil : KRs K H [] [] []
  | cons {k : I} {q : Key} {d : D} {v : V} {S : List Addr} {ds : List (I × D)} {vs : List (Key × V)} {R : List Addr} : keyOf k = some q → DR K H d v S → KRs K H ds vs R → KRs K H ((k, d) :: ds) ((q, v) :: vs) (S ++ R)
inductive TRs (K : PySem.W.Frag) (H : Hp) : List (I × D) → List (List Key × V) → List Addr → Prop
  | nil : TRs K H [] [] []
  | cons {k : I} {q : List Key} {d : D} {v : V} {S : List Addr} {ds : List (I × D)} {vs : List (List Key × V)} {R : List Addr} : keyT k = some q → DR K H d v S → TRs K H ds vs R → TRs K H ((k, d) :: ds) ((q, v) :: vs) (S ++ R)
end

/-- what never goes: tuples, locked things -/
def isPers : HO → Bool
  | .tup _ => true
  | .frz _ _ => true
  | _ => false
def isMut : HO → Bool
  | .lst _ => true
  | .dK _ => true
  | .dT _ => true
  | _ => false
def MutAt (H : Hp) (a : Addr) : Prop := ∃ o, H a = some o ∧ isMut o = true
def Stay (H H' : Hp) (S : List Addr) : Prop := ∀ a o, H a = some o → (isPers o = true ∨ a ∈ S) → H' a = some o
theorem Stay.mono {H H' : Hp} {S R : List Addr} (h : Stay H H' S) (s : ∀ a ∈ R, a ∈ S) : Stay H H' R := fun a o e q => h a o e (q.imp id (s a))
theorem SqT.stay {K : PySem.W.Frag} {H H' : Hp} {S : List Addr} {a : Addr} {vs : List V} (h : Stay H H' S) (q : SqT K H a vs) : SqT K H' a vs := by
  rcases q with (q | ⟨o, q⟩) | q
  · exact .inl (.inl (h _ _ q (.inl rfl)))
  · exact .inl (.inr ⟨o, h _ _ q (.inl rfl)⟩)
  · exact .inr q
mutual
theorem IR.stay {K : PySem.W.Frag} {H H' : Hp} {S : List Addr} (h : Stay H H' S) : ∀ {x : I} {v : V}, IR K H x v → IR K H' x v
  | _, _, .non => .non
  | _, _, .bl b => .bl b
  | _, _, .int i => .int i
  | _, _, .str s => .str s
  | _, _, .tup q r => .tup (SqT.stay h q) (IRs.stay h r)
theorem IRs.stay {K : PySem.W.Frag} {H H' : Hp} {S : List Addr} (h : Stay H H' S) : ∀ {x : List I} {v : List V}, IRs K H x v → IRs K H' x v
  | _, _, .nil => .nil
  | _, _, .cons a r => .cons (IR.stay h a) (IRs.stay h r)
end
theorem Rd.stay {H H' : Hp} {S : List Addr} {a : Addr} {u : HO} (h : Stay H H' S) (m : a ∈ S) (q : Rd H a u) : Rd H' a u := by
  rcases q with q | ⟨o, q⟩
  · exact .inl (h _ _ q (.inr m))
  · exact .inr ⟨o, h _ _ q (.inr m)⟩
theorem SqF.stay {K : PySem.W.Frag} {H H' : Hp} {S : List Addr} {a : Addr} {vs : List V} (h : Stay H H' S) (q : SqF K H a vs) : SqF K H' a vs := by
  rcases q with ⟨o, q⟩ | q
  · exact .inl ⟨o, h _ _ q (.inl rfl)⟩
  · exact .inr q
mutual
theorem DR.stay {K : PySem.W.Frag} {H H' : Hp} : ∀ {d : D} {v : V} {S : List Addr}, DR K H d v S → Stay H H' S → DR K H' d v S
  | _, _, _, .im q, h => .im (IR.stay h q)
  | _, _, _, .tup q r, h => .tup (SqT.stay h q) (DRs.stay r h)
  | _, _, _, .lst q r, h => .lst (h _ _ q (.inr List.mem_cons_self)) (DRs.stay r (h.mono fun a m => List.mem_cons_of_mem _ m))
  | _, _, _, .dK n q r, h => .dK n (Rd.stay h (List.mem_cons_self) q) (KRs.stay r (h.mono fun a m => List.mem_cons_of_mem _ m))
  | _, _, _, .dT n q r, h => .dT n (Rd.stay h (List.mem_cons_self) q) (TRs.stay r (h.mono fun a m => List.mem_cons_of_mem _ m))
  | _, _, _, .scr q, h => .scr (SqF.stay h q)
theorem DRs.stay {K : PySem.W.Frag} {H H' : Hp} : ∀ {d : List D} {v : List V} {S : List Addr}, DRs K H d v S → Stay H H' S → DRs K H' d v S
  | _, _, _, .nil, h => .nil
  | _, _, _, .cons a r, h => .cons (DR.stay a (h.mono fun a m => List.mem_append_left _ m)) (DRs.stay r (h.mono fun a m => List.mem_append_right _ m))
theorem KRs.stay {K : PySem.W.Frag} {H H' : Hp} : ∀ {d : List (I × D)} {v : List (Key × V)} {S : List Addr}, KRs K H d v S → Stay H H' S → KRs K H' d v S
  | _, _, _, .nil, h => .nil
  | _, _, _, .cons e a r, h => .cons e (DR.stay a (h.mono fun a m => List.mem_append_left _ m)) (KRs.stay r (h.mono fun a m => List.mem_append_right _ m))
theorem TRs.stay {K : PySem.W.Frag} {H H' : Hp} : ∀ {d : List (I × D)} {v : List (List Key × V)} {S : List Addr}, TRs K H d v S → Stay H H' S → TRs K H' d v S
  | _, _, _, .nil, h => .nil
  | _, _, _, .cons e a r, h => .cons e (DR.stay a (h.mono fun a m => List.mem_append_left _ m)) (TRs.stay r (h.mono fun a m => List.mem_append_right _ m))
end
/-- what stands at a footprint's address: it is there -/
def There (H : Hp) (a : Addr) : Prop := ∃ o, H a = some o
theorem rd_there {H : Hp} {a : Addr} {u : HO} (q : Rd H a u) : There H a := by
  rcases q with q | ⟨o, q⟩
  · exact ⟨_, q⟩
  · exact ⟨_, q⟩
mutual
theorem DR.there {K : PySem.W.Frag} {H : Hp} : ∀ {d : D} {v : V} {S : List Addr}, DR K H d v S → ∀ a ∈ S, There H a
  | _, _, _, .im q, a, m => nomatch m
  | _, _, _, .tup q r, a, m => DRs.there r a m
  | _, _, _, .lst q r, a, m => by
    rcases List.mem_cons.mp m with e | m
    · subst e; exact ⟨_, q⟩
    · exact DRs.there r a m
  | _, _, _, .dK n q r, a, m => by
    rcases List.mem_cons.mp m with e | m
    · subst e; exact rd_there q
    · exact KRs.there r a m
  | _, _, _, .dT n q r, a, m => by
    rcases List.mem_cons.mp m with e | m
    · subst e; exact rd_there q
    · exact TRs.there r a m
  | _, _, _, .scr q, a, m => nomatch m
theorem DRs.there {K : PySem.W.Frag} {H : Hp} : ∀ {d : List D} {v : List V} {S : List Addr}, DRs K H d v S → ∀ a ∈ S, There H a
  | _, _, _, .nil, a, m => nomatch m
  | _, _, _, .cons x r, a, m => (List.mem_append.mp m).elim (DR.there x a) (DRs.there r a)
theorem KRs.there {K : PySem.W.Frag} {H : Hp} : ∀ {d : List (I × D)} {v : List (Key × V)} {S : List Addr}, KRs K H d v S → ∀ a ∈ S, There H a
  | _, _, _, .nil, a, m => nomatch m
  | _, _, _, .cons _ x r, a, m => (List.mem_append.mp m).elim (DR.there x a) (KRs.there r a)
theorem TRs.there {K : PySem.W.Frag} {H : Hp} : ∀ {d : List (I × D)} {v : List (List Key × V)} {S : List Addr}, TRs K H d v S → ∀ a ∈ S, There H a
  | _, _, _, .nil, a, m => nomatch m
  | _, _, _, .cons _ x r, a, m => (List.mem_append.mp m).elim (DR.there x a) (TRs.there r a)
end
theorem DRs.length {K : PySem.W.Frag} {H : Hp} : ∀ {d : List D} {v : List V} {S : List Addr}, DRs K H d v S → d.length = v.length
  | _, _, _, .nil => rfl
  | _, _, _, .cons _ r => congrArg (· + 1) (DRs.length r)
theorem IRs.length {K : PySem.W.Frag} {H : Hp} : ∀ {d : List I} {v : List V}, IRs K H d v → d.length = v.length
  | _, _, .nil => rfl
  | _, _, .cons _ r => congrArg (· + 1) (IRs.length r)
theorem KRs.length {K : PySem.W.Frag} {H : Hp} : ∀ {d : List (I × D)} {v : List (Key × V)} {S : List Addr}, KRs K H d v S → d.length = v.length
  | _, _, _, .nil => rfl
  | _, _, _, .cons _ _ r => congrArg (· + 1) (KRs.length r)
theorem IRs.get {K : PySem.W.Frag} {H : Hp} : ∀ {d : List I} {v : List V} {j : Nat} {x : I}, IRs K H d v → d[j]? = some x → ∃ u, v[j]? = some u ∧ IR K H x u
  | _, _, 0, _, .cons a r, e => by
    cases Option.some.inj e
    exact ⟨_, rfl, a⟩
  | _, _, j + 1, _, .cons a r, e => IRs.get (j := j) r e
  | _, _, _, _, .nil, e => by simp at e
theorem DRs.get {K : PySem.W.Frag} {H : Hp} : ∀ {d : List D} {v : List V} {S : List Addr} {j : Nat} {x : D}, DRs K H d v S → d[j]? = some x → ∃ u R, v[j]? = some u ∧ DR K H x u R ∧ ∀ a ∈ R, a ∈ S
  | _, _, _, 0, _, .cons a r, e => by
    cases Option.some.inj e
    exact ⟨_, _, rfl, a, fun _ m => List.mem_append_left _ m⟩
  | _, _, _, j + 1, _, .cons a r, e => by
    obtain ⟨u, R, h1, h2, h3⟩ := DRs.get (j := j) r e
    exact ⟨u, R, h1, h2, fun a m => List.mem_append_right _ (h3 a m)⟩
  | _, _, _, _, _, .nil, e => by simp at e
theorem IRs.append {K : PySem.W.Frag} {H : Hp} : ∀ {d e : List I} {v w : List V}, IRs K H d v → IRs K H e w → IRs K H (d ++ e) (v ++ w)
  | _, _, _, _, .nil, s => s
  | _, _, _, _, .cons a r, s => .cons a (IRs.append r s)
theorem DRs.append {K : PySem.W.Frag} {H : Hp} : ∀ {d e : List D} {v w : List V} {S R : List Addr}, DRs K H d v S → DRs K H e w R → DRs K H (d ++ e) (v ++ w) (S ++ R)
  | _, _, _, _, _, _, .nil, s => s
  | _, _, _, _, _, _, .cons a r, s => by
    rw [List.append_assoc]
    exact .cons a (DRs.append r s)
theorem DRs.of_ims {K : PySem.W.Frag} {H : Hp} : ∀ {ds : List D} {xs : List I} {vs : List V} {S : List Addr}, DRs K H ds vs S → ims ds = some xs → S = [] ∧ ds = xs.map .im ∧ IRs K H xs vs
  | _, _, _, _, .nil, e => by
    cases e
    exact ⟨rfl, rfl, .nil⟩
  | _, xs, _, _, .cons (ds := ds) (.im a) r, e => by
    cases q : ims ds with
    | none => rw [ims, q] at e; cases e
    | some ys =>
      rw [ims, q] at e
      cases e
      obtain ⟨rfl, e2, h⟩ := DRs.of_ims r q
      exact ⟨rfl, by rw [e2]; rfl, .cons a h⟩
  | _, _, _, _, .cons (.tup _ _) r, e => nomatch e
  | _, _, _, _, .cons (.lst _ _) r, e => nomatch e
  | _, _, _, _, .cons (.dK _ _ _) r, e => nomatch e
  | _, _, _, _, .cons (.dT _ _ _) r, e => nomatch e
  | _, _, _, _, .cons (.scr _) r, e => nomatch e
theorem DRs.ims {K : PySem.W.Frag} {H : Hp} : ∀ {xs : List I} {vs : List V}, IRs K H xs vs → DRs K H (xs.map .im) vs []
  | _, _, .nil => .nil
  | _, _, .cons a r => DRs.cons (S := []) (.im a) (DRs.ims r)
theorem ims_map : ∀ xs : List I, ims (xs.map .im) = some xs
  | [] => rfl
  | x :: xs => by
    show (ims (xs.map .im)).map (x :: ·) = _
    rw [ims_map xs]
    rfl
theorem IRs.of_ints {K : PySem.W.Frag} {H : Hp} : ∀ {xs : List I} {ns : List Int} {vs : List V}, IRs K H xs vs → intsOf xs = some ns → vs = ns.map V.int
  | _, _, _, .nil, e => by
    cases e
    rfl
  | _, ns, _, .cons (xs := xs) (.int i) r, e => by
    cases q : intsOf xs with
    | none => rw [intsOf, q] at e; cases e
    | some ys =>
      rw [intsOf, q] at e
      cases e
      rw [IRs.of_ints r q]
      rfl
  | _, _, _, .cons .non r, e => nomatch e
  | _, _, _, .cons (.bl _) r, e => nomatch e
  | _, _, _, .cons (.str _) r, e => nomatch e
  | _, _, _, .cons (.tup _ _) r, e => nomatch e
theorem IRs.ints {K : PySem.W.Frag} {H : Hp} : ∀ ns : List Int, IRs K H (ns.map I.int) (ns.map V.int)
  | [] => .nil
  | n :: ns => .cons (.int n) (IRs.ints ns)
end Kh

set_option Elab.async false
set_option linter.all false
set_option maxRecDepth 100000
set_option maxHeartbeats 1000000
/-! the places and the abstract heap; frames -/
namespace Kh
open PySem PySem.Spec PyProof.Rows L2

abbrev Foot := Nat → List Addr
def Foot.set (S : Foot) (i : Nat) (R : List Addr) : Foot := fun j => if j = i then R else S j
theorem Foot.set_same {S : Foot} {i : Nat} {R : List Addr} : S.set i R i = R := if_pos rfl
theorem Foot.set_ne {S : Foot} {i j : Nat} {R : List Addr} (h : j ≠ i) : S.set i R j = S j := if_neg h

structure SR (K : PySem.W.Frag) (P : List Addr) (H : Hp) (σ : L2.St) (ρ : En) (S : Foot) : Prop where
  len : ρ.length = σ.length
  own : ∀ (i : Nat) (d : D), ρ[i]? = some (Slot.own d) → ∃ v, σ[i]? = some (some v) ∧ DR K H d v (S i)
  bor : ∀ (i : Nat) (d : D), ρ[i]? = some (Slot.bor d) → ∃ v R, σ[i]? = some (some v) ∧ DR K H d v R ∧ ∀ a ∈ R, a ∈ P
  emp : ∀ (i : Nat), (∀ d : D, ρ[i]? ≠ some (Slot.own d)) → S i = []
  nd : ∀ (i : Nat), (S i).Nodup
  dj : ∀ (i j : Nat) (a : Addr), a ∈ S i → a ∈ S j → i = j
  mu : ∀ (i : Nat) (a : Addr), a ∈ S i → MutAt H a
  pt : ∀ (i : Nat) (a : Addr), a ∈ S i → a ∉ P
  pa : ∀ a ∈ P, There H a

structure Fr (p : Bool) (H : Hp) (S : Foot) (H' : Hp) (S' : Foot) : Prop where
  keep : ∀ a o, H a = some o → (∀ i, a ∉ S i) → H' a = some o
  own : ∀ i a, a ∈ S' i → (∃ j, a ∈ S j) ∨ H a = none
  pur : p = true → S' = S ∧ ∀ a o, H a = some o → H' a = some o
theorem Fr.refl {p : Bool} {H : Hp} {S : Foot} : Fr p H S H S := ⟨fun _ _ e _ => e, fun i a m => .inl ⟨i, m⟩, fun _ => ⟨rfl, fun _ _ e => e⟩⟩
theorem Fr.ext {p : Bool} {H H' : Hp} {S : Foot} (h : ∀ a o, H a = some o → H' a = some o) : Fr p H S H' S := ⟨fun a o e _ => h a o e, fun i a m => .inl ⟨i, m⟩, fun _ => ⟨rfl, h⟩⟩
theorem Fr.weak {p : Bool} {H H' : Hp} {S S' : Foot} (h : Fr p H S H' S') : Fr false H S H' S' := ⟨h.keep, h.own, fun e => nomatch e⟩
theorem Fr.none_of {p : Bool} {H H' : Hp} {S S' : Foot} (h : Fr p H S H' S') {a : Addr} (e : H' a = none) : (∃ i, a ∈ S i) ∨ H a = none := by
  cases q : H a with
  | none => exact .inr rfl
  | some o =>
    by_cases z : ∃ i, a ∈ S i
    · exact .inl z
    · have := h.keep a o q fun i m => z ⟨i, m⟩
      rw [e] at this; cases this
theorem Fr.prov {p : Bool} {H H' : Hp} {S S' : Foot} (h : Fr p H S H' S') {a : Addr} (e : (∃ i, a ∈ S' i) ∨ H' a = none) : (∃ i, a ∈ S i) ∨ H a = none := by
  rcases e with ⟨i, m⟩ | e
  · exact h.own i a m
  · exact h.none_of e
theorem Fr.trans {p q : Bool} {H H' H'' : Hp} {S S' S'' : Foot} (a : Fr p H S H' S') (b : Fr q H' S' H'' S'') : Fr (p && q) H S H'' S'' := by
  refine ⟨fun x o e n => ?_, fun i x m => a.prov (b.own i x m), fun e => ?_⟩
  · refine b.keep x o (a.keep x o e n) fun i m => ?_
    rcases a.own i x m with ⟨j, z⟩ | z
    · exact n j z
    · rw [z] at e; cases e
  · rw [Bool.and_eq_true] at e
    obtain ⟨e1, k1⟩ := a.pur e.1
    obtain ⟨e2, k2⟩ := b.pur e.2
    exact ⟨e2.trans e1, fun x o h => k2 x o (k1 x o h)⟩
theorem Fr.trans' {p q : Bool} {H H' H'' : Hp} {S S' S'' : Foot} (a : Fr p H S H' S') (b : Fr q H' S' H'' S'') : Fr false H S H'' S'' := (a.trans b).weak

section
variable {K : PySem.W.Frag} {P : List Addr} {H H' : Hp} {σ : L2.St} {ρ : En} {S S' : Foot} {p : Bool}
theorem SR.pers (R : SR K P H σ ρ S) {a : Addr} {o : HO} (e : H a = some o) (h : isPers o = true) (i : Nat) : a ∉ S i := fun m => by
  obtain ⟨u, e', z⟩ := R.mu i a m
  rw [e] at e'; cases e'
  cases o <;> simp_all [isPers, isMut]
theorem SR.stayP (R : SR K P H σ ρ S) (F : Fr p H S H' S') : Stay H H' P := fun a o e h => by
  refine F.keep a o e fun i m => ?_
  rcases h with h | h
  · exact R.pers e h i m
  · exact R.pt i a m h
/-- data that lie apart from all owned things stay -/
theorem SR.stay (R : SR K P H σ ρ S) (F : Fr p H S H' S') {L : List Addr} (h : ∀ a ∈ L, ∀ i, a ∉ S i) : Stay H H' L := fun a o e q => by
  refine F.keep a o e fun i m => ?_
  rcases q with q | q
  · exact R.pers e q i m
  · exact h a q i m
theorem Stay.ext {L : List Addr} (h : ∀ a o, H a = some o → H' a = some o) : Stay H H' L := fun a o e _ => h a o e
/-- a heap that has grown -/
theorem SR.grow (R : SR K P H σ ρ S) (h : ∀ a o, H a = some o → H' a = some o) : SR K P H' σ ρ S where
  len := R.len
  own := fun i d e => let ⟨v, a, b⟩ := R.own i d e; ⟨v, a, b.stay (Stay.ext h)⟩
  bor := fun i d e => let ⟨v, q, a, b, c⟩ := R.bor i d e; ⟨v, q, a, b.stay (Stay.ext h), c⟩
  emp := R.emp
  nd := R.nd
  dj := R.dj
  mu := fun i a m => let ⟨o, e, z⟩ := R.mu i a m; ⟨o, h _ _ e, z⟩
  pt := R.pt
  pa := fun a m => let ⟨o, e⟩ := R.pa a m; ⟨o, h _ _ e⟩
theorem grow_new {H : Hp} {p : Addr} {o : HO} (h : H p = none) : ∀ a u, H a = some u → upd H p o a = some u := fun a u e => by
  rw [upd_ne (ne_of_none e h)]; exact e
/-- a place is emptied -/
theorem SR.drop (R : SR K P H σ ρ S) (i : Nat) {w : Option V} : SR K P H (σ.set i w) (ρ.set i Slot.no) (S.set i []) where
  len := by simp [R.len]
  own := fun j d e => by
    by_cases h : j = i
    · subst h
      rw [List.getElem?_set] at e
      simp only [if_true] at e
      split at e <;> cases e
    · rw [List.getElem?_set_ne (Ne.symm h)] at e
      rw [List.getElem?_set_ne (Ne.symm h), Foot.set_ne h]
      exact R.own j d e
  bor := fun j d e => by
    by_cases h : j = i
    · subst h
      rw [List.getElem?_set] at e
      simp only [if_true] at e
      split at e <;> cases e
    · rw [List.getElem?_set_ne (Ne.symm h)] at e
      rw [List.getElem?_set_ne (Ne.symm h)]
      exact R.bor j d e
  emp := fun j e => by
    by_cases h : j = i
    · subst h; exact Foot.set_same
    · rw [Foot.set_ne h]
      refine R.emp j fun d q => e d ?_
      rw [List.getElem?_set_ne (Ne.symm h)]; exact q
  nd := fun j => by
    by_cases h : j = i
    · subst h; rw [Foot.set_same]; exact List.nodup_nil
    · rw [Foot.set_ne h]; exact R.nd j
  dj := fun j k a m n => by
    by_cases h : j = i
    · subst h; rw [Foot.set_same] at m; cases m
    · by_cases h' : k = i
      · subst h'; rw [Foot.set_same] at n; cases n
      · rw [Foot.set_ne h] at m; rw [Foot.set_ne h'] at n; exact R.dj j k a m n
  mu := fun j a m => by
    by_cases h : j = i
    · subst h; rw [Foot.set_same] at m; cases m
    · rw [Foot.set_ne h] at m; exact R.mu j a m
  pt := fun j a m => by
    by_cases h : j = i
    · subst h; rw [Foot.set_same] at m; cases m
    · rw [Foot.set_ne h] at m; exact R.pt j a m
  pa := R.pa
theorem set_self {σ : L2.St} {i : Nat} {w : Option V} (h : σ[i]? = some w) : σ.set i w = σ := by
  apply List.ext_getElem?
  intro j
  by_cases e : i = j
  · subst e
    rw [List.getElem?_set]
    obtain ⟨q, z⟩ := List.getElem?_eq_some_iff.mp h
    simp [q, z]
  · rw [List.getElem?_set_ne e]
theorem SR.drop' (R : SR K P H σ ρ S) (i : Nat) : SR K P H σ (ρ.set i Slot.no) (S.set i []) := by
  by_cases h : i < σ.length
  · have q := R.drop i (w := σ[i])
    rw [set_self (by simp [h])] at q
    exact q
  · have e : ρ.set i Slot.no = ρ := List.set_eq_of_length_le (by rw [R.len]; omega)
    have n : ρ[i]? = none := List.getElem?_eq_none (by rw [R.len]; omega)
    have z : S.set i [] = S := by
      funext j
      by_cases q : j = i
      · subst q; rw [Foot.set_same]; exact (R.emp j fun d w => by rw [n] at w; cases w).symm
      · exact Foot.set_ne q
    rw [e, z]; exact R
/-- a place gets a value of its own; the heap may have changed at what it owned -/
theorem SR.put (R : SR K P H σ ρ S) {i : Nat} {d : D} {v : V} {L : List Addr} (hi : i < ρ.length) (k : ∀ a o, H a = some o → a ∉ S i → H' a = some o)
    (hd : DR K H' d v L) (nd : L.Nodup) (hL : ∀ a ∈ L, MutAt H' a ∧ (∀ j, j ≠ i → a ∉ S j) ∧ a ∉ P) : SR K P H' (σ.set i (some v)) (ρ.set i (Slot.own d)) (S.set i L) where
  len := by simp [R.len]
  own := fun j e q => by
    by_cases h : j = i
    · subst h
      rw [List.getElem?_set_self hi] at q
      cases q
      exact ⟨v, List.getElem?_set_self (by rw [← R.len]; exact hi), by rw [Foot.set_same]; exact hd⟩
    · rw [List.getElem?_set_ne (Ne.symm h)] at q
      rw [List.getElem?_set_ne (Ne.symm h), Foot.set_ne h]
      obtain ⟨u, a, b⟩ := R.own j e q
      exact ⟨u, a, b.stay fun x o ex hx => k x o ex fun m => by
        rcases hx with hx | hx
        · exact R.pers ex hx i m
        · exact h (R.dj j i x hx m)⟩
  bor := fun j e q => by
    by_cases h : j = i
    · subst h
      rw [List.getElem?_set_self hi] at q
      cases q
    · rw [List.getElem?_set_ne (Ne.symm h)] at q
      rw [List.getElem?_set_ne (Ne.symm h)]
      obtain ⟨u, r, a, b, c⟩ := R.bor j e q
      exact ⟨u, r, a, b.stay fun x o ex hx => k x o ex fun m => by
        rcases hx with hx | hx
        · exact R.pers ex hx i m
        · exact R.pt i x m (c x hx), c⟩
  emp := fun j e => by
    by_cases h : j = i
    · subst h
      exact absurd (List.getElem?_set_self hi) (e d)
    · rw [Foot.set_ne h]
      refine R.emp j fun d q => e d ?_
      rw [List.getElem?_set_ne (Ne.symm h)]; exact q
  nd := fun j => by
    by_cases h : j = i
    · subst h; rw [Foot.set_same]; exact nd
    · rw [Foot.set_ne h]; exact R.nd j
  dj := fun j l a m n => by
    by_cases h : j = i
    · by_cases h' : l = i
      · exact h.trans h'.symm
      · subst h; rw [Foot.set_same] at m; rw [Foot.set_ne h'] at n; exact absurd n ((hL a m).2.1 l h')
    · by_cases h' : l = i
      · subst h'; rw [Foot.set_same] at n; rw [Foot.set_ne h] at m; exact absurd m ((hL a n).2.1 j h)
      · rw [Foot.set_ne h] at m; rw [Foot.set_ne h'] at n; exact R.dj j l a m n
  mu := fun j a m => by
    by_cases h : j = i
    · subst h; rw [Foot.set_same] at m; exact (hL a m).1
    · rw [Foot.set_ne h] at m
      obtain ⟨o, e, z⟩ := R.mu j a m
      exact ⟨o, k a o e fun n => h (R.dj j i a m n), z⟩
  pt := fun j a m => by
    by_cases h : j = i
    · subst h; rw [Foot.set_same] at m; exact (hL a m).2.2
    · rw [Foot.set_ne h] at m; exact R.pt j a m
  pa := fun a m => by
    obtain ⟨o, e⟩ := R.pa a m
    exact ⟨o, k a o e fun n => R.pt i a n m⟩
/-- a place gets a borrowed value -/
theorem SR.lend (R : SR K P H σ ρ S) {i : Nat} {d : D} {v : V} {L : List Addr} (hd : DR K H d v L) (hL : ∀ a ∈ L, a ∈ P) : SR K P H (σ.set i (some v)) (ρ.set i (Slot.bor d)) (S.set i []) where
  len := by simp [R.len]
  own := fun j e q => by
    by_cases h : j = i
    · subst h
      rw [List.getElem?_set] at q
      simp only [if_true] at q
      split at q <;> cases q
    · rw [List.getElem?_set_ne (Ne.symm h)] at q
      rw [List.getElem?_set_ne (Ne.symm h), Foot.set_ne h]
      exact R.own j e q
  bor := fun j e q => by
    by_cases h : j = i
    · subst h
      by_cases hi : j < ρ.length
      · rw [List.getElem?_set_self hi] at q
        cases q
        exact ⟨v, L, List.getElem?_set_self (by rw [← R.len]; exact hi), hd, hL⟩
      · rw [List.getElem?_eq_none (by rw [List.length_set]; omega)] at q; cases q
    · rw [List.getElem?_set_ne (Ne.symm h)] at q
      rw [List.getElem?_set_ne (Ne.symm h)]
      exact R.bor j e q
  emp := fun j e => by
    by_cases h : j = i
    · subst h; exact Foot.set_same
    · rw [Foot.set_ne h]
      refine R.emp j fun d q => e d ?_
      rw [List.getElem?_set_ne (Ne.symm h)]; exact q
  nd := fun j => by
    by_cases h : j = i
    · subst h; rw [Foot.set_same]; exact List.nodup_nil
    · rw [Foot.set_ne h]; exact R.nd j
  dj := fun j k a m n => by
    by_cases h : j = i
    · subst h; rw [Foot.set_same] at m; cases m
    · by_cases h' : k = i
      · subst h'; rw [Foot.set_same] at n; cases n
      · rw [Foot.set_ne h] at m; rw [Foot.set_ne h'] at n; exact R.dj j k a m n
  mu := fun j a m => by
    by_cases h : j = i
    · subst h; rw [Foot.set_same] at m; cases m
    · rw [Foot.set_ne h] at m; exact R.mu j a m
  pt := fun j a m => by
    by_cases h : j = i
    · subst h; rw [Foot.set_same] at m; cases m
    · rw [Foot.set_ne h] at m; exact R.pt j a m
  pa := R.pa
theorem Fr.drop {i : Nat} : Fr false H S H (S.set i []) := ⟨fun _ _ e _ => e, fun j a m => by
  by_cases h : j = i
  · subst h; rw [Foot.set_same] at m; cases m
  · rw [Foot.set_ne h] at m; exact .inl ⟨j, m⟩, fun e => nomatch e⟩
theorem Fr.put {i : Nat} {L : List Addr} (k : ∀ a o, H a = some o → a ∉ S i → H' a = some o) (hL : ∀ a ∈ L, (∃ j, a ∈ S j) ∨ H a = none) : Fr false H S H' (S.set i L) := ⟨fun a o e n => k a o e (n i), fun j a m => by
  by_cases h : j = i
  · subst h; rw [Foot.set_same] at m; exact hL a m
  · rw [Foot.set_ne h] at m; exact .inl ⟨j, m⟩, fun e => nomatch e⟩
end

/-- where a result's things are from: locked, of the places named, or nobody's; with own: nobody's but its own -/
structure Res (own : Bool) (src : List Nat) (P : List Addr) (H : Hp) (S : Foot) (H' : Hp) (S' : Foot) (L : List Addr) : Prop where
  any : ∀ a ∈ L, a ∈ P ∨ (∃ i ∈ src, a ∈ S' i) ∨ ∀ i, a ∉ S' i
  mine : own = true → L.Nodup ∧ ∀ a ∈ L, (∀ i, a ∉ S' i) ∧ a ∉ P ∧ ((∃ i, a ∈ S i) ∨ H a = none) ∧ MutAt H' a
theorem Res.nil {own : Bool} {src : List Nat} {P : List Addr} {H H' : Hp} {S S' : Foot} : Res own src P H S H' S' [] := ⟨fun _ m => absurd m (List.not_mem_nil), fun _ => ⟨List.nodup_nil, fun _ m => absurd m (List.not_mem_nil)⟩⟩
theorem Res.of {own : Bool} {src : List Nat} {P : List Addr} {H H' : Hp} {S S' : Foot} {L : List Addr} (h : L.Nodup ∧ ∀ a ∈ L, (∀ i, a ∉ S' i) ∧ a ∉ P ∧ ((∃ i, a ∈ S i) ∨ H a = none) ∧ MutAt H' a) : Res own src P H S H' S' L :=
  ⟨fun a m => .inr (.inr (h.2 a m).1), fun _ => h⟩
theorem Res.src {own : Bool} {src src' : List Nat} {P : List Addr} {H H' : Hp} {S S' : Foot} {L : List Addr} (h : Res own src P H S H' S' L) (s : ∀ i ∈ src, i ∈ src') : Res own src' P H S H' S' L :=
  ⟨fun a m => (h.any a m).imp id (Or.imp (fun ⟨i, x, y⟩ => ⟨i, s i x, y⟩) id), h.mine⟩
/-- over an earlier beginning -/
theorem Res.back {own p : Bool} {src : List Nat} {P : List Addr} {H0 H H' : Hp} {S0 S S' : Foot} {L : List Addr} (F : Fr p H0 S0 H S) (h : Res own src P H S H' S' L) : Res own src P H0 S0 H' S' L :=
  ⟨h.any, fun e => ⟨(h.mine e).1, fun a m => let ⟨x, y, z, w⟩ := (h.mine e).2 a m; ⟨x, y, F.prov z, w⟩⟩⟩
end Kh

set_option Elab.async false
set_option linter.all false
set_option maxRecDepth 100000
set_option maxHeartbeats 1000000
/-! what is wanted of a result; the facts of a context; the check that an expression is the one of the text -/
namespace Kh
open PySem PySem.Spec PyProof.Rows L2

/-- an error's own dict -/
def ExcAt (K : PySem.W.Frag) (H : Hp) (dd : Addr) (x y : I) : Prop :=
  ∃ fs vx vy, H dd = some (.xd fs) ∧ fs.lookup ("code" : Str) = some vx ∧ fs.lookup ("place" : Str) = some vy ∧ IR K H x vx ∧ IR K H y vy

section
variable (K : PySem.W.Frag) (mg : Str → Option Value)
def OkP {α : Type} (W : WX) (p : Bool) (Pr : List Addr) (σ : L2.St) (H : Hp) (S : Foot) (fin : α → En → Hp → Foot → Prop) : Out α → Prop
  | .ok d e => ∀ H' S', SR K Pr H' σ e S' → Fr p H S H' S' → fin d e H' S'
  | .exc c x y e => ∀ C dd H' S', mg c = some (.ref C) → SR K Pr H' σ e S' → Fr false H S H' S' → ExcAt K H' dd x y → W (.ref C) (some dd) σ H'
  | .bad => False
def finE (own : Bool) (src : List Nat) (Pr : List Addr) (H : Hp) (S : Foot) (Q : VK) (d : D) (_ : En) (H' : Hp) (S' : Foot) : Prop :=
  ∀ v L, DR K H' d v L → Res own src Pr H S H' S' L → Q v H'
def finEs (Pr : List Addr) (H : Hp) (S : Foot) (Q : List V → Hp → Prop) (ds : List D) (_ : En) (H' : Hp) (S' : Foot) : Prop :=
  ∀ vs L, DRs K H' ds vs L → Res true [] Pr H S H' S' L → Q vs H'
/-- a new value, the heap has grown -/
structure Fresh (H H' : Hp) (L : List Addr) : Prop where
  nd : L.Nodup
  new : ∀ a ∈ L, H a = none
  mu : ∀ a ∈ L, MutAt H' a
def VOk (H : Hp) (z : D) (Q : VK) : Prop := ∀ H' w L, (∀ a o, H a = some o → H' a = some o) → DR K H' z w L → Fresh H H' L → Q w H'
/-- a part of what lies at L -/
def POk (H : Hp) (z : D) (L : List Addr) (Q : VK) : Prop := ∀ w R, DR K H z w R → (∀ a ∈ R, a ∈ L) → Q w H
end
theorem Fresh.nil {H H' : Hp} : Fresh H H' [] := ⟨List.nodup_nil, fun _ m => absurd m List.not_mem_nil, fun _ m => absurd m List.not_mem_nil⟩
theorem Fresh.one {H : Hp} {p : Addr} {o : HO} (h : H p = none) (m : isMut o = true) : Fresh H (upd H p o) [p] :=
  ⟨by simp, fun a q => by rw [List.mem_singleton.mp q]; exact h, fun a q => by rw [List.mem_singleton.mp q]; exact ⟨o, upd_same, m⟩⟩
section
variable {K : PySem.W.Frag} {mg : Str → Option Value} {W : WX} {p q : Bool} {Pr : List Addr} {σ : L2.St} {H H1 : Hp} {S S1 : Foot} {α β : Type} {fin fin' : α → En → Hp → Foot → Prop}
theorem OkP.shift {o : Out α} (h : OkP K mg W (p && q) Pr σ H S fin o) (F : Fr p H S H1 S1) : OkP K mg W q Pr σ H1 S1 fin o := by
  cases o with
  | bad => exact h
  | ok d e => exact fun H' S' R F' => h H' S' R (F.trans F')
  | exc c x y e => exact fun C dd H' S' m R F' x => h C dd H' S' m R (F.trans' F') x
theorem OkP.shift0 {o : Out α} (h : OkP K mg W false Pr σ H S fin o) (F : Fr p H S H1 S1) : OkP K mg W q Pr σ H1 S1 fin o := by
  cases o with
  | bad => exact h
  | ok d e => exact fun H' S' R F' => h H' S' R (F.trans' F')
  | exc c x y e => exact fun C dd H' S' m R F' x => h C dd H' S' m R (F.trans' F') x
theorem OkP.bind2 {o : Out β} {f : β → En → Out α} (h : OkP K mg W (p && q) Pr σ H S fin (o.bind f)) : OkP K mg W p Pr σ H S (fun b e H1 S1 => OkP K mg W q Pr σ H1 S1 fin (f b e)) o := by
  cases o with
  | bad => exact h
  | exc c x y e => exact h
  | ok b e => exact fun H1 S1 R F => h.shift F
theorem OkP.bind0 {o : Out β} {f : β → En → Out α} (h : OkP K mg W false Pr σ H S fin (o.bind f)) : OkP K mg W p Pr σ H S (fun b e H1 S1 => OkP K mg W q Pr σ H1 S1 fin (f b e)) o := by
  cases o with
  | bad => exact h
  | exc c x y e => exact h
  | ok b e => exact fun H1 S1 R F => h.shift0 F
theorem OkP.last {o : Out β} {f : β → En → Out α} (h : OkP K mg W p Pr σ H S fin (o.bind f)) : OkP K mg W p Pr σ H S (fun b e H1 S1 => OkP K mg W true Pr σ H1 S1 fin (f b e)) o := by
  rw [← Bool.and_true p] at h
  exact h.bind2
theorem OkP.mono {o : Out α} (h : OkP K mg W p Pr σ H S fin o) (k : ∀ a e H' S', SR K Pr H' σ e S' → Fr p H S H' S' → fin a e H' S' → fin' a e H' S') : OkP K mg W p Pr σ H S fin' o := by
  cases o with
  | bad => exact h
  | exc c x y e => exact h
  | ok a e => exact fun H' S' R F => k a e H' S' R F (h H' S' R F)
theorem OkP.weak {o : Out α} (h : OkP K mg W false Pr σ H S fin o) : OkP K mg W p Pr σ H S fin o := by
  cases o with
  | bad => exact h
  | exc c x y e => exact h
  | ok a e => exact fun H' S' R F => h H' S' R F.weak
theorem OkP.fls {o : Out α} (e : p = false) (h : OkP K mg W p Pr σ H S fin o) : OkP K mg W false Pr σ H S fin o := by
  rw [← e]; exact h
theorem still_ok {d : D} {b : Bool} {o : Out α} {fin : α → En → Hp → Foot → Prop} (h : OkP K mg W p Pr σ H S fin (still d b o)) : (d.isIm || b) = true ∧ OkP K mg W p Pr σ H S fin o := by
  unfold still at h
  split at h
  · rename_i e; exact ⟨e, h⟩
  · exact h.elim
theorem lift_ok {o : Option α} {e : En} (h : OkP K mg W p Pr σ H S fin (lift o e)) : ∃ a, o = some a ∧ OkP K mg W p Pr σ H S fin (.ok a e) := by
  cases o with
  | none => exact h.elim
  | some a => exact ⟨a, rfl, h⟩
/-- the value stands while more is reckoned -/
theorem DR.still {d : D} {v : V} {L : List Addr} {ρ : En} (hs : (d.isIm || q) = true) (F : Fr q H S H1 S1) (R : SR K Pr H σ ρ S) (h : DR K H d v L) : DR K H1 d v L := by
  cases hd : d.isIm with
  | true =>
    cases h with
    | im r => exact .im (r.stay (R.stay (L := []) F fun a m => absurd m List.not_mem_nil))
    | _ => cases hd
  | false =>
    rw [hd, Bool.false_or] at hs
    exact h.stay (Stay.ext (F.pur hs).2)
/-- or it is nobody's -/
theorem DR.stillR {src : List Nat} {own : Bool} {H0 : Hp} {S0 : Foot} {d : D} {v : V} {L : List Addr} {ρ : En} (hs : (d.isIm || (q || src.isEmpty)) = true) (F : Fr q H S H1 S1) (R : SR K Pr H σ ρ S) (r : Res own src Pr H0 S0 H S L) (h : DR K H d v L) : DR K H1 d v L := by
  cases hd : (d.isIm || q) with
  | true => exact h.still hd F R
  | false =>
    rw [← Bool.or_assoc, hd, Bool.false_or] at hs
    refine h.stay (R.stay F fun a m i n => ?_)
    rcases r.any a m with z | ⟨j, z, _⟩ | z
    · exact R.pt i a n z
    · rw [List.isEmpty_iff.mp hs] at z
      cases z
    · exact z i n
theorem DRs.pureStay {ds : List D} {vs : List V} {L : List Addr} (hs : q = true) (F : Fr q H S H1 S1) (h : DRs K H ds vs L) : DRs K H1 ds vs L := h.stay (Stay.ext (F.pur hs).2)
variable {ρ : En} {own : Bool} {src : List Nat} {H0 : Hp} {S0 : Foot} {Q : VK}
theorem MutAt.there {H : Hp} {a : Addr} (h : MutAt H a) : H a ≠ none := fun e => by
  obtain ⟨o, q, _⟩ := h
  rw [e] at q; cases q
theorem There.ne {H : Hp} {a : Addr} (h : There H a) : H a ≠ none := fun e => by
  obtain ⟨o, q⟩ := h
  rw [e] at q; cases q
theorem SR.fresh {H' : Hp} {L : List Addr} (R : SR K Pr H σ ρ S) (F : Fr p H0 S0 H S) (f : Fresh H H' L) : Res own src Pr H0 S0 H' S L :=
  Res.of ⟨f.nd, fun a m => ⟨fun i n => (R.mu i a n).there (f.new a m), fun n => (R.pa a n).ne (f.new a m), F.prov (.inr (f.new a m)), f.mu a m⟩⟩
theorem fin_fresh {z : D} (h : OkP K mg W q Pr σ H S (finE K own src Pr H0 S0 Q) (.ok z ρ)) (R : SR K Pr H σ ρ S) (F : Fr p H0 S0 H S) : VOk K H z Q :=
  fun H' w L ex dr fr => h H' S (R.grow ex) (Fr.ext ex) w L dr (R.fresh F fr)
end

/-- the names of a context: its places, what it sees, what it stores -/
structure Cs where
  N : List Str
  sc : Scope
  raw : Scope
def isVar (k : Option NameKind) : Bool := match k with
  | some .local => true
  | some .cell => true
  | some .free => true
  | _ => false
def isLoc (k : Option NameKind) : Bool := match k with
  | some .local => true
  | some .cell => true
  | _ => false
def isGlo (k : Option NameKind) : Bool := match k with
  | some .globalImplicit => true
  | _ => false
def Cs.vis (c : Cs) (x : Str) : Bool := isVar (c.sc.names.lookup x)
def Cs.loc (c : Cs) (x : Str) : Bool := isLoc (c.raw.names.lookup x)
def Cs.glo (c : Cs) (x : Str) : Bool := isGlo (c.sc.names.lookup x)
def Cs.blk (c : Cs) (s : Scope) : Cs := ⟨c.N, relS s c.sc, s⟩
def fine (x : Str) : Bool := !(x == ("__debug__" : Str)) && !(x == ("__classdict__" : Str)) && !(x == ("__name__" : Str))

def Bi.nm : Bi → Str
  | .len => "len" | .tuple => "tuple" | .list => "list" | .int => "int" | .abs => "abs" | .min => "min" | .max => "max" | .sum => "sum" | .any => "any" | .all => "all" | .sorted => "sorted" | .str => "str" | .gcd => "gcd" | .range => "range"
def Me.nm : Me → Str
  | .get => "get" | .index => "index" | .count => "count" | .join => "join" | .split => "split" | .replace => "replace"
def Mm.nm : Mm → Str
  | .append => "append" | .extend => "extend" | .pop => "pop" | .insert => "insert" | .remove => "remove" | .setdefault => "setdefault" | .sort => "sort"
def Op.is : Op → Operator → Bool
  | .add, .Add => true | .sub, .Sub => true | .mul, .Mult => true | .mod, .Mod => true | .fdiv, .FloorDiv => true | .pow, .Pow => true
  | _, _ => false
def Cm.is : Cm → CmpOp → Bool
  | .eq, .Eq => true | .ne, .NotEq => true | .lt, .Lt => true | .le, .LtE => true | .gt, .Gt => true | .ge, .GtE => true
  | .isN, .Is => true | .notN, .IsNot => true | .inn, .In => true | .nin, .NotIn => true
  | _, _ => false
mutual
def chkT (c : Cs) : Tg → Expr → Bool
  | .name i, .Name x _ => decide (c.N[i]? = some x) && c.loc x
  | .tup ts, .Tuple xs _ _ => chkTs c ts xs
  | _, _ => false
def chkTs (c : Cs) : Tgs → List Expr → Bool
  | .nil, [] => true
  | .cons t r, x :: xs => chkT c t x && chkTs c r xs
  | _, _ => false
end
def builtins : List Str := ["len", "tuple", "list", "int", "abs", "min", "max", "sum", "any", "all", "sorted", "str", "range", "reversed", "enumerate", "zip", "isinstance"]
def chkKs : List I → List (Option Expr) → Bool
  | [], [] => true
  | .int n :: r, some (.Constant (.int m) _ _) :: xs => (n == m) && chkKs r xs
  | .str n :: r, some (.Constant (.str m) _ _) :: xs => (n == m) && chkKs r xs
  | _, _ => false
/-- a constant's text -/
def chkD : D → Expr → Bool
  | .im (.int n), .Constant (.int m) _ _ => n == m
  | .im (.str n), .Constant (.str m) _ _ => n == m
  | .im (.tup xs), .Tuple es _ _ => chkKs xs (es.map some)
  | .lst ds, .List es _ => (match ims ds with
    | some xs => chkKs xs (es.map some)
    | none => false)
  | _, _ => false
def chkDs : List D → List Expr → Bool
  | [], [] => true
  | d :: r, x :: xs => chkD d x && chkDs r xs
  | _, _ => false
def isTupX : Expr → Bool
  | .Tuple _ _ _ => true
  | _ => false
/-- walks whose items come in pairs of their own -/
def Wk.tupT : Wk → Bool
  | .enum _ => true
  | .zip _ _ => true
  | _ => false
mutual
def chkE (c : Cs) : E → Expr → Bool
  | .var i, .Name x _ => decide (c.N[i]? = some x) && c.vis x && fine x
  | .cst (.int n), .Constant (.int m) _ _ => n == m
  | .cst (.str n), .Constant (.str m) _ _ => n == m
  | .cst (.bl n), .Constant (.bool m) _ _ => n == m
  | .cst .non, .Constant .none _ _ => true
  | .glob x, .Name y _ => (x == y) && c.glo x && fine x
  | .tup es, .Tuple xs _ _ => chkEs c es xs && decide (es.len ≤ 1000)
  | .lst es, .List xs _ => chkEs c es xs && decide (es.len ≤ 1000)
  | .dnew, .Dict [] [] _ => true
  | .bin op a b, .BinOp x o y _ => op.is o && chkE c a x && chkE c b y
  | .neg a, .UnaryOp .USub x _ => chkE c a x
  | .not a, .UnaryOp .Not x _ => chkE c a x
  | .cmp op a b, .Compare x [o] [y] _ => op.is o && chkE c a x && chkE c b y
  | .chain o1 o2 a b d, .Compare x [p, q] [y, z] _ => o1.is p && o2.is q && chkE c a x && chkE c b y && chkE c d z && (match o1 with | .lt => true | .le => true | .gt => true | .ge => true | _ => false) && (match o2 with | .lt => true | .le => true | .gt => true | .ge => true | _ => false)
  | .one a, .BoolOp _ [x] _ => chkE c a x
  | .and a b, .BoolOp .And (x :: y :: r) p => chkE c a x && chkE c b (.BoolOp .And (y :: r) p)
  | .or a b, .BoolOp .Or (x :: y :: r) p => chkE c a x && chkE c b (.BoolOp .Or (y :: r) p)
  | .ite a b d, .IfExp x y z _ => chkE c a x && chkE c b y && chkE c d z
  | .ix a b, .Subscript x y _ => chkE c a x && chkE c b y
  | .sl a lo hi, .Subscript x (.Slice l h none _) _ => chkE c a x && chkO c lo l && chkO c hi h
  | .ixv i b, .Subscript (.Name x _) y _ => (decide (c.N[i]? = some x) && c.vis x && fine x) && chkE c b y
  | .slv i lo hi, .Subscript (.Name x _) (.Slice l h none _) _ => (decide (c.N[i]? = some x) && c.vis x && fine x) && chkO c lo l && chkO c hi h
  | .rev a, .Subscript x (.Slice none none (some (.UnaryOp .USub (.Constant (.int 1) _ _) _)) _) _ => chkE c a x
  | .lrange es, .Call (.Name g _) [.Call (.Name h _) xs [] _] [] _ => (g == ("list" : Str)) && (h == ("range" : Str)) && c.glo g && c.glo h && chkEs c es xs && decide (0 < es.len)
  | .disp ks vs, .Dict kx xs _ => chkKs ks kx && chkKs vs (xs.map some) && decide (ks.length = vs.length) && decide (0 < ks.length)
  | .dispD ks vs, .Dict kx xs _ => chkKs ks kx && chkDs vs xs && decide (ks.length = vs.length) && decide (0 < ks.length)
  | .gcd a b, .Call (.Name g _) [x, y] [] _ => (g == ("gcd" : Str)) && c.glo g && chkE c a x && chkE c b y
  | .isin a t, .Call (.Name g _) [x, .Name u _] [] _ => (g == ("isinstance" : Str)) && (u == t) && c.glo g && c.glo u && chkE c a x && ((t == ("str" : Str)) || (t == ("tuple" : Str)) || (t == ("int" : Str)))
  | .gin neg d a, .Compare y [o] [.Name g _] _ => (match o with | .In => !neg | .NotIn => neg | _ => false) && (g == d) && c.glo g && fine g && chkE c a y
  | .gix d a, .Subscript (.Name g _) y _ => (g == d) && c.glo g && fine g && chkE c a y
  | .call f es, .Call (.Name g _) xs [] _ => (f == g) && c.glo g && fine g && chkEs c es xs && decide (0 < es.len)
  | .bi f es, .Call (.Name g _) xs [] _ => (g == f.nm) && c.glo g && chkEs c es xs && decide (0 < es.len) && (match f with | .gcd => false | _ => true)
  | .me m r es, .Call (.Attribute x a apos) xs [] cpos => (a == m.nm) && chkE c r x && chkEs c es xs && (apos.endLine == cpos.line) && (match m with | .get => decide (es.len = 2) | .replace => false | _ => decide (es.len = 1))
  | .mut m i es, .Call (.Attribute (.Name x _) a apos) xs [] cpos => (a == m.nm) && decide (c.N[i]? = some x) && c.vis x && fine x && chkEs c es xs && (apos.endLine == cpos.line) && decide (es.len < 20) && (match m with | .setdefault => decide (es.len = 2) | _ => true)
  | .lc w tg own cn elt, .ListComp y [⟨t, it, ifs, 0⟩] scope _ => blkC c.N c.sc scope own && chkW c w it && chkT (c.blk scope) tg t && chkC (c.blk scope) cn ifs && chkE (c.blk scope) elt y && tg.slots.all (fun i => (own.map (·.2)).contains i) && (!w.tupT || isTupX t)
  | _, _ => false
def chkEs (c : Cs) : Es → List Expr → Bool
  | .nil, [] => true
  | .cons e r, x :: xs => chkE c e x && chkEs c r xs
  | _, _ => false
def chkO (c : Cs) : Eo → Option Expr → Bool
  | .no, none => true
  | .so e, some x => chkE c e x
  | _, _ => false
def chkC (c : Cs) : Eo → List Expr → Bool
  | .no, [] => true
  | .so e, [x] => chkE c e x
  | _, _ => false
def chkW (c : Cs) : Wk → Expr → Bool
  | .it e, x => chkE c e x
  | .rev e, .Call (.Name g _) [x] [] _ => (g == ("reversed" : Str)) && c.glo g && chkE c e x
  | .range es, .Call (.Name g _) xs [] _ => (g == ("range" : Str)) && c.glo g && chkEs c es xs && decide (0 < es.len)
  | .enum e, .Call (.Name g _) [x] [] _ => (g == ("enumerate" : Str)) && c.glo g && chkE c e x
  | .zip a b, .Call (.Name g _) [x, y] [] _ => (g == ("zip" : Str)) && c.glo g && chkE c a x && chkE c b y
  | _, _ => false
end
end Kh

set_option Elab.async false
set_option linter.all false
set_option maxRecDepth 100000
set_option maxHeartbeats 1000000
/-! operators by values -/
namespace Kh
open PySem PySem.Spec PyProof.Rows L2

theorem big_line {n : Nat} (h : n ≤ big) : n ≤ sizeLine := Nat.le_trans h (by decide)
def rAddS : R2 := fun x y H Q => ∃ i j, x = .str i ∧ y = .str j ∧ i.length + j.length ≤ sizeLine ∧ Q (.str (i ++ j)) H
def rMulS : R2 := fun x y H Q => ∃ s k, x = .str s ∧ y = .int k ∧ 0 ≤ k ∧ k ≤ 1000000 ∧ s.length * k.toNat ≤ 1000000 ∧ Q (.str (Txt.mul s k)) H
theorem op_mulS {X : Cx} : OpR X (binaryOp .Mult) rMulS := by
  intro pins s σ H x y v u Q I rx ry h
  obtain ⟨z, k, rfl, rfl, h0, h1, h2, q⟩ := h
  obtain ⟨t, rfl⟩ := rx
  obtain ⟨t', rfl⟩ := ry
  refine SB.mul ⟨by rw [decide_eq_false (by omega), decide_eq_false (by omega)]; rfl, fun hk _ hc => ?_, fun hk _ => ?_⟩ fun t2 k2 => ⟨.str _, H, I.tok _, ⟨_, rfl⟩, q⟩
  · have hk' : 0 < k := by omega
    have e : ((k.toNat : Nat) : Int) = k := Int.toNat_of_nonneg h0
    have h3 : (z.length : Int) * k ≤ 1000000 := by rw [← e, ← Int.natCast_mul]; exact Int.ofNat_le.mpr h2
    have h4 : (z.length : Int) ≤ (2 ^ 63 - 1) / k := Int.le_ediv_of_mul_le hk' (by omega)
    omega
  · unfold Builtin.Str.tooLong
    rw [sizeLine_eq]
    exact decide_eq_false (by omega)
def CDivZ (_ j : Int) : Prop := j ≠ 0 ∧ j.natAbs.log2 < 9000
theorem op_fdivZ {X : Cx} : OpR X (binaryOp .FloorDiv) (rI CDivZ fun i j => .int (i.fdiv j)) := opI fun i j _ _ _ _ _ hc q => floordiv_int hc.1 q (.inl (PyProof.noPylong_of_log2 hc.2))
def rBin (K : PySem.W.Frag) : Op → R2
  | .add => fun x y H Q => ((rI0 (fun i j => .int (i + j)) x y H Q ∨ rCatA K x y H Q) ∨ rAddS x y H Q) ∨ rCat x y H Q
  | .sub => rI0 fun i j => .int (i - j)
  | .mul => fun x y H Q => (rI CMulW (fun i j => .int (i * j)) x y H Q ∨ rRep x y H Q) ∨ rMulS x y H Q
  | .mod => fun x y H Q => rI (fun _ j => 0 < j) (fun i j => .int (i % j)) x y H Q ∨ rI (fun _ j => j ≠ 0) (fun i j => .int (i.fmod j)) x y H Q
  | .fdiv => fun x y H Q => rI CDivW (fun i j => .int (i / j)) x y H Q ∨ rI CDivZ (fun i j => .int (i.fdiv j)) x y H Q
  | .pow => rI CPow fun i j => .int (i ^ j.toNat)
theorem op_bin {X : Cx} {op : Op} {o : Operator} (h : op.is o = true) : OpR X (binaryOp o) (rBin X.K op) := by
  cases op <;> cases o <;> first | (simp [Op.is] at h; done) | skip
  · exact OpR.or (OpR.or (OpR.or op_add op_catA) op_add_str) op_cat
  · exact op_sub
  · exact OpR.or (OpR.or op_mulW op_rep) op_mulS
  · exact OpR.or op_mod op_modN
  · exact OpR.or op_fdivW op_fdivZ
  · exact op_pow

section
variable {K : PySem.W.Frag} {H : Hp} {Q : VK}
theorem VOk.im {x : I} {v : V} (q : VOk K H (.im x) Q) (h : IR K H x v) : Q v H := q H v [] (fun _ _ e => e) (.im h) Fresh.nil
theorem VOk.int {i : Int} (q : VOk K H (.im (.int i)) Q) : Q (.int i) H := q.im (.int i)
theorem VOk.bl {i : Bool} (q : VOk K H (.im (.bl i)) Q) : Q (.bl i) H := q.im (.bl i)
theorem sqT_new {p : Addr} {vs : List V} : SqT K (upd H p (.tup vs)) p vs := .inl (.inl upd_same)
theorem stay_new {p : Addr} {o : HO} {S : List Addr} (h : H p = none) : Stay H (upd H p o) S := Stay.ext (grow_new h)
theorem VOk.tup {xs : List I} {vs : List V} (q : VOk K H (.im (.tup xs)) Q) (h : IRs K H xs vs) : ∀ p, H p = none → Q (.ref p) (upd H p (.tup vs)) := fun p hp =>
  q _ _ [] (grow_new hp) (.im (.tup sqT_new (h.stay (stay_new (S := []) hp)))) Fresh.nil
theorem VOk.lst {xs : List D} {vs : List V} (q : VOk K H (.lst xs) Q) (h : DRs K H xs vs []) : ∀ p, H p = none → Q (.ref p) (upd H p (.lst vs)) := fun p hp =>
  q _ _ [p] (grow_new hp) (.lst upd_same (h.stay (stay_new hp))) (Fresh.one hp rfl)
theorem DR.im_inv {x : I} {v : V} {L : List Addr} (h : DR K H (.im x) v L) : L = [] ∧ IR K H x v := by
  cases h with
  | im r => exact ⟨rfl, r⟩
theorem DR.int_inv {i : Int} {v : V} {L : List Addr} (h : DR K H (.im (.int i)) v L) : v = .int i := by
  cases h with
  | im r => cases r; rfl
theorem DR.bl_inv {i : Bool} {v : V} {L : List Addr} (h : DR K H (.im (.bl i)) v L) : v = .bl i := by
  cases h with
  | im r => cases r; rfl
theorem DR.str_inv {i : Str} {v : V} {L : List Addr} (h : DR K H (.im (.str i)) v L) : v = .str i := by
  cases h with
  | im r => cases r; rfl
theorem DR.non_inv {v : V} {L : List Addr} (h : DR K H (.im .non) v L) : v = .non := by
  cases h with
  | im r => cases r; rfl
theorem DR.tup_inv {xs : List I} {v : V} {L : List Addr} (h : DR K H (.im (.tup xs)) v L) : ∃ a vs, v = .ref a ∧ SqT K H a vs ∧ IRs K H xs vs := by
  cases h with
  | im r =>
    cases r with
    | tup q r => exact ⟨_, _, rfl, q, r⟩
theorem DR.lst_inv {xs : List D} {v : V} {L : List Addr} (h : DR K H (.lst xs) v L) : ∃ a vs R, v = .ref a ∧ H a = some (.lst vs) ∧ DRs K H xs vs R ∧ L = a :: R := by
  cases h with
  | lst q r => exact ⟨_, _, _, rfl, q, r, rfl⟩
theorem bin_ok {op : Op} {x y z : D} {v u : V} {L M : List Addr} (h : binD op x y = some z) (dx : DR K H x v L) (dy : DR K H y u M) (q : VOk K H z Q) : rBin K op v u H Q := by
  unfold binD at h
  split at h
  · -- two ints
    rename_i i j
    obtain rfl := dx.int_inv
    obtain rfl := dy.int_inv
    cases hb : binI op i j with
    | none => rw [hb] at h; cases h
    | some k =>
      rw [hb] at h
      cases h
      cases op with
      | add => cases hb; exact .inl (.inl (.inl ⟨i, j, rfl, rfl, q.int⟩))
      | sub => cases hb; exact ⟨i, j, rfl, rfl, q.int⟩
      | mul =>
        simp only [binI] at hb
        split at hb
        · rename_i hc; cases hb; exact .inl (.inl ⟨i, j, rfl, rfl, hc, q.int⟩)
        · cases hb
      | mod =>
        simp only [binI] at hb
        split at hb
        · rename_i hc; cases hb; exact .inl ⟨i, j, rfl, rfl, hc, q.int⟩
        · split at hb
          · rename_i hc; cases hb; exact .inr ⟨i, j, rfl, rfl, by omega, q.int⟩
          · cases hb
      | fdiv =>
        simp only [binI] at hb
        split at hb
        · rename_i hc; cases hb; exact .inl ⟨i, j, rfl, rfl, hc, q.int⟩
        · split at hb
          · rename_i hc; cases hb; exact .inr ⟨i, j, rfl, rfl, ⟨by omega, hc.2⟩, q.int⟩
          · cases hb
      | pow =>
        simp only [binI] at hb
        split at hb
        · rename_i hc; cases hb; exact ⟨i, j, rfl, rfl, hc, q.int⟩
        · cases hb
  · -- two tuples
    rename_i xs ys
    split at h
    · rename_i hz
      cases h
      obtain ⟨a, vs, rfl, sa, ra⟩ := dx.tup_inv
      obtain ⟨b, us, rfl, sb, rb⟩ := dy.tup_inv
      refine .inl (.inl (.inr ⟨a, b, vs, us, rfl, rfl, sa, sb, ?_, fun e => ?_, fun _ e => ?_, fun _ _ => ?_⟩))
      · rw [← ra.length, ← rb.length]; exact big_line hz
      · subst e
        cases ra
        exact q.im (.tup sb rb)
      · subst e
        cases rb
        rw [List.append_nil] at q
        exact q.im (.tup sa ra)
      · exact q.tup (ra.append rb)
    · cases h
  · rename_i a b
    split at h
    · rename_i hz
      cases h
      obtain rfl := dx.str_inv
      obtain rfl := dy.str_inv
      exact .inl (.inr ⟨a, b, rfl, rfl, big_line hz, q.im (.str _)⟩)
    · cases h
  · -- two lists
    rename_i xs ys
    split at h
    · rename_i hz
      split at h
      · rename_i i j e1 e2
        cases h
        obtain ⟨a, vs, R, rfl, sa, ra, _⟩ := dx.lst_inv
        obtain ⟨b, us, R', rfl, sb, rb, _⟩ := dy.lst_inv
        obtain ⟨rfl, _, _⟩ := DRs.of_ims ra e1
        obtain ⟨rfl, _, _⟩ := DRs.of_ims rb e2
        refine .inr ⟨a, b, vs, us, rfl, rfl, sa, sb, ?_, q.lst (ra.append rb)⟩
        rw [← ra.length, ← rb.length]; exact big_line hz
      · cases h
    · cases h
  · rename_i xs k
    split at h
    · rename_i hz
      split at h
      · rename_i i e1
        cases h
        obtain ⟨a, vs, R, rfl, sa, ra, _⟩ := dx.lst_inv
        obtain rfl := dy.int_inv
        obtain ⟨rfl, _, _⟩ := DRs.of_ims ra e1
        have rep : ∀ n : Nat, DRs K H (List.replicate n xs).flatten (List.replicate n vs).flatten [] := by
          intro n
          induction n with
          | zero => exact .nil
          | succ n ih => rw [List.replicate_succ, List.replicate_succ, List.flatten_cons, List.flatten_cons]; exact DRs.append (S := []) ra ih
        refine .inl (.inr ⟨a, k, vs, rfl, rfl, sa, by omega, by omega, ?_, q.lst (rep _)⟩)
        rw [← ra.length]; exact big_line hz.2.1
      · cases h
    · cases h
  · rename_i z k
    split at h
    · rename_i hz
      cases h
      obtain rfl := dx.str_inv
      obtain rfl := dy.int_inv
      exact .inr ⟨z, k, rfl, rfl, hz.1, hz.2.1, hz.2.2, q.im (.str _)⟩
    · cases h
  · cases h
end

/-! ### equality -/
mutual
theorem dp_of {K : PySem.W.Frag} {H : Hp} : ∀ {x : I} {v : V}, IR K H x v → Dp K H v (I.py x)
  | _, _, .non => by rw [I.py]; exact .non
  | _, _, .bl b => by rw [I.py]; exact .bl b
  | _, _, .int i => by rw [I.py]; exact .int i
  | _, _, .str s => by rw [I.py]; exact .str s
  | _, _, .tup q r => by rw [I.py]; exact .tup q (dps_of r)
theorem dps_of {K : PySem.W.Frag} {H : Hp} : ∀ {x : List I} {v : List V}, IRs K H x v → DpAll K H v (I.pys x)
  | _, _, .nil => by rw [I.pys]; exact .nil
  | _, _, .cons a r => by rw [I.pys]; exact .cons (dp_of a) (dps_of r)
end
mutual
theorem py_ok : ∀ (n : Nat) (x : I), I.shal n x = true → (I.py x).canLay0 = true ∧ (I.py x).depth ≤ n
  | n, .non, _ => by rw [I.py, PyData.depth]; exact ⟨by rw [PyData.canLay0], Nat.zero_le _⟩
  | n, .bl b, _ => by rw [I.py, PyData.depth]; exact ⟨by rw [PyData.canLay0], Nat.zero_le _⟩
  | n, .int i, _ => by rw [I.py, PyData.depth]; exact ⟨by rw [PyData.canLay0], Nat.zero_le _⟩
  | n, .str s, h => by
    rw [I.py, PyData.depth]
    refine ⟨?_, Nat.zero_le _⟩
    rw [PyData.canLay0]
    rw [I.shal] at h
    exact h
  | 0, .tup xs, h => by simp [I.shal] at h
  | n + 1, .tup xs, h => by
    rw [I.shal] at h
    obtain ⟨a, b⟩ := pys_ok n xs h
    rw [I.py, PyData.depth, PyData.canLay0]
    exact ⟨a, by omega⟩
theorem pys_ok : ∀ (n : Nat) (xs : List I), I.shals n xs = true → PyData.canLayAll0 (I.pys xs) = true ∧ PyData.depthAll (I.pys xs) ≤ n
  | n, [], _ => by rw [I.pys, PyData.canLayAll0, PyData.depthAll]; exact ⟨rfl, Nat.zero_le _⟩
  | n, x :: xs, h => by
    rw [I.shals, Bool.and_eq_true] at h
    obtain ⟨a, b⟩ := py_ok n x h.1
    obtain ⟨c, d⟩ := pys_ok n xs h.2
    rw [I.pys, PyData.canLayAll0, PyData.depthAll, a, c]
    exact ⟨rfl, by omega⟩
end
theorem py_shaped {x : I} (h : I.shal 60 x = true) : SeqAt.shaped (I.py x) = true := by
  obtain ⟨a, b⟩ := py_ok 60 x h
  unfold SeqAt.shaped
  rw [a, decide_eq_true (by omega : (I.py x).depth ≤ 64)]
  rfl
mutual
theorem eq_py : ∀ (x y : I) (r : Bool), I.eq x y = some r → PyData.eqv (I.py x) (I.py y) = r
  | .tup a, .tup b, r, h => by
    rw [I.eq] at h
    rw [I.py, I.py, PyData.eqv]
    exact eqs_py a b r h
  | .non, y, r, h => by cases y <;> simp_all [I.eq, I.py, PyData.eqv]
  | .bl a, y, r, h => by cases y <;> simp_all [I.eq, I.py, PyData.eqv]
  | .int a, y, r, h => by cases y <;> simp_all [I.eq, I.py, PyData.eqv]
  | .str a, y, r, h => by cases y <;> simp_all [I.eq, I.py, PyData.eqv]
  | .tup a, .non, r, h => by simp_all [I.eq, I.py, PyData.eqv]
  | .tup a, .bl _, r, h => by simp_all [I.eq, I.py, PyData.eqv]
  | .tup a, .int _, r, h => by simp_all [I.eq, I.py, PyData.eqv]
  | .tup a, .str _, r, h => by simp_all [I.eq, I.py, PyData.eqv]
theorem eqs_py : ∀ (x y : List I) (r : Bool), I.eqs x y = some r → PyData.eqvAll (I.pys x) (I.pys y) = r
  | [], [], r, h => by simp_all [I.eqs, I.pys, PyData.eqvAll]
  | [], _ :: _, r, h => by simp_all [I.eqs, I.pys, PyData.eqvAll]
  | _ :: _, [], r, h => by simp_all [I.eqs, I.pys, PyData.eqvAll]
  | x :: xs, y :: ys, r, h => by
    rw [I.eqs] at h
    cases e1 : I.eq x y with
    | none => rw [e1] at h; cases h
    | some p =>
      cases e2 : I.eqs xs ys with
      | none => rw [e1, e2] at h; cases h
      | some q =>
        rw [e1, e2] at h
        cases h
        rw [I.pys, I.pys, PyData.eqvAll, eq_py x y p e1, eqs_py xs ys q e2]
end
end Kh

set_option Elab.async false
set_option linter.all false
set_option maxRecDepth 100000
set_option maxHeartbeats 1000000
/-! comparisons, items, slices, built-in functions by values -/
namespace Kh
open PySem PySem.Spec PyProof.Rows L2

/-! ### keys -/
theorem key_inj {j k : I} {a b : Key} (ha : keyOf j = some a) (hb : keyOf k = some b) : I.eq j k = some (decide (a = b)) := by
  cases j <;> simp only [keyOf] at ha <;> first | (cases ha; done) | skip
  all_goals cases k <;> simp only [keyOf] at hb <;> first | (cases hb; done) | skip
  all_goals cases ha
  all_goals cases hb
  all_goals simp only [I.eq]
  · rw [key_ll]
  · rw [key_lr]
  · rw [key_rl]
  · rw [key_rr]; rfl
theorem keyOk_some {t : Bool} {k : I} (h : keyOk t k = true) : t = false ∧ ∃ q, keyOf k = some q := by
  unfold keyOk at h
  cases t with
  | true => cases h
  | false =>
    refine ⟨rfl, ?_⟩
    cases k <;> first | exact ⟨_, rfl⟩ | (simp [isKey] at h)
theorem keyOf_isKey {k : I} (h : isKey k = true) : ∃ q, keyOf k = some q := by
  cases k <;> first | exact ⟨_, rfl⟩ | (simp [isKey] at h)
section
variable {K : PySem.W.Frag} {H : Hp}
theorem key_val {k : I} {q : Key} {v : V} (e : keyOf k = some q) (r : IR K H k v) : v = kV q := by
  cases r <;> simp only [keyOf] at e <;> first | (cases e; rfl) | cases e
theorem lkup_K : ∀ {kvs : List (I × D)} {ws : List (Key × V)} {S : List Addr} {k : I} {q : Key} {o : Option D}, KRs K H kvs ws S → keyOf k = some q → lkup k kvs = some o →
    (o = none ∧ valV ws q = none) ∨ ∃ d v R, o = some d ∧ valV ws q = some v ∧ DR K H d v R ∧ ∀ a ∈ R, a ∈ S
  | _, _, _, k, q, o, .nil, hk, h => by
    cases h
    exact .inl ⟨rfl, valV_nil⟩
  | _, _, _, k, q, o, .cons (k := j) (q := p) (d := d) (v := v) (S := S) e a r, hk, h => by
    rw [lkup, key_inj e hk] at h
    by_cases z : p = q
    · rw [decide_eq_true z] at h
      cases h
      exact .inr ⟨d, v, S, rfl, valV_pos z, a, fun _ m => List.mem_append_left _ m⟩
    · rw [decide_eq_false z] at h
      rw [valV_neg z]
      rcases lkup_K r hk h with h | ⟨d, v, R, h1, h2, h3, h4⟩
      · exact .inl h
      · exact .inr ⟨d, v, R, h1, h2, h3, fun a m => List.mem_append_right _ (h4 a m)⟩
theorem DR.dct_inv {t : Bool} {kvs : List (I × D)} {v : V} {L : List Addr} (h : DR K H (.dct t kvs) v L) (ht : t = false) : ∃ a ws R, v = .ref a ∧ Rd H a (.dK ws) ∧ KRs K H kvs ws R ∧ L = a :: R ∧ (ws.map (·.1)).Nodup := by
  cases h with
  | dK n q r => exact ⟨_, _, _, rfl, q, r, rfl, n⟩
  | dT n q r => cases ht
end

/-! ### comparisons -/
def rInDct : R2 := fun x y H Q => ∃ a o, y = .ref a ∧ DGet H a x o ∧ Q (.bl o.isSome) H
def rNinDct : R2 := fun x y H Q => ∃ a o, y = .ref a ∧ DGet H a x o ∧ Q (.bl (!o.isSome)) H
theorem op_inDct {X : Cx} (hu : X.A.units + 1 < cLine) : OpR X (compareOp .In) rInDct := by
  intro pins s σ H x y v u Q I rx ry h
  obtain ⟨a, o, rfl, g, q⟩ := h
  cases ry
  exact d_in hu I g rx fun s' I' => ⟨.bl o.isSome, H, I', rfl, q⟩
theorem op_ninDct {X : Cx} (hu : X.A.units + 1 < cLine) : OpR X (compareOp .NotIn) rNinDct := by
  intro pins s σ H x y v u Q I rx ry h
  obtain ⟨a, o, rfl, g, q⟩ := h
  cases ry
  exact d_notIn hu I g rx fun s' I' => ⟨.bl (!o.isSome), H, I', rfl, q⟩
def rInS : R2 := fun x y H Q => ∃ i j, x = .str i ∧ y = .str j ∧ Q (.bl (!(Builtin.Str.occurrences j i 0 j.length 1).isEmpty)) H
def rNinS : R2 := fun x y H Q => ∃ i j, x = .str i ∧ y = .str j ∧ Q (.bl (!(!(Builtin.Str.occurrences j i 0 j.length 1).isEmpty))) H
def rCm (K : PySem.W.Frag) : Cm → R2
  | .eq => fun x y H Q => rEq x y H Q ∨ rEqD K x y H Q
  | .ne => fun x y H Q => rNe x y H Q ∨ rNeD K x y H Q
  | .lt => rI0 fun i j => .bl (decide (i < j))
  | .le => rI0 fun i j => .bl (decide (i ≤ j))
  | .gt => rI0 fun i j => .bl (decide (j < i))
  | .ge => rI0 fun i j => .bl (decide (j ≤ i))
  | .isN => fun x y H Q => (y = .non ∧ Q (.bl (decide (x = .non))) H) ∨ ∃ a b, x = .bl a ∧ y = .bl b ∧ Q (.bl (decide (a = b))) H
  | .notN => fun x y H Q => (y = .non ∧ Q (.bl (!decide (x = .non))) H) ∨ ∃ a b, x = .bl a ∧ y = .bl b ∧ Q (.bl (!decide (a = b))) H
  | .inn => fun x y H Q => ((rIn K false x y H Q ∨ rInDct x y H Q) ∨ rInS x y H Q) ∨ rInD K x y H Q
  | .nin => fun x y H Q => ((rIn K true x y H Q ∨ rNinDct x y H Q) ∨ rNinS x y H Q) ∨ rNotInD K x y H Q
theorem op_cm {X : Cx} {op : Cm} {o : CmpOp} (h : op.is o = true) (hu : X.A.units + 65 < cLine) : OpR X (compareOp o) (rCm X.K op) := by
  cases op <;> cases o <;> first | (simp [Cm.is] at h; done) | skip
  · exact OpR.or op_eq (op_eqD (by omega))
  · exact OpR.or op_ne (op_neD (by omega))
  · exact op_lt
  · exact op_le
  · exact op_gt
  · exact op_ge
  · exact OpR.or op_isN op_is_bl
  · exact OpR.or op_notN op_isnot_bl
  · exact OpR.or (OpR.or (OpR.or op_in_seq (op_inDct (by omega))) op_in_str) (op_inD hu)
  · exact OpR.or (OpR.or (OpR.or op_notIn_seq (op_ninDct (by omega))) op_notin_str) (op_notInD hu)
section
variable {K : PySem.W.Frag} {H : Hp} {Q : VK}
theorem isKey_flat {x : I} {v : V} (h : isKey x = true) (r : IR K H x v) : flatV v = true := by
  cases r <;> first | rfl | (simp [isKey] at h)
theorem all_flat : ∀ {xs : List I} {vs : List V}, xs.all isKey = true → IRs K H xs vs → vs.all flatV = true
  | _, _, _, .nil => rfl
  | _, _, h, .cons a r => by
    rw [List.all_cons, Bool.and_eq_true] at h
    rw [List.all_cons, isKey_flat h.1 a, all_flat h.2 r]
    rfl
theorem eqV_key {x y : I} {v u : V} {e : Bool} (hx : isKey x = true) (hy : isKey y = true) (rx : IR K H x v) (ry : IR K H y u) (h : I.eq y x = some e) : eqV u v = e := by
  cases rx <;> first | (simp [isKey] at hx; done) | skip
  all_goals cases ry <;> first | (simp [isKey] at hy; done) | skip
  all_goals simp only [I.eq] at h
  all_goals cases h
  all_goals rfl
theorem mem_inV {x : I} {v : V} (hx : isKey x = true) (rx : IR K H x v) : ∀ {ys : List I} {us : List V} {b : Bool}, ys.all isKey = true → IRs K H ys us → memI x ys = some b → inV v us = b
  | [], _, b, _, .nil, h => by cases h; rfl
  | y :: ys, _ :: _, b, hy, .cons a r, h => by
    rw [List.all_cons, Bool.and_eq_true] at hy
    rw [memI] at h
    cases e1 : I.eq y x with
    | none => rw [e1] at h; cases h
    | some p =>
      cases e2 : memI x ys with
      | none => rw [e1, e2] at h; cases h
      | some q =>
        rw [e1, e2] at h
        cases h
        show (eqV _ v || inV v _) = (p || q)
        rw [eqV_key hx hy.1 rx a e1, mem_inV hx rx hy.2 r e2]
theorem lst_shaped {xs : List I} (h : I.shals 59 xs = true) : SeqAt.shaped (.list (I.pys xs)) = true := by
  obtain ⟨a, b⟩ := pys_ok 59 xs h
  unfold SeqAt.shaped
  rw [PyData.canLay0, PyData.depth, a, decide_eq_true (by omega : PyData.depthAll (I.pys xs) + 1 ≤ 64)]
  rfl
theorem dp_lst {xs : List D} {ys : List I} {v : V} {L : List Addr} (dx : DR K H (.lst xs) v L) (e : ims xs = some ys) : Dp K H v (.list (I.pys ys)) := by
  obtain ⟨a, vs, R, rfl, sa, ra, _⟩ := dx.lst_inv
  obtain ⟨rfl, _, ri⟩ := DRs.of_ims ra e
  exact .lst (SqL.of sa) (dps_of ri)
theorem any_py {x : I} : ∀ {zs : List I} {c : Bool}, memI x zs = some c → ((I.pys zs).any fun z => PyData.eqv z (I.py x)) = c
  | [], c, h => by
    cases h
    rw [I.pys]
    rfl
  | z :: zs, c, h => by
    rw [memI] at h
    cases e : I.eq z x with
    | none => rw [e] at h; cases h
    | some b =>
      rw [e] at h
      simp only [Option.bind_some] at h
      cases e2 : memI x zs with
      | none => rw [e2] at h; cases h
      | some d =>
        rw [e2] at h
        cases h
        rw [I.pys, List.any_cons, any_py e2, eq_py z x b e]
theorem cm_ok {op : Cm} {x y : D} {b : Bool} {v u : V} {L M : List Addr} (h : cmpD op x y = some b) (dx : DR K H x v L) (dy : DR K H y u M) (q : Q (.bl b) H) : rCm K op v u H Q := by
  unfold cmpD at h
  split at h
  · rename_i a c
    cases h
    obtain rfl := dx.str_inv
    obtain rfl := dy.str_inv
    refine .inl ⟨rfl, ?_⟩
    have e : decide (V.str a = V.str c) = decide (a = c) := by rw [dec_str]; rfl
    rw [e]; exact q
  · rename_i a c
    cases h
    obtain rfl := dx.str_inv
    obtain rfl := dy.str_inv
    refine .inl ⟨rfl, ?_⟩
    have e : decide (V.str a = V.str c) = decide (a = c) := by rw [dec_str]; rfl
    rw [e]; exact q
  · rename_i x y _
    split at h
    · rename_i hs
      rw [Bool.and_eq_true] at hs
      cases dx with
      | im rx =>
        cases dy with
        | im ry =>
          refine .inr ⟨_, _, dp_of rx, dp_of ry, py_shaped hs.1, py_shaped hs.2, ?_⟩
          rw [eq_py x y b h]; exact q
    · cases h
  · rename_i x y _
    split at h
    · rename_i hs
      rw [Bool.and_eq_true] at hs
      cases e : I.eq x y with
      | none => rw [e] at h; cases h
      | some c =>
        rw [e] at h
        cases h
        cases dx with
        | im rx =>
          cases dy with
          | im ry =>
            refine .inr ⟨_, _, dp_of rx, dp_of ry, py_shaped hs.1, py_shaped hs.2, ?_⟩
            rw [eq_py x y c e]; exact q
    · cases h
  · rename_i xs ys
    cases e1 : ims xs with
    | none => rw [e1] at h; cases h
    | some a =>
      cases e2 : ims ys with
      | none => rw [e1, e2] at h; cases h
      | some c =>
        rw [e1, e2] at h
        simp only [Option.bind_some] at h
        split at h
        · rename_i hs
          rw [Bool.and_eq_true] at hs
          refine .inr ⟨_, _, dp_lst dx e1, dp_lst dy e2, lst_shaped hs.1, lst_shaped hs.2, ?_⟩
          rw [PyData.eqv, eqs_py a c b h]; exact q
        · cases h
  · rename_i xs ys
    cases e1 : ims xs with
    | none => rw [e1] at h; cases h
    | some a =>
      cases e2 : ims ys with
      | none => rw [e1, e2] at h; cases h
      | some c =>
        rw [e1, e2] at h
        simp only [Option.bind_some] at h
        split at h
        · rename_i hs
          rw [Bool.and_eq_true] at hs
          cases e : I.eqs a c with
          | none => rw [e] at h; cases h
          | some k =>
            rw [e] at h
            cases h
            refine .inr ⟨_, _, dp_lst dx e1, dp_lst dy e2, lst_shaped hs.1, lst_shaped hs.2, ?_⟩
            rw [PyData.eqv, eqs_py a c k e]; exact q
        · cases h
  · rename_i x
    obtain rfl := dy.non_inv
    cases h
    refine .inl ⟨rfl, ?_⟩
    cases dx with
    | im rx => cases rx <;> exact q
  · rename_i x
    obtain rfl := dy.non_inv
    cases h
    refine .inl ⟨rfl, ?_⟩
    cases dx with
    | im rx => cases rx <;> exact q
  · rename_i a b
    cases h
    cases dx with
    | im rx =>
      cases rx
      cases dy with
      | im ry =>
        cases ry
        exact .inr ⟨a, b, rfl, rfl, q⟩
  · rename_i a b
    cases h
    cases dx with
    | im rx =>
      cases rx
      cases dy with
      | im ry =>
        cases ry
        exact .inr ⟨a, b, rfl, rfl, q⟩
  · cases h; obtain rfl := dx.int_inv; obtain rfl := dy.int_inv; exact ⟨_, _, rfl, rfl, q⟩
  · cases h; obtain rfl := dx.int_inv; obtain rfl := dy.int_inv; exact ⟨_, _, rfl, rfl, q⟩
  · cases h; obtain rfl := dx.int_inv; obtain rfl := dy.int_inv; exact ⟨_, _, rfl, rfl, q⟩
  · cases h; obtain rfl := dx.int_inv; obtain rfl := dy.int_inv; exact ⟨_, _, rfl, rfl, q⟩
  · rename_i x ys
    split at h
    · rename_i hs
      rw [Bool.and_eq_true] at hs
      obtain ⟨a, vs, rfl, sa, ra⟩ := dy.tup_inv
      cases dx with
      | im rx =>
        refine .inl (.inl (.inl ⟨a, vs, rfl, .inr sa, isKey_flat hs.1 rx, all_flat hs.2 ra, ?_⟩))
        rw [mem_inV hs.1 rx hs.2 ra h]; exact q
    · cases h
  · rename_i x ys
    split at h
    · rename_i hs
      rw [Bool.and_eq_true] at hs
      obtain ⟨a, vs, rfl, sa, ra⟩ := dy.tup_inv
      cases e : memI x ys with
      | none => rw [e] at h; cases h
      | some c =>
        rw [e] at h
        cases h
        cases dx with
        | im rx =>
          refine .inl (.inl (.inl ⟨a, vs, rfl, .inr sa, isKey_flat hs.1 rx, all_flat hs.2 ra, ?_⟩))
          rw [mem_inV hs.1 rx hs.2 ra e]; exact q
    · cases h
  · cases h; obtain rfl := dx.str_inv; obtain rfl := dy.str_inv; exact .inl (.inr ⟨_, _, rfl, rfl, q⟩)
  · cases h; obtain rfl := dx.str_inv; obtain rfl := dy.str_inv; exact .inl (.inr ⟨_, _, rfl, rfl, q⟩)
  · rename_i x ys
    cases e1 : ims ys with
    | none => rw [e1] at h; cases h
    | some zs =>
      rw [e1] at h
      simp only [Option.bind_some] at h
      split at h
      · rename_i hs
        rw [Bool.and_eq_true] at hs
        obtain ⟨a, vs, R, rfl, sa, ra, _⟩ := dy.lst_inv
        obtain ⟨rfl, _, ri⟩ := DRs.of_ims ra e1
        cases dx with
        | im rx =>
          refine .inl (.inl (.inl ⟨a, vs, rfl, .inl (SqL.of sa), isKey_flat hs.1 rx, all_flat hs.2 ri, ?_⟩))
          rw [mem_inV hs.1 rx hs.2 ri h]; exact q
      · split at h
        · rename_i hs
          rw [Bool.and_eq_true] at hs
          cases dx with
          | im rx =>
            refine .inr ⟨_, _, dp_of rx, dp_lst dy e1, py_shaped hs.1, lst_shaped hs.2, ?_⟩
            rw [any_py h]; exact q
        · cases h
  · rename_i x ys
    cases e1 : ims ys with
    | none => rw [e1] at h; cases h
    | some zs =>
      rw [e1] at h
      simp only [Option.bind_some] at h
      split at h
      · rename_i hs
        rw [Bool.and_eq_true] at hs
        obtain ⟨a, vs, R, rfl, sa, ra, _⟩ := dy.lst_inv
        obtain ⟨rfl, _, ri⟩ := DRs.of_ims ra e1
        cases e : memI x zs with
        | none => rw [e] at h; cases h
        | some c =>
          rw [e] at h
          cases h
          cases dx with
          | im rx =>
            refine .inl (.inl (.inl ⟨a, vs, rfl, .inl (SqL.of sa), isKey_flat hs.1 rx, all_flat hs.2 ri, ?_⟩))
            rw [mem_inV hs.1 rx hs.2 ri e]; exact q
      · split at h
        · rename_i hs
          rw [Bool.and_eq_true] at hs
          cases e : memI x zs with
          | none => rw [e] at h; cases h
          | some c =>
            rw [e] at h
            cases h
            cases dx with
            | im rx =>
              refine .inr ⟨_, _, dp_of rx, dp_lst dy e1, py_shaped hs.1, lst_shaped hs.2, ?_⟩
              rw [any_py e]; exact q
        · cases h
  · rename_i x t kvs
    split at h
    · rename_i hs
      obtain ⟨rfl, p, hp⟩ := keyOk_some hs
      obtain ⟨a, ws, R, rfl, ha, ra, _⟩ := dy.dct_inv rfl
      cases e : lkup x kvs with
      | none => rw [e] at h; cases h
      | some o =>
        rw [e] at h
        cases h
        cases dx with
        | im rx =>
          obtain rfl := key_val hp rx
          refine .inl (.inl (.inr ⟨a, valV ws p, rfl, .inl ⟨ws, p, ha, rfl, rfl⟩, ?_⟩))
          rcases lkup_K ra hp e with ⟨rfl, h2⟩ | ⟨d, v, R', rfl, h2, _, _⟩
          · rw [h2]; exact q
          · rw [h2]; exact q
    · cases h
  · rename_i x t kvs
    split at h
    · rename_i hs
      obtain ⟨rfl, p, hp⟩ := keyOk_some hs
      obtain ⟨a, ws, R, rfl, ha, ra, _⟩ := dy.dct_inv rfl
      cases e : lkup x kvs with
      | none => rw [e] at h; cases h
      | some o =>
        rw [e] at h
        cases h
        cases dx with
        | im rx =>
          obtain rfl := key_val hp rx
          refine .inl (.inl (.inr ⟨a, valV ws p, rfl, .inl ⟨ws, p, ha, rfl, rfl⟩, ?_⟩))
          rcases lkup_K ra hp e with ⟨rfl, h2⟩ | ⟨d, v, R', rfl, h2, _, _⟩
          · rw [h2]; exact q
          · rw [h2]; exact q
    · cases h
  · cases h
end
end Kh

set_option Elab.async false
set_option linter.all false
set_option maxRecDepth 100000
set_option maxHeartbeats 1000000
namespace Kh
open PySem PySem.Spec PyProof.Rows L2

section
variable {K : PySem.W.Frag} {H : Hp} {Q : VK}
theorem IRs.at {xs : List I} {vs : List V} {i : Int} {x : I} (r : IRs K H xs vs) (h : atI xs i = some x) : ∃ v, atI vs i = some v ∧ IR K H x v := by
  unfold atI at h ⊢
  rw [← r.length]
  cases e : ixN xs.length i with
  | none => rw [e] at h; cases h
  | some j => rw [e] at h; exact r.get h
theorem DRs.at {xs : List D} {vs : List V} {S : List Addr} {i : Int} {x : D} (r : DRs K H xs vs S) (h : atI xs i = some x) : ∃ v R, atI vs i = some v ∧ DR K H x v R ∧ ∀ a ∈ R, a ∈ S := by
  unfold atI at h ⊢
  rw [← r.length]
  cases e : ixN xs.length i with
  | none => rw [e] at h; cases h
  | some j => rw [e] at h; exact r.get h
theorem atI_map {α β : Type} (f : α → β) (xs : List α) (i : Int) : atI (xs.map f) i = (atI xs i).map f := by
  unfold atI
  rw [List.length_map]
  cases ixN xs.length i with
  | none => rfl
  | some j => exact List.getElem?_map
theorem POk.im {x : I} {v : V} {L : List Addr} (q : POk K H (.im x) L Q) (h : IR K H x v) : Q v H := q v [] (.im h) fun _ m => absurd m List.not_mem_nil
theorem ix_ok {x y z : D} {v u : V} {L M : List Addr} (h : ixD x y = some z) (nd : ∀ t kvs, x ≠ .dct t kvs) (dx : DR K H x v L) (dy : DR K H y u M) (q : POk K H z L Q) : rIx K v u H Q := by
  unfold ixD at h
  split at h
  · rename_i xs i
    obtain rfl := dy.int_inv
    obtain ⟨a, vs, rfl, sa, ra⟩ := dx.tup_inv
    cases e : atI xs i with
    | none => rw [e] at h; cases h
    | some p =>
      rw [e] at h; cases h
      obtain ⟨w, e2, r2⟩ := ra.at e
      exact .inr (.inl ⟨a, vs, i, w, rfl, rfl, sa, e2, q.im r2⟩)
  · rename_i xs i
    obtain rfl := dy.int_inv
    cases dx with
    | tup sa ra =>
      obtain ⟨w, R, e2, r2, s2⟩ := ra.at h
      exact .inr (.inl ⟨_, _, i, w, rfl, rfl, sa, e2, q w R r2 s2⟩)
  · rename_i xs i
    obtain rfl := dy.int_inv
    obtain ⟨a, vs, R, rfl, sa, ra, rfl⟩ := dx.lst_inv
    obtain ⟨w, R', e2, r2, s2⟩ := ra.at h
    exact .inl ⟨_, _, i, w, rfl, rfl, SqL.of sa, e2, q w R' r2 fun a m => List.mem_cons_of_mem _ (s2 a m)⟩
  · rename_i ns i
    obtain rfl := dy.int_inv
    cases dx with
    | scr sa =>
      cases e : atI ns i with
      | none => rw [e] at h; cases h
      | some p =>
        rw [e] at h; cases h
        exact .inl ⟨_, _, i, .int p, rfl, rfl, sa.l, by rw [atI_map, e]; rfl, q.im (.int p)⟩
  · rename_i z i
    obtain rfl := dx.str_inv
    obtain rfl := dy.int_inv
    split at h
    · rename_i hz
      cases e : atI z.cps.toList i with
      | none => rw [e] at h; cases h
      | some c =>
        rw [e] at h; cases h
        exact .inr (.inr ⟨z, i, c, rfl, rfl, big_line hz, e, q.im (.str _)⟩)
    · cases h
  · exact absurd rfl (nd _ _)
  · cases h
theorem ix_dct {t : Bool} {kvs : List (I × D)} {y z : D} {v u : V} {L M : List Addr} (h : ixD (.dct t kvs) y = some z) (dx : DR K H (.dct t kvs) v L) (dy : DR K H y u M) (q : POk K H z L Q) :
    ∃ a w, v = .ref a ∧ DGet H a u (some w) ∧ Q w H := by
  cases y with
  | im k =>
    replace h : (if keyOk t k then (lkup k kvs).join else none) = some z := by cases k <;> exact h
    split at h
    · rename_i hs
      obtain ⟨rfl, p, hp⟩ := keyOk_some hs
      obtain ⟨a, ws, R, rfl, ha, ra, rfl, _⟩ := dx.dct_inv rfl
      cases e : lkup k kvs with
      | none => rw [e] at h; cases h
      | some o =>
        rw [e] at h
        have h' : o = some z := h
        subst h'
        cases dy with
        | im rx =>
          obtain rfl := key_val hp rx
          rcases lkup_K ra hp e with ⟨e1, _⟩ | ⟨d, w, R', e1, h2, h3, h4⟩
          · cases e1
          · cases e1
            exact ⟨a, w, rfl, .inl ⟨ws, p, ha, rfl, h2.symm⟩, q w R' h3 fun a m => List.mem_cons_of_mem _ (h4 a m)⟩
    · cases h
  | tup _ => simp [ixD] at h
  | lst _ => simp [ixD] at h
  | dct _ _ => simp [ixD] at h
  | scr _ => simp [ixD] at h

/-! ### slices -/
theorem IRs.drop : ∀ (n : Nat) {xs : List I} {vs : List V}, IRs K H xs vs → IRs K H (xs.drop n) (vs.drop n)
  | 0, _, _, r => r
  | _ + 1, _, _, .nil => .nil
  | n + 1, _, _, .cons _ r => IRs.drop n r
theorem IRs.take : ∀ (n : Nat) {xs : List I} {vs : List V}, IRs K H xs vs → IRs K H (xs.take n) (vs.take n)
  | 0, _, _, _ => .nil
  | _ + 1, _, _, .nil => .nil
  | n + 1, _, _, .cons a r => .cons a (IRs.take n r)
theorem IRs.cut {xs : List I} {vs : List V} (lo hi : Option Int) (r : IRs K H xs vs) : IRs K H (cutL xs lo hi) (cutV vs lo hi) := by
  unfold cutL cutV
  rw [← r.length]
  exact (r.drop _).take _
theorem cut_all {α : Type} {xs : List α} {lo hi : Option Int} (h : HT.sIx xs.length 0 lo = 0 ∧ HT.sIx xs.length xs.length hi = xs.length) : cutL xs lo hi = xs := by
  unfold cutL
  rw [h.1, h.2, List.drop_zero, Nat.sub_zero, List.take_length]
theorem cutL_map {α β : Type} (f : α → β) (xs : List α) (lo hi : Option Int) : cutL (xs.map f) lo hi = (cutL xs lo hi).map f := by
  unfold cutL
  rw [List.length_map, List.map_take, List.map_drop]
end
def rSl (K : PySem.W.Frag) : V → Option Int → Option Int → Hp → VK → Prop := fun x lo hi H Q => (rSlA K x lo hi H Q ∨ rSlL K x lo hi H Q) ∨ rSlS x lo hi H Q
theorem sl_all {X : Cx} : SlR X (rSl X.K) := SlR.or (SlR.or sl_tupA sl_list) sl_str
section
variable {K : PySem.W.Frag} {H : Hp} {Q : VK}
theorem sl_ok {x z : D} {lo hi : Option Int} {v : V} {L : List Addr} (h : slD x lo hi = some z) (dx : DR K H x v L) (q : VOk K H z Q) : rSl K v lo hi H Q := by
  unfold slD at h
  split at h
  · rename_i xs
    cases h
    obtain ⟨a, vs, rfl, sa, ra⟩ := dx.tup_inv
    refine .inl (.inl ⟨a, vs, rfl, sa, fun e => ?_, fun _ => q.tup (ra.cut lo hi)⟩)
    rw [← ra.length] at e
    rw [cut_all e] at q
    exact q.im (.tup sa ra)
  · rename_i xs
    cases e : ims xs with
    | none => rw [e] at h; cases h
    | some ys =>
      rw [e] at h
      cases h
      obtain ⟨a, vs, R, rfl, sa, ra, _⟩ := dx.lst_inv
      obtain ⟨rfl, rfl, ri⟩ := DRs.of_ims ra e
      refine .inl (.inr ⟨a, vs, rfl, SqL.of sa, ?_⟩)
      rw [cutL_map] at q
      exact q.lst (DRs.ims (ri.cut lo hi))
  · rename_i z
    split at h
    · rename_i hz
      cases h
      obtain rfl := dx.str_inv
      exact .inr ⟨z, rfl, big_line hz, q.im (.str _)⟩
    · cases h
  · cases h
end

/-! ### sorted(dict with int keys), any number -/
theorem ints_at : ∀ (us : List Value) (ks : List Int), us.length = ks.length → (∀ (j : Nat) (v : Value), us[j]? = some v → ∃ (x : Int) (t : Tok), ks[j]? = some x ∧ v = Value.int x t) → IntsAre us ks
  | [], [], _, _ => .nil
  | [], _ :: _, h, _ => nomatch h
  | _ :: _, [], h, _ => nomatch h
  | u :: us, k :: ks, hl, h => by
    obtain ⟨x, t, e1, rfl⟩ := h 0 u rfl
    cases Option.some.inj e1
    exact .cons _ _ (ints_at us ks (Nat.succ.inj hl) fun j v e => h (j + 1) v e)
def rSortDct : List V → Hp → VK → Prop := fun xs H Q => ∃ (a : Addr) (ws : List (Key × V)) (ks : List Int), xs = [.ref a] ∧ Rd H a (.dK ws) ∧ ws.map (·.1) = ks.map Sum.inl ∧
  ∀ (ys : List Int) (p : Addr), ys.Perm ks → ys.Pairwise (· ≤ ·) → H p = none → Q (.ref p) (upd H p (.lst (ys.map V.int)))
theorem sort_dct {X : Cx} (hc : X.calm = true) : CallR X (.builtin "sorted") rSortDct := by
  intro pins s σ H xs us Q I r q
  obtain ⟨a, ws, ks, rfl, hd, hks, q⟩ := q
  obtain rfl : us = [Value.ref a] := Vals.ref1 r
  obtain ⟨z, lo, vs, rel, dd⟩ := dk_rd I.hok hd
  obtain ⟨ep, hat⟩ := dd.dictAt
  have hkeys : vs.map (·.1) = ks.map Sum.inl := rel.keys.symm.trans hks
  have hl : vs.length = ks.length := by simpa using congrArg List.length hkeys
  have hz : vs.length ≤ sizeLine := by rw [← rel.length]; exact z
  refine Calls.call_function_entry PyProof.Rows.kind_sorted PyProof.Rows.plain_sorted PyProof.Rows.entry_sorted (PyProof.Rows.args_sorted1 _) ?_
  unfold Builtin.«sorted»
  refine wpAny_bind (m := checkCount "sorted" 1 1 _) (wpAny_pure ?_)
  have src := PySem.W.kdl_dict (prog := X.prog) (w := X.w) (knd := mixKind X.prog X.w) (kvs := vs) (ep := ep) lo
  refine wpAny_bind (PySem.W.kdu_collect (A := X.A.in1) src (I.ok.hd hc) hat hz fun h' tk acc hk hacc => ?_)
  have hal : acc.toList.length = ks.length := by rw [Array.length_toList, hacc.1, hl]
  have hS : IntsAre acc.toList ks := by
    refine ints_at _ _ hal fun j v e => ?_
    obtain ⟨k, x, e1, e2⟩ := hacc.2 j v (by rw [← Array.getElem?_toList]; exact e)
    have e3 : (ks.map Sum.inl)[j]? = some k := by rw [← hkeys, List.getElem?_map, e1]; rfl
    rw [List.getElem?_map] at e3
    cases e4 : ks[j]? with
    | none => rw [e4] at e3; cases e3
    | some y =>
      rw [e4] at e3
      cases e3
      rcases keyIs_shape (show keyIs (Sum.inl y) v = true from e2) with ⟨i, t, ek, ev⟩ | ⟨_, _, ek, _⟩
      · cases ek; exact ⟨y, t, rfl, ev⟩
      · cases ek
  have I1 : Inv X pins σ H { s with heap := h', toks := tk } := I.kept hk
  have hz' : acc.toList.length ≤ sizeLine := by rw [hal, ← hl]; exact hz
  refine wpAny_bind (wpAny_newList ?_ hz')
  have hoL : (h'.push (seqObj "list" acc.toList.toArray 0)).get? h'.objs.size = some (seqObj "list" acc.toList.toArray 0) := Heap.get?_push_size _ rfl
  show wpAny _ _ _ _ _ { s with heap := h'.push (seqObj "list" acc.toList.toArray 0), toks := tk }
  refine wpAny_bind (wpAny_holding (wpAny_call_entry PyProof.Rows.slot_list_sort ⟨_, hoL, rfl⟩ PyProof.Rows.entry_list_sort
    (SrtO.list_sort_ord SrtO.swo_int (s := { s with heap := h'.push (seqObj "list" acc.toList.toArray 0), toks := tk }) hoL hz' (fun h2 => SrtO.ints_sortable hS h2) fun out h1 h2 => ⟨_, rfl, ?_⟩) (PyProof.Rows.args_list_sort _)))
  obtain ⟨k1, k2, k3⟩ := SrtO.ints_out hS h1 h2
  obtain ⟨e', he'⟩ := PyProof.Rows.sortedHeap_at (vs := acc.toList) (out := out.toArray) hoL
  have hlen : ((out.map SrtO.iv).map V.int).length ≤ sizeLine := by
    rw [List.length_map, k2.length_eq, ← hl]; exact hz
  refine wpAny_pure ⟨_, rfl, .ref h'.objs.size, upd H h'.objs.size (.lst ((out.map SrtO.iv).map V.int)), I1.laid (t' := tk) (fun b u e => ?_) (Nat.le_refl _) ⟨hlen, out, e', vals_of_ints k1, he'⟩, rfl, q _ _ k2 k3 (I1.hok.fresh (Nat.le_refl _))⟩
  have hb : b < h'.objs.size := Heap.lt_size e
  rw [PyProof.Rows.sortedHeap_old (Nat.ne_of_lt hb) (by rw [PyProof.Rows.size_push']; exact Nat.lt_succ_of_lt hb)]
  exact Heap.get?_push_of_some _ e
theorem sort_same {ys ks : List Int} (hp : ys.Perm ks) (hs : ys.Pairwise (· ≤ ·)) : ys = ks.mergeSort (fun a b => decide (a ≤ b)) := by
  refine List.Perm.eq_of_pairwise (le := fun a b : Int => a ≤ b) (fun x y _ _ h1 h2 => Int.le_antisymm h1 h2) hs ?_ (hp.trans (List.mergeSort_perm ks _).symm)
  have h := List.pairwise_mergeSort (le := fun a b : Int => decide (a ≤ b)) (fun a b c h1 h2 => by simp at *; omega) (fun a b => by simp; omega) ks
  exact h.imp fun h => of_decide_eq_true h
end Kh

set_option Elab.async false
set_option linter.all false
set_option maxRecDepth 100000
set_option maxHeartbeats 1000000
namespace Kh
open PySem PySem.Spec PyProof.Rows L2

/-! ### the heads that are served -/
def plainX : Expr → Bool
  | .Starred _ _ => false
  | .Set _ _ _ => false
  | .Slice _ _ _ _ => false
  | .SetComp _ _ _ _ => false
  | .DictComp _ _ _ _ _ => false
  | .Call (.Name _ _) [] [] _ => false
  | _ => true
theorem chkEs_len {c : Cs} : ∀ {es : Es} {xs : List Expr}, chkEs c es xs = true → xs.length = es.len
  | .nil, [], _ => rfl
  | .nil, _ :: _, h => by simp [chkEs] at h
  | .cons _ _, [], h => by simp [chkEs] at h
  | .cons e r, x :: xs, h => by
    simp only [chkEs, Bool.and_eq_true] at h
    exact congrArg (· + 1) (chkEs_len h.2)
theorem chk_plain {c : Cs} {e : E} {x : Expr} (h : chkE c e x = true) : plainX x = true := by
  unfold chkE at h
  split at h <;> first | rfl | (exact absurd h Bool.false_ne_true) | skip
  · rename_i f es g p xs pos
    simp only [Bool.and_eq_true, decide_eq_true_eq] at h
    cases xs with
    | nil => have := chkEs_len h.1.2; have := h.2; simp at *; omega
    | cons y ys => rfl
  · rename_i f es g p xs pos
    simp only [Bool.and_eq_true, decide_eq_true_eq] at h
    cases xs with
    | nil => have := chkEs_len h.1.1.2; have := h.1.2; simp at *; omega
    | cons y ys => rfl
theorem pl_star {x : Expr} {xs : List Expr} {env : PySem.Env} (h : plainX x = true) : starEach (x :: xs) env = (false, eval x env) :: starEach xs env := by
  cases x <;> first | rfl | (exact absurd h Bool.false_ne_true)
theorem pl_mark {x : Expr} {op : CmpOp} (h : plainX x = true) : behindInMarks op x = false := by
  cases x <;> first | rfl | (exact absurd h Bool.false_ne_true)
theorem pl_ix {x : Expr} (h : plainX x = true) : ∀ o i, subscripted x false o i = operate [o, i] (getItem o i) := by
  cases x <;> first | (intro o i; rfl) | (exact absurd h Bool.false_ne_true)
theorem pl_set {x : Expr} {env : PySem.Env} (h : plainX x = true) : ∀ v, foldedSetIterable x env v = pure v := by
  cases x <;> first | (intro v; rfl) | (exact absurd h Bool.false_ne_true)
theorem pl_attr {x : Expr} {a : Str} {env : PySem.Env} (h : plainX x = true) : attributeBase x a env (eval x env) = eval x env := by
  cases x <;> first | rfl | skip
  rename_i f as ks pos
  cases f <;> first | rfl | skip
  cases as with
  | nil =>
    cases ks with
    | nil => exact absurd h Bool.false_ne_true
    | cons _ _ => rfl
  | cons _ _ => rfl
def isLC : Expr → Bool
  | .ListComp _ _ _ _ => true
  | _ => false
theorem pl_swap {x : Expr} {t : Option Expr} {n : Nat} {env : PySem.Env} (h : plainX x = true) (l : isLC x = false) : swapsWith x t n env = pure false := by
  cases x <;> first | rfl | (exact absurd h Bool.false_ne_true) | (exact absurd l (by simp [isLC]))
/-- heads whose test is that of their value -/
def valTest : Expr → Bool
  | .UnaryOp .Not _ _ => false
  | .BoolOp _ _ _ => false
  | .IfExp _ _ _ _ => false
  | .Compare _ _ _ _ => false
  | _ => true
theorem pl_test {x : Expr} {env : PySem.Env} (h : valTest x = true) : ∀ whole, isTrue x env whole = (do let v ← whole; standAt x.pos; holding [v] (truthy v)) := by
  cases x <;> first | (intro w; rfl) | (exact absurd h Bool.false_ne_true) | skip
  rename_i op a pos
  cases op <;> first | (intro w; rfl) | (exact absurd h Bool.false_ne_true)
end Kh

set_option Elab.async false
set_option linter.all false
set_option maxRecDepth 100000
set_option maxHeartbeats 1000000
/-! built-in functions by values -/
namespace Kh
open PySem PySem.Spec PyProof.Rows L2

def Bi.ty : Bi → Option String
  | .tuple => some "tuple" | .list => some "list" | .int => some "int" | .str => some "str" | .range => some "range"
  | _ => none
def Bi.id : Bi → String
  | .len => "len" | .abs => "abs" | .min => "min" | .max => "max" | .sum => "sum" | .any => "any" | .all => "all" | .sorted => "sorted" | .gcd => "math.gcd" | _ => ""
def Bi.val (f : Bi) : Value := match f.ty with
  | some t => .type t
  | none => .builtin f.id
/-- found among the built-ins -/
def Bi.blt : Bi → Bool
  | .gcd => false
  | _ => true
theorem boot_bi {f : Bi} (h : f.blt = true) : bootBuiltins f.nm = some f.val := by
  cases f <;> first | (exact absurd h Bool.false_ne_true) | decide +kernel
theorem nm_in {f : Bi} (h : f.blt = true) : f.nm ∈ builtins := by
  cases f <;> first | (exact absurd h Bool.false_ne_true) | decide +kernel
theorem nm_fine (f : Bi) : f.nm ≠ "__name__" ∧ (f.nm == ("__debug__" : Str)) = false := by
  cases f <;> decide +kernel
def rNoBi : List V → Hp → VK → Prop := fun _ _ _ => False
def rLen (K : PySem.W.Frag) : List V → Hp → VK → Prop := fun xs H Q => (∃ p ys, xs = [.ref p] ∧ (SqL K H p ys ∨ SqT K H p ys) ∧ Q (.int ys.length) H) ∨ (∃ z, xs = [.str z] ∧ z.length ≤ sizeLine ∧ Q (.int z.length) H)
def rMinI (K : PySem.W.Frag) : List V → Hp → VK → Prop := fun xs H Q => ∃ (a : Addr) (vs : List V) (y : I) (ys : List I), xs = [.ref a] ∧ SqL K H a vs ∧ IRs K H (y :: ys) vs ∧ alkI (y :: ys) = true ∧ I.shals 59 (y :: ys) = true ∧ ∀ v, IR K H (minI y ys) v → Q v H
def rBi (K : PySem.W.Frag) : Bi → List V → Hp → VK → Prop
  | .len => fun xs H Q => rLen K xs H Q ∨ ∃ a kvs, xs = [V.ref a] ∧ Rd H a (.dK kvs) ∧ Q (.int kvs.length) H
  | .tuple => fun xs H Q => ∃ p ys, xs = [.ref p] ∧ ((SqL K H p ys ∧ ∀ l, H l = none → Q (.ref l) (upd H l (.tup ys))) ∨ (SqT K H p ys ∧ Q (.ref p) H))
  | .list => fun xs H Q => ∃ p ys, xs = [.ref p] ∧ (SqL K H p ys ∨ SqT K H p ys) ∧ ∀ l, H l = none → Q (.ref l) (upd H l (.lst ys))
  | .int => fun xs H Q => ((∃ i, xs = [.int i] ∧ Q (.int i) H) ∨ ∃ k, xs = [.bl k] ∧ Q (.int (if k then 1 else 0)) H) ∨ ∃ a n, xs = [.str a] ∧ PySem.intText? a = some n ∧ a.length ≤ 640 ∧ Q (.int n) H
  | .str => fun xs H Q => ∃ i, xs = [.int i] ∧ i.natAbs.log2 < 1920 ∧ Q (.str (toString i)) H
  | .gcd => rGcd
  | .any => rAny K
  | .all => rAll K
  | .abs => fun xs H Q => ∃ i, xs = [.int i] ∧ Q (.int (if i < 0 then -i else i)) H
  | .min => fun xs H Q => (∃ i j, xs = [.int i, .int j] ∧ Q (.int (if j < i then j else i)) H) ∨ rMin K xs H Q ∨ rMinI K xs H Q
  | .max => fun xs H Q => (∃ i j, xs = [.int i, .int j] ∧ Q (.int (if j > i then j else i)) H) ∨ rMax K xs H Q
  | .sum => rSum K
  | .sorted => fun xs H Q => (rSortedI K xs H Q ∨ rSortDct xs H Q) ∨ Kq.rSortTup K xs H Q
  | _ => rNoBi
theorem len_dct {X : Cx} : CallR X (.builtin "len") (fun xs H Q => ∃ a kvs, xs = [V.ref a] ∧ Rd H a (.dK kvs) ∧ Q (.int kvs.length) H) := by
  intro pins s σ H xs us Q I r h
  obtain ⟨a, kvs, rfl, e, q⟩ := h
  obtain rfl : us = [Value.ref a] := Vals.ref1 r
  exact d_len I e fun t s' I' => ⟨.int kvs.length, H, I', ⟨t, rfl⟩, q⟩
theorem cr_no {X : Cx} {f : Value} : CallR X f rNoBi := fun _ _ _ _ _ _ _ _ _ h => h.elim
mutual
theorem py_inj : ∀ {x y : I}, I.py x = I.py y → x = y
  | .non, .non, _ => rfl
  | .bl a, .bl b, h => by
    rw [I.py, I.py] at h
    cases h
    rfl
  | .int a, .int b, h => by
    rw [I.py, I.py] at h
    cases h
    rfl
  | .str a, .str b, h => by
    rw [I.py, I.py] at h
    cases h
    rfl
  | .tup xs, .tup ys, h => by
    rw [I.py, I.py] at h
    injection h with h
    rw [pys_inj h]
  | .non, .bl _, h => by rw [I.py, I.py] at h; cases h
  | .non, .int _, h => by rw [I.py, I.py] at h; cases h
  | .non, .str _, h => by rw [I.py, I.py] at h; cases h
  | .non, .tup _, h => by rw [I.py, I.py] at h; cases h
  | .bl _, .non, h => by rw [I.py, I.py] at h; cases h
  | .bl _, .int _, h => by rw [I.py, I.py] at h; cases h
  | .bl _, .str _, h => by rw [I.py, I.py] at h; cases h
  | .bl _, .tup _, h => by rw [I.py, I.py] at h; cases h
  | .int _, .non, h => by rw [I.py, I.py] at h; cases h
  | .int _, .bl _, h => by rw [I.py, I.py] at h; cases h
  | .int _, .str _, h => by rw [I.py, I.py] at h; cases h
  | .int _, .tup _, h => by rw [I.py, I.py] at h; cases h
  | .str _, .non, h => by rw [I.py, I.py] at h; cases h
  | .str _, .bl _, h => by rw [I.py, I.py] at h; cases h
  | .str _, .int _, h => by rw [I.py, I.py] at h; cases h
  | .str _, .tup _, h => by rw [I.py, I.py] at h; cases h
  | .tup _, .non, h => by rw [I.py, I.py] at h; cases h
  | .tup _, .bl _, h => by rw [I.py, I.py] at h; cases h
  | .tup _, .int _, h => by rw [I.py, I.py] at h; cases h
  | .tup _, .str _, h => by rw [I.py, I.py] at h; cases h
theorem pys_inj : ∀ {xs ys : List I}, I.pys xs = I.pys ys → xs = ys
  | [], [], _ => rfl
  | [], _ :: _, h => by rw [I.pys, I.pys] at h; cases h
  | _ :: _, [], h => by rw [I.pys, I.pys] at h; cases h
  | x :: xs, y :: ys, h => by
    rw [I.pys, I.pys] at h
    injection h with h1 h2
    rw [py_inj h1, pys_inj h2]
end
theorem mem_pys : ∀ {zs : List I} {d : PyData}, d ∈ I.pys zs → ∃ z ∈ zs, d = I.py z
  | [], d, h => by rw [I.pys] at h; cases h
  | z :: zs, d, h => by
    rw [I.pys] at h
    rcases List.mem_cons.mp h with h | h
    · exact ⟨z, List.mem_cons_self, h⟩
    · obtain ⟨u, m, e⟩ := mem_pys h
      exact ⟨u, List.mem_cons_of_mem _ m, e⟩
theorem minI_py : ∀ {ys : List I} {y : I}, PySem.W.minD (I.py y) (I.pys ys) = I.py (minI y ys)
  | [], y => by rw [I.pys]; rfl
  | z :: ys, y => by
    have ih := minI_py (ys := ys) (y := if PySem.W.dataLt (I.py z) (I.py y) then z else y)
    rw [I.pys]
    unfold minI PySem.W.minD at ih ⊢
    rw [List.foldl_cons, List.foldl_cons, ← ih]
    congr 1
    split <;> rfl
theorem minI_mem : ∀ {ys : List I} {y : I}, minI y ys ∈ y :: ys
  | [], y => List.mem_cons_self
  | z :: ys, y => by
    have ih := minI_mem (ys := ys) (y := if PySem.W.dataLt (I.py z) (I.py y) then z else y)
    unfold minI at ih ⊢
    rw [List.foldl_cons]
    rcases List.mem_cons.mp ih with h | h
    · rw [h]
      split
      · exact List.mem_cons_of_mem _ List.mem_cons_self
      · exact List.mem_cons_self
    · exact List.mem_cons_of_mem _ (List.mem_cons_of_mem _ h)
theorem shals_mem : ∀ {n : Nat} {zs : List I} {z : I}, I.shals n zs = true → z ∈ zs → I.shal n z = true
  | n, x :: zs, z, h, m => by
    rw [I.shals, Bool.and_eq_true] at h
    rcases List.mem_cons.mp m with rfl | m
    · exact h.1
    · exact shals_mem h.2 m
theorem alk_ok {zs : List I} (h : alkI zs = true) : PySem.W.AlikeAll (I.pys zs) := by
  unfold alkI at h
  have h' := fun x m => Bool.and_eq_true _ _ |>.mp (List.all_eq_true.mp h x m)
  refine ⟨fun d m e k => ?_, fun d m => ?_⟩
  · obtain ⟨x, mx, rfl⟩ := mem_pys m
    obtain ⟨y, my, rfl⟩ := mem_pys k
    exact List.all_eq_true.mp (h' x mx).1 y my
  · obtain ⟨x, mx, rfl⟩ := mem_pys m
    intro z
    have : x = .non := py_inj (z.trans (by rw [I.py]))
    subst this
    exact absurd (h' _ mx).2 Bool.false_ne_true
theorem vals_at : ∀ {vs : List V} {us : List Value} {i : Nat} {u : Value}, Vals vs us → us[i]? = some u → ∃ x, vs[i]? = some x ∧ RelV x u
  | _, _, i, _, .nil, h => by simp at h
  | _, _, 0, _, .cons a r, h => by
    cases h
    exact ⟨_, rfl, a⟩
  | _, _, i + 1, _, .cons a r, h => by
    obtain ⟨x, e, q⟩ := vals_at r (by simpa using h)
    exact ⟨x, by simpa using e, q⟩
theorem irs_at {K : PySem.W.Frag} {H : Hp} : ∀ {zs : List I} {vs : List V} {i : Nat} {x : V}, IRs K H zs vs → vs[i]? = some x → ∃ z, zs[i]? = some z ∧ IR K H z x
  | _, _, i, _, .nil, h => by simp at h
  | _, _, 0, _, .cons a r, h => by
    cases h
    exact ⟨_, rfl, a⟩
  | _, _, i + 1, _, .cons a r, h => by
    obtain ⟨z, e, q⟩ := irs_at r (by simpa using h)
    exact ⟨z, by simpa using e, q⟩
theorem cr_minI {X : Cx} (hc : X.calm = true) (hu : X.A.units + 100 < cLine) : CallR X (.builtin "min") (rMinI X.K) := by
  intro pins s σ H vs us Q I r h
  obtain ⟨a, ws, y, ys, rfl, hs, ri, al, sh, q⟩ := h
  obtain ⟨its, rv, hl, _⟩ := I.list hs
  rw [Vals.ref1 r]
  obtain ⟨as, h4⟩ := Dp.readsAll I _ _ its (dps_of ri) rv
  have al' := alk_ok al
  have dp := (pys_ok 59 _ sh).2
  rw [I.pys] at h4 al' dp
  refine PySem.W.min_list_data (I.ok.hd hc) (vs := its.toArray) hl.isList (by simpa using h4) al' (by omega) fun i v h' tk bs hi hr hk => ?_
  have hi' : its[i]? = some v := by simpa using hi
  obtain ⟨x, hx, rx⟩ := vals_at rv hi'
  obtain ⟨z, hz, irz⟩ := irs_at ri hx
  obtain ⟨cs, r1⟩ := Dp.reads I _ x v (dp_of irz) rx
  have r2 := Reads.keeps hk r1
  rw [minI_py] at hr
  have e1 := SeqAt.readOf_eq (py_ok 59 _ (shals_mem sh minI_mem)).1 hr
  have e2 := SeqAt.readOf_eq (py_ok 59 _ (shals_mem sh (List.mem_of_getElem? hz))).1 r2
  have e3 : z = minI y ys := py_inj (e2.symm.trans e1)
  exact ⟨x, H, I.kept hk, rx, q x (e3 ▸ irz)⟩
theorem cr_bi {X : Cx} (hc : X.calm = true) (hu : X.A.units + 100 < cLine) (f : Bi) : CallR X f.val (rBi X.K f) := by
  cases f
  case len => exact CallR.or (CallR.or call_len_seq call_len_str) len_dct
  case tuple => exact call_tuple_of
  case list => exact call_list_of
  case int => exact CallR.or call_int1 call_int_str
  case str => exact call_str_int
  case any => exact cr_any hc
  case all => exact cr_all hc
  case gcd => exact cr_gcd
  case abs => exact call_abs
  case min => exact CallR.or (call_min2 hc) (CallR.or (cr_min hc) (cr_minI hc hu))
  case max => exact CallR.or (call_max2 hc) (cr_max hc)
  case sum => exact cr_sum hc
  case sorted => exact CallR.or (CallR.or cr_sortedI (sort_dct hc)) Kq.sort_tup
  all_goals exact cr_no
theorem pe_bi {X : Cx} {f : Bi} {g : Str} {p pos : Pos} {e : Expr} {es : List Expr} {t : TA} (hb : f.blt = true) (hc : X.calm = true) (hu : X.A.units + 100 < cLine) (hg : Gl X g) (en : g = f.nm) (hm : X.mg g = none) (ha : PA X (e :: es) t)
    (h1 : starEach (e :: es) X.env = (false, eval e X.env) :: starEach es X.env) (h2 : ∀ pos, (backTo pos (starEach es X.env)).any (·.1) = false) : PE X (.Call (.Name g p) (e :: es) [] pos) (tCB (rBi X.K f) t) := by
  subst en
  have hv := boot_bi hb
  have cr := cr_bi hc hu f
  unfold Bi.val at hv cr
  cases q : f.ty with
  | some T =>
    rw [q] at hv cr
    exact pe_callTy cr hg hm hv ha (nm_fine f).1 (nm_fine f).2 h1 (h2 pos)
  | none =>
    rw [q] at hv cr
    exact pe_callB cr hg hm hv ha (nm_fine f).1 (nm_fine f).2 h1 (h2 pos)

section
variable {K : PySem.W.Frag} {H : Hp} {Q : VK}
theorem KRs.intKeys : ∀ {kvs : List (I × D)} {ws : List (Key × V)} {S : List Addr} {ns : List Int}, KRs K H kvs ws S → intsOf (kvs.map (·.1)) = some ns → ws.map (·.1) = ns.map Sum.inl
  | _, _, _, ns, .nil, h => by cases h; rfl
  | (.int i, d) :: kvs, (q, v) :: ws, _, ns, .cons e a r, h => by
    rw [List.map_cons] at h
    cases e1 : intsOf (kvs.map (·.1)) with
    | none => rw [intsOf, e1] at h; cases h
    | some ms =>
      rw [intsOf, e1] at h
      cases h
      cases e
      rw [List.map_cons, KRs.intKeys r e1]
      rfl
  | (.non, _) :: _, _, _, _, .cons e a r, h => by cases e
  | (.bl _, _) :: _, _, _, _, .cons e a r, h => by cases e
  | (.str _, _) :: _, _, _, _, .cons e a r, h => by simp [intsOf] at h
  | (.tup _, _) :: _, _, _, _, .cons e a r, h => by cases e
theorem IRs.of_bools : ∀ {xs : List I} {ns : List Bool} {vs : List V}, IRs K H xs vs → boolsOf xs = some ns → vs = ns.map V.bl
  | _, _, _, .nil, e => by
    cases e
    rfl
  | _, ns, _, .cons (xs := xs) (.bl i) r, e => by
    cases q : boolsOf xs with
    | none => rw [boolsOf, q] at e; cases e
    | some ys =>
      rw [boolsOf, q] at e
      cases e
      rw [IRs.of_bools r q]
      rfl
  | _, _, _, .cons .non r, e => nomatch e
  | _, _, _, .cons (.int _) r, e => nomatch e
  | _, _, _, .cons (.str _) r, e => nomatch e
  | _, _, _, .cons (.tup _ _) r, e => nomatch e
theorem foldl_min : ∀ (r : List Int) (x : Int), (r.foldl min x = x ∨ r.foldl min x ∈ r) ∧ r.foldl min x ≤ x ∧ ∀ y ∈ r, r.foldl min x ≤ y
  | [], x => ⟨.inl rfl, Int.le_refl _, fun _ m => absurd m List.not_mem_nil⟩
  | y :: r, x => by
    obtain ⟨h1, h2, h3⟩ := foldl_min r (min x y)
    rw [List.foldl_cons]
    refine ⟨?_, by omega, fun z m => ?_⟩
    · rcases h1 with h1 | h1
      · rw [h1]
        by_cases c : x ≤ y
        · exact .inl (by omega)
        · exact .inr (by rw [show min x y = y by omega]; exact List.mem_cons_self)
      · exact .inr (List.mem_cons_of_mem _ h1)
    · rcases List.mem_cons.mp m with rfl | m
      · omega
      · exact h3 z m
theorem foldl_max : ∀ (r : List Int) (x : Int), (r.foldl max x = x ∨ r.foldl max x ∈ r) ∧ x ≤ r.foldl max x ∧ ∀ y ∈ r, y ≤ r.foldl max x
  | [], x => ⟨.inl rfl, Int.le_refl _, fun _ m => absurd m List.not_mem_nil⟩
  | y :: r, x => by
    obtain ⟨h1, h2, h3⟩ := foldl_max r (max x y)
    rw [List.foldl_cons]
    refine ⟨?_, by omega, fun z m => ?_⟩
    · rcases h1 with h1 | h1
      · rw [h1]
        by_cases c : y ≤ x
        · exact .inl (by omega)
        · exact .inr (by rw [show max x y = y by omega]; exact List.mem_cons_self)
      · exact .inr (List.mem_cons_of_mem _ h1)
    · rcases List.mem_cons.mp m with rfl | m
      · omega
      · exact h3 z m
theorem minL_ok {ns : List Int} {n : Int} (h : minL ns = some n) : 0 < ns.length ∧ n ∈ ns ∧ ∀ y ∈ ns, n ≤ y := by
  cases ns with
  | nil => cases h
  | cons x r =>
    cases h
    obtain ⟨h1, h2, h3⟩ := foldl_min r x
    exact ⟨Nat.succ_pos _, h1.elim (fun e => by rw [e]; exact List.mem_cons_self) (List.mem_cons_of_mem _), fun y m => (List.mem_cons.mp m).elim (fun e => by rw [e]; exact h2) (h3 y)⟩
theorem maxL_ok {ns : List Int} {n : Int} (h : maxL ns = some n) : 0 < ns.length ∧ n ∈ ns ∧ ∀ y ∈ ns, y ≤ n := by
  cases ns with
  | nil => cases h
  | cons x r =>
    cases h
    obtain ⟨h1, h2, h3⟩ := foldl_max r x
    exact ⟨Nat.succ_pos _, h1.elim (fun e => by rw [e]; exact List.mem_cons_self) (List.mem_cons_of_mem _), fun y m => (List.mem_cons.mp m).elim (fun e => by rw [e]; exact h2) (h3 y)⟩
theorem VOk.ints {ns : List Int} (q : VOk K H (.lst (ns.map fun n => .im (.int n))) Q) : ∀ p, H p = none → Q (.ref p) (upd H p (.lst (ns.map V.int))) := by
  have h := DRs.ims (K := K) (H := H) (IRs.ints ns)
  rw [List.map_map] at h
  exact q.lst h
theorem bi1_ok {f : Bi} {x z : D} {v : V} {L : List Addr} (h : biD f [x] = some z) (dx : DR K H x v L) (q : VOk K H z Q) : rBi K f [v] H Q := by
  unfold biD at h
  split at h
  · rename_i xs e; cases e; cases h
    obtain ⟨a, vs, rfl, sa, ra⟩ := dx.tup_inv
    rw [ra.length] at q
    exact .inl (.inl ⟨a, vs, rfl, .inr sa, q.int⟩)
  · rename_i xs e; cases e; cases h
    cases dx with
    | tup sa ra => rw [ra.length] at q; exact .inl (.inl ⟨_, _, rfl, .inr sa, q.int⟩)
  · rename_i xs e; cases e; cases h
    obtain ⟨a, vs, R, rfl, sa, ra, _⟩ := dx.lst_inv
    rw [ra.length] at q
    exact .inl (.inl ⟨a, vs, rfl, .inl (SqL.of sa), q.int⟩)
  · rename_i xs e; cases e; cases h
    cases dx with
    | scr sa =>
      have e : (xs.length : Int) = ((xs.map V.int).length : Int) := by rw [List.length_map]
      rw [e] at q
      exact .inl (.inl ⟨_, _, rfl, .inl sa.l, q.int⟩)
  · rename_i xs e; cases e; cases h
    cases dx with
    | dK sn sa ra => rw [ra.length] at q; exact .inr ⟨_, _, rfl, sa, q.int⟩
  · rename_i z e; cases e
    split at h
    · rename_i hz
      cases h
      obtain rfl := dx.str_inv
      exact .inl (.inr ⟨z, rfl, big_line hz, q.int⟩)
    · cases h
  · rename_i xs e; cases e; cases h
    obtain ⟨a, vs, rfl, sa, ra⟩ := dx.tup_inv
    exact ⟨a, vs, rfl, .inr ⟨sa, q.im (.tup sa ra)⟩⟩
  · rename_i xs e; cases e
    cases e : ims xs with
    | none => rw [e] at h; cases h
    | some ys =>
      rw [e] at h; cases h
      obtain ⟨a, vs, R, rfl, sa, ra, _⟩ := dx.lst_inv
      obtain ⟨rfl, rfl, ri⟩ := DRs.of_ims ra e
      exact ⟨a, vs, rfl, .inl ⟨SqL.of sa, q.tup ri⟩⟩
  · rename_i xs e; cases e; cases h
    obtain ⟨a, vs, rfl, sa, ra⟩ := dx.tup_inv
    exact ⟨a, vs, rfl, .inr sa, q.lst (DRs.ims ra)⟩
  · rename_i xs e; cases e
    cases e : ims xs with
    | none => rw [e] at h; cases h
    | some ys =>
      rw [e] at h; cases h
      obtain ⟨a, vs, R, rfl, sa, ra, _⟩ := dx.lst_inv
      obtain ⟨rfl, _, _⟩ := DRs.of_ims ra e
      exact ⟨a, vs, rfl, .inl (SqL.of sa), q.lst ra⟩
  · rename_i ns e; cases e; cases h
    cases dx with
    | scr sa => exact ⟨_, _, rfl, .inl sa.l, q.ints⟩
  · rename_i i e; cases e; cases h
    obtain rfl := dx.int_inv
    exact .inl (.inl ⟨i, rfl, q.int⟩)
  · rename_i i e; cases e; cases h
    obtain rfl := dx.int_inv
    refine ⟨i, rfl, ?_⟩
    have e : (if i < 0 then -i else i) = (i.natAbs : Int) := by split <;> omega
    rw [e]; exact q.int
  · rename_i e; cases e
  · rename_i e; cases e
  · rename_i xs e; cases e
    cases e1 : ims xs with
    | none => rw [e1] at h; cases h
    | some ys =>
      cases e2 : intsOf ys with
      | none => rw [e1] at h; simp [e2] at h
      | some ns =>
        rw [e1] at h
        simp only [Option.bind_some, e2, Option.map_some, Option.some.injEq] at h
        subst h
        obtain ⟨a, vs, R, rfl, sa, ra, _⟩ := dx.lst_inv
        obtain ⟨rfl, rfl, ri⟩ := DRs.of_ims ra e1
        obtain rfl := ri.of_ints e2
        exact ⟨a, ns, rfl, SqL.of sa, q.int⟩
  · rename_i kvs e; cases e
    cases e1 : intsOf (kvs.map (·.1)) with
    | none => rw [e1] at h; cases h
    | some ns =>
      rw [e1] at h; cases h
      obtain ⟨a, ws, R, rfl, ha, ra, _⟩ := dx.dct_inv rfl
      refine .inl (.inr ⟨a, ws, ns, rfl, ha, ra.intKeys e1, fun ys p h1 h2 hp => ?_⟩)
      rw [sort_same h1 h2]
      exact q.ints p hp
  · rename_i xs e; cases e
    cases e1 : ims xs with
    | none => rw [e1] at h; cases h
    | some ys =>
      cases e2 : intsOf ys with
      | none => rw [e1] at h; simp [e2] at h
      | some ns =>
        rw [e1] at h
        simp only [Option.bind_some, e2, Option.map_some, Option.some.injEq] at h
        subst h
        obtain ⟨a, vs, R, rfl, sa, ra, _⟩ := dx.lst_inv
        obtain ⟨rfl, rfl, ri⟩ := DRs.of_ims ra e1
        obtain rfl := ri.of_ints e2
        refine .inl (.inl ⟨a, ns, rfl, SqL.of sa, fun ys p h1 h2 hp => ?_⟩)
        rw [sort_same h1 h2]
        exact q.ints p hp
  · rename_i xs e; cases e
    cases e1 : intsOf xs with
    | none => rw [e1] at h; cases h
    | some ns =>
      rw [e1] at h; cases h
      obtain ⟨a, vs, rfl, sa, ra⟩ := dx.tup_inv
      obtain rfl := ra.of_ints e1
      refine .inr ⟨a, ns, rfl, sa, fun ys p h1 h2 hp => ?_⟩
      rw [sort_same h1 h2]
      exact q.ints p hp
  · rename_i xs e; cases e
    obtain ⟨bs, e2, h2⟩ := Option.map_eq_some_iff.mp h
    subst h2
    obtain ⟨ys, e1, e3⟩ := Option.bind_eq_some_iff.mp e2
    obtain ⟨a, vs, R, rfl, sa, ra, _⟩ := dx.lst_inv
    obtain ⟨rfl, rfl, ri⟩ := DRs.of_ims ra e1
    obtain rfl := ri.of_bools e3
    exact ⟨a, bs, rfl, SqL.of sa, q.bl⟩
  · rename_i xs e; cases e
    obtain ⟨bs, e2, h2⟩ := Option.map_eq_some_iff.mp h
    subst h2
    obtain ⟨ys, e1, e3⟩ := Option.bind_eq_some_iff.mp e2
    obtain ⟨a, vs, R, rfl, sa, ra, _⟩ := dx.lst_inv
    obtain ⟨rfl, rfl, ri⟩ := DRs.of_ims ra e1
    obtain rfl := ri.of_bools e3
    exact ⟨a, bs, rfl, SqL.of sa, q.bl⟩
  · rename_i xs e; cases e
    cases e0 : (((ims xs).bind intsOf).bind minL).map fun n => D.im (.int n) with
    | some z0 =>
      rw [e0] at h
      cases h
      obtain ⟨n, e2, h2⟩ := Option.map_eq_some_iff.mp e0
      subst h2
      obtain ⟨ns, e4, e5⟩ := Option.bind_eq_some_iff.mp e2
      obtain ⟨ys, e1, e3⟩ := Option.bind_eq_some_iff.mp e4
      obtain ⟨a, vs, R, rfl, sa, ra, _⟩ := dx.lst_inv
      obtain ⟨rfl, rfl, ri⟩ := DRs.of_ims ra e1
      obtain rfl := ri.of_ints e3
      obtain ⟨l1, l2, l3⟩ := minL_ok e5
      exact .inr (.inl ⟨a, ns, rfl, SqL.of sa, l1, fun m hm hle => by
        have e6 : m = n := Int.le_antisymm (hle n l2) (l3 m hm)
        rw [e6]; exact q.int⟩)
    | none =>
      rw [e0, Option.none_or] at h
      obtain ⟨n, e2, h2⟩ := Option.map_eq_some_iff.mp h
      subst h2
      obtain ⟨ys, e1, e3⟩ := Option.bind_eq_some_iff.mp e2
      obtain ⟨a, vs, R, rfl, sa, ra, _⟩ := dx.lst_inv
      obtain ⟨rfl, rfl, ri⟩ := DRs.of_ims ra e1
      cases ys with
      | nil => cases e3
      | cons y ys =>
        simp only [minZ] at e3
        split at e3
        · rename_i hs
          rw [Bool.and_eq_true] at hs
          cases e3
          exact .inr (.inr ⟨a, vs, y, ys, rfl, SqL.of sa, ri, hs.1, hs.2, fun v r => q.im r⟩)
        · cases e3
  · rename_i xs e; cases e
    obtain ⟨n, e2, h2⟩ := Option.map_eq_some_iff.mp h
    subst h2
    obtain ⟨ns, e4, e5⟩ := Option.bind_eq_some_iff.mp e2
    obtain ⟨ys, e1, e3⟩ := Option.bind_eq_some_iff.mp e4
    obtain ⟨a, vs, R, rfl, sa, ra, _⟩ := dx.lst_inv
    obtain ⟨rfl, rfl, ri⟩ := DRs.of_ims ra e1
    obtain rfl := ri.of_ints e3
    obtain ⟨l1, l2, l3⟩ := maxL_ok e5
    exact .inr ⟨a, ns, rfl, SqL.of sa, l1, fun m hm hle => by
      have e6 : m = n := Int.le_antisymm (l3 m hm) (hle n l2)
      rw [e6]; exact q.int⟩
  · rename_i e; cases e
  · rename_i i e; cases e
    split at h
    · rename_i hz
      cases h
      obtain rfl := dx.int_inv
      exact ⟨i, rfl, by omega, q.im (.str _)⟩
    · cases h
  · rename_i z e; cases e
    split at h
    · rename_i hz
      obtain ⟨n, e2, h2⟩ := Option.map_eq_some_iff.mp h
      subst h2
      obtain rfl := dx.str_inv
      exact .inr ⟨z, n, rfl, e2, hz, q.int⟩
    · cases h
  · cases h
theorem bi2_ok {f : Bi} {x y z : D} {v u : V} {L M : List Addr} (h : biD f [x, y] = some z) (dx : DR K H x v L) (dy : DR K H y u M) (q : VOk K H z Q) : rBi K f [v, u] H Q := by
  unfold biD at h
  split at h <;> rename_i e <;> first | (cases e; done) | skip
  · rename_i i j
    cases e; cases h
    obtain rfl := dx.int_inv
    obtain rfl := dy.int_inv
    refine .inl ⟨_, _, rfl, ?_⟩
    have e : ∀ i j : Int, (if j < i then j else i) = min i j := fun i j => by split <;> omega
    rw [e]; exact q.int
  · cases e; cases h
    obtain rfl := dx.int_inv
    obtain rfl := dy.int_inv
    refine .inl ⟨_, _, rfl, ?_⟩
    have e : ∀ i j : Int, (if j > i then j else i) = max i j := fun i j => by split <;> omega
    rw [e]; exact q.int
  · rename_i i j
    cases e; cases h
    obtain rfl := dx.int_inv
    obtain rfl := dy.int_inv
    exact ⟨_, _, rfl, q.int⟩
  · cases h
end
end Kh

set_option Elab.async false
set_option linter.all false
set_option maxRecDepth 100000
set_option maxHeartbeats 2000000
/-! expressions: what the evaluator says the model does -/
namespace Kh
open PySem PySem.Spec PyProof.Rows L2

/-- a def's promise by its function on places -/
def spF (K : PySem.W.Frag) (mg : Str → Option Value) (n : Nat) (g : Fn) : Sp := fun vs H Q E => vs.length = n ∧ ∃ (as : List Slot) (Pr : List Addr) (S : Foot), SR K Pr H (vs.map some) as S ∧
  (match g as with
    | .ok d fin => ∀ v H' S' L, SR K Pr H' (vs.map some) fin S' → Fr false H S H' S' → DR K H' d v L → Res true [] Pr H S H' S' L → Q v H'
    | .exc c x y _ => ∀ C dd H', mg c = some (.ref C) → (∀ a o, H a = some o → (∀ i, a ∉ S i) → H' a = some o) → ExcAt K H' dd x y → E (.ref C) (some dd) H'
    | .bad => False)

structure Gd (lv : Nat) (c : Cs) (W : WX) (P : Program) (w : World) (K : PySem.W.Frag) (mg : Str → Option Value) (base : Heap) (X : Cx) : Prop where
  hP : X.prog = P
  hw : X.w = w
  hK : X.K = K
  hm : X.mg = mg
  hb : X.base = base
  sc : X.env.scope = c.sc
  N : X.N = c.N
  nd : c.N.Nodup
  calm : X.calm = true
  un : X.A.units + 100 < cLine
  room : Room lv X.A
  fnl : ∀ x, c.loc x = true → Loc c.sc x ∧ (X.fn x = true ∨ c.sc.names.lookup x = some .local)
  tk : Takes X W
/-- what is known of an error's class: its __init__ stores code and place -/
structure ExF (lv : Nat) (P : Program) (w : World) (K : PySem.W.Frag) (mg : Str → Option Value) (base : Heap) (x : Str) : Prop where
  ex : ∃ (C fI : Addr) (k : Nat) (fd : FuncData) (ps : List Str) (sp : Sp) (ds : List Value), k + 1 ≤ lv ∧ OexC K C ∧ PySem.W.findIn K (.ref C) "__init__" = some (some (.ref fI)) ∧ PySem.W.typeIn K (.ref fI) = some (.type "function") ∧ FnOk P w K mg base (L2.CX P w) k fI fd ps sp ∧
    Vals [.int 0] ds ∧ Binds K fd ps ds ∧ Binds K fd ps [] ∧ mg x = some (.ref C) ∧
    ∀ (a : Addr) (u v : V) (H : Hp) (Q : VK) (E : XK), H a = some (exo a C none) → (∀ d, H d = none → d ≠ a → Q .non (upd (upd (upd H d (exd d [("code", u)])) a (exo a C (some d))) d (exd d [("place", v), ("code", u)]))) → sp [.ref a, u, v] H Q E
/-- what an except clause wants of an error's class -/
structure ExG (K : PySem.W.Frag) (mg : Str → Option Value) (x : Str) : Prop where
  ex : ∃ C : Addr, mg x = some (.ref C) ∧ XfC K C ∧ PySem.W.findIn K (.ref C) "code" = some none ∧ PySem.W.findIn K (.ref C) "place" = some none ∧ PySem.W.exmOne K (.ref C) (.ref C) = some true
/-- a dict of the top: what it gives at each text -/
def KdV (K : PySem.W.Frag) (d : Addr) (kvs : List (Str × I)) : Prop := ∀ z : Str, (kvs.lookup z = none → PySem.W.nsIn K d z = some none) ∧ ∀ v, kvs.lookup z = some v → ∃ u vv, PySem.W.nsIn K d z = some (some u) ∧ RelV vv u ∧ ∀ H, IR K H v vv
structure GdOk (K : PySem.W.Frag) (w : World) (mg : Str → Option Value) (x : Str) (kvs : List (Str × I)) : Prop where
  at_ : ∃ d es n, mg x = some (.ref d) ∧ KDict K w d es n ∧ KdV K d kvs
structure Gl0 (T : Tab) (lv : Nat) (P : Program) (w : World) (K : PySem.W.Frag) (mg : Str → Option Value) (base : Heap) : Prop where
  blt : ∀ x ∈ builtins, mg x = none
  gl : ∀ x v, T.gl x = some v → ∃ vv u, mg x = some u ∧ RelV vv u ∧ ∀ H, IR K H v vv
  ex : ∀ x ∈ T.ec, ExF lv P w K mg base x
  exg : ∀ x ∈ T.ec, ExG K mg x
  gcd : T.im = true → mg ("gcd" : Str) = some (.builtin "math.gcd")
  gd : ∀ x kvs, T.gd x = some kvs → GdOk K w mg x kvs
  fn : ∀ f g, T.fn f = some g → ∃ a fd ps, mg f = some (.ref a) ∧ PySem.W.keepIn K (.ref a) = true ∧ Binds K fd ps [] ∧ FnOk P w K mg base (L2.CX P w) lv a fd ps (spF K mg ps.length g) ∧ ∀ as, g as ≠ .bad → as.length = ps.length

section
variable {T : Tab} {lv : Nat} {P : Program} {w : World} {K : PySem.W.Frag} {mg : Str → Option Value} {base : Heap}
variable (T lv P w K mg base)
def SpE (W : WX) (me : E) (t : TE) : Prop := ∀ own σ H ρ S Pr Q, SR K Pr H σ ρ S → OkP K mg W (me.pure && !own) Pr σ H S (finE K own me.src Pr H S Q) (evalE T me own ρ) → t σ H Q
def SpT (W : WX) (me : E) (t : TT) : Prop := ∀ σ H ρ S Pr Q, SR K Pr H σ ρ S → OkP K mg W me.pure Pr σ H S (fun b _ H' _ => Q b H') (evalT T me ρ) → t σ H Q
def SpEs (W : WX) (es : Es) (t : TA) : Prop := ∀ σ H ρ S Pr Q, SR K Pr H σ ρ S → OkP K mg W false Pr σ H S (finEs K Pr H S Q) (evalEs T es ρ) → t σ H Q
def SpBs (W : WX) (es : Es) (t : TA) : Prop := ∀ σ H ρ S Pr Q, SR K Pr H σ ρ S → OkP K mg W es.pure Pr σ H S (fun xs _ H' _ => ∀ vs, IRs K H' xs vs → Q vs H') (evalBs T es ρ) → t σ H Q
def SE (c : Cs) (W : WX) (me : E) (x : Expr) : Prop := ∃ t : TE, (∀ X, Gd lv c W P w K mg base X → PE X x t) ∧ SpE T K mg W me t
def isBool : Expr → Bool
  | .BoolOp _ _ _ => true
  | _ => false
def ST (c : Cs) (W : WX) (me : E) (x : Expr) : Prop := ∃ t : TT, (∀ X, Gd lv c W P w K mg base X → PT X x t ∧ (isBool x = true → PW X x t)) ∧ SpT T K mg W me t
end
section
variable {T : Tab} {lv : Nat} {P : Program} {w : World} {K : PySem.W.Frag} {mg : Str → Option Value} {base : Heap} {c : Cs} {W : WX}

theorem _root_.Kh.Fr.weak' {p : Bool} {H H' : Hp} {S S' : Foot} (h : Fr false H S H' S') : Fr (p && !true) H S H' S' := by
  rw [Bool.not_true, Bool.and_false]; exact h
theorem isVar_vis {sc : Scope} {x : Str} (h : isVar (sc.names.lookup x) = true) : Vis sc x := by
  unfold Vis
  unfold isVar at h
  split at h <;> first | exact .inl (by assumption) | exact .inr (.inl (by assumption)) | exact .inr (.inr (by assumption)) | cases h
theorem fine_of {x : Str} (h : fine x = true) : (x == ("__debug__" : Str)) = false ∧ (x == ("__classdict__" : Str)) = false ∧ x ≠ "__name__" := by
  unfold fine at h
  simp only [Bool.and_eq_true, Bool.not_eq_true'] at h
  exact ⟨h.1.1, h.1.2, fun e => by rw [e] at h; simp at h⟩
theorem isGlo_gl {X : Cx} {x : Str} (e : X.env.scope = c.sc) (h : c.glo x = true) : Gl X x := by
  unfold Gl
  show X.env.scope.names.lookup x = _
  rw [e]
  unfold Cs.glo isGlo at h
  split at h
  · assumption
  · cases h

/-! ### names and constants -/
theorem se_var' {i : Nat} {x : Str} {pos : Pos} (h : chkE c (.var i) (.Name x pos) = true) : (∀ X, Gd lv c W P w K mg base X → PE X (.Name x pos) (tVar i)) ∧ SpE T K mg W (.var i) (tVar i) := by
  simp only [chkE, Bool.and_eq_true, decide_eq_true_eq] at h
  obtain ⟨⟨h1, h2⟩, h3⟩ := h
  obtain ⟨d1, d2, _⟩ := fine_of h3
  refine ⟨fun X g => pe_var (by rw [g.N]; exact h1) (by rw [g.sc]; exact isVar_vis h2) d1 d2, fun own σ H ρ S Pr Q R ok => ?_⟩
  simp only [evalE, readS] at ok
  split at ok
  · -- an own value that never changes
    rename_i x' e
    obtain ⟨v, e1, d⟩ := R.own i _ e
    exact ⟨v, e1, ok H S R Fr.refl v [] (.im d.im_inv.2) Res.nil⟩
  · rename_i d hd e
    obtain ⟨v, e1, dr⟩ := R.own i _ e
    refine ⟨v, e1, ?_⟩
    cases own with
    | false =>
      simp only [Bool.false_eq_true, if_false] at ok
      refine ok H S R Fr.refl v (S i) dr ⟨fun a m => .inr (.inl ⟨i, List.mem_singleton.mpr rfl, m⟩), fun e => nomatch e⟩
    | true =>
      simp only [if_true] at ok
      refine ok H (S.set i []) (R.drop' i) Fr.drop.weak' v (S i) dr (Res.of ⟨R.nd i, fun a m => ⟨fun j n => ?_, R.pt i a m, .inl ⟨i, m⟩, R.mu i a m⟩⟩)
      by_cases q : j = i
      · subst q; rw [Foot.set_same] at n; cases n
      · rw [Foot.set_ne q] at n; exact q (R.dj j i a n m)
  · rename_i x' e
    obtain ⟨v, L, e1, d, _⟩ := R.bor i _ e
    exact ⟨v, e1, ok H S R Fr.refl v [] (.im d.im_inv.2) Res.nil⟩
  · rename_i d hd e
    obtain ⟨v, L, e1, dr, hL⟩ := R.bor i _ e
    refine ⟨v, e1, ?_⟩
    cases own with
    | false =>
      simp only [Bool.false_eq_true, if_false] at ok
      exact ok H S R Fr.refl v L dr ⟨fun a m => .inl (hL a m), fun e => nomatch e⟩
    | true => exact ok.elim
  · exact ok.elim
theorem se_var {i : Nat} {x : Str} {pos : Pos} (h : chkE c (.var i) (.Name x pos) = true) : SE T lv P w K mg base c W (.var i) (.Name x pos) := ⟨tVar i, se_var' h⟩

theorem use_E {α : Type} {a : E} {ta : TE} {q : Bool} {σ : L2.St} {H : Hp} {ρ : En} {S : Foot} {Pr : List Addr} {Q : VK} {fin : α → En → Hp → Foot → Prop} {f : D → En → Out α} (ea : SpE T K mg W a ta) (R : SR K Pr H σ ρ S)
    (ok : OkP K mg W (a.pure && q) Pr σ H S fin ((evalE T a false ρ).bind f))
    (k : ∀ d e1 H1 S1 v L, SR K Pr H1 σ e1 S1 → Fr a.pure H S H1 S1 → DR K H1 d v L → Res false a.src Pr H S H1 S1 L → OkP K mg W q Pr σ H1 S1 fin (f d e1) → Q v H1) : ta σ H Q := by
  refine ea false σ H ρ S Pr Q R ?_
  rw [Bool.not_false, Bool.and_true]
  exact ok.bind2.mono fun d e1 H1 S1 R1 F1 h v L dr rs => k d e1 H1 S1 v L R1 F1 dr rs h
theorem use_O {α : Type} {a : E} {ta : TE} {q : Bool} {σ : L2.St} {H : Hp} {ρ : En} {S : Foot} {Pr : List Addr} {Q : VK} {fin : α → En → Hp → Foot → Prop} {f : D → En → Out α} (ea : SpE T K mg W a ta) (R : SR K Pr H σ ρ S)
    (ok : OkP K mg W false Pr σ H S fin ((evalE T a true ρ).bind f))
    (k : ∀ d e1 H1 S1 v L, SR K Pr H1 σ e1 S1 → Fr false H S H1 S1 → DR K H1 d v L → Res true a.src Pr H S H1 S1 L → OkP K mg W q Pr σ H1 S1 fin (f d e1) → Q v H1) : ta σ H Q := by
  refine ea true σ H ρ S Pr Q R ?_
  rw [Bool.not_true, Bool.and_false]
  exact ok.bind0.mono fun d e1 H1 S1 R1 F1 h v L dr rs => k d e1 H1 S1 v L R1 F1 dr rs h
theorem use_T {α : Type} {a : E} {ta : TT} {q : Bool} {σ : L2.St} {H : Hp} {ρ : En} {S : Foot} {Pr : List Addr} {Q : Bool → Hp → Prop} {fin : α → En → Hp → Foot → Prop} {f : Bool → En → Out α} (ea : SpT T K mg W a ta) (R : SR K Pr H σ ρ S)
    (ok : OkP K mg W (a.pure && q) Pr σ H S fin ((evalT T a ρ).bind f))
    (k : ∀ d e1 H1 S1, SR K Pr H1 σ e1 S1 → Fr a.pure H S H1 S1 → OkP K mg W q Pr σ H1 S1 fin (f d e1) → Q d H1) : ta σ H Q :=
  ea σ H ρ S Pr Q R (ok.bind2.mono fun d e1 H1 S1 R1 F1 h => k d e1 H1 S1 R1 F1 h)
theorem okInt {α : Type} {q : Bool} {σ : L2.St} {H : Hp} {ρ : En} {S : Foot} {Pr : List Addr} {fin : α → En → Hp → Foot → Prop} {d : D} {f : Int → En → Out α} (ok : OkP K mg W q Pr σ H S fin ((asInt d ρ).bind f)) :
    ∃ i, d = .im (.int i) ∧ OkP K mg W q Pr σ H S fin (f i ρ) := by
  unfold asInt at ok
  split at ok
  · exact ⟨_, rfl, ok⟩
  · exact ok.elim
theorem okBool {α : Type} {q : Bool} {σ : L2.St} {H : Hp} {ρ : En} {S : Foot} {Pr : List Addr} {fin : α → En → Hp → Foot → Prop} {d : D} {f : Bool → En → Out α} (ok : OkP K mg W q Pr σ H S fin ((asBool d ρ).bind f)) :
    ∃ i, d = .im (.bl i) ∧ OkP K mg W q Pr σ H S fin (f i ρ) := by
  unfold asBool at ok
  split at ok
  · exact ⟨_, rfl, ok⟩
  · exact ok.elim
theorem okBool0 {q : Bool} {σ : L2.St} {H : Hp} {ρ : En} {S : Foot} {Pr : List Addr} {fin : Bool → En → Hp → Foot → Prop} {d : D} (ok : OkP K mg W q Pr σ H S fin (asBool d ρ)) :
    ∃ i, d = .im (.bl i) ∧ OkP K mg W q Pr σ H S fin (.ok i ρ) := by
  unfold asBool at ok
  split at ok
  · exact ⟨_, rfl, ok⟩
  · exact ok.elim

theorem se_cst {n : I} {v : Const} {k : Nat} {pos : Pos} (h : chkE c (.cst n) (.Constant v k pos) = true) : SE T lv P w K mg base c W (.cst n) (.Constant v k pos) := by
  have fin : ∀ {u : V}, (∀ H, IR K H n u) → SpE T K mg W (.cst n) (tC u) := fun {u} r own σ H ρ S Pr Q R ok => by
    simp only [evalE] at ok
    exact (fin_fresh ok R (Fr.refl (p := true))).im (r H)
  cases n <;> cases v <;> simp only [chkE] at h <;> first | (exact absurd h Bool.false_ne_true) | skip
  · exact ⟨tC .non, fun X g => pe_non, fin fun _ => .non⟩
  · cases eq_of_beq h; exact ⟨_, fun X g => pe_bl, fin fun _ => .bl _⟩
  · cases eq_of_beq h; exact ⟨_, fun X g => pe_int, fin fun _ => .int _⟩
  · cases eq_of_beq h; exact ⟨_, fun X g => pe_str, fin fun _ => .str _⟩
theorem se_glob (G : Gl0 T lv P w K mg base) {x y : Str} {pos : Pos} (h : chkE c (.glob x) (.Name y pos) = true) : SE T lv P w K mg base c W (.glob x) (.Name y pos) := by
  simp only [chkE, Bool.and_eq_true] at h
  obtain ⟨⟨h1, h2⟩, h3⟩ := h
  obtain ⟨d1, d2, _⟩ := fine_of h3
  cases eq_of_beq h1
  cases q : T.gl x with
  | none => exact ⟨fun _ _ _ => False, fun X g => ⟨fun _ _ _ _ _ _ z => z.elim⟩, fun own σ H ρ S Pr Q R ok => by
      simp only [evalE, q] at ok; exact ok.elim⟩
  | some v =>
    obtain ⟨vv, u, h4, h5, h6⟩ := G.gl x v q
    refine ⟨tC vv, fun X g => pe_glob (isGlo_gl g.sc h2) (by rw [g.hm]; exact h4) h5 d1, fun own σ H ρ S Pr Q R ok => ?_⟩
    simp only [evalE, q] at ok
    exact (fin_fresh ok R (Fr.refl (p := true))).im (h6 H)
theorem se_bin {op : Op} {o : Operator} {a b : E} {x y : Expr} {pos : Pos} (h : op.is o = true) (sa : SE T lv P w K mg base c W a x) (sb : SE T lv P w K mg base c W b y) : SE T lv P w K mg base c W (.bin op a b) (.BinOp x o y pos) := by
  obtain ⟨ta, pa, ea⟩ := sa
  obtain ⟨tb, pb, eb⟩ := sb
  refine ⟨tOp (rBin K op) ta tb, fun X g => ?_, fun own σ H ρ S Pr Q R ok => ?_⟩
  · have r := op_bin (X := X) h
    rw [g.hK] at r
    exact pe_op r (pa X g) (pb X g)
  · simp only [evalE, E.pure, Bool.and_assoc] at ok
    show ta σ H _
    refine use_E ea R ok fun x' e1 H1 S1 v L R1 F1 d1 r1 ok1 => ?_
    obtain ⟨hs, ok2⟩ := still_ok ok1
    show tb σ H1 _
    refine use_E eb R1 ok2 fun y' e2 H2 S2 u M R2 F2 d2 _ ok3 => ?_
    obtain ⟨z, hz, ok4⟩ := lift_ok ok3
    exact bin_ok hz (d1.stillR hs F2 R1 r1) d2 (fin_fresh ok4 R2 (F1.trans F2))
theorem se_cmp {op : Cm} {o : CmpOp} {a b : E} {x y : Expr} {pos : Pos} (h : op.is o = true) (hy : plainX y = true) (sa : SE T lv P w K mg base c W a x) (sb : SE T lv P w K mg base c W b y) :
    SE T lv P w K mg base c W (.cmp op a b) (.Compare x [o] [y] pos) ∧ ST T lv P w K mg base c W (.cmp op a b) (.Compare x [o] [y] pos) := by
  obtain ⟨ta, pa, ea⟩ := sa
  obtain ⟨tb, pb, eb⟩ := sb
  have sp : SpE T K mg W (.cmp op a b) (tOp (rCm K op) ta tb) := fun own σ H ρ S Pr Q R ok => by
    simp only [evalE, E.pure, Bool.and_assoc] at ok
    show ta σ H _
    refine use_E ea R ok fun x' e1 H1 S1 v L R1 F1 d1 _ ok1 => ?_
    obtain ⟨hs, ok2⟩ := still_ok ok1
    show tb σ H1 _
    refine use_E eb R1 ok2 fun y' e2 H2 S2 u M R2 F2 d2 _ ok3 => ?_
    obtain ⟨z, hz, ok4⟩ := lift_ok ok3
    cases e : cmpD op x' y' with
    | none => rw [e] at hz; cases hz
    | some k =>
      rw [e] at hz; cases hz
      exact cm_ok e (d1.still hs F2 R1) d2 (fin_fresh ok4 R2 (F1.trans F2)).bl
  have rule : ∀ X, Gd lv c W P w K mg base X → OpR X (compareOp o) (rCm K op) := fun X g => by
    have r := op_cm (X := X) h (Nat.lt_trans (Nat.add_lt_add_left (by decide) _) g.un)
    rw [g.hK] at r
    exact r
  refine ⟨⟨_, fun X g => pe_cmpR (rule X g) (pa X g) (pb X g) (pl_mark hy), sp⟩, ⟨_, fun X g => ⟨pt_cmpR (rule X g) (pa X g) (pb X g) (pl_mark hy), fun e => nomatch e⟩, fun σ H ρ S Pr Q R ok => ?_⟩⟩
  refine sp false σ H ρ S Pr _ R ?_
  rw [Bool.not_false, Bool.and_true]
  simp only [evalT] at ok
  refine ok.last.mono fun d e1 H1 S1 R1 F1 h v L dr rs => ?_
  obtain ⟨k, rfl, ok'⟩ := okBool0 h
  exact ⟨k, dr.bl_inv, ok' H1 S1 R1 Fr.refl⟩
/-- a test of a value -/
theorem st_val {a : E} {x : Expr} (hv : valTest x = true) (hT : ∀ ρ, evalT T a ρ = (evalE T a false ρ).bind fun d e => asBool d e) (s : SE T lv P w K mg base c W a x) : ST T lv P w K mg base c W a x := by
  obtain ⟨t, p, sp⟩ := s
  refine ⟨tB t, fun X g => ⟨pt_val (p X g) (pl_test hv), fun e => ?_⟩, fun σ H ρ S Pr Q R ok => ?_⟩
  · cases x <;> first | (exact absurd e Bool.false_ne_true) | (exact absurd hv Bool.false_ne_true)
  · refine sp false σ H ρ S Pr _ R ?_
    rw [Bool.not_false, Bool.and_true]
    rw [hT] at ok
    refine ok.last.mono fun d e1 H1 S1 R1 F1 h v L dr rs => ?_
    obtain ⟨k, rfl, ok'⟩ := okBool0 h
    exact ⟨k, dr.bl_inv, ok' H1 S1 R1 Fr.refl⟩
end
end Kh

set_option Elab.async false
set_option linter.all false
set_option maxRecDepth 100000
set_option maxHeartbeats 2000000
/-! expressions, further -/
namespace Kh
open PySem PySem.Spec PyProof.Rows L2

theorem PE.or {X : Cx} {e : Expr} {t u : TE} (h : PE X e t) (k : PE X e u) : PE X e (fun σ H Q => t σ H Q ∨ u σ H Q) :=
  ⟨fun pins s σ H Q I z => z.elim (h.run pins s σ H Q I) (k.run pins s σ H Q I)⟩
theorem PE.fls {X : Cx} {e : Expr} : PE X e (fun _ _ _ => False) := ⟨fun _ _ _ _ _ _ z => z.elim⟩
theorem PT.fls {X : Cx} {e : Expr} : PT X e (fun _ _ _ => False) := ⟨fun _ _ _ _ _ _ z => z.elim⟩
theorem PA.fls {X : Cx} {e : List Expr} : PA X e (fun _ _ _ => False) := ⟨fun _ _ _ _ _ _ _ z => z.elim⟩

section
variable {T : Tab} {lv : Nat} {P : Program} {w : World} {K : PySem.W.Frag} {mg : Str → Option Value} {base : Heap} {c : Cs} {W : WX}
variable {σ : L2.St} {H : Hp} {ρ : En} {S : Foot} {Pr : List Addr} {p q : Bool}

theorem OkP.le {α : Type} {fin : α → En → Hp → Foot → Prop} {o : Out α} (h : OkP K mg W q Pr σ H S fin o) (le : q = true → p = true) : OkP K mg W p Pr σ H S fin o := by
  cases o with
  | bad => exact h
  | exc c x y e => exact h
  | ok d e => exact fun H' S' R F => h H' S' R ⟨F.keep, F.own, fun z => F.pur (le z)⟩
theorem finE_back {own : Bool} {src : List Nat} {H0 H1 : Hp} {S0 S1 : Foot} {Q : VK} (F : Fr p H0 S0 H1 S1) {d : D} {e : En} {H' : Hp} {S' : Foot} (h : finE K own src Pr H0 S0 Q d e H' S') : finE K own src Pr H1 S1 Q d e H' S' :=
  fun v L dr rs => h v L dr (Res.back F rs)
theorem finE_src {own : Bool} {src src' : List Nat} {H0 : Hp} {S0 : Foot} {Q : VK} (s : ∀ i ∈ src, i ∈ src') {d : D} {e : En} {H' : Hp} {S' : Foot} (h : finE K own src' Pr H0 S0 Q d e H' S') : finE K own src Pr H0 S0 Q d e H' S' :=
  fun v L dr rs => h v L dr (rs.src s)
def opI (o : CmpOp) (f : Cm) : Prop := ∀ X : Cx, OpR X (compareOp o) (rI0 fun i j => .bl (cmpI f i j))
def isOrd : Cm → Bool
  | .lt => true | .le => true | .gt => true | .ge => true
  | _ => false
theorem op_ord {f : Cm} {o : CmpOp} (h : f.is o = true) (k : isOrd f = true) : opI o f := by
  intro X
  cases f <;> cases o <;> first | (simp [Cm.is] at h; done) | (simp [isOrd] at k; done) | skip
  · exact op_lt
  · exact op_le
  · exact op_gt
  · exact op_ge
theorem okIt {α : Type} {fin : α → En → Hp → Foot → Prop} {k : Bool} {a b : Out α} (h : OkP K mg W q Pr σ H S fin (if k = true then a else b)) : if k = true then OkP K mg W q Pr σ H S fin a else OkP K mg W q Pr σ H S fin b := by
  cases k <;> exact h

theorem se_neg {a : E} {x : Expr} {pos : Pos} (sa : SE T lv P w K mg base c W a x) : SE T lv P w K mg base c W (.neg a) (.UnaryOp .USub x pos) := by
  obtain ⟨ta, pa, ea⟩ := sa
  refine ⟨tUn (rU fun i => .int (-i)) ta, fun X g => pe_un un_neg (pa X g), fun own σ H ρ S Pr Q R ok => ?_⟩
  simp only [evalE, E.pure] at ok
  show ta σ H _
  refine use_E ea R ok fun d e1 H1 S1 v L R1 F1 d1 _ ok1 => ?_
  obtain ⟨i, rfl, ok2⟩ := okInt ok1
  exact ⟨i, d1.int_inv, (fin_fresh ok2 R1 F1).int⟩
theorem se_not {a : E} {x : Expr} {pos : Pos} (sa : SE T lv P w K mg base c W a x) : SE T lv P w K mg base c W (.not a) (.UnaryOp .Not x pos) := by
  obtain ⟨ta, pa, ea⟩ := sa
  refine ⟨tNotV ta, fun X g => pe_not (pa X g), fun own σ H ρ S Pr Q R ok => ?_⟩
  simp only [evalE, E.pure] at ok
  show ta σ H _
  refine use_E ea R ok fun d e1 H1 S1 v L R1 F1 d1 _ ok1 => ?_
  obtain ⟨i, rfl, ok2⟩ := okBool ok1
  exact ⟨i, d1.bl_inv, (fin_fresh ok2 R1 F1).bl⟩
theorem st_not {a : E} {x : Expr} {pos : Pos} (sa : ST T lv P w K mg base c W a x) : ST T lv P w K mg base c W (.not a) (.UnaryOp .Not x pos) := by
  obtain ⟨ta, pa, ea⟩ := sa
  refine ⟨tNot ta, fun X g => ⟨pt_not (pa X g).1, fun e => nomatch e⟩, fun σ H ρ S Pr Q R ok => ?_⟩
  simp only [evalT, E.pure] at ok
  rw [← Bool.and_true a.pure] at ok
  show ta σ H _
  exact use_T ea R ok fun d e1 H1 S1 R1 F1 ok1 => ok1 H1 S1 R1 Fr.refl
theorem se_chain {o1 o2 : Cm} {p1 p2 : CmpOp} {a b d : E} {x y z : Expr} {pos : Pos} (h1 : o1.is p1 = true) (h2 : o2.is p2 = true) (k1 : isOrd o1 = true) (k2 : isOrd o2 = true) (hz : plainX z = true)
    (sa : SE T lv P w K mg base c W a x) (sb : SE T lv P w K mg base c W b y) (sd : SE T lv P w K mg base c W d z) :
    SE T lv P w K mg base c W (.chain o1 o2 a b d) (.Compare x [p1, p2] [y, z] pos) ∧ ST T lv P w K mg base c W (.chain o1 o2 a b d) (.Compare x [p1, p2] [y, z] pos) := by
  obtain ⟨ta, pa, ea⟩ := sa
  obtain ⟨tb, pb, eb⟩ := sb
  obtain ⟨td, pd, ed⟩ := sd
  have sp : SpE T K mg W (.chain o1 o2 a b d) (tChain (rI0 fun i j => .bl (cmpI o1 i j)) (rI0 fun i j => .bl (cmpI o2 i j)) ta tb td) := fun own σ H ρ S Pr Q R ok => by
    simp only [evalE, E.pure, Bool.and_assoc] at ok
    show ta σ H _
    refine use_E ea R ok fun x' e1 H1 S1 v L R1 F1 d1 _ ok1 => ?_
    obtain ⟨i, rfl, ok2⟩ := okInt ok1
    show tb σ H1 _
    refine use_E eb R1 ok2 fun y' e2 H2 S2 u M R2 F2 d2 _ ok3 => ?_
    obtain ⟨j, rfl, ok4⟩ := okInt ok3
    refine ⟨i, j, d1.int_inv, d2.int_inv, cmpI o1 i j, rfl, ?_⟩
    have ok5 := okIt ok4
    split
    · rename_i e
      rw [if_pos e] at ok5
      refine use_E ed R2 ok5 fun z' e3 H3 S3 u3 M3 R3 F3 d3 _ ok6 => ?_
      obtain ⟨k, rfl, ok7⟩ := okInt ok6
      exact ⟨j, k, d2.int_inv, d3.int_inv, (fin_fresh ok7 R3 ((F1.trans F2).trans F3)).bl⟩
    · rename_i e
      rw [if_neg e] at ok5
      exact (fin_fresh ok5 R2 (F1.trans F2)).bl
  refine ⟨⟨_, fun X g => pe_chain (op_ord h1 k1 X) (op_ord h2 k2 X) (pa X g) (pb X g) (pd X g) (pl_mark hz), sp⟩, ⟨_, fun X g => ⟨pt_chain (op_ord h1 k1 X) (op_ord h2 k2 X) (pa X g) (pb X g) (pd X g) (pl_mark hz), fun e => nomatch e⟩, fun σ H ρ S Pr Q R ok => ?_⟩⟩
  refine sp false σ H ρ S Pr _ R ?_
  rw [Bool.not_false, Bool.and_true]
  simp only [evalT] at ok
  refine ok.last.mono fun d e1 H1 S1 R1 F1 h v L dr rs => ?_
  obtain ⟨k, rfl, ok'⟩ := okBool0 h
  exact ⟨k, dr.bl_inv, ok' H1 S1 R1 Fr.refl⟩
theorem se_one {a : E} {op : BoolOp} {x : Expr} {pos : Pos} (sa : SE T lv P w K mg base c W a x) : SE T lv P w K mg base c W (.one a) (.BoolOp op [x] pos) := by
  obtain ⟨ta, pa, ea⟩ := sa
  refine ⟨ta, fun X g => pe_one (pa X g), fun own σ H ρ S Pr Q R ok => ?_⟩
  simp only [evalE, E.pure, E.src] at ok
  exact ea own σ H ρ S Pr Q R ok
theorem st_one {a : E} {op : BoolOp} {x : Expr} {pos : Pos} (sa : ST T lv P w K mg base c W a x) : ST T lv P w K mg base c W (.one a) (.BoolOp op [x] pos) := by
  obtain ⟨ta, pa, ea⟩ := sa
  refine ⟨ta, fun X g => ?_, fun σ H ρ S Pr Q R ok => ?_⟩
  · cases op with
    | And => exact ⟨(pw_and1 (pa X g).1).pt, fun _ => pw_and1 (pa X g).1⟩
    | Or => exact ⟨(pw_or1 (pa X g).1).pt, fun _ => pw_or1 (pa X g).1⟩
  · simp only [evalT, E.pure] at ok
    exact ea σ H ρ S Pr Q R ok
theorem se_and {a b : E} {x y : Expr} {r : List Expr} {pos : Pos} (sa : SE T lv P w K mg base c W a x) (sb : SE T lv P w K mg base c W b (.BoolOp .And (y :: r) pos)) : SE T lv P w K mg base c W (.and a b) (.BoolOp .And (x :: y :: r) pos) := by
  obtain ⟨ta, pa, ea⟩ := sa
  obtain ⟨tb, pb, eb⟩ := sb
  refine ⟨tAndV ta tb, fun X g => pe_and (pa X g) (pb X g), fun own σ H ρ S Pr Q R ok => ?_⟩
  simp only [evalE, E.pure, E.src, Bool.and_assoc] at ok
  show ta σ H _
  refine use_E ea R ok fun x' e1 H1 S1 v L R1 F1 d1 _ ok1 => ?_
  obtain ⟨k, rfl, ok2⟩ := okBool ok1
  refine ⟨k, d1.bl_inv, ?_⟩
  have ok3 := okIt ok2
  split
  · rename_i e
    rw [if_pos e] at ok3
    exact eb own σ H1 e1 S1 Pr Q R1 (ok3.mono fun d e H' S' _ _ h => finE_back F1 h)
  · rename_i e
    rw [if_neg e] at ok3
    exact (fin_fresh ok3 R1 F1).bl
theorem se_or {a b : E} {x y : Expr} {r : List Expr} {pos : Pos} (sa : SE T lv P w K mg base c W a x) (sb : SE T lv P w K mg base c W b (.BoolOp .Or (y :: r) pos)) : SE T lv P w K mg base c W (.or a b) (.BoolOp .Or (x :: y :: r) pos) := by
  obtain ⟨ta, pa, ea⟩ := sa
  obtain ⟨tb, pb, eb⟩ := sb
  refine ⟨tOrV ta tb, fun X g => pe_or (pa X g) (pb X g), fun own σ H ρ S Pr Q R ok => ?_⟩
  simp only [evalE, E.pure, E.src, Bool.and_assoc] at ok
  show ta σ H _
  refine use_E ea R ok fun x' e1 H1 S1 v L R1 F1 d1 _ ok1 => ?_
  obtain ⟨k, rfl, ok2⟩ := okBool ok1
  refine ⟨k, d1.bl_inv, ?_⟩
  have ok3 := okIt ok2
  split
  · rename_i e
    rw [if_pos e] at ok3
    exact (fin_fresh ok3 R1 F1).bl
  · rename_i e
    rw [if_neg e] at ok3
    exact eb own σ H1 e1 S1 Pr Q R1 (ok3.mono fun d e H' S' _ _ h => finE_back F1 h)
theorem st_and {a b : E} {x y : Expr} {r : List Expr} {pos : Pos} (sa : ST T lv P w K mg base c W a x) (sb : ST T lv P w K mg base c W b (.BoolOp .And (y :: r) pos)) : ST T lv P w K mg base c W (.and a b) (.BoolOp .And (x :: y :: r) pos) := by
  obtain ⟨ta, pa, ea⟩ := sa
  obtain ⟨tb, pb, eb⟩ := sb
  refine ⟨tAnd ta tb, fun X g => have z := pw_and (pa X g).1 ((pb X g).2 rfl); ⟨z.pt, fun _ => z⟩, fun σ H ρ S Pr Q R ok => ?_⟩
  simp only [evalT, E.pure] at ok
  show ta σ H _
  refine use_T ea R ok fun k e1 H1 S1 R1 F1 ok1 => ?_
  have ok3 := okIt ok1
  split
  · rename_i e
    rw [if_pos e] at ok3
    exact eb σ H1 e1 S1 Pr Q R1 ok3
  · rename_i e
    rw [if_neg e] at ok3
    exact ok3 H1 S1 R1 Fr.refl
theorem st_or {a b : E} {x y : Expr} {r : List Expr} {pos : Pos} (sa : ST T lv P w K mg base c W a x) (sb : ST T lv P w K mg base c W b (.BoolOp .Or (y :: r) pos)) : ST T lv P w K mg base c W (.or a b) (.BoolOp .Or (x :: y :: r) pos) := by
  obtain ⟨ta, pa, ea⟩ := sa
  obtain ⟨tb, pb, eb⟩ := sb
  refine ⟨tOr ta tb, fun X g => have z := pw_or (pa X g).1 ((pb X g).2 rfl); ⟨z.pt, fun _ => z⟩, fun σ H ρ S Pr Q R ok => ?_⟩
  simp only [evalT, E.pure] at ok
  show ta σ H _
  refine use_T ea R ok fun k e1 H1 S1 R1 F1 ok1 => ?_
  have ok3 := okIt ok1
  split
  · rename_i e
    rw [if_pos e] at ok3
    exact ok3 H1 S1 R1 Fr.refl
  · rename_i e
    rw [if_neg e] at ok3
    exact eb σ H1 e1 S1 Pr Q R1 ok3
theorem se_ite {a b d : E} {x y z : Expr} {pos : Pos} (sa : ST T lv P w K mg base c W a x) (sb : SE T lv P w K mg base c W b y) (sd : SE T lv P w K mg base c W d z) : SE T lv P w K mg base c W (.ite a b d) (.IfExp x y z pos) := by
  obtain ⟨ta, pa, ea⟩ := sa
  obtain ⟨tb, pb, eb⟩ := sb
  obtain ⟨td, pd, ed⟩ := sd
  refine ⟨tIf ta tb td, fun X g => pe_ifExp (pa X g).1 (pb X g) (pd X g), fun own σ H ρ S Pr Q R ok => ?_⟩
  simp only [evalE, E.pure, E.src, Bool.and_assoc] at ok
  show ta σ H _
  refine use_T ea R ok fun k e1 H1 S1 R1 F1 ok1 => ?_
  have ok3 := okIt ok1
  split
  · rename_i e
    rw [if_pos e] at ok3
    refine eb own σ H1 e1 S1 Pr Q R1 ((ok3.mono fun d e H' S' _ _ h => finE_src (fun i m => List.mem_append_left _ m) (finE_back F1 h)).le fun z => ?_)
    simp only [Bool.and_eq_true] at z ⊢
    exact ⟨z.1, z.2.2⟩
  · rename_i e
    rw [if_neg e] at ok3
    refine ed own σ H1 e1 S1 Pr Q R1 ((ok3.mono fun d e H' S' _ _ h => finE_src (fun i m => List.mem_append_right _ m) (finE_back F1 h)).le fun z => ?_)
    simp only [Bool.and_eq_true] at z ⊢
    exact z.2

/-! ### items, slices -/
theorem okNeed {own : Bool} {fin : D → En → Hp → Foot → Prop} {d : D} (h : OkP K mg W q Pr σ H S fin (needIm own d ρ)) : (own = true → d.isIm = true) ∧ OkP K mg W q Pr σ H S fin (.ok d ρ) := by
  unfold needIm at h
  split at h
  · rename_i e
    split at h
    · rename_i e2; exact ⟨fun _ => e2, h⟩
    · exact h.elim
  · rename_i e; exact ⟨fun z => absurd z e, h⟩
theorem isIm_inv {d : D} (h : d.isIm = true) : ∃ x, d = .im x := by
  cases d <;> first | exact ⟨_, rfl⟩ | cases h
theorem bind_assoc' {α β γ : Type} (o : Out α) (f : α → En → Out β) (g : β → En → Out γ) : (o.bind f).bind g = o.bind fun a e => (f a e).bind g := by
  cases o <;> rfl
theorem still_bind {α : Type} {d : D} {b : Bool} {o : Out D} {f : D → En → Out α} {fin : α → En → Hp → Foot → Prop} (h : OkP K mg W p Pr σ H S fin ((still d b o).bind f)) : (d.isIm || b) = true ∧ OkP K mg W p Pr σ H S fin (o.bind f) := by
  unfold still at h
  split at h
  · rename_i e; exact ⟨e, h⟩
  · exact h.elim
theorem lift_bind {α β : Type} {o : Option β} {e : En} {f : β → En → Out α} {fin : α → En → Hp → Foot → Prop} (h : OkP K mg W p Pr σ H S fin ((lift o e).bind f)) : ∃ a, o = some a ∧ OkP K mg W p Pr σ H S fin (f a e) := by
  cases o with
  | none => exact h.elim
  | some a => exact ⟨a, rfl, h⟩
theorem use_Ee {α : Type} {a : E} {ta : TE} {Q : VK} {fin : α → En → Hp → Foot → Prop} {f : D → En → Out α} (ea : SpE T K mg W a ta) (R : SR K Pr H σ ρ S)
    (ok : OkP K mg W (a.pure && q) Pr σ H S fin ((evalE T a false ρ).bind f))
    (k : ∀ d e1 H1 S1 v L, evalE T a false ρ = .ok d e1 → SR K Pr H1 σ e1 S1 → Fr a.pure H S H1 S1 → DR K H1 d v L → Res false a.src Pr H S H1 S1 L → OkP K mg W q Pr σ H1 S1 fin (f d e1) → Q v H1) : ta σ H Q := by
  refine ea false σ H ρ S Pr Q R ?_
  rw [Bool.not_false, Bool.and_true]
  have ok' := ok.bind2
  cases e : evalE T a false ρ with
  | bad => rw [e] at ok'; exact ok'
  | exc _ _ _ _ => rw [e] at ok'; exact ok'
  | ok d e1 =>
    rw [e] at ok'
    exact fun H1 S1 R1 F1 v L dr rs => k d e1 H1 S1 v L e R1 F1 dr rs (ok' H1 S1 R1 F1)
theorem se_ix {a b : E} {x y : Expr} {pos : Pos} (hy : plainX y = true) (sa : SE T lv P w K mg base c W a x) (sb : SE T lv P w K mg base c W b y) : SE T lv P w K mg base c W (.ix a b) (.Subscript x y pos) := by
  obtain ⟨ta, pa, ea⟩ := sa
  obtain ⟨tb, pb, eb⟩ := sb
  refine ⟨fun σ H Q => tOp (rIx K) ta tb σ H Q ∨ tDGet ta tb σ H Q, fun X g => ?_, fun own σ H ρ S Pr Q R ok => ?_⟩
  · have r := @ix_seq X
    rw [g.hK] at r
    exact PE.or (pe_ix r (pa X g) (pb X g) (pl_ix hy)) (pe_dget (Nat.lt_trans (Nat.add_lt_add_left (by decide) _) g.un) (pa X g) (pb X g) (pl_ix hy))
  · simp only [evalE, E.pure, E.src, Bool.and_assoc, bind_assoc'] at ok
    -- what is behind both
    have key : ∀ {x' y' z : D} {v u : V} {L M : List Addr} {e1 e2 : En} {H1 H2 : Hp} {S1 S2 : Foot}, SR K Pr H1 σ e1 S1 → SR K Pr H2 σ e2 S2 → Fr a.pure H S H1 S1 → Fr b.pure H1 S1 H2 S2 → DR K H1 x' v L → Res false a.src Pr H S H1 S1 L → (x'.isIm || b.pure) = true →
        OkP K mg W (!own) Pr σ H2 S2 (finE K own a.src Pr H S Q) (needIm own z e2) → POk K H2 z L Q := by
      intro x' y' z v u L M e1 e2 H1 H2 S1 S2 R1 R2 F1 F2 d1 r1 hs ok
      obtain ⟨hi, ok⟩ := okNeed ok
      intro w' L' dz hL
      refine ok H2 S2 R2 Fr.refl w' L' dz ⟨fun q m => ?_, fun e => ?_⟩
      · cases hx : x'.isIm with
        | true =>
          obtain ⟨i, rfl⟩ := isIm_inv hx
          obtain ⟨rfl, _⟩ := d1.im_inv
          exact absurd (hL q m) List.not_mem_nil
        | false =>
          rw [hx, Bool.false_or] at hs
          obtain ⟨e1, _⟩ := F2.pur hs
          rw [e1]
          exact r1.any q (hL q m)
      · obtain ⟨i, rfl⟩ := isIm_inv (hi e)
        obtain ⟨rfl, _⟩ := dz.im_inv
        exact ⟨List.nodup_nil, fun q m => absurd m List.not_mem_nil⟩
    by_cases hd : ∃ t kvs e, evalE T a false ρ = .ok (.dct t kvs) e
    · refine .inr ?_
      obtain ⟨t, kvs, e0, he⟩ := hd
      show ta σ H _
      refine use_Ee ea R ok fun x' e1 H1 S1 v L hq R1 F1 d1 r1 ok1 => ?_
      rw [he] at hq
      cases hq
      obtain ⟨hs, ok2⟩ := still_bind ok1
      rw [bind_assoc'] at ok2
      show tb σ H1 _
      refine use_E eb R1 ok2 fun y' e2 H2 S2 u M R2 F2 d2 _ ok3 => ?_
      obtain ⟨z, hz, ok4⟩ := lift_bind ok3
      obtain ⟨a', w', rfl, g, q⟩ := ix_dct hz (d1.still hs F2 R1) d2 (key (y' := y') (u := u) (M := M) R1 R2 F1 F2 d1 r1 hs ok4)
      exact ⟨a', w', rfl, g, q⟩
    · refine .inl ?_
      show ta σ H _
      refine use_Ee ea R ok fun x' e1 H1 S1 v L hq R1 F1 d1 r1 ok1 => ?_
      obtain ⟨hs, ok2⟩ := still_bind ok1
      rw [bind_assoc'] at ok2
      show tb σ H1 _
      refine use_E eb R1 ok2 fun y' e2 H2 S2 u M R2 F2 d2 _ ok3 => ?_
      obtain ⟨z, hz, ok4⟩ := lift_bind ok3
      exact ix_ok hz (fun t kvs e => hd ⟨t, kvs, e1, by rw [hq, e]⟩) (d1.still hs F2 R1) d2 (key (y' := y') (u := u) (M := M) R1 R2 F1 F2 d1 r1 hs ok4)
end
end Kh

set_option Elab.async false
set_option linter.all false
set_option maxRecDepth 100000
set_option maxHeartbeats 2000000
/-! expressions: parts of slices, lists of expressions, displays, built-in calls -/
namespace Kh
open PySem PySem.Spec PyProof.Rows L2

section
variable (T : Tab) (lv : Nat) (P : Program) (w : World) (K : PySem.W.Frag) (mg : Str → Option Value) (base : Heap)
def SpO (W : WX) (mo : Eo) (t : TO) : Prop := ∀ σ H ρ S Pr Q, SR K Pr H σ ρ S → OkP K mg W mo.pure Pr σ H S (fun o _ H' _ => Q o H') (evalO T mo ρ) → t σ H Q
def SO (c : Cs) (W : WX) (mo : Eo) (xo : Option Expr) : Prop := ∃ t : TO, (∀ X, Gd lv c W P w K mg base X → PO X xo t) ∧ SpO T K mg W mo t
/-- the arguments of a call on the heap, apart from what is left in the places -/
structure ArgR (Pr : List Addr) (H : Hp) (S : Foot) (σ : L2.St) (H1 : Hp) (S1 : Foot) (as : List (Slot × Option Nat)) (vs : List V) (Sa : Foot) : Prop where
  sr : SR K Pr H1 (vs.map some) (as.map (·.1)) Sa
  ap : ∀ (k : Nat) (a : Addr), a ∈ Sa k → ∀ i : Nat, a ∉ S1 i
  pv : ∀ (k : Nat) (a : Addr), a ∈ Sa k → (∃ i : Nat, a ∈ S i) ∨ H a = none
  ld : ∀ (k i : Nat) (s : Slot), as[k]? = some (s, some i) → ∃ v, vs[k]? = some v ∧ σ[i]? = some (some v)
def SpAs (W : WX) (es : Es) (t : TA) : Prop := ∀ σ H ρ S Pr Q, SR K Pr H σ ρ S → OkP K mg W false Pr σ H S (fun as _ H1 S1 => ∀ vs Sa, ArgR K Pr H S σ H1 S1 as vs Sa → Q vs H1) (evalAs T es ρ) → t σ H Q
def SEs (c : Cs) (W : WX) (es : Es) (xs : List Expr) : Prop := ∃ t : TA, (∀ X, Gd lv c W P w K mg base X → PA X xs t) ∧ SpEs T K mg W es t ∧ SpBs T K mg W es t ∧ SpAs T K mg W es t
end
section
variable {T : Tab} {lv : Nat} {P : Program} {w : World} {K : PySem.W.Frag} {mg : Str → Option Value} {base : Heap} {c : Cs} {W : WX}
variable {σ : L2.St} {H : Hp} {ρ : En} {S : Foot} {Pr : List Addr} {p q : Bool}

theorem so_no : SO T lv P w K mg base c W .no none :=
  ⟨tNoPart, fun X g => po_none, fun σ H ρ S Pr Q R ok => by
    simp only [evalO] at ok
    exact ok H S R Fr.refl⟩
theorem so_some {a : E} {x : Expr} (sa : SE T lv P w K mg base c W a x) : SO T lv P w K mg base c W (.so a) (some x) := by
  obtain ⟨ta, pa, ea⟩ := sa
  refine ⟨tPart ta, fun X g => po_some (pa X g), fun σ H ρ S Pr Q R ok => ?_⟩
  simp only [evalO, Eo.pure] at ok
  rw [← Bool.and_true a.pure] at ok
  show ta σ H _
  refine use_E ea R ok fun d e1 H1 S1 v L R1 F1 d1 _ ok1 => ?_
  obtain ⟨i, rfl, ok2⟩ := okInt ok1
  exact ⟨i, d1.int_inv, ok2 H1 S1 R1 Fr.refl⟩
theorem use_O2 {α : Type} {a : Eo} {ta : TO} {Q : Option Int → Hp → Prop} {fin : α → En → Hp → Foot → Prop} {f : Option Int → En → Out α} (ea : SpO T K mg W a ta) (R : SR K Pr H σ ρ S)
    (ok : OkP K mg W (a.pure && q) Pr σ H S fin ((evalO T a ρ).bind f))
    (k : ∀ d e1 H1 S1, SR K Pr H1 σ e1 S1 → Fr a.pure H S H1 S1 → OkP K mg W q Pr σ H1 S1 fin (f d e1) → Q d H1) : ta σ H Q :=
  ea σ H ρ S Pr Q R (ok.bind2.mono fun d e1 H1 S1 R1 F1 h => k d e1 H1 S1 R1 F1 h)
theorem fin_need {own : Bool} {H0 : Hp} {S0 : Foot} {Q : VK} {z : D} {src : List Nat} (ok : OkP K mg W q Pr σ H S (finE K own src Pr H0 S0 Q) (needIm own z ρ)) (R : SR K Pr H σ ρ S) (F : Fr p H0 S0 H S) : VOk K H z Q :=
  fin_fresh (okNeed ok).2 R F
theorem se_sl {a : E} {lo hi : Eo} {x : Expr} {l h : Option Expr} {pos p2 : Pos} (sa : SE T lv P w K mg base c W a x) (sl : SO T lv P w K mg base c W lo l) (sh : SO T lv P w K mg base c W hi h) :
    SE T lv P w K mg base c W (.sl a lo hi) (.Subscript x (.Slice l h none p2) pos) := by
  obtain ⟨ta, pa, ea⟩ := sa
  obtain ⟨tl, pl, el⟩ := sl
  obtain ⟨th, ph, eh⟩ := sh
  refine ⟨tSl (rSl K) ta tl th, fun X g => ?_, fun own σ H ρ S Pr Q R ok => ?_⟩
  · have r := @sl_all X
    rw [g.hK] at r
    exact pe_slice r (pa X g) (pl X g) (ph X g)
  · simp only [evalE, E.pure, E.src, Bool.and_assoc, bind_assoc'] at ok
    show ta σ H _
    refine use_E ea R ok fun x' e1 H1 S1 v L R1 F1 d1 r1 ok1 => ?_
    obtain ⟨hs, ok2⟩ := still_ok ok1
    show tl σ H1 _
    refine use_O2 el R1 ok2 fun l e2 H2 S2 R2 F2 ok3 => ?_
    show th σ H2 _
    refine use_O2 eh R2 ok3 fun u e3 H3 S3 R3 F3 ok4 => ?_
    obtain ⟨z, hz, ok5⟩ := lift_ok ok4
    exact sl_ok hz (d1.still hs (F2.trans F3) R1) (fin_fresh ok5 R3 (F1.trans (F2.trans F3)))

/-! ### lists of expressions -/
theorem fin_own {H0 : Hp} {S0 : Foot} {Q : VK} {own : Bool} {src : List Nat} {z : D} {L : List Addr} {v : V} {H' : Hp} (ok : OkP K mg W q Pr σ H S (finE K own src Pr H0 S0 Q) (.ok z ρ)) (R : SR K Pr H σ ρ S) (g : ∀ a o, H a = some o → H' a = some o)
    (dr : DR K H' z v L) (nd : L.Nodup) (hL : ∀ a ∈ L, (∀ i, a ∉ S i) ∧ a ∉ Pr ∧ ((∃ i, a ∈ S0 i) ∨ H0 a = none) ∧ MutAt H' a) : Q v H' :=
  ok H' S (R.grow g) (Fr.ext g) v L dr (Res.of ⟨nd, hL⟩)
theorem MutAt.grow {H H' : Hp} {a : Addr} (h : MutAt H a) (g : ∀ a o, H a = some o → H' a = some o) : MutAt H' a := let ⟨o, e, z⟩ := h; ⟨o, g _ _ e, z⟩
theorem ses_nil : SEs T lv P w K mg base c W .nil [] := by
  refine ⟨tNil, fun X g => pa_nil, fun σ H ρ S Pr Q R ok => ?_, fun σ H ρ S Pr Q R ok => ?_, fun σ H ρ S Pr Q R ok => ?_⟩
  · simp only [evalEs] at ok
    exact ok H S R Fr.refl [] [] .nil Res.nil
  · simp only [evalBs] at ok
    exact ok H S R Fr.refl [] .nil
  · simp only [evalAs] at ok
    refine ok H S R Fr.refl [] (fun _ => []) ⟨⟨rfl, ?_, ?_, fun _ _ => rfl, fun _ => List.nodup_nil, ?_, ?_, ?_, R.pa⟩, ?_, ?_, ?_⟩ <;> simp
theorem okAsIm {α : Type} {fin : α → En → Hp → Foot → Prop} {d : D} {f : I → En → Out α} (ok : OkP K mg W q Pr σ H S fin ((asIm d ρ).bind f)) :
    ∃ i, d = .im i ∧ OkP K mg W q Pr σ H S fin (f i ρ) := by
  unfold asIm at ok
  split at ok
  · exact ⟨_, rfl, ok⟩
  · exact ok.elim
/-- an argument ahead of the others -/
theorem arg_cons {H1 H2 : Hp} {S1 S2 : Foot} {e1 : En} {s : Slot} {o : Option Nat} {v : V} {L : List Addr} {as : List (Slot × Option Nat)} {vs : List V} {Sa : Foot} (R : SR K Pr H σ ρ S) (R1 : SR K Pr H1 σ e1 S1) (F1 : Fr p H S H1 S1) (F2 : Fr q H1 S1 H2 S2)
    (A : ArgR K Pr H1 S1 σ H2 S2 as vs Sa) (hs : ∀ d, s = .own d → DR K H1 d v L) (hb : ∀ d, s = .bor d → L = [] ∧ ∃ R, DR K H1 d v R ∧ ∀ a ∈ R, a ∈ Pr) (hn : s ≠ .no) (nd : L.Nodup)
    (hL : ∀ a ∈ L, (∀ i, a ∉ S1 i) ∧ a ∉ Pr ∧ ((∃ i, a ∈ S i) ∨ H a = none) ∧ MutAt H1 a) (ho : ∀ i, o = some i → σ[i]? = some (some v)) :
    ArgR K Pr H S σ H2 S2 ((s, o) :: as) (v :: vs) (fun k => match k with | 0 => L | k + 1 => Sa k) := by
  have st : Stay H1 H2 L := R1.stay F2 fun a m => (hL a m).1
  have apart : ∀ a ∈ L, ∀ k, a ∉ Sa k := fun a m k n => by
    rcases A.pv k a n with ⟨i, z⟩ | z
    · exact (hL a m).1 i z
    · exact (hL a m).2.2.2.there z
  refine ⟨⟨?_, fun i d e => ?_, fun i d e => ?_, fun i e => ?_, fun i => ?_, fun i j a m n => ?_, fun i a m => ?_, fun i a m => ?_, A.sr.pa⟩, fun k a m => ?_, fun k a m => ?_, fun k i s' e => ?_⟩
  · have := A.sr.len; simp at this ⊢; exact this
  · cases i with
    | zero =>
      have e' : s = .own d := Option.some.inj e
      exact ⟨v, rfl, (hs d e').stay st⟩
    | succ i => exact A.sr.own i d e
  · cases i with
    | zero =>
      have e' : s = .bor d := Option.some.inj e
      obtain ⟨_, M, dr, hM⟩ := hb d e'
      exact ⟨v, M, rfl, dr.stay ((R1.stayP F2).mono hM), hM⟩
    | succ i => exact A.sr.bor i d e
  · cases i with
    | zero =>
      cases s with
      | no => exact absurd rfl hn
      | own d => exact absurd rfl (e d)
      | bor d => exact (hb d rfl).1
    | succ i => exact A.sr.emp i e
  · cases i with
    | zero => exact nd
    | succ i => exact A.sr.nd i
  · cases i with
    | zero =>
      cases j with
      | zero => rfl
      | succ j => exact absurd n (apart a m j)
    | succ i =>
      cases j with
      | zero => exact absurd m (apart a n i)
      | succ j => exact congrArg (· + 1) (A.sr.dj i j a m n)
  · cases i with
    | zero =>
      obtain ⟨o, e, z⟩ := (hL a m).2.2.2
      exact ⟨o, st a o e (.inr m), z⟩
    | succ i => exact A.sr.mu i a m
  · cases i with
    | zero => exact (hL a m).2.1
    | succ i => exact A.sr.pt i a m
  · cases k with
    | zero =>
      intro i n
      rcases F2.own i a n with ⟨j, z⟩ | z
      · exact (hL a m).1 j z
      · exact (hL a m).2.2.2.there z
    | succ k => exact A.ap k a m
  · cases k with
    | zero => exact (hL a m).2.2.1
    | succ k => exact F1.prov (A.pv k a m)
  · cases k with
    | zero =>
      have e' : (s, o) = (s', some i) := Option.some.inj e
      have e2 : o = some i := congrArg Prod.snd e'
      exact ⟨v, rfl, ho i e2⟩
    | succ k => exact A.ld k i s' e
theorem ses_cons {a : E} {x : Expr} {es : Es} {xs : List Expr} (hx : plainX x = true) (sa : SE T lv P w K mg base c W a x) (hv : ∀ i, a = .var i → (∀ X, Gd lv c W P w K mg base X → PE X x (tVar i)) ∧ SpE T K mg W (.var i) (tVar i)) (sr : SEs T lv P w K mg base c W es xs) : SEs T lv P w K mg base c W (.cons a es) (x :: xs) := by
  obtain ⟨ta, pa, ea, hvt⟩ : ∃ ta : TE, (∀ X, Gd lv c W P w K mg base X → PE X x ta) ∧ SpE T K mg W a ta ∧ ∀ i, a = .var i → ta = tVar i := by
    cases a with
    | var i => exact ⟨tVar i, (hv i rfl).1, (hv i rfl).2, fun j e => by cases e; rfl⟩
    | _ =>
      obtain ⟨ta, pa, ea⟩ := sa
      exact ⟨ta, pa, ea, fun i e => nomatch e⟩
  obtain ⟨tr, pr, er, br, ar⟩ := sr
  refine ⟨tCons ta tr, fun X g => pa_cons (pa X g) (pr X g) (pl_star hx), fun σ H ρ S Pr Q R ok => ?_, fun σ H ρ S Pr Q R ok => ?_, fun σ H ρ S Pr Q R ok => ?_⟩
  · simp only [evalEs] at ok
    show ta σ H _
    refine use_O (q := false) ea R ok fun d e1 H1 S1 v L R1 F1 d1 r1 ok1 => ?_
    show tr σ H1 _
    refine er σ H1 e1 S1 Pr _ R1 ((ok1.bind0 (q := true)).mono fun ds e2 H2 S2 R2 F2 ok2 vs L2 ds2 r2 => ?_)
    obtain ⟨n1, h1⟩ := r1.mine rfl
    obtain ⟨n2, h2⟩ := r2.mine rfl
    have st : Stay H1 H2 L := R1.stay F2 fun a m => (h1 a m).1
    have apart : ∀ a ∈ L, a ∉ L2 := fun a m n => by
      rcases (h2 a n).2.2.1 with ⟨i, z⟩ | z
      · exact (h1 a m).1 i z
      · exact (h1 a m).2.2.2.there z
    refine ok2 H2 S2 R2 (Fr.refl (p := true)) (v :: vs) (L ++ L2) (.cons (d1.stay st) ds2) (Res.of ⟨List.nodup_append.mpr ⟨n1, n2, fun a m b n e => apart a m (e ▸ n)⟩, fun a m => ?_⟩)
    rcases List.mem_append.mp m with m | m
    · refine ⟨fun i n => ?_, (h1 a m).2.1, (h1 a m).2.2.1, ?_⟩
      · rcases F2.own i a n with ⟨j, z⟩ | z
        · exact (h1 a m).1 j z
        · exact (h1 a m).2.2.2.there z
      · obtain ⟨o, e, z⟩ := (h1 a m).2.2.2
        exact ⟨o, st a o e (.inr m), z⟩
    · exact ⟨(h2 a m).1, (h2 a m).2.1, F1.prov (h2 a m).2.2.1, (h2 a m).2.2.2⟩
  · simp only [evalBs, Es.pure] at ok
    show ta σ H _
    refine use_E ea R ok fun d e1 H1 S1 v L R1 F1 d1 r1 ok1 => ?_
    obtain ⟨x', rfl, ok2⟩ := okAsIm ok1
    show tr σ H1 _
    refine br σ H1 e1 S1 Pr _ R1 (ok2.last.mono fun ds e2 H2 S2 R2 F2 ok3 vs rv => ?_)
    exact ok3 H2 S2 R2 Fr.refl (v :: vs) (.cons (d1.im_inv.2.stay (R1.stay (L := []) F2 fun a m => absurd m List.not_mem_nil)) rv)
  · have fin : ∀ {d : D} {e1 : En} {H1 : Hp} {S1 : Foot} {v : V} {L : List Addr} {s : Slot} {o : Option Nat}, SR K Pr H1 σ e1 S1 → Fr false H S H1 S1 →
        (∀ d, s = .own d → DR K H1 d v L) → (∀ d, s = .bor d → L = [] ∧ ∃ R, DR K H1 d v R ∧ ∀ a ∈ R, a ∈ Pr) → s ≠ .no → L.Nodup →
        (∀ a ∈ L, (∀ i, a ∉ S1 i) ∧ a ∉ Pr ∧ ((∃ i, a ∈ S i) ∨ H a = none) ∧ MutAt H1 a) → (∀ i, o = some i → σ[i]? = some (some v)) →
        OkP K mg W false Pr σ H1 S1 (fun as _ H1 S1 => ∀ vs Sa, ArgR K Pr H S σ H1 S1 as vs Sa → Q vs H1) ((evalAs T es e1).bind fun ss e => .ok ((s, o) :: ss) e) → tr σ H1 fun vs H2 => Q (v :: vs) H2 := by
      intro d e1 H1 S1 v L s o R1 F1 hs hb hn nd hL ho ok1
      refine ar σ H1 e1 S1 Pr _ R1 ((ok1.bind0 (q := true)).mono fun as e2 H2 S2 R2 F2 ok2 vs Sa A => ?_)
      exact ok2 H2 S2 R2 (Fr.refl (p := true)) (v :: vs) _ (arg_cons R R1 F1 F2 A hs hb hn nd hL ho)
    have gen : OkP K mg W false Pr σ H S (fun as _ H1 S1 => ∀ vs Sa, ArgR K Pr H S σ H1 S1 as vs Sa → Q vs H1) (((evalE T a true ρ).bind fun x e => .ok (Slot.own x, none) e).bind fun s e => (evalAs T es e).bind fun ss e => .ok (s :: ss) e) → ta σ H fun x H1 => tr σ H1 fun xs H2 => Q (x :: xs) H2 := by
      intro ok
      rw [bind_assoc'] at ok
      refine use_O (q := false) ea R ok fun d e1 H1 S1 v L R1 F1 d1 r1 ok1 => ?_
      obtain ⟨n1, h1⟩ := r1.mine rfl
      exact fin (d := d) (s := .own d) (o := none) R1 F1 (fun d' e => by cases e; exact d1) (fun d' e => nomatch e) (fun e => nomatch e) n1 h1 (fun i e => nomatch e) ok1
    cases a with
    | var i =>
      cases hvt i rfl
      simp only [evalAs, lendS] at ok
      split at ok
      · rename_i x' e
        obtain ⟨v, e1, dr⟩ := R.own i _ e
        exact ⟨v, e1, fin (d := .im x') (s := .own (.im x')) (o := none) R Fr.refl (fun d' e => by cases e; exact .im dr.im_inv.2) (fun d' e => nomatch e) (fun e => nomatch e) List.nodup_nil (fun a m => absurd m List.not_mem_nil) (fun i e => nomatch e) ok⟩
      · rename_i d hd e
        obtain ⟨v, e1, dr⟩ := R.own i _ e
        refine ⟨v, e1, fin (d := d) (s := .own d) (o := some i) (R.drop' i) Fr.drop (fun d' e => by cases e; exact dr) (fun d' e => nomatch e) (fun e => nomatch e) (R.nd i) (fun a m => ⟨fun j n => ?_, R.pt i a m, .inl ⟨i, m⟩, R.mu i a m⟩) (fun j e => by cases e; exact e1) (ok.shift0 (p := false) (S1 := S.set i []) Fr.drop)⟩
        by_cases q : j = i
        · subst q; rw [Foot.set_same] at n; cases n
        · rw [Foot.set_ne q] at n; exact q (R.dj j i a n m)
      · rename_i d e
        obtain ⟨v, L, e1, dr, hL⟩ := R.bor i _ e
        refine ⟨v, e1, ?_⟩
        cases d with
        | im x' => exact fin (d := .im x') (s := .own (.im x')) (o := none) R Fr.refl (fun d' e => by cases e; exact .im dr.im_inv.2) (fun d' e => nomatch e) (fun e => nomatch e) List.nodup_nil (fun a m => absurd m List.not_mem_nil) (fun i e => nomatch e) ok
        | tup ds => exact fin (d := .im .non) (s := .bor (.tup ds)) (o := none) R Fr.refl (fun d' e => nomatch e) (fun d' e => by cases e; exact ⟨rfl, L, dr, hL⟩) (fun e => nomatch e) List.nodup_nil (fun a m => absurd m List.not_mem_nil) (fun i e => nomatch e) ok
        | lst ds => exact fin (d := .im .non) (s := .bor (.lst ds)) (o := none) R Fr.refl (fun d' e => nomatch e) (fun d' e => by cases e; exact ⟨rfl, L, dr, hL⟩) (fun e => nomatch e) List.nodup_nil (fun a m => absurd m List.not_mem_nil) (fun i e => nomatch e) ok
        | dct t kvs => exact fin (d := .im .non) (s := .bor (.dct t kvs)) (o := none) R Fr.refl (fun d' e => nomatch e) (fun d' e => by cases e; exact ⟨rfl, L, dr, hL⟩) (fun e => nomatch e) List.nodup_nil (fun a m => absurd m List.not_mem_nil) (fun i e => nomatch e) ok
        | scr ns => exact fin (d := .im .non) (s := .bor (.scr ns)) (o := none) R Fr.refl (fun d' e => nomatch e) (fun d' e => by cases e; exact ⟨rfl, L, dr, hL⟩) (fun e => nomatch e) List.nodup_nil (fun a m => absurd m List.not_mem_nil) (fun i e => nomatch e) ok
      · exact ok.elim
    | _ => simp only [evalAs] at ok; exact gen ok
end
end Kh

set_option Elab.async false
set_option linter.all false
set_option maxRecDepth 100000
set_option maxHeartbeats 2000000
/-! displays, built-in calls, calls of the text's defs -/
namespace Kh
open PySem PySem.Spec PyProof.Rows L2

section
variable {T : Tab} {lv : Nat} {P : Program} {w : World} {K : PySem.W.Frag} {mg : Str → Option Value} {base : Heap} {c : Cs} {W : WX}
variable {σ : L2.St} {H : Hp} {ρ : En} {S : Foot} {Pr : List Addr} {p q : Bool}

theorem evalEs_len : ∀ {es : Es} {ρ : En} {ds : List D} {e : En}, evalEs T es ρ = .ok ds e → ds.length = es.len
  | .nil, _, ds, e, h => by
    simp only [evalEs] at h
    cases h; rfl
  | .cons a r, ρ, ds, e, h => by
    simp only [evalEs] at h
    cases h1 : evalE T a true ρ with
    | bad => rw [h1] at h; cases h
    | exc _ _ _ _ => rw [h1] at h; cases h
    | ok d e1 =>
      rw [h1] at h
      cases h2 : evalEs T r e1 with
      | bad => simp only [Out.bind, h2] at h; cases h
      | exc _ _ _ _ => simp only [Out.bind, h2] at h; cases h
      | ok xs e2 =>
        simp only [Out.bind, h2] at h
        cases h
        exact congrArg (· + 1) (evalEs_len h2)
theorem use_Es {α : Type} {es : Es} {ta : TA} {Q : List V → Hp → Prop} {fin : α → En → Hp → Foot → Prop} {f : List D → En → Out α} (ea : SpEs T K mg W es ta) (R : SR K Pr H σ ρ S)
    (ok : OkP K mg W false Pr σ H S fin ((evalEs T es ρ).bind f))
    (k : ∀ ds e1 H1 S1 vs L, ds.length = es.len → SR K Pr H1 σ e1 S1 → Fr false H S H1 S1 → DRs K H1 ds vs L → Res true [] Pr H S H1 S1 L → OkP K mg W q Pr σ H1 S1 fin (f ds e1) → Q vs H1) : ta σ H Q := by
  refine ea σ H ρ S Pr Q R ?_
  have ok' := ok.bind0 (p := false) (q := q)
  cases e : evalEs T es ρ with
  | bad => rw [e] at ok'; exact ok'
  | exc _ _ _ _ => rw [e] at ok'; exact ok'
  | ok ds e1 =>
    rw [e] at ok'
    exact fun H1 S1 R1 F1 vs L dr rs => k ds e1 H1 S1 vs L (evalEs_len e) R1 F1 dr rs (ok' H1 S1 R1 F1)
theorem thousand {n : Nat} (h : n ≤ 1000) : n ≤ sizeLine := Nat.le_trans h (by decide)
theorem not_mem_new {L : List Addr} {a : Addr} (h : ∀ b ∈ L, MutAt H b) (n : H a = none) : a ∉ L := fun m => (h a m).there n
theorem se_tup {es : Es} {xs : List Expr} {k : Nat} {pos : Pos} (hz : es.len ≤ 1000) (se : SEs T lv P w K mg base c W es xs) : SE T lv P w K mg base c W (.tup es) (.Tuple xs k pos) := by
  obtain ⟨t, pt, et, _, _⟩ := se
  refine ⟨tTup t, fun X g => pe_tup (pt X g), fun own σ H ρ S Pr Q R ok => ?_⟩
  simp only [evalE, E.pure, Bool.false_and] at ok
  show t σ H _
  refine use_Es (q := true) et R ok fun ds e1 H1 S1 vs L hl R1 F1 d1 r1 ok1 => ?_
  refine ⟨by rw [← d1.length, hl]; exact thousand hz, ?_⟩
  cases e : ims ds with
  | some ys =>
    have em : mkTup ds = .im (.tup ys) := by unfold mkTup; rw [e]
    rw [em] at ok1
    obtain ⟨rfl, _, ri⟩ := DRs.of_ims d1 e
    exact (fin_fresh ok1 R1 F1).tup ri
  | none =>
    have em : mkTup ds = .tup ds := by unfold mkTup; rw [e]
    rw [em] at ok1
    intro p hp
    obtain ⟨n1, h1⟩ := r1.mine rfl
    exact fin_own ok1 R1 (grow_new hp) (.tup sqT_new (d1.stay (stay_new hp))) n1 fun a m => ⟨(h1 a m).1, (h1 a m).2.1, (h1 a m).2.2.1, (h1 a m).2.2.2.grow (grow_new hp)⟩
theorem se_lst {es : Es} {xs : List Expr} {pos : Pos} (hz : es.len ≤ 1000) (se : SEs T lv P w K mg base c W es xs) : SE T lv P w K mg base c W (.lst es) (.List xs pos) := by
  obtain ⟨t, pt, et, _, _⟩ := se
  refine ⟨tLst t, fun X g => pe_lst (pt X g), fun own σ H ρ S Pr Q R ok => ?_⟩
  simp only [evalE, E.pure, Bool.false_and] at ok
  show t σ H _
  refine use_Es (q := true) et R ok fun ds e1 H1 S1 vs L hl R1 F1 d1 r1 ok1 => ?_
  refine ⟨by rw [← d1.length, hl]; exact thousand hz, fun p hp => ?_⟩
  obtain ⟨n1, h1⟩ := r1.mine rfl
  refine fin_own ok1 R1 (grow_new hp) (.lst upd_same (d1.stay (stay_new hp))) (List.nodup_cons.mpr ⟨not_mem_new (fun b m => (h1 b m).2.2.2) hp, n1⟩) fun a m => ?_
  rcases List.mem_cons.mp m with rfl | m
  · exact ⟨fun i n => (R1.mu i a n).there hp, fun n => (R1.pa a n).ne hp, F1.none_of hp, ⟨_, upd_same, rfl⟩⟩
  · exact ⟨(h1 a m).1, (h1 a m).2.1, (h1 a m).2.2.1, (h1 a m).2.2.2.grow (grow_new hp)⟩
theorem se_dnew {pos : Pos} : SE T lv P w K mg base c W .dnew (.Dict [] [] pos) := by
  refine ⟨tDNewK, fun X g => pe_dnewK, fun own σ H ρ S Pr Q R ok => ?_⟩
  simp only [evalE] at ok
  exact fun p hp => fin_fresh ok R (Fr.refl (p := true)) _ _ [p] (grow_new hp) (.dK (ws := []) List.nodup_nil (.inl upd_same) .nil) (Fresh.one hp rfl)
theorem star_all {env : PySem.Env} : ∀ {es : Es} {xs : List Expr}, chkEs c es xs = true → starEach xs env = xs.map fun x => (false, eval x env)
  | .nil, [], _ => rfl
  | .nil, _ :: _, h => by simp [chkEs] at h
  | .cons _ _, [], h => by simp [chkEs] at h
  | .cons e r, x :: xs, h => by
    simp only [chkEs, Bool.and_eq_true] at h
    rw [pl_star (chk_plain h.1), star_all h.2]
    rfl
theorem back_any {env : PySem.Env} {xs : List Expr} (pos : Pos) (h : starEach xs env = xs.map fun x => (false, eval x env)) : (backTo pos (starEach xs env)).any (·.1) = false := by
  rw [h]
  unfold backTo
  rw [List.map_map]
  induction xs with
  | nil => rfl
  | cons x xs ih => simp
theorem isGl_mg (G : Gl0 T lv P w K mg base) {X : Cx} (g : Gd lv c W P w K mg base X) {x : Str} (h : x ∈ builtins) : X.mg x = none := by
  rw [g.hm]; exact G.blt x h
theorem se_bi1 (G : Gl0 T lv P w K mg base) {f : Bi} {a : E} {g : Str} {x : Expr} {gp pos : Pos} (hb : f.blt = true) (hg : g = f.nm) (hgl : c.glo g = true) (hx : plainX x = true) (sa : SE T lv P w K mg base c W a x) :
    SE T lv P w K mg base c W (.bi f (.cons a .nil)) (.Call (.Name g gp) [x] [] pos) := by
  obtain ⟨ta, pa, ea⟩ := sa
  refine ⟨tCB (rBi K f) (tCons ta tNil), fun X gd => ?_, fun own σ H ρ S Pr Q R ok => ?_⟩
  · have r := pe_bi (X := X) (pos := pos) (p := gp) hb gd.calm gd.un (isGlo_gl gd.sc hgl) hg (by rw [hg]; exact isGl_mg G gd (nm_in hb)) (pa_cons (pa X gd) pa_nil (pl_star hx)) (pl_star hx) (fun _ => rfl)
    rw [gd.hK] at r
    exact r
  · simp only [evalE, E.pure, Es.pure, Bool.and_assoc] at ok
    show ta σ H _
    refine use_E ea R ok fun x' e1 H1 S1 v L R1 F1 d1 _ ok1 => ?_
    obtain ⟨z, hz, ok4⟩ := lift_ok ok1
    exact bi1_ok hz d1 (fin_fresh ok4 R1 F1)
theorem se_bi2 (G : Gl0 T lv P w K mg base) {f : Bi} {a b : E} {g : Str} {x y : Expr} {gp pos : Pos} (hb : f.blt = true) (hg : g = f.nm) (hgl : c.glo g = true) (hx : plainX x = true) (hy : plainX y = true) (sa : SE T lv P w K mg base c W a x) (sb : SE T lv P w K mg base c W b y) :
    SE T lv P w K mg base c W (.bi f (.cons a (.cons b .nil))) (.Call (.Name g gp) [x, y] [] pos) := by
  obtain ⟨ta, pa, ea⟩ := sa
  obtain ⟨tb, pb, eb⟩ := sb
  refine ⟨tCB (rBi K f) (tCons ta (tCons tb tNil)), fun X gd => ?_, fun own σ H ρ S Pr Q R ok => ?_⟩
  · have hs : starEach [y] X.env = [(false, eval y X.env)] := pl_star hy
    have r := pe_bi (X := X) (pos := pos) (p := gp) hb gd.calm gd.un (isGlo_gl gd.sc hgl) hg (by rw [hg]; exact isGl_mg G gd (nm_in hb)) (pa_cons (pa X gd) (pa_cons (pb X gd) pa_nil (pl_star hy)) (pl_star hx)) (pl_star hx) (fun _ => by rw [hs]; rfl)
    rw [gd.hK] at r
    exact r
  · simp only [evalE, E.pure, Es.pure, Bool.and_assoc] at ok
    show ta σ H _
    refine use_E ea R ok fun x' e1 H1 S1 v L R1 F1 d1 _ ok1 => ?_
    obtain ⟨hs, ok2⟩ := still_ok ok1
    show tb σ H1 _
    refine use_E eb R1 (q := (true && !own)) ok2 fun y' e2 H2 S2 u M R2 F2 d2 _ ok3 => ?_
    obtain ⟨z, hz, ok4⟩ := lift_ok ok3
    exact bi2_ok hz (d1.still hs F2 R1) d2 (fin_fresh ok4 R2 (F1.trans F2))
/-- an expression of which the evaluator says nothing -/
theorem se_bad {me : E} {x : Expr} (h : ∀ own ρ, evalE T me own ρ = .bad) : SE T lv P w K mg base c W me x :=
  ⟨fun _ _ _ => False, fun X g => PE.fls, fun own σ H ρ S Pr Q R ok => by rw [h own ρ] at ok; exact ok⟩
theorem use_Bs {α : Type} {es : Es} {ta : TA} {Q : List V → Hp → Prop} {fin : α → En → Hp → Foot → Prop} {f : List I → En → Out α} (ea : SpBs T K mg W es ta) (R : SR K Pr H σ ρ S)
    (ok : OkP K mg W (es.pure && q) Pr σ H S fin ((evalBs T es ρ).bind f))
    (k : ∀ ds e1 H1 S1 vs, SR K Pr H1 σ e1 S1 → Fr es.pure H S H1 S1 → IRs K H1 ds vs → OkP K mg W q Pr σ H1 S1 fin (f ds e1) → Q vs H1) : ta σ H Q :=
  ea σ H ρ S Pr Q R (ok.bind2.mono fun d e1 H1 S1 R1 F1 h vs r => k d e1 H1 S1 vs R1 F1 r h)
theorem se_get {a b d : E} {o x y : Expr} {apos pos : Pos} (ho : plainX o = true) (hx : plainX x = true) (hy : plainX y = true) (hl : (apos.endLine == pos.line) = true) (so : SE T lv P w K mg base c W a o) (sb : SE T lv P w K mg base c W b x) (sd : SE T lv P w K mg base c W d y) :
    SE T lv P w K mg base c W (.me .get a (.cons b (.cons d .nil))) (.Call (.Attribute o "get" apos) [x, y] [] pos) := by
  obtain ⟨ta, pa, ea⟩ := so
  obtain ⟨tb, pb, eb⟩ := sb
  obtain ⟨td, pd, ed⟩ := sd
  refine ⟨tDGet2 ta tb td, fun X g => ?_, fun own σ H ρ S Pr Q R ok => ?_⟩
  · have h2 : starEach [x, y] X.env = [(false, eval x X.env), (false, eval y X.env)] := by rw [pl_star hx, pl_star hy]; rfl
    exact pe_dget2 (Nat.lt_trans (Nat.add_lt_add_left (by decide) _) g.un) (pa X g) (pb X g) (pd X g) ⟨pl_attr ho, by rw [h2]; rfl, hl, by rw [h2]; rfl⟩
  · simp only [evalE, E.pure, Es.pure, Bool.and_assoc, evalBs, bind_assoc'] at ok
    show ta σ H _
    refine use_E ea R ok fun x' e1 H1 S1 v L R1 F1 d1 _ ok1 => ?_
    have ok1' := okIt ok1
    split at ok1'
    case isFalse => exact ok1'.elim
    rename_i hm
    obtain ⟨hs, ok2⟩ := still_ok ok1'
    rw [Bool.and_true] at hs
    obtain ⟨kvs, rfl⟩ : ∃ kvs, x' = .dct false kvs := by
      unfold meOk at hm
      split at hm
      · exact ⟨_, rfl⟩
      · cases hm
    obtain ⟨a', ws, R', rfl, ha, ra, hL, _⟩ := d1.dct_inv rfl
    refine ⟨a', rfl, .inl ⟨ws, ha⟩, ?_⟩
    refine use_E eb R1 ok2 fun y' e2 H2 S2 u M R2 F2 d2 _ ok3 => ?_
    obtain ⟨k, rfl, ok4⟩ := okAsIm ok3
    refine use_E ed R2 (q := (true && !own)) ok4 fun z' e3 H3 S3 u3 M3 R3 F3 d3 _ ok5 => ?_
    obtain ⟨k3, rfl, ok6⟩ := okAsIm ok5
    obtain ⟨z, hz, ok7⟩ := lift_ok ok6
    have dd := d1.still hs (F2.trans F3) R1
    obtain ⟨a2, ws2, R2', e2, ha2, ra2, _⟩ := dd.dct_inv rfl
    cases e2
    simp only [meD] at hz
    split at hz
    · rename_i hk
      obtain ⟨_, p, hp⟩ := keyOk_some hk
      cases e : lkup k kvs with
      | none => rw [e] at hz; cases hz
      | some o =>
        rw [e] at hz
        have hz' : getIm k3 o = some z := hz
        have q := fin_fresh ok7 R3 (F1.trans (F2.trans F3))
        have k2 := (d2.still (q := d.pure) (by rfl) F3 R2).im_inv.2
        obtain rfl := key_val hp k2
        refine ⟨valV ws2 p, .inl ⟨ws2, p, ha2, rfl, rfl⟩, ?_⟩
        rcases lkup_K ra2 hp e with ⟨rfl, h2⟩ | ⟨d', v', R'', rfl, h2, h3, _⟩
        · rw [h2]
          cases hz'
          exact q.im d3.im_inv.2
        · rw [h2]
          show Q v' H3
          cases d' with
          | im i => cases hz'; exact q.im h3.im_inv.2
          | _ => cases hz'
    · cases hz

/-! ### methods with one argument -/
/-- which kind of thing a method is served for -/
inductive Ty3 where | lst | str
def Ty3.nm : Ty3 → String
  | .lst => "list" | .str => "str"
def rMe (K : PySem.W.Frag) : Me → Ty3 → V → List V → Hp → VK → Prop
  | .index, .lst => rIndex K
  | .index, .str => fun x xs H Q => ∃ a b i rest, x = .str a ∧ xs = [.str b] ∧ Builtin.Str.occurrences a b 0 a.length 1 = i :: rest ∧ Q (.int (i : Nat)) H
  | .count, .lst => rCntI K
  | .count, .str => fun x xs H Q => ∃ a b, x = .str a ∧ xs = [.str b] ∧ Q (.int (Txt.count a b)) H
  | .join, .str => fun x xs H Q => ∃ a p, ∃ ys : List Str, x = .str a ∧ xs = [.ref p] ∧ (SqL K H p (ys.map V.str) ∨ SqT K H p (ys.map V.str)) ∧ (ys.map (·.length)).sum + ys.length * a.length ≤ 16777216 ∧ Q (.str (Txt.join a ys)) H
  | .split, .str => fun x xs H Q => ∃ a b, x = .str a ∧ xs = [.str b] ∧ (b.length == 0) = false ∧ a.length + 2 ≤ sizeLine ∧ rNewStrs (Txt.split a b) H Q
  | _, _ => fun _ _ _ _ => False
def meSup : Me → Ty3 → Bool
  | .index, _ => true | .count, _ => true | .join, .str => true | .split, .str => true
  | _, _ => false
def rT (K : PySem.W.Frag) (m : Me) (T : Ty3) (te tx : TE) : TE := fun σ H Q => te σ H fun x H1 => meSup m T = true ∧ tyV K T.nm x H1 ∧ tx σ H1 fun y H2 => rMe K m T x [y] H2 Q
theorem pe_me {X : Cx} {m : Me} {T : Ty3} {o x : Expr} {apos pos : Pos} {to tx : TE} (ho : PE X o to) (hx : PE X x tx) (po : plainX o = true) (px : plainX x = true) (hl : (apos.endLine == pos.line) = true) :
    PE X (.Call (.Attribute o m.nm apos) [x] [] pos) (rT X.K m T to tx) := by
  have h1 : starEach [x] X.env = [(false, eval x X.env)] := pl_star px
  have few : ((backTo pos (starEach [x] X.env)).all (fun x => !x.1) && (backToKw pos (keywordEach [] X.env)).all (fun x => x.1.isSome) && decide ([x].length + ([] : List Keyword).length + (if ([] : List Keyword).isEmpty then 0 else 1) < 30)) = true := by
    rw [h1]; rfl
  have go : ∀ {id : String}, PlainAttrs T.nm → PySem.Slot T.nm m.nm id → typeOf (.builtin id) = pure (.type "method_descriptor") → MtR X id (rMe X.K m T) → PE X (.Call (.Attribute o m.nm apos) [x] [] pos) (rT X.K m T to tx) := fun pa sl ty mt =>
    ⟨fun pins s σ H Q I h => by
      refine wpAny_Call_method_late (pl_attr po) few hl rfl (thn (ho.run pins s σ H _ I h) fun v s1 ⟨x', H1, I1, r1, _, ty', q1⟩ => ?_)
      obtain ⟨h1', h2'⟩ := tyV_is I1 r1 ty'
      refine ⟨T.nm, _, pa, sl, ty, h1', h2', ?_⟩
      have hA := (pa_cons hx pa_nil (pl_star px)).run pos pins s1 σ H1 (fun vs H2 => rMe X.K m T x' vs H2 Q) I1 q1
      rw [pl_star px] at hA ⊢
      refine Calls.callWith_builtin rfl (Calls.evalArgs_plain ?_)
      exact thn hA fun us s2 ⟨vs, H2, I2, r2, q2⟩ => mt pins s2 σ H2 x' vs v us Q I2 r1 r2 q2⟩
  cases m <;> cases T <;> first
    | exact go PySem.F.plainAttrs_list PySem.F.slot_list_index PySem.F.type_list_index mt_index
    | exact go PySem.F.plainAttrs_list PySem.F.slot_list_count PySem.F.type_list_count mt_lcount
    | exact go PySem.F.plainAttrs_str PySem.F.slot_str_index PySem.F.type_str_index mt_sindex
    | exact go PySem.F.plainAttrs_str PySem.F.slot_str_count PySem.F.type_str_count mt_count
    | exact go PySem.F.plainAttrs_str PySem.F.slot_str_join PySem.F.type_str_join mt_join
    | exact go PySem.F.plainAttrs_str PySem.F.slot_str_split PySem.F.type_str_split mt_split
    | exact ⟨fun pins s σ H Q I h => wpAny_Call_method_late (pl_attr po) few hl rfl (thn (ho.run pins s σ H _ I h) fun v s1 ⟨x, H1, I1, r1, q1⟩ => absurd q1.1 Bool.false_ne_true)⟩
theorem findI_ok {x : I} {v : V} (hx : isKey x = true) (rx : IR K H x v) : ∀ {ys : List I} {us : List V} {j : Nat}, ys.all isKey = true → IRs K H ys us → findI x ys = some (some j) →
    ∃ z, us[j]? = some z ∧ eqV z v = true ∧ ∀ (m : Nat) (z' : V), m < j → us[m]? = some z' → eqV z' v = false
  | [], _, j, _, .nil, h => by cases h
  | y :: ys, u :: us, j, hy, .cons a r, h => by
    rw [List.all_cons, Bool.and_eq_true] at hy
    rw [findI] at h
    cases e1 : I.eq y x with
    | none => rw [e1] at h; cases h
    | some p =>
      rw [e1] at h
      have q := eqV_key hx hy.1 rx a e1
      cases p with
      | true =>
        cases h
        exact ⟨u, rfl, q, fun m z' hm => absurd hm (Nat.not_lt_zero _)⟩
      | false =>
        simp only [Option.bind_some, Bool.false_eq_true, if_false] at h
        cases e2 : findI x ys with
        | none => rw [e2] at h; cases h
        | some o =>
          rw [e2] at h
          cases o with
          | none => cases h
          | some k =>
            cases h
            obtain ⟨z, z1, z2, z3⟩ := findI_ok hx rx hy.2 r e2
            refine ⟨z, z1, z2, fun m z' hm e => ?_⟩
            cases m with
            | zero => cases e; exact q
            | succ m => exact z3 m z' (Nat.lt_of_succ_lt_succ hm) e
theorem IRs.of_strs {H : Hp} : ∀ {xs : List I} {ns : List Str} {vs : List V}, IRs K H xs vs → strsOf xs = some ns → vs = ns.map V.str
  | _, _, _, .nil, e => by
    cases e
    rfl
  | _, ns, _, .cons (xs := xs) (.str i) r, e => by
    cases q : strsOf xs with
    | none => rw [strsOf, q] at e; cases e
    | some ys =>
      rw [strsOf, q] at e
      cases e
      rw [IRs.of_strs r q]
      rfl
  | _, _, _, .cons .non r, e => nomatch e
  | _, _, _, .cons (.int _) r, e => nomatch e
  | _, _, _, .cons (.bl _) r, e => nomatch e
  | _, _, _, .cons (.tup _ _) r, e => nomatch e
theorem IRs.strs (ns : List Str) : IRs K H (ns.map I.str) (ns.map V.str) := by
  induction ns with
  | nil => exact .nil
  | cons n ns ih => exact .cons (.str n) ih
theorem me_lst {m : Me} {xs : List D} {y z : D} {v u : V} {L M : List Addr} {Q : VK} (h : mxD m (.lst xs) [y] = some z) (dx : DR K H (.lst xs) v L) (dy : DR K H y u M) (q : VOk K H z Q) : meSup m .lst = true ∧ rMe K m .lst v [u] H Q := by
  unfold mxD at h
  split at h
  · rename_i ys x ex ey
    cases ex; cases ey
    obtain ⟨zs, e1, h2⟩ := Option.bind_eq_some_iff.mp h
    split at h2
    · rename_i hs
      rw [Bool.and_eq_true] at hs
      obtain ⟨j, e3, h4⟩ := Option.map_eq_some_iff.mp h2
      subst h4
      obtain ⟨a, vs, R, rfl, sa, ra, _⟩ := dx.lst_inv
      obtain ⟨rfl, rfl, ri⟩ := DRs.of_ims ra e1
      have rx := dy.im_inv.2
      have e4 : findI x zs = some (some j) := by
        cases e5 : findI x zs with
        | none => rw [e5] at e3; cases e3
        | some o => rw [e5] at e3; rw [show o = some j from e3]
      obtain ⟨w, w1, w2, w3⟩ := findI_ok hs.1 rx hs.2 ri e4
      exact ⟨rfl, a, vs, u, j, w, rfl, rfl, SqL.of sa, isKey_flat hs.1 rx, all_flat hs.2 ri, w1, w2, w3, q.int⟩
    · cases h2
  · rename_i ys x ex ey
    cases ex; cases ey
    obtain ⟨ns, e2, h2⟩ := Option.map_eq_some_iff.mp h
    subst h2
    obtain ⟨zs, e1, e3⟩ := Option.bind_eq_some_iff.mp e2
    obtain ⟨a, vs, R, rfl, sa, ra, _⟩ := dx.lst_inv
    obtain ⟨rfl, rfl, ri⟩ := DRs.of_ims ra e1
    obtain rfl := ri.of_ints e3
    obtain rfl := dy.int_inv
    exact ⟨rfl, a, ns, x, rfl, rfl, SqL.of sa, q.int⟩
  all_goals first | (rename_i e _; cases e; done) | (cases h; done)
theorem me_str {m : Me} {s : Str} {y z : D} {v u : V} {L M : List Addr} {Q : VK} (h : mxD m (.im (.str s)) [y] = some z) (dx : DR K H (.im (.str s)) v L) (dy : DR K H y u M) (q : VOk K H z Q) : meSup m .str = true ∧ rMe K m .str v [u] H Q := by
  obtain rfl := dx.str_inv
  unfold mxD at h
  split at h
  · rename_i e _; cases e
  · rename_i e _; cases e
  · rename_i a b ex ey
    cases ex; cases ey; cases h
    obtain rfl := dy.str_inv
    exact ⟨rfl, _, _, rfl, rfl, q.int⟩
  · rename_i a b ex ey
    cases ex; cases ey
    obtain rfl := dy.str_inv
    split at h
    · rename_i i rest e
      cases h
      exact ⟨rfl, _, _, i, rest, rfl, rfl, e, q.int⟩
    · cases h
  · rename_i a xs ex ey
    cases ex; cases ey
    obtain ⟨ys, e2, h2⟩ := Option.bind_eq_some_iff.mp h
    obtain ⟨zs, e1, e3⟩ := Option.bind_eq_some_iff.mp e2
    split at h2
    · rename_i hz
      cases h2
      obtain ⟨p, vs, R, rfl, sa, ra, _⟩ := dy.lst_inv
      obtain ⟨rfl, rfl, ri⟩ := DRs.of_ims ra e1
      obtain rfl := ri.of_strs e3
      exact ⟨rfl, s, p, ys, rfl, rfl, .inl (SqL.of sa), Nat.le_trans hz (by decide), q.im (.str _)⟩
    · cases h2
  · rename_i a b ex ey
    cases ex; cases ey
    obtain rfl := dy.str_inv
    split at h
    · rename_i hz
      cases h
      refine ⟨rfl, s, b, rfl, rfl, by simpa using hz.1, Nat.le_trans (Nat.add_le_add_right hz.2 2) (by decide), ?_⟩
      have h := DRs.ims (K := K) (H := H) (IRs.strs (K := K) (H := H) (Txt.split s b))
      rw [List.map_map] at h
      exact q.lst h
    · cases h
  · cases h
theorem se_me1 {m : Me} {a b : E} {o x : Expr} {apos pos : Pos} (hm : m ≠ .get) (ho : plainX o = true) (hx : plainX x = true) (hl : (apos.endLine == pos.line) = true) (so : SE T lv P w K mg base c W a o) (sb : SE T lv P w K mg base c W b x) :
    SE T lv P w K mg base c W (.me m a (.cons b .nil)) (.Call (.Attribute o m.nm apos) [x] [] pos) := by
  obtain ⟨ta, pa, ea⟩ := so
  obtain ⟨tb, pb, eb⟩ := sb
  refine ⟨fun σ H Q => rT K m .lst ta tb σ H Q ∨ rT K m .str ta tb σ H Q, fun X g => ?_, fun own σ H ρ S Pr Q R ok => ?_⟩
  · have r1 := pe_me (m := m) (T := .lst) (pa X g) (pb X g) ho hx hl
    have r2 := pe_me (m := m) (T := .str) (pa X g) (pb X g) ho hx hl
    rw [g.hK] at r1 r2
    exact PE.or r1 r2
  · have ev : evalE T (.me m a (.cons b .nil)) own ρ = (evalE T a false ρ).bind fun x e => if mxOk m x then still x b.pure ((evalE T b false e).bind fun y e => lift (mxD m x [y]) e) else .bad := by
      cases m <;> first | exact absurd rfl hm | (simp only [evalE]; done) | (simp only [evalE] <;> rfl)
    rw [ev] at ok
    simp only [E.pure, Es.pure, Bool.and_assoc] at ok
    by_cases hd : ∃ xs e, evalE T a false ρ = .ok (.lst xs) e
    · refine .inl ?_
      obtain ⟨xs, e0, he⟩ := hd
      show ta σ H _
      refine use_Ee ea R ok fun x' e1 H1 S1 v L hq R1 F1 d1 _ ok1 => ?_
      rw [he] at hq
      cases hq
      have ok1' := okIt ok1
      split at ok1'
      case isFalse => exact ok1'.elim
      rename_i hs
      obtain ⟨hst, ok2⟩ := still_ok ok1'
      obtain ⟨a', vs, R', rfl, sa, ra, _⟩ := d1.lst_inv
      refine ⟨?_, .inl ⟨rfl, vs, SqL.of sa⟩, ?_⟩
      · cases m <;> first | rfl | exact absurd hs Bool.false_ne_true
      · refine use_E eb R1 (q := (true && !own)) ok2 fun y' e2 H2 S2 u M R2 F2 d2 _ ok3 => ?_
        obtain ⟨z, hz, ok4⟩ := lift_ok ok3
        exact (me_lst hz (d1.still hst F2 R1) d2 (fin_fresh ok4 R2 (F1.trans F2))).2
    · refine .inr ?_
      show ta σ H _
      refine use_Ee ea R ok fun x' e1 H1 S1 v L hq R1 F1 d1 _ ok1 => ?_
      have ok1' := okIt ok1
      split at ok1'
      case isFalse => exact ok1'.elim
      rename_i hs
      obtain ⟨hst, ok2⟩ := still_ok ok1'
      obtain ⟨z0, rfl⟩ : ∃ z0, x' = .im (.str z0) := by
        cases x' with
        | lst xs => exact absurd ⟨_, _, hq⟩ hd
        | im y => cases y <;> first | exact ⟨_, rfl⟩ | (cases m <;> exact absurd hs Bool.false_ne_true)
        | _ => cases m <;> exact absurd hs Bool.false_ne_true
      obtain rfl := d1.str_inv
      refine ⟨?_, rfl, ?_⟩
      · cases m <;> first | rfl | exact absurd hs Bool.false_ne_true
      · refine use_E eb R1 (q := (true && !own)) ok2 fun y' e2 H2 S2 u M R2 F2 d2 _ ok3 => ?_
        obtain ⟨z, hz, ok4⟩ := lift_ok ok3
        exact (me_str hz (d1.still hst F2 R1) d2 (fin_fresh ok4 R2 (F1.trans F2))).2
end
end Kh

set_option Elab.async false
set_option linter.all false
set_option maxRecDepth 100000
set_option maxHeartbeats 2000000
/-! x[::-1], list(range(..)), {..}, isinstance, gcd -/
namespace Kh
open PySem PySem.Spec PyProof.Rows L2
section
variable {T : Tab} {lv : Nat} {P : Program} {w : World} {K : PySem.W.Frag} {mg : Str → Option Value} {base : Heap} {c : Cs} {W : WX}
variable {σ : L2.St} {H : Hp} {ρ : En} {S : Foot} {Pr : List Addr} {p q : Bool}
theorem IRs.reverse : ∀ {xs : List I} {vs : List V}, IRs K H xs vs → IRs K H xs.reverse vs.reverse
  | _, _, .nil => .nil
  | _, _, .cons a r => by
    rw [List.reverse_cons, List.reverse_cons]
    exact (IRs.reverse r).append (.cons a .nil)
theorem sr_read {α : Type} {p : Bool} {Pr : List Addr} {σ : L2.St} {H : Hp} {S : Foot} {ρ : En} {i : Nat} {fin : α → En → Hp → Foot → Prop} {f : D → En → Out α} (R : SR K Pr H σ ρ S) (ok : OkP K mg W p Pr σ H S fin ((readS i false ρ).bind f)) : ∃ d v L, σ[i]? = some (some v) ∧ DR K H d v L ∧ OkP K mg W p Pr σ H S fin (f d ρ) := by
  unfold readS at ok
  split at ok
  · rename_i x' e
    obtain ⟨v, e1, d⟩ := R.own i _ e
    exact ⟨_, v, _, e1, d, ok⟩
  · rename_i d hd e
    obtain ⟨v, e1, dr⟩ := R.own i _ e
    simp only [Bool.false_eq_true, if_false] at ok
    exact ⟨_, v, _, e1, dr, ok⟩
  · rename_i x' e
    obtain ⟨v, L, e1, d, _⟩ := R.bor i _ e
    exact ⟨_, v, _, e1, d, ok⟩
  · rename_i d hd e
    obtain ⟨v, L, e1, dr, hL⟩ := R.bor i _ e
    simp only [Bool.false_eq_true, if_false] at ok
    exact ⟨_, v, _, e1, dr, ok⟩
  · exact ok.elim
theorem se_ixv {i : Nat} {b : E} {x : Str} {y : Expr} {p pos : Pos} (hv : chkE c (.var i) (.Name x p) = true) (hy : plainX y = true) (sb : SE T lv P w K mg base c W b y) : SE T lv P w K mg base c W (.ixv i b) (.Subscript (.Name x p) y pos) := by
  obtain ⟨pv, _⟩ := se_var' (T := T) (lv := lv) (P := P) (w := w) (K := K) (mg := mg) (base := base) (W := W) hv
  obtain ⟨tb, pb, eb⟩ := sb
  refine ⟨tOp (rIx K) (tVar i) tb, fun X g => ?_, fun own σ H ρ S Pr Q R ok => ?_⟩
  · have r := @ix_seq X
    rw [g.hK] at r
    exact pe_ix r (pv X g) (pb X g) (pl_ix hy)
  · simp only [evalE] at ok
    have ok0 := OkP.fls (p := ((E.ixv i b).pure && !own)) rfl ok
    obtain ⟨d0, v, L0, e1, _, ok1⟩ := sr_read R ok0
    refine ⟨v, e1, ?_⟩
    show tb σ H _
    refine use_E (q := false) eb R (by rw [Bool.and_false]; exact ok1) fun y' e2 H2 S2 u M R2 F2 d2 _ ok2 => ?_
    obtain ⟨x', v', L, e3, dr, ok3⟩ := sr_read R2 ok2
    cases e1.symm.trans e3
    obtain ⟨z, hz, ok4⟩ := lift_bind ok3
    have nd : ∀ t kvs, x' ≠ .dct t kvs := fun t kvs e => by subst e; cases hz
    have hz' : ixD x' y' = some z := by
      cases x' <;> first | exact hz | cases hz
    split at ok4
    · rename_i hi
      refine ix_ok hz' nd dr d2 fun w R' dz hL => ?_
      obtain ⟨q, rfl⟩ := isIm_inv hi
      obtain ⟨rfl, _⟩ := dz.im_inv
      exact ok4 H2 S2 R2 Fr.refl w [] dz Res.nil
    · exact ok4.elim
theorem se_slv {i : Nat} {lo hi : Eo} {x : Str} {l h : Option Expr} {p pos p2 : Pos} (hv : chkE c (.var i) (.Name x p) = true) (sl : SO T lv P w K mg base c W lo l) (sh : SO T lv P w K mg base c W hi h) :
    SE T lv P w K mg base c W (.slv i lo hi) (.Subscript (.Name x p) (.Slice l h none p2) pos) := by
  obtain ⟨pv, _⟩ := se_var' (T := T) (lv := lv) (P := P) (w := w) (K := K) (mg := mg) (base := base) (W := W) hv
  obtain ⟨tl, pl, el⟩ := sl
  obtain ⟨th, ph, eh⟩ := sh
  refine ⟨tSl (rSl K) (tVar i) tl th, fun X g => ?_, fun own σ H ρ S Pr Q R ok => ?_⟩
  · have r := @sl_all X
    rw [g.hK] at r
    exact pe_slice r (pv X g) (pl X g) (ph X g)
  · simp only [evalE] at ok
    have ok0 := OkP.fls (p := ((E.slv i lo hi).pure && !own)) rfl ok
    obtain ⟨d0, v, L0, e1, _, ok1⟩ := sr_read R ok0
    refine ⟨v, e1, ?_⟩
    show tl σ H _
    refine use_O2 (q := false) el R (by rw [Bool.and_false]; exact ok1) fun l e2 H2 S2 R2 F2 ok3 => ?_
    show th σ H2 _
    refine use_O2 (q := false) eh R2 (by rw [Bool.and_false]; exact ok3) fun u e3 H3 S3 R3 F3 ok4 => ?_
    obtain ⟨x', v', L, e4, dr, ok5⟩ := sr_read R3 ok4
    cases e1.symm.trans e4
    obtain ⟨z, hz, ok6⟩ := lift_ok ok5
    exact sl_ok hz dr (fin_fresh ok6 R3 (F2.trans F3))
theorem se_rev {a : E} {x : Expr} {k : Nat} {p1 p2 p3 pos : Pos} (sa : SE T lv P w K mg base c W a x) : SE T lv P w K mg base c W (.rev a) (.Subscript x (.Slice none none (some (.UnaryOp .USub (.Constant (.int 1) k p1) p2)) p3) pos) := by
  obtain ⟨ta, pa, ea⟩ := sa
  refine ⟨fun σ H Q => tRevL K ta σ H Q ∨ Kq.tRevT K ta σ H Q, fun X g => ?_, fun own σ H ρ S Pr Q R ok => ?_⟩
  · have r1 := pe_revL (X := X) (k := k) (p1 := p1) (p2 := p2) (p3 := p3) (pos := pos) (pa X g)
    have r2 := Kq.pe_revT (X := X) (k := k) (p1 := p1) (p2 := p2) (p3 := p3) (pos := pos) (pa X g)
    rw [g.hK] at r1 r2
    exact PE.or r1 r2
  · simp only [evalE, E.pure] at ok
    by_cases hd : ∃ xs e, evalE T a false ρ = .ok (.lst xs) e
    · refine .inl ?_
      obtain ⟨xs, e0, he⟩ := hd
      show ta σ H _
      refine use_Ee ea R ok fun x' e1 H1 S1 v L hq R1 F1 d1 _ ok1 => ?_
      rw [he] at hq
      cases hq
      obtain ⟨z, hz, ok4⟩ := lift_ok ok1
      obtain ⟨ys, e1', h2⟩ := Option.map_eq_some_iff.mp hz
      subst h2
      obtain ⟨a', vs, R', rfl, sa, ra, _⟩ := d1.lst_inv
      obtain ⟨rfl, rfl, ri⟩ := DRs.of_ims ra e1'
      refine ⟨a', vs, rfl, SqL.of sa, ?_⟩
      have f := fin_fresh ok4 R1 F1
      rw [← List.map_reverse] at f
      exact f.lst (DRs.ims ri.reverse)
    · refine .inr ?_
      show ta σ H _
      refine use_Ee ea R ok fun x' e1 H1 S1 v L hq R1 F1 d1 _ ok1 => ?_
      obtain ⟨z, hz, ok4⟩ := lift_ok ok1
      unfold revD at hz
      split at hz
      · exact absurd ⟨_, _, hq⟩ hd
      · rename_i xs
        split at hz
        · cases hz
          obtain ⟨a', vs, rfl, sa, ra⟩ := d1.tup_inv
          exact ⟨a', vs, rfl, sa, (fin_fresh ok4 R1 F1).tup ra.reverse⟩
        · cases hz
      · cases hz
theorem ints_rg (i j : Int) : DRs K H (rangeL i (j - i).toNat) (rgV i j) [] := by
  have h := DRs.ims (K := K) (H := H) (IRs.ints ((List.range (j - i).toNat).map fun (k : Nat) => i + (k : Int)))
  rw [List.map_map, List.map_map, List.map_map] at h
  exact h
theorem se_lrange1 (G : Gl0 T lv P w K mg base) {a : E} {x : Expr} {g h : Str} {gp hp pos pos2 : Pos} (hg : g = ("list" : Str)) (hh : h = ("range" : Str)) (g1 : c.glo g = true) (g2 : c.glo h = true) (hx : plainX x = true) (sa : SE T lv P w K mg base c W a x) :
    SE T lv P w K mg base c W (.lrange (.cons a .nil)) (.Call (.Name g gp) [.Call (.Name h hp) [x] [] pos2] [] pos) := by
  subst hg hh
  obtain ⟨ta, pa, ea⟩ := sa
  refine ⟨tLstRg (tRg1 ta), fun X gd => pe_listRg gd.calm (isGlo_gl gd.sc g1) (isGl_mg G gd (by decide)) (prg_1 (isGlo_gl gd.sc g2) (isGl_mg G gd (by decide)) (pa X gd) (pl_star hx)) rfl, fun own σ H ρ S Pr Q R ok => ?_⟩
  simp only [evalE, E.pure, Es.pure, Es.len, evalBs, bind_assoc', Bool.and_assoc] at ok
  rw [if_neg (by decide)] at ok
  show ta σ H _
  refine use_E ea R ok fun x' e1 H1 S1 v L R1 F1 d1 _ ok1 => ?_
  obtain ⟨k, rfl, ok2⟩ := okAsIm ok1
  simp only [Out.bind] at ok2
  split at ok2
  · rename_i j hj
    cases hj
    split at ok2
    · rename_i hb
      refine ⟨j, d1.int_inv, ⟨by omega, by omega, by omega, by omega, by omega⟩, ?_⟩
      have f := fin_fresh ok2 R1 F1
      have e : j.toNat = (j - 0).toNat := by rw [Int.sub_zero]
      rw [e] at f
      exact f.lst (ints_rg 0 j)
    · exact ok2.elim
  · rename_i hj; cases hj
  · exact ok2.elim
theorem se_lrange2 (G : Gl0 T lv P w K mg base) {a b : E} {x y : Expr} {g h : Str} {gp hp pos pos2 : Pos} (hg : g = ("list" : Str)) (hh : h = ("range" : Str)) (g1 : c.glo g = true) (g2 : c.glo h = true) (hx : plainX x = true) (hy : plainX y = true) (sa : SE T lv P w K mg base c W a x) (sb : SE T lv P w K mg base c W b y) :
    SE T lv P w K mg base c W (.lrange (.cons a (.cons b .nil))) (.Call (.Name g gp) [.Call (.Name h hp) [x, y] [] pos2] [] pos) := by
  subst hg hh
  obtain ⟨ta, pa, ea⟩ := sa
  obtain ⟨tb, pb, eb⟩ := sb
  refine ⟨tLstRg (tRg2 ta tb), fun X gd => ?_, fun own σ H ρ S Pr Q R ok => ?_⟩
  · have hs : starEach [y] X.env = [(false, eval y X.env)] := pl_star hy
    exact pe_listRg gd.calm (isGlo_gl gd.sc g1) (isGl_mg G gd (by decide)) (prg_2 (isGlo_gl gd.sc g2) (isGl_mg G gd (by decide)) (pa X gd) (pb X gd) (pl_star hx) (pl_star hy) (by rw [hs]; rfl)) rfl
  · simp only [evalE, E.pure, Es.pure, Es.len, evalBs, bind_assoc', Bool.and_assoc] at ok
    rw [if_neg (by decide)] at ok
    show ta σ H _
    refine use_E ea R ok fun x' e1 H1 S1 v L R1 F1 d1 _ ok1 => ?_
    obtain ⟨k, rfl, ok2⟩ := okAsIm ok1
    show tb σ H1 _
    refine use_E eb R1 (q := (true && !own)) ok2 fun y' e2 H2 S2 u M R2 F2 d2 _ ok3 => ?_
    obtain ⟨k2, rfl, ok4⟩ := okAsIm ok3
    simp only [Out.bind] at ok4
    split at ok4
    · rename_i hj; cases hj
    · rename_i i j hj
      cases hj
      split at ok4
      · rename_i hb
        refine ⟨i, j, d1.int_inv, d2.int_inv, ⟨by omega, by omega, by omega, by omega, by omega⟩, ?_⟩
        exact (fin_fresh ok4 R2 (F1.trans F2)).lst (ints_rg i j)
      · exact ok4.elim
    · exact ok4.elim
/-! ### {k: v, ..} of constants -/
def kvC : I → Key
  | .str s => .inr s
  | .int i => .inl i
  | _ => .inl 0
def trC (k v : I) : TE × TE := (tC (kV (kvC k)), tC (kV (kvC v)))
theorem pe_kc {X : Cx} {k : I} {n : Nat} {p : Pos} : ∀ {v : Const}, chkKs [k] [some (.Constant v n p)] = true → PE X (.Constant v n p) (tC (kV (kvC k))) := fun {v} h => by
  cases k <;> cases v <;> first | exact absurd h Bool.false_ne_true | skip
  · simp only [chkKs, Bool.and_true] at h
    cases eq_of_beq h
    exact pe_int
  · simp only [chkKs, Bool.and_true] at h
    cases eq_of_beq h
    exact pe_str
theorem chkKs_cons {k : I} {ks : List I} {x : Option Expr} {xs : List (Option Expr)} (h : chkKs (k :: ks) (x :: xs) = true) : (∃ v n p, x = some (.Constant v n p) ∧ chkKs [k] [x] = true) ∧ chkKs ks xs = true := by
  unfold chkKs at h
  split at h
  · rename_i e; cases e
  · rename_i e1 e2
    cases e1; cases e2
    rw [Bool.and_eq_true] at h
    exact ⟨⟨_, _, _, rfl, by simp only [chkKs, Bool.and_true]; exact h.1⟩, h.2⟩
  · rename_i e1 e2
    cases e1; cases e2
    rw [Bool.and_eq_true] at h
    exact ⟨⟨_, _, _, rfl, by simp only [chkKs, Bool.and_true]; exact h.1⟩, h.2⟩
  · cases h
theorem pps_c {X : Cx} {pos : Pos} : ∀ {ks vs : List I} {kx : List (Option Expr)} {xs : List Expr}, chkKs ks kx = true → chkKs vs (xs.map some) = true → ks.length = vs.length → PPs X pos kx xs (List.zipWith trC ks vs)
  | [], [], [], [], _, _, _ => pps_nil
  | [], [], _ :: _, _, h, _, _ => by simp [chkKs] at h
  | [], [], [], _ :: _, _, h, _ => by simp [chkKs] at h
  | [], _ :: _, _, _, _, _, h => by simp at h
  | _ :: _, [], _, _, _, _, h => by simp at h
  | _ :: _, _ :: _, [], _, h, _, _ => by simp [chkKs] at h
  | _ :: _, _ :: _, _ :: _, [], _, h, _ => by simp [chkKs] at h
  | k :: ks, v :: vs, x :: kx, y :: xs, h1, h2, h3 => by
    obtain ⟨⟨v1, n1, p1, e1, c1⟩, r1⟩ := chkKs_cons h1
    rw [List.map_cons] at h2
    obtain ⟨⟨v2, n2, p2, e2, c2⟩, r2⟩ := chkKs_cons h2
    subst e1
    cases e2
    exact pps_cons (pe_kc c1) (pe_kc c2) (pps_c r1 r2 (Nat.succ.inj h3))
def pairsC (ks vs : List I) : List (Key × V) := List.zipWith (fun k v => (kvC k, kV (kvC v))) ks vs
theorem tPairs_c {σ : L2.St} : ∀ {ks vs : List I} {H : Hp} {Q : List (V × V) → Hp → Prop}, Q ((pairsC ks vs).map fun kv => (kV kv.1, kv.2)) H → tPairs (List.zipWith trC ks vs) σ H Q
  | [], _, _, _, h => h
  | _ :: _, [], _, _, h => h
  | k :: ks, v :: vs, H, Q, h => tPairs_c (ks := ks) (vs := vs) (Q := fun ps H3 => Q ((kV (kvC k), kV (kvC v)) :: ps) H3) h
theorem keyOf_c {k : I} (h : isKey k = true) : keyOf k = some (kvC k) := by
  cases k <;> first | rfl | (simp [isKey] at h)
theorem memI0_ok {x : I} (hx : isKey x = true) : ∀ {r : List I}, r.all isKey = true → ∃ b, distinct.memI0 x r = some b ∧ (b = true ↔ kvC x ∈ r.map kvC)
  | [], _ => ⟨false, rfl, by simp⟩
  | y :: r, h => by
    rw [List.all_cons, Bool.and_eq_true] at h
    obtain ⟨b, h1, h2⟩ := memI0_ok hx h.2
    refine ⟨decide (kvC y = kvC x) || b, ?_, ?_⟩
    · rw [distinct.memI0, h1, key_inj (keyOf_c h.1) (keyOf_c hx)]
      rfl
    · rw [Bool.or_eq_true, decide_eq_true_eq, h2, List.map_cons, List.mem_cons]
      exact ⟨fun z => z.imp Eq.symm id, fun z => z.imp Eq.symm id⟩
theorem distinct_nodup : ∀ {ks : List I}, ks.all isKey = true → distinct ks = true → (ks.map kvC).Nodup
  | [], _, _ => List.nodup_nil
  | x :: r, h, d => by
    rw [List.all_cons, Bool.and_eq_true] at h
    obtain ⟨b, h1, h2⟩ := memI0_ok h.1 h.2
    rw [distinct, h1, Bool.and_eq_true] at d
    rw [List.map_cons, List.nodup_cons]
    refine ⟨fun m => ?_, distinct_nodup h.2 d.2⟩
    rw [h2.mpr m] at d
    exact absurd d.1 (by decide)
theorem putK_new : ∀ {ws : List (Key × V)} {q : Key} {v : V}, q ∉ ws.map (·.1) → putK ws q v = ws ++ [(q, v)]
  | ws, q, v, h => by
    unfold putK
    have e : (ws.any fun kv => decide (kv.1 = q)) = false := by
      rw [List.any_eq_false]
      intro p m z
      exact h (List.mem_map.mpr ⟨p, m, of_decide_eq_true z⟩)
    simp [e]
theorem mergeK_new : ∀ {more kvs : List (Key × V)}, ((kvs ++ more).map (·.1)).Nodup → mergeK kvs more = kvs ++ more
  | [], kvs, _ => by simp [mergeK]
  | p :: r, kvs, h => by
    show mergeK (putK kvs p.1 p.2) r = _
    have n : p.1 ∉ kvs.map (·.1) := fun m => by
      rw [List.map_append, List.nodup_append] at h
      exact h.2.2 _ m _ (by simp) rfl
    rw [putK_new n, mergeK_new (by rw [List.append_assoc]; exact h), List.append_assoc]
    rfl
theorem pairs_keys : ∀ {ks vs : List I}, ks.length = vs.length → (pairsC ks vs).map (·.1) = ks.map kvC
  | [], [], _ => rfl
  | [], _ :: _, h => by simp at h
  | _ :: _, [], h => by simp at h
  | k :: ks, v :: vs, h => congrArg (kvC k :: ·) (pairs_keys (Nat.succ.inj h))
theorem krs_c : ∀ {ks vs : List I}, ks.all isKey = true → vs.all isKey = true → ks.length = vs.length → KRs K H (ks.zip (vs.map .im)) (pairsC ks vs) []
  | [], [], _, _, _ => .nil
  | [], _ :: _, _, _, h => by simp at h
  | _ :: _, [], _, _, h => by simp at h
  | k :: ks, v :: vs, h1, h2, h => by
    rw [List.all_cons, Bool.and_eq_true] at h1 h2
    refine KRs.cons (S := []) (R := []) (keyOf_c h1.1) (.im ?_) (krs_c h1.2 h2.2 (Nat.succ.inj h))
    cases v <;> first | exact .int _ | exact .str _ | (have := h2.1; simp [isKey] at this)
theorem se_disp {ks vs : List I} {kx : List (Option Expr)} {xs : List Expr} {pos : Pos} (h1 : chkKs ks kx = true) (h2 : chkKs vs (xs.map some) = true) (h3 : ks.length = vs.length) (h4 : 0 < ks.length) : SE T lv P w K mg base c W (.disp ks vs) (.Dict kx xs pos) := by
  by_cases hb : ks.length ≤ 15 ∧ ks.all isKey ∧ vs.all isKey ∧ distinct ks
  · have lk : ∀ {a : List I} {b : List (Option Expr)}, chkKs a b = true → b.length = a.length ∧ b.all (·.isSome) = true := fun {a} => by
      induction a with
      | nil => intro b h; cases b with
        | nil => exact ⟨rfl, rfl⟩
        | cons _ _ => simp [chkKs] at h
      | cons k a ih => intro b h; cases b with
        | nil => simp [chkKs] at h
        | cons x b =>
          obtain ⟨⟨v, n, p, e, _⟩, r⟩ := chkKs_cons h
          obtain ⟨i1, i2⟩ := ih r
          subst e
          exact ⟨by simp [i1], by simp [i2]⟩
    obtain ⟨l1, s1⟩ := lk h1
    obtain ⟨l2, _⟩ := lk h2
    rw [List.length_map] at l2
    refine ⟨tDisp (List.zipWith trC ks vs), fun X g => pe_disp (pps_c h1 h2 h3) s1 (by rw [l1, l2, h3]) (fun e => by rw [e] at l1; simp at l1; omega) (by rw [l1]; exact hb.1), fun own σ H ρ S Pr Q R ok => ?_⟩
    simp only [evalE, hb, and_self, if_true] at ok
    intro p hp
    refine tPairs_c ⟨upd_same, pairsC ks vs, rfl, ?_, ?_⟩
    · have := congrArg List.length (pairs_keys h3)
      rw [List.length_map, List.length_map] at this
      rw [this]; exact hb.1
    · have nd : ((pairsC ks vs).map (·.1)).Nodup := by rw [pairs_keys h3]; exact distinct_nodup hb.2.1 hb.2.2.2
      have e : mergeK [] (pairsC ks vs) = pairsC ks vs := mergeK_new nd
      rw [e, upd_upd]
      exact fin_fresh ok R (Fr.refl (p := true)) _ _ [p] (grow_new hp) (.dK nd (.inl upd_same) (krs_c hb.2.1 hb.2.2.1 h3)) (Fresh.one hp rfl)
  · exact se_bad fun own ρ => by simp only [evalE, hb, if_false]

/-! ### isinstance, gcd -/
theorem ty_tup {a : Addr} {vs : List V} (h : SqT K H a vs) : TyX K H (.ref a) (.type "tuple") := by
  rcases h with (h | ⟨o, h⟩) | ⟨o, its, n, h, hc, _⟩
  · exact .base (.tup h)
  · exact .fTuple h
  · exact .kTuple h hc
theorem se_isin (G : Gl0 T lv P w K mg base) {a : E} {t g u : Str} {x : Expr} {gp up pos : Pos} (hg : g = ("isinstance" : Str)) (hu : u = t) (g1 : c.glo g = true) (g2 : c.glo u = true) (ht : ((t == ("str" : Str)) || (t == ("tuple" : Str)) || (t == ("int" : Str))) = true) (hx : plainX x = true) (sa : SE T lv P w K mg base c W a x) :
    SE T lv P w K mg base c W (.isin a t) (.Call (.Name g gp) [x, .Name u up] [] pos) := by
  subst hg hu
  obtain ⟨ta, pa, ea⟩ := sa
  obtain ⟨n, hn, hm⟩ : ∃ n : String, bootBuiltins u = some (.type n) ∧ u ∈ builtins ∧ (u = ("str" : Str) ∧ n = "str" ∨ u = ("tuple" : Str) ∧ n = "tuple" ∨ u = ("int" : Str) ∧ n = "int") := by
    simp only [Bool.or_eq_true, beq_iff_eq] at ht
    rcases ht with (rfl | rfl) | rfl
    · exact ⟨"str", by decide +kernel, by decide +kernel, .inl ⟨rfl, rfl⟩⟩
    · exact ⟨"tuple", by decide +kernel, by decide +kernel, .inr (.inl ⟨rfl, rfl⟩)⟩
    · exact ⟨"int", by decide +kernel, by decide +kernel, .inr (.inr ⟨rfl, rfl⟩)⟩
  refine ⟨tCB (rIsi K) (tCons ta (tCons (tC (.ty n)) tNil)), fun X gd => ?_, fun own σ H ρ S Pr Q R ok => ?_⟩
  · have hs : starEach [.Name u up] X.env = [(false, eval (.Name u up) X.env)] := rfl
    have r := pe_callB (X := X) (pos := pos) (p := gp) (call_isi (X := X)) (isGlo_gl gd.sc g1) (isGl_mg G gd (by decide +kernel)) (by decide +kernel)
      (pa_cons (pa X gd) (pa_cons (pe_bltn (v := .ty n) (isGlo_gl gd.sc g2) (isGl_mg G gd hm.1) hn rfl (by rcases hm.2 with ⟨rfl, _⟩ | ⟨rfl, _⟩ | ⟨rfl, _⟩ <;> decide +kernel) (by rcases hm.2 with ⟨rfl, _⟩ | ⟨rfl, _⟩ | ⟨rfl, _⟩ <;> decide +kernel)) pa_nil rfl) (pl_star hx)) (by decide +kernel) (by decide +kernel) (pl_star hx) (by rw [hs]; rfl)
    rw [gd.hK] at r
    exact r
  · simp only [evalE, E.pure] at ok
    show ta σ H _
    refine use_E ea R ok fun x' e1 H1 S1 v L R1 F1 d1 _ ok1 => ?_
    obtain ⟨k, rfl, ok2⟩ := okAsIm ok1
    obtain ⟨z, hz, ok4⟩ := lift_ok ok2
    obtain ⟨b, hb, h2⟩ := Option.map_eq_some_iff.mp hz
    subst h2
    have q := (fin_fresh ok4 R1 F1).bl
    have rv := d1.im_inv.2
    cases rv with
    | str y =>
      simp only [isinD] at hb
      rcases hm.2 with ⟨rfl, rfl⟩ | ⟨rfl, rfl⟩ | ⟨rfl, rfl⟩
      · cases hb; exact ⟨_, _, .type "str", _, _, rfl, .ty _, .base (.str _), kit_ty (by decide +kernel), q⟩
      · cases hb; exact ⟨_, _, .type "str", _, _, rfl, .ty _, .base (.str _), kit_ty (by decide +kernel), q⟩
      · cases hb; exact ⟨_, _, .type "str", _, _, rfl, .ty _, .base (.str _), kit_ty (by decide +kernel), q⟩
    | int y =>
      simp only [isinD] at hb
      rcases hm.2 with ⟨rfl, rfl⟩ | ⟨rfl, rfl⟩ | ⟨rfl, rfl⟩
      · cases hb; exact ⟨_, _, .type "int", _, _, rfl, .ty _, .base (.int _), kit_ty (by decide +kernel), q⟩
      · cases hb; exact ⟨_, _, .type "int", _, _, rfl, .ty _, .base (.int _), kit_ty (by decide +kernel), q⟩
      · cases hb; exact ⟨_, _, .type "int", _, _, rfl, .ty _, .base (.int _), kit_ty (by decide +kernel), q⟩
    | tup sa ra =>
      simp only [isinD] at hb
      rcases hm.2 with ⟨rfl, rfl⟩ | ⟨rfl, rfl⟩ | ⟨rfl, rfl⟩
      · cases hb; exact ⟨_, _, .type "tuple", _, _, rfl, .ty _, ty_tup sa, kit_ty (by decide +kernel), q⟩
      · cases hb; exact ⟨_, _, .type "tuple", _, _, rfl, .ty _, ty_tup sa, kit_ty (by decide +kernel), q⟩
      · cases hb; exact ⟨_, _, .type "tuple", _, _, rfl, .ty _, ty_tup sa, kit_ty (by decide +kernel), q⟩
    | _ => cases hb
theorem se_gcd (G : Gl0 T lv P w K mg base) {a b : E} {g : Str} {x y : Expr} {gp pos : Pos} (hg : g = ("gcd" : Str)) (g1 : c.glo g = true) (hx : plainX x = true) (hy : plainX y = true) (sa : SE T lv P w K mg base c W a x) (sb : SE T lv P w K mg base c W b y) :
    SE T lv P w K mg base c W (.gcd a b) (.Call (.Name g gp) [x, y] [] pos) := by
  subst hg
  cases him : T.im with
  | false => exact se_bad fun own ρ => by simp only [evalE, him, Bool.false_eq_true, if_false]
  | true =>
    obtain ⟨ta, pa, ea⟩ := sa
    obtain ⟨tb, pb, eb⟩ := sb
    refine ⟨tCB rGcd (tCons ta (tCons tb tNil)), fun X gd => ?_, fun own σ H ρ S Pr Q R ok => ?_⟩
    · have hs : starEach [y] X.env = [(false, eval y X.env)] := pl_star hy
      exact pe_callBfun cr_gcd (isGlo_gl gd.sc g1) (by rw [gd.hm]; exact G.gcd him) (pa_cons (pa X gd) (pa_cons (pb X gd) pa_nil (pl_star hy)) (pl_star hx)) (by decide +kernel) (pl_star hx) (by rw [hs]; rfl)
    · simp only [evalE, him, if_true, E.pure, Bool.and_assoc] at ok
      show ta σ H _
      refine use_E ea R ok fun x' e1 H1 S1 v L R1 F1 d1 _ ok1 => ?_
      obtain ⟨hs, ok2⟩ := still_ok ok1
      show tb σ H1 _
      refine use_E eb R1 ok2 fun y' e2 H2 S2 u M R2 F2 d2 _ ok3 => ?_
      obtain ⟨z, hz, ok4⟩ := lift_ok ok3
      exact bi2_ok (f := .gcd) hz (d1.still hs F2 R1) d2 (fin_fresh ok4 R2 (F1.trans F2))
end
end Kh

set_option Elab.async false
set_option linter.all false
set_option maxRecDepth 100000
set_option maxHeartbeats 2000000
/-! {k: v, ..} of constants, tuples and lists of constants among the values -/
namespace Kh
open PySem PySem.Spec PyProof.Rows L2
section
variable {T : Tab} {lv : Nat} {P : Program} {w : World} {K : PySem.W.Frag} {mg : Str → Option Value} {base : Heap} {c : Cs} {W : WX}
variable {σ : L2.St} {H : Hp} {ρ : En} {S : Foot} {Pr : List Addr} {p q : Bool}
def tCs : List I → TA
  | [] => tNil
  | k :: r => tCons (tC (kV (kvC k))) (tCs r)
def imsD (ds : List D) : List I := (ims ds).getD []
def tD : D → TE
  | .im (.tup xs) => tTup (tCs xs)
  | .im k => tC (kV (kvC k))
  | .lst ds => tLst (tCs (imsD ds))
  | _ => tC .non
theorem chkKs_len : ∀ {ks : List I} {xs : List (Option Expr)}, chkKs ks xs = true → ks.length = xs.length
  | [], [], _ => rfl
  | [], _ :: _, h => by simp [chkKs] at h
  | k :: r, [], h => by simp [chkKs] at h
  | k :: r, x :: xs, h => by
    obtain ⟨_, h2⟩ := chkKs_cons h
    exact congrArg (· + 1) (chkKs_len h2)
theorem pa_c {X : Cx} : ∀ {ks : List I} {xs : List Expr}, chkKs ks (xs.map some) = true → PA X xs (tCs ks)
  | [], [], _ => pa_nil
  | [], _ :: _, h => by simp [chkKs] at h
  | k :: r, [], h => by simp [chkKs] at h
  | k :: r, x :: xs, h => by
    rw [List.map_cons] at h
    obtain ⟨⟨v, n, p, e, c⟩, h2⟩ := chkKs_cons h
    cases e
    exact pa_cons (pe_kc c) (pa_c h2) rfl
theorem pe_cD {X : Cx} : ∀ {d : D} {x : Expr}, chkD d x = true → PE X x (tD d) := fun {d x} h => by
  unfold chkD at h
  split at h
  · exact pe_kc (k := .int _) (by simp only [chkKs, Bool.and_true]; exact h)
  · exact pe_kc (k := .str _) (by simp only [chkKs, Bool.and_true]; exact h)
  · exact pe_tup (pa_c h)
  · rename_i ds es pos
    split at h
    · rename_i xs e
      have e2 : imsD ds = xs := by unfold imsD; rw [e]; rfl
      show PE X _ (tLst (tCs (imsD ds)))
      rw [e2]
      exact pe_lst (pa_c h)
    · cases h
  · cases h
theorem ims_inv : ∀ {ds : List D} {xs : List I}, ims ds = some xs → ds = xs.map .im
  | [], _, e => by cases e; rfl
  | .im x :: r, xs, e => by
    rw [ims] at e
    obtain ⟨ys, e1, e2⟩ := Option.map_eq_some_iff.mp e
    subst e2
    rw [ims_inv e1]
    rfl
  | .tup _ :: _, _, e => nomatch e
  | .lst _ :: _, _, e => nomatch e
  | .dct _ _ :: _, _, e => nomatch e
  | .scr _ :: _, _, e => nomatch e
theorem tCs_ok : ∀ {ks : List I} {Q : List V → Hp → Prop}, Q (ks.map fun k => kV (kvC k)) H → tCs ks σ H Q
  | [], _, h => h
  | k :: r, Q, h => tCs_ok (ks := r) (Q := fun vs H1 => Q (kV (kvC k) :: vs) H1) h
theorem ir_c {k : I} (h : isKey k = true) : IR K H k (kV (kvC k)) := by
  cases k <;> first | exact .int _ | exact .str _ | (simp [isKey] at h)
theorem irs_c : ∀ {ks : List I}, ks.all isKey = true → IRs K H ks (ks.map fun k => kV (kvC k))
  | [], _ => .nil
  | k :: r, h => by
    rw [List.all_cons, Bool.and_eq_true] at h
    exact .cons (ir_c h.1) (irs_c h.2)
theorem tD_ok {d : D} {Q : VK} (h : constD d = true) (q : VOk K H d Q) : tD d σ H Q := by
  have hun : (100 : Nat) ≤ sizeLine := by decide
  cases d with
  | im x =>
    cases x with
    | tup xs =>
      simp only [constD, Bool.and_eq_true, decide_eq_true_eq] at h
      refine tCs_ok (ks := xs) ⟨by rw [List.length_map]; exact Nat.le_trans h.2 hun, fun p hp => ?_⟩
      exact q _ _ [] (grow_new hp) (.im (.tup sqT_new (irs_c h.1))) Fresh.nil
    | int n => exact q _ _ [] (fun _ _ e => e) (.im (.int n)) Fresh.nil
    | str n => exact q _ _ [] (fun _ _ e => e) (.im (.str n)) Fresh.nil
    | non => simp [constD, isKey] at h
    | bl b => simp [constD, isKey] at h
  | lst ds =>
    simp only [constD] at h
    split at h
    · rename_i xs e
      simp only [Bool.and_eq_true, decide_eq_true_eq] at h
      have e2 : imsD ds = xs := by unfold imsD; rw [e]; rfl
      have e3 := ims_inv e
      show tLst (tCs (imsD ds)) σ H Q
      rw [e2]
      refine tCs_ok (ks := xs) ⟨by rw [List.length_map]; exact Nat.le_trans h.2 hun, fun p hp => ?_⟩
      subst e3
      exact q _ _ [p] (grow_new hp) (.lst upd_same (DRs.ims (irs_c h.1))) (Fresh.one hp rfl)
    · cases h
  | _ => simp [constD] at h
def trD (k : I) (d : D) : TE × TE := (tC (kV (kvC k)), tD d)
theorem pps_D {X : Cx} {pos : Pos} : ∀ {ks : List I} {vs : List D} {kx : List (Option Expr)} {xs : List Expr}, chkKs ks kx = true → chkDs vs xs = true → ks.length = vs.length → PPs X pos kx xs (List.zipWith trD ks vs)
  | [], [], [], [], _, _, _ => pps_nil
  | [], [], _ :: _, _, h, _, _ => by simp [chkKs] at h
  | [], [], [], _ :: _, _, h, _ => by simp [chkDs] at h
  | [], _ :: _, _, _, _, _, h => by simp at h
  | _ :: _, [], _, _, _, _, h => by simp at h
  | _ :: _, _ :: _, [], _, h, _, _ => by simp [chkKs] at h
  | _ :: _, _ :: _, _ :: _, [], _, h, _ => by simp [chkDs] at h
  | k :: ks, v :: vs, x :: kx, y :: xs, h1, h2, h3 => by
    obtain ⟨⟨v1, n1, p1, e1, c1⟩, r1⟩ := chkKs_cons h1
    simp only [chkDs, Bool.and_eq_true] at h2
    subst e1
    exact pps_cons (pe_kc c1) (pe_cD h2.1) (pps_D r1 h2.2 (Nat.succ.inj h3))
theorem tPairs_D : ∀ {ks : List I} {vs : List D} {H : Hp} {Q : List (V × V) → Hp → Prop}, ks.length = vs.length → vs.all constD = true →
    (∀ H' ws L, (∀ a o, H a = some o → H' a = some o) → DRs K H' vs ws L → Fresh H H' L → Q ((List.zipWith (fun k w => (kV (kvC k), w)) ks ws)) H') → tPairs (List.zipWith trD ks vs) σ H Q
  | [], [], H, Q, _, _, h => h H [] [] (fun _ _ e => e) .nil Fresh.nil
  | [], _ :: _, _, _, e, _, _ => by simp at e
  | _ :: _, [], _, _, e, _, _ => by simp at e
  | k :: ks, v :: vs, H, Q, e, hc, h => by
    rw [List.all_cons, Bool.and_eq_true] at hc
    show tD v σ H _
    refine tD_ok (K := K) hc.1 fun H1 w1 L1 g1 d1 f1 => ?_
    refine tPairs_D (ks := ks) (vs := vs) (Nat.succ.inj e) hc.2 fun H2 ws L2 g2 d2 f2 => ?_
    refine h H2 (w1 :: ws) (L1 ++ L2) (fun a o q => g2 a o (g1 a o q)) (.cons (d1.stay (Stay.ext g2)) d2) ⟨List.nodup_append.mpr ⟨f1.nd, f2.nd, fun a m b n z => ?_⟩, fun a m => ?_, fun a m => ?_⟩
    · subst z
      exact (f1.mu a m).there (f2.new a n)
    · rcases List.mem_append.mp m with m | m
      · exact f1.new a m
      · cases q : H a with
        | none => rfl
        | some o => have := f2.new a m; rw [g1 a o q] at this; cases this
    · rcases List.mem_append.mp m with m | m
      · obtain ⟨o, q, z⟩ := f1.mu a m
        exact ⟨o, g2 a o q, z⟩
      · exact f2.mu a m
theorem krs_D : ∀ {ks : List I} {vs : List D} {ws : List V} {L : List Addr}, ks.all isKey = true → ks.length = vs.length → DRs K H vs ws L → KRs K H (ks.zip vs) (List.zipWith (fun k w => (kvC k, w)) ks ws) L
  | [], [], _, _, _, _, .nil => .nil
  | [], _ :: _, _, _, _, e, _ => by simp at e
  | _ :: _, [], _, _, _, e, _ => by simp at e
  | k :: ks, v :: vs, _, _, h, e, .cons a r => by
    rw [List.all_cons, Bool.and_eq_true] at h
    exact .cons (keyOf_c h.1) a (krs_D h.2 (Nat.succ.inj e) r)
theorem zipW_keys : ∀ {ks : List I} {ws : List V}, ks.length = ws.length → (List.zipWith (fun k w => (kvC k, w)) ks ws).map (·.1) = ks.map kvC
  | [], [], _ => rfl
  | [], _ :: _, h => by simp at h
  | _ :: _, [], h => by simp at h
  | k :: ks, v :: vs, h => congrArg (kvC k :: ·) (zipW_keys (Nat.succ.inj h))
theorem se_dispD {ks : List I} {vs : List D} {kx : List (Option Expr)} {xs : List Expr} {pos : Pos} (h1 : chkKs ks kx = true) (h2 : chkDs vs xs = true) (h3 : ks.length = vs.length) (h4 : 0 < ks.length) : SE T lv P w K mg base c W (.dispD ks vs) (.Dict kx xs pos) := by
  by_cases hb : ks.length ≤ 15 ∧ ks.all isKey ∧ vs.all constD ∧ distinct ks
  · have s1 : ∀ {a : List I} {b : List (Option Expr)}, chkKs a b = true → b.all (·.isSome) = true := fun {a} => by
      induction a with
      | nil => intro b h; cases b with
        | nil => rfl
        | cons _ _ => simp [chkKs] at h
      | cons k a ih => intro b h; cases b with
        | nil => simp [chkKs] at h
        | cons x b =>
          obtain ⟨⟨v, n, p, e, _⟩, r⟩ := chkKs_cons h
          subst e
          simp [ih r]
    have l2 : ∀ {a : List D} {b : List Expr}, chkDs a b = true → b.length = a.length := fun {a} => by
      induction a with
      | nil => intro b h; cases b with
        | nil => rfl
        | cons _ _ => simp [chkDs] at h
      | cons k a ih => intro b h; cases b with
        | nil => simp [chkDs] at h
        | cons x b =>
          simp only [chkDs, Bool.and_eq_true] at h
          simp [ih h.2]
    have l1 := (chkKs_len h1).symm
    refine ⟨tDisp (List.zipWith trD ks vs), fun X g => pe_disp (pps_D h1 h2 h3) (s1 h1) (by rw [l1, l2 h2, h3]) (fun e => by rw [e] at l1; simp at l1; omega) (by rw [l1]; exact hb.1), fun own σ H ρ S Pr Q R ok => ?_⟩
    simp only [evalE, hb, and_self, if_true] at ok
    intro p hp
    refine tPairs_D (K := K) h3 hb.2.2.1 fun H2 ws L g2 d2 f2 => ?_
    have hl : ks.length = ws.length := by rw [h3, d2.length]
    have hpp : H2 p = some (.dK []) := g2 p _ upd_same
    have nL : p ∉ L := fun m => by have := f2.new p m; rw [upd_same] at this; cases this
    have st : Stay H2 (upd H2 p (.dK (List.zipWith (fun k w => (kvC k, w)) ks ws))) L := fun a o e z => by
      rw [upd_ne fun y : a = p => ?_]
      · exact e
      · subst y
        rcases z with z | z
        · rw [hpp] at e; cases e; cases z
        · exact nL z
    have nd : ((List.zipWith (fun k w => (kvC k, w)) ks ws).map (·.1)).Nodup := by rw [zipW_keys hl]; exact distinct_nodup hb.2.1 hb.2.2.2
    refine ⟨hpp, List.zipWith (fun k w => (kvC k, w)) ks ws, ?_, ?_, ?_⟩
    · rw [List.map_zipWith]
    · rw [List.length_zipWith]
      have := hb.1
      omega
    · have e : mergeK [] (List.zipWith (fun k w => (kvC k, w)) ks ws) = List.zipWith (fun k w => (kvC k, w)) ks ws := mergeK_new nd
      rw [e]
      have new : ∀ a, (upd H p (.dK [])) a = none → H a = none ∧ a ≠ p := fun a z => by
        by_cases y : a = p
        · subst y; rw [upd_same] at z; cases z
        · rw [upd_ne y] at z; exact ⟨z, y⟩
      refine fin_fresh ok R (Fr.refl (p := true)) _ _ (p :: L) (fun a o q => ?_) (.dK nd (.inl upd_same) ((krs_D hb.2.1 h3 d2).stay st)) ⟨List.nodup_cons.mpr ⟨nL, f2.nd⟩, fun a m => ?_, fun a m => ?_⟩
      · have y : a ≠ p := fun z => by rw [z, hp] at q; cases q
        rw [upd_ne y]
        exact g2 a o (by rw [upd_ne y]; exact q)
      · rcases List.mem_cons.mp m with rfl | m
        · exact hp
        · exact (new a (f2.new a m)).1
      · rcases List.mem_cons.mp m with rfl | m
        · exact ⟨_, upd_same, rfl⟩
        · obtain ⟨o, q, z⟩ := f2.mu a m
          exact ⟨o, by rw [upd_ne (new a (f2.new a m)).2]; exact q, z⟩
  · exact se_bad fun own ρ => by simp only [evalE, hb, if_false]
end
end Kh

set_option Elab.async false
set_option linter.all false
set_option maxRecDepth 100000
set_option maxHeartbeats 2000000
/-! a dict of the top, read by texts -/
namespace Kh
open PySem PySem.Spec PyProof.Rows L2
section
variable {T : Tab} {lv : Nat} {P : Program} {w : World} {K : PySem.W.Frag} {mg : Str → Option Value} {base : Heap} {c : Cs} {W : WX}
theorem ix_kd {X : Cx} {d : Addr} {es : Array DictEntry} {n : Nat} (D : KDict X.K X.w d es n) : IxR X (fun x y H Q => ∃ (z : Str) (u0 : Value) (v0 : V), x = .ref d ∧ y = .str z ∧ PySem.W.nsIn X.K d z = some (some u0) ∧ RelV v0 u0 ∧ Q v0 H) := by
  intro value slice pins s σ H x y v u Q I rx ry h hs
  obtain ⟨z, u0, v0, rfl, rfl, e, r, q⟩ := h
  cases rx
  obtain ⟨t, rfl⟩ := ry
  refine tail_any (kd_type D I) PySem.F.slot_dict_getitem.lookup ?_ hs
  exact wpAny_getItem_of (PySem.strKind_is X.prog X.w z t) (PySem.W.mapOf_K (prog := X.prog) I.kIn D.at_ D.lit) (PySem.W.find_K D.at_ e) ⟨v0, H, I.tok _, r, q⟩
theorem se_gix (G : Gl0 T lv P w K mg base) {d g : Str} {a : E} {y : Expr} {gp pos : Pos} (hg : g = d) (hgl : c.glo g = true) (hf : fine g = true) (hy : plainX y = true) (sa : SE T lv P w K mg base c W a y) : SE T lv P w K mg base c W (.gix d a) (.Subscript (.Name g gp) y pos) := by
  subst hg
  obtain ⟨d1, d2, _⟩ := fine_of hf
  obtain ⟨ta, pa, ea⟩ := sa
  cases q : T.gd g with
  | none => exact ⟨fun _ _ _ => False, fun X g => ⟨fun _ _ _ _ _ _ z => z.elim⟩, fun own σ H ρ S Pr Q R ok => by
      simp only [evalE, q] at ok
      exact ok.elim⟩
  | some kvs =>
    obtain ⟨dd, es, n, h1, D, hv⟩ := (G.gd g kvs q).at_
    refine ⟨tOp (fun x y H Q => ∃ (z : Str) (u0 : Value) (v0 : V), x = .ref dd ∧ y = .str z ∧ PySem.W.nsIn K dd z = some (some u0) ∧ RelV v0 u0 ∧ Q v0 H) (tC (.ref dd)) ta, fun X gd => ?_, fun own σ H ρ S Pr Q R ok => ?_⟩
    · have r := ix_kd (X := X) (d := dd) (es := es) (n := n) (by rw [gd.hK, gd.hw]; exact D)
      rw [gd.hK] at r
      exact pe_ix r (pe_glob (isGlo_gl gd.sc hgl) (by rw [gd.hm]; exact h1) rfl d1) (pa X gd) (pl_ix hy)
    · simp only [evalE, q, E.pure] at ok
      show ta σ H _
      refine use_E ea R ok fun x' e1 H1 S1 v L R1 F1 d1 _ ok1 => ?_
      obtain ⟨k, rfl, ok2⟩ := okAsIm ok1
      cases k with
      | str z =>
        obtain ⟨v', hl, ok3⟩ := lift_ok ok2
        obtain ⟨i, hi, rfl⟩ := Option.map_eq_some_iff.mp hl
        obtain ⟨u, vv, n1, n2, n3⟩ := (hv z).2 i hi
        exact ⟨z, u, vv, rfl, d1.str_inv, n1, n2, (fin_fresh ok3 R1 F1).im (n3 H1)⟩
      | _ => exact ok2.elim
theorem se_gin (G : Gl0 T lv P w K mg base) {d g : Str} {a : E} {y : Expr} {o : CmpOp} {neg : Bool} {gp pos : Pos} (ho : (match o with | .In => !neg | .NotIn => neg | _ => false) = true) (hg : g = d) (hgl : c.glo g = true) (hf : fine g = true) (sa : SE T lv P w K mg base c W a y) :
    SE T lv P w K mg base c W (.gin neg d a) (.Compare y [o] [.Name g gp] pos) ∧ ST T lv P w K mg base c W (.gin neg d a) (.Compare y [o] [.Name g gp] pos) := by
  subst hg
  obtain ⟨d1, d2, _⟩ := fine_of hf
  obtain ⟨ta, pa, ea⟩ := sa
  cases q : T.gd g with
  | none => exact ⟨⟨fun _ _ _ => False, fun X g => ⟨fun _ _ _ _ _ _ z => z.elim⟩, fun own σ H ρ S Pr Q R ok => by
      simp only [evalE, q] at ok
      exact ok.elim⟩, ⟨fun _ _ _ => False, fun X g => ⟨PT.fls, fun _ => ⟨fun _ _ _ _ _ _ _ z => z.elim⟩⟩, fun σ H ρ S Pr Q R ok => by
      simp only [evalT, evalE, q] at ok
      exact ok.elim⟩⟩
  | some kvs =>
    obtain ⟨dd, es, n, h1, D, hv⟩ := (G.gd g kvs q).at_
    have sp : SpE T K mg W (.gin neg g a) (tOp (fun x y H Q => ∃ (z : Str) (r : Option Value), x = .str z ∧ y = .ref dd ∧ PySem.W.nsIn K dd z = some r ∧ Q (.bl (neg != r.isSome)) H) ta (tC (.ref dd))) := fun own σ H ρ S Pr Q R ok => by
      simp only [evalE, q, E.pure] at ok
      show ta σ H _
      refine use_E ea R ok fun x' e1 H1 S1 v L R1 F1 d1 _ ok1 => ?_
      obtain ⟨k, rfl, ok2⟩ := okAsIm ok1
      cases k with
      | str z =>
        have hr : ∃ r, PySem.W.nsIn K dd z = some r ∧ r.isSome = (kvs.lookup z).isSome := by
          cases hz : kvs.lookup z with
          | none => exact ⟨none, (hv z).1 hz, rfl⟩
          | some i =>
            obtain ⟨u, vv, n1, _, _⟩ := (hv z).2 i hz
            exact ⟨some u, n1, rfl⟩
        obtain ⟨r, n1, n2⟩ := hr
        refine ⟨z, r, d1.str_inv, rfl, n1, ?_⟩
        rw [n2]
        exact (fin_fresh ok2 R1 F1).bl
      | _ => exact ok2.elim
    have rule : ∀ X, Gd lv c W P w K mg base X → OpR X (compareOp o) (fun x y H Q => ∃ (z : Str) (r : Option Value), x = .str z ∧ y = .ref dd ∧ PySem.W.nsIn K dd z = some r ∧ Q (.bl (neg != r.isSome)) H) := fun X g => by
      have D' : KDict X.K X.w dd es n := by rw [g.hK, g.hw]; exact D
      cases o <;> cases neg <;> first | (exact absurd ho (by decide)) | skip
      · have r := op_in_kd D'
        rw [g.hK] at r
        simpa using r
      · have r := op_notIn_kd D'
        rw [g.hK] at r
        simpa using r
    have pg : ∀ X, Gd lv c W P w K mg base X → PE X (.Name g gp) (tC (.ref dd)) := fun X gd => pe_glob (isGlo_gl gd.sc hgl) (by rw [gd.hm]; exact h1) rfl d1
    refine ⟨⟨_, fun X g => pe_cmpR (rule X g) (pa X g) (pg X g) (pl_mark rfl), sp⟩, ⟨_, fun X g => ⟨pt_cmpR (rule X g) (pa X g) (pg X g) (pl_mark rfl), fun e => nomatch e⟩, fun σ H ρ S Pr Q R ok => ?_⟩⟩
    refine sp false σ H ρ S Pr _ R ?_
    rw [Bool.not_false, Bool.and_true]
    simp only [evalT] at ok
    refine ok.last.mono fun d e1 H1 S1 R1 F1 h v L dr rs => ?_
    obtain ⟨k, rfl, ok'⟩ := okBool0 h
    exact ⟨k, dr.bl_inv, ok' H1 S1 R1 Fr.refl⟩
end
end Kh

set_option Elab.async false
set_option linter.all false
set_option maxRecDepth 100000
set_option maxHeartbeats 2000000
/-! enumerate of tuples and texts -/
namespace Kq
open PySem PySem.Spec PyProof.Rows L2
section
open Sem (wp)
set_option maxHeartbeats 1000000 in
theorem meets_enum1 {v : Value} {o : Obj} {H : Heap → Prop} (B : Begins v o H) :
    Meets (Builtin.«enumerate.__new__» ⟨[.type "enumerate", v], []⟩) (fun _ R s => H s.heap ∧
      R (.ok (.ret (.ref (s.heap.push o).objs.size))) { s with heap := (s.heap.push o).push { cls := .type "enumerate", data := .fields #[.none, .bool false, .ref s.heap.objs.size, rawInt 0, .none, .none] } }) :=
  .of_wp fun prog w A R s h => by
    obtain ⟨hp, g, d, tk, os⟩ := s; obtain ⟨h1, h⟩ := h
    have hsub := sub_enumerate
    have q1 : ∀ {A' : Around} {E : Value → Shared → Prop} {Q : Value → Shared → Prop}, Q (.ref hp.objs.size) ⟨hp.push o, g, d, tk, os⟩ → wpAny (model prog w) A' (pyIter v) Q E ⟨hp, g, d, tk, os⟩ :=
      fun q => B.iter prog w _ _ ⟨hp, g, d, tk, os⟩ _ h1 q
    wp_walk using q1
    refine wpAny_stack_any fun st => wpAny_pure ?_
    split
    · rename_i c _ _ _ _ _
      cases (c == Value.type "enumerate")
      · wp_walk using q1
        exact ⟨_, rfl, h⟩
      · wp_walk using q1
        exact ⟨_, rfl, h⟩
    · wp_walk using q1
      exact ⟨_, rfl, h⟩
variable {prog : Program} {w : World} {A : Around} {E : Value → Shared → Prop} {s : Shared}
/-- enumerate(v): its two new cells -/
theorem enum_new {v : Value} {o : Obj} {H : Heap → Prop} {Q : Value → Shared → Prop} (B : Begins v o H) (h1 : H s.heap)
    (h : ∀ h', IsEnum h' (s.heap.objs.size + 1) s.heap.objs.size 0 .none → h'.get? s.heap.objs.size = some o → h'.objs.size = s.heap.objs.size + 2 →
      (∀ b o, s.heap.get? b = some o → h'.get? b = some o) → Q (.ref (s.heap.objs.size + 1)) { s with heap := h' }) :
    wpAny (model prog w) A (call (.type "enumerate") [v]) Q E s := by
  refine callType_new F.called_enumerate (by decide) (F.typeCall_enumerate_1 _) (F.newCall_enumerate_1 _) (fun obj => F.args_object_init_2 obj _) F.entry_enumerate_new
    (meets_enum1 B) ⟨h1, ?_⟩
  have hz : (s.heap.push o).objs.size = s.heap.objs.size + 1 := Heap.size_push ..
  show _ ∧ _
  rw [hz]
  have he : IsEnum ((s.heap.push o).push { cls := .type "enumerate", data := .fields #[.none, .bool false, .ref s.heap.objs.size, rawInt 0, .none, .none] }) (s.heap.objs.size + 1) s.heap.objs.size 0 .none := by
    have := Heap.get?_push_size (s.heap.push o) (o := { cls := .type "enumerate", data := .fields #[.none, .bool false, .ref s.heap.objs.size, rawInt 0, .none, .none] }) rfl
    rw [hz] at this; exact this
  refine ⟨⟨_, he, rfl⟩, h _ he (Heap.get?_push_of_some _ (Heap.get?_push_size _ B.free)) (by rw [Heap.size_push, hz]) fun b o x => Heap.get?_push_of_some _ (Heap.get?_push_of_some _ x)⟩
end
/-- the tuple at a, each item in a new pair -/
def IteT (K : PySem.W.Frag) (a : Addr) : It :=
  ⟨fun i H => ∃ (xs : List V) (x : V), SqT K H a xs ∧ xs[i]? = some x, fun i H v H' => ∃ T x, v = .ref T ∧ H T = none ∧ H' = upd H T (.tup [.int (i : Nat), x]) ∧ ∀ xs, SqT K H a xs → xs[i]? = some x, fun i H => ∃ xs : List V, SqT K H a xs ∧ xs.length ≤ i⟩
/-- a text's signs, each in a new pair -/
def IteS (z : Str) : It :=
  ⟨fun i _ => i < z.cps.size, fun i H v H' => ∃ T k, v = .ref T ∧ H T = none ∧ H' = upd H T (.tup [.int (i : Nat), .str ⟨#[k]⟩]) ∧ z.cps[i]? = some k, fun i _ => z.cps.size ≤ i⟩
theorem turn_enumT {P : Program} {w : World} {K : PySem.W.Frag} {elts : List Expr} {kk : Nat} {tpos : Pos} (a e it : Addr) :
    Turn P w K (.Tuple elts kk tpos) (IteT K a) [e, it] e (fun i h => (∃ old, IsEnum h e it ((i : Nat) : Int) old) ∧ h.IsTupleIter it a i ∧ e ≠ it ∧ a ≠ it ∧ e ≠ a) where
  mem := by simp
  obj := fun i h st b hb => by
    obtain ⟨⟨old, he⟩, ⟨o, ho, hc, hd⟩, _⟩ := st
    have e' : b = e ∨ b = it := by simpa using hb
    rcases e' with z | z
    · rw [z]; exact ⟨_, he, fun v q => nomatch q⟩
    · rw [z]; exact ⟨o, ho, fun v q => by rw [hd] at q; cases q⟩
  keep := fun i h h' st k => let ⟨⟨old, he⟩, hi, hne⟩ := st; ⟨⟨old, k e (by simp) _ he⟩, hi.at fun o q => k it (by simp) o q, hne⟩
  item := by
    intro X hP hw hK hc i pins s σ H E I hf st hg
    subst hP hw hK
    obtain ⟨⟨old, he⟩, hit, hne, hai, hea⟩ := st
    obtain ⟨xs, x, hq, hx⟩ := hg
    obtain ⟨its, rv, p, hz⟩ := I.tuple hq
    obtain ⟨u, hu, ru⟩ := rv.get hx
    have hel : e < s.heap.objs.size := Heap.lt_size he
    have hil : it < s.heap.objs.size := by obtain ⟨_, q, _⟩ := hit; exact Heap.lt_size q
    have D := Draws.tuple (prog := X.prog) (w := X.w) (A := X.A.in1) (I.ok.hd hc) it a hai its.toArray
    have hlt : i < its.toArray.size := by
      have := (List.getElem?_eq_some_iff.mp hu).1
      simpa using this
    refine wpAny_pyNext_enum_itemD D he ⟨hit, p⟩ hlt hne (by simp [hne, hea]) fun y h' tk hy ho hst' hT hsz hk => ?_
    have hyu : y = u := by
      have h1 : its.toArray[i]? = some u := by simpa using hu
      rw [h1] at hy
      exact (Option.some.inj hy).symm
    subst hyu
    refine ⟨_, rfl, wpAny_letOwnedTupleGo_enum (s := { s with heap := h', toks := tk + 1 }) ho fun h'' he' sb => ?_⟩
    have hT2 : h''.get? s.heap.objs.size = some { cls := .type "tuple", data := .seq #[.int i tk, y] } := (sb.2 _ (Nat.ne_of_gt hel)).trans hT
    have new : ObjOk X.prog X.w (upd H s.heap.objs.size (.tup [.int (i : Nat), x])) h'' s.heap.objs.size (.tup [.int (i : Nat), x]) :=
      ⟨by show 2 ≤ sizeLine; decide, [.int i tk, y], .cons ⟨_, rfl⟩ (.cons ru .nil), ⟨_, hT2, rfl, _, rfl⟩⟩
    have I1 : Inv X pins σ (upd H s.heap.objs.size (.tup [.int (i : Nat), x])) { s with heap := h'', toks := tk + 1 } :=
      I.turnedNew (ch := [e, it]) (fun b ob hb q => (sb.2 b (fun z => hb (by simp [z]))).trans (hk b ob (fun z => hb (by simp [z])) (fun z => hb (by simp [z])) q)) hf (Nat.le_refl _) new
    refine ⟨.ref s.heap.objs.size, _, I1, rfl, ⟨_, x, rfl, I.hok.fresh (Nat.le_refl _), rfl, fun ys hy => by rw [I.tuple_inj hy hq]; exact hx⟩, ⟨⟨y, ?_⟩, hst'.1.at fun o q => (sb.2 it (Ne.symm hne)).trans q, hne, hai, hea⟩, fun b hb => ?_⟩
    · have e1 : ((i + 1 : Nat) : Int) = (i : Int) + 1 := by omega
      rw [e1]; exact he'
    · have hb' : b < s.heap.objs.size := by
        have e' : b = e ∨ b = it := by simpa using hb
        rcases e' with z | z
        · rw [z]; exact hel
        · rw [z]; exact hil
      rw [upd_ne (Nat.ne_of_lt hb')]
      exact (hf b hb).1
  done := by
    intro X hP hw hK hc i pins s σ H E I hf st hg
    subst hP hw hK
    obtain ⟨⟨old, he⟩, hit, hne, hai, hea⟩ := st
    obtain ⟨xs, hq, hx⟩ := hg
    obtain ⟨its, rv, p, hz⟩ := I.tuple hq
    obtain ⟨f0, f1, f2, f3, f4, f5⟩ := hf it (by simp)
    have hl := rv.length
    have hT : s.TypeIs (.ref e) "enumerate" := ⟨_, he, rfl⟩
    unfold pyNext
    refine wpAny_bind (wpAny_attempt (wpAny_callSpecial?_slot (name := Str.ofString "__next__") hT F.slot_enumerate_next
      (wpAny_call_entry F.slot_enumerate_next hT F.entry_enumerate_next ?_ (F.args_enumerate_next_1 _))))
    show wpAny _ _ (field (.ref e) 2 >>= _) _ _ _
    refine wpAny_bind (wpAny_field he rfl (x := .ref it) rfl ?_)
    refine wpAny_bind (wpAny_nextOf_tuple_end (A := X.A.in1) (I.ok.hd hc) hit (show s.heap.IsTuple a its.toArray from p) (by simp; omega) fun h' x he' hx' => ?_)
    obtain ⟨o, ho, hc'⟩ := hx'
    refine wpAny_bind (wpAny_isInstance (T := "StopIteration") (b := true) ⟨o, ho, hc'⟩ isSubtype_stop ?_)
    exact wpAny_pure ⟨rfl, I.turned (t' := s.toks) (fun b o hb q => he' b o hb q) f0 f1 f3 f4 f5⟩
  self := fun A i s Q E st h => let ⟨⟨_, he⟩, _⟩ := st; wpAny_pyIter_enum he h
theorem turn_enumS {P : Program} {w : World} {K : PySem.W.Frag} {elts : List Expr} {kk : Nat} {tpos : Pos} (z : Str) (t : Tok) (e it : Addr) :
    Turn P w K (.Tuple elts kk tpos) (IteS z) [e, it] e (fun i h => (∃ old, IsEnum h e it ((i : Nat) : Int) old) ∧ h.IsStrIter it (strIterType z) z t i ∧ i ≤ z.cps.size ∧ e ≠ it) where
  mem := by simp
  obj := fun i h st b hb => by
    obtain ⟨⟨old, he⟩, ⟨o, ho, hc, hd⟩, _⟩ := st
    have e' : b = e ∨ b = it := by simpa using hb
    rcases e' with z | z
    · rw [z]; exact ⟨_, he, fun v q => nomatch q⟩
    · rw [z]; exact ⟨o, ho, fun v q => by rw [hd] at q; cases q⟩
  keep := fun i h h' st k => let ⟨⟨old, he⟩, ⟨o, ho, r⟩, hne⟩ := st; ⟨⟨old, k e (by simp) _ he⟩, ⟨o, k it (by simp) o ho, r⟩, hne⟩
  item := by
    intro X hP hw hK hc i pins s σ H E I hf st hg
    subst hP hw hK
    obtain ⟨⟨old, he⟩, hit, hle, hne⟩ := st
    have hel : e < s.heap.objs.size := Heap.lt_size he
    have hil : it < s.heap.objs.size := by obtain ⟨_, q, _⟩ := hit; exact Heap.lt_size q
    have D := Draws.text (prog := X.prog) (w := X.w) (A := X.A.in1) (I.ok.hd hc) it z t
    refine wpAny_pyNext_enum_itemD D he hit hg hne (by simp [hne]) fun y h' tk hy ho hst' hT hsz hk => ?_
    obtain ⟨c, u, hcu, rfl⟩ := hy
    refine ⟨_, rfl, wpAny_letOwnedTupleGo_enum (s := { s with heap := h', toks := tk + 1 }) ho fun h'' he' sb => ?_⟩
    have hT2 : h''.get? s.heap.objs.size = some { cls := .type "tuple", data := .seq #[.int i tk, .str ⟨#[c]⟩ u] } := (sb.2 _ (Nat.ne_of_gt hel)).trans hT
    have new : ObjOk X.prog X.w (upd H s.heap.objs.size (.tup [.int (i : Nat), .str ⟨#[c]⟩])) h'' s.heap.objs.size (.tup [.int (i : Nat), .str ⟨#[c]⟩]) :=
      ⟨by show 2 ≤ sizeLine; decide, [.int i tk, .str ⟨#[c]⟩ u], .cons ⟨_, rfl⟩ (.cons ⟨_, rfl⟩ .nil), ⟨_, hT2, rfl, _, rfl⟩⟩
    have I1 : Inv X pins σ (upd H s.heap.objs.size (.tup [.int (i : Nat), .str ⟨#[c]⟩])) { s with heap := h'', toks := tk + 1 } :=
      I.turnedNew (ch := [e, it]) (fun b ob hb q => (sb.2 b (fun z => hb (by simp [z]))).trans (hk b ob (fun z => hb (by simp [z])) (fun z => hb (by simp [z])) q)) hf (Nat.le_refl _) new
    refine ⟨.ref s.heap.objs.size, _, I1, rfl, ⟨_, c, rfl, I.hok.fresh (Nat.le_refl _), rfl, hcu⟩, ⟨⟨.str ⟨#[c]⟩ u, ?_⟩, (by obtain ⟨o, q, r⟩ := hst'; exact ⟨o, (sb.2 it (Ne.symm hne)).trans q, r⟩), hg, hne⟩, fun b hb => ?_⟩
    · have e1 : ((i + 1 : Nat) : Int) = (i : Int) + 1 := by omega
      rw [e1]; exact he'
    · have hb' : b < s.heap.objs.size := by
        have e' : b = e ∨ b = it := by simpa using hb
        rcases e' with z | z
        · rw [z]; exact hel
        · rw [z]; exact hil
      rw [upd_ne (Nat.ne_of_lt hb')]
      exact (hf b hb).1
  done := by
    intro X hP hw hK hc i pins s σ H E I hf st hg
    subst hP hw hK
    obtain ⟨⟨old, he⟩, hit, hle, hne⟩ := st
    obtain ⟨f0, f1, f2, f3, f4, f5⟩ := hf it (by simp)
    have hi : i = z.cps.size := Nat.le_antisymm hle hg
    subst hi
    have D := Draws.text (prog := X.prog) (w := X.w) (A := X.A.in1) (I.ok.hd hc) it z t
    exact wpAny_pyNext_enum_endD D he hit fun h' eb => ⟨rfl, I.turned (t' := s.toks) (fun b o hb q => eb b o hb q) f0 f1 f3 f4 f5⟩
  self := fun A i s Q E st h => let ⟨⟨_, he⟩, _⟩ := st; wpAny_pyIter_enum he h
def iEnumT (K : PySem.W.Frag) (ta : TA) : TI := fun σ H R => ta σ H fun vs H1 => ∃ a xs, vs = [.ref a] ∧ SqT K H1 a xs ∧ R (IteT K a) H1
def iEnumS (ta : TA) : TI := fun σ H R => ta σ H fun vs H1 => ∃ z, vs = [.str z] ∧ R (IteS z) H1
theorem pi_enumT {X : Cx} {e : Expr} {ta : TA} {p pos tpos : Pos} {elts : List Expr} {kk : Nat} (hg : Gl X "enumerate") (hm : X.mg "enumerate" = none) (ha : PA X [e] ta) (hs : starEach [e] X.env = [(false, eval e X.env)] := by rfl) :
    PI X (.Tuple elts kk tpos) (.Call (.Name "enumerate" p) [e] [] pos) (iEnumT X.K ta) := by
  refine ⟨fun pins s σ H R I h => ?_⟩
  refine Call_ (ld_blt I hg hm boot_enumerate (PyProof.Rows.callWith_type1 (thn (ha.run pos pins s σ H _ I h) fun us s1 ⟨vs, H1, I1, r1, q1⟩ => ?_) hs rfl))
  obtain ⟨a, xs, ex, hq, q⟩ := q1
  subst ex
  cases r1 with
  | cons r rr =>
    cases rr
    cases r
    obtain ⟨its, rv, p', hz⟩ := I1.tuple hq
    have p2 : s1.heap.IsTuple a its.toArray := p'
    have hlt : a < s1.heap.objs.size := by obtain ⟨o1, ho1, _⟩ := id p2; exact Heap.lt_size ho1
    refine enum_new (begins_tuple a its.toArray) p2 fun h' he hit hsz hk => wpAny_pyIter_enum he ?_
    have I2 : Inv X pins σ H1 { s1 with heap := h' } := I1.kept (t' := s1.toks) hk
    refine ⟨s1.heap.objs.size + 1, [s1.heap.objs.size + 1, s1.heap.objs.size], _, _, H1, rfl, I2, turn_enumT a (s1.heap.objs.size + 1) s1.heap.objs.size, ⟨⟨.none, he⟩, ⟨_, hit, rfl, rfl⟩, Nat.succ_ne_self _, Nat.ne_of_lt hlt, Nat.ne_of_gt (Nat.lt_succ_of_lt hlt)⟩, fun b hb => ?_, q⟩
    have e' : b = s1.heap.objs.size + 1 ∨ b = s1.heap.objs.size := by simpa using hb
    have hle : s1.heap.objs.size ≤ b := by
      rcases e' with z | z
      · rw [z]; exact Nat.le_add_right _ _
      · rw [z]; exact Nat.le_refl _
    exact I1.fpOk hle (I1.hok.fresh hle)
theorem pi_enumS {X : Cx} {e : Expr} {ta : TA} {p pos tpos : Pos} {elts : List Expr} {kk : Nat} (hg : Gl X "enumerate") (hm : X.mg "enumerate" = none) (ha : PA X [e] ta) (hs : starEach [e] X.env = [(false, eval e X.env)] := by rfl) :
    PI X (.Tuple elts kk tpos) (.Call (.Name "enumerate" p) [e] [] pos) (iEnumS ta) := by
  refine ⟨fun pins s σ H R I h => ?_⟩
  refine Call_ (ld_blt I hg hm boot_enumerate (PyProof.Rows.callWith_type1 (thn (ha.run pos pins s σ H _ I h) fun us s1 ⟨vs, H1, I1, r1, q1⟩ => ?_) hs rfl))
  obtain ⟨z, ex, q⟩ := q1
  subst ex
  cases r1 with
  | cons r rr =>
    cases rr
    obtain ⟨t, rfl⟩ := r
    refine enum_new (begins_text z t) trivial fun h' he hit hsz hk => wpAny_pyIter_enum he ?_
    have I2 : Inv X pins σ H1 { s1 with heap := h' } := I1.kept (t' := s1.toks) hk
    refine ⟨s1.heap.objs.size + 1, [s1.heap.objs.size + 1, s1.heap.objs.size], _, _, H1, rfl, I2, turn_enumS z t (s1.heap.objs.size + 1) s1.heap.objs.size, ⟨⟨.none, he⟩, ⟨_, hit, rfl, rfl⟩, Nat.zero_le _, Nat.succ_ne_self _⟩, fun b hb => ?_, q⟩
    have e' : b = s1.heap.objs.size + 1 ∨ b = s1.heap.objs.size := by simpa using hb
    have hle : s1.heap.objs.size ≤ b := by
      rcases e' with z | z
      · rw [z]; exact Nat.le_add_right _ _
      · rw [z]; exact Nat.le_refl _
    exact I1.fpOk hle (I1.hok.fresh hle)
end Kq

set_option Elab.async false
set_option linter.all false
set_option maxRecDepth 100000
set_option maxHeartbeats 2000000
/-! calls of the text's defs; methods that change a list -/
namespace Kh
open PySem PySem.Spec PyProof.Rows L2

section
variable {T : Tab} {lv : Nat} {P : Program} {w : World} {K : PySem.W.Frag} {mg : Str → Option Value} {base : Heap} {c : Cs} {W : WX}
variable {σ : L2.St} {H H' : Hp} {ρ : En} {S : Foot} {Pr : List Addr} {p q : Bool}

/-- the places stand while another's things change -/
theorem SR.framed {Sa : Foot} (R : SR K Pr H σ ρ S) (k : ∀ a o, H a = some o → (∀ i, a ∉ Sa i) → H' a = some o) (ap : ∀ (i : Nat) (a : Addr), a ∈ Sa i → ∀ j, a ∉ S j) (hp : ∀ (i : Nat) (a : Addr), a ∈ Sa i → a ∉ Pr) (hm : ∀ (i : Nat) (a : Addr), a ∈ Sa i → MutAt H a) : SR K Pr H' σ ρ S := by
  have st : ∀ {L : List Addr}, (∀ a ∈ L, ∀ i, a ∉ Sa i) → Stay H H' L := fun {L} h a o e z => by
    refine k a o e fun i m => ?_
    rcases z with z | z
    · obtain ⟨u, e', w⟩ := hm i a m
      rw [e] at e'; cases e'
      cases o <;> simp_all [isPers, isMut]
    · exact h a z i m
  refine ⟨R.len, fun i d e => ?_, fun i d e => ?_, R.emp, R.nd, R.dj, fun i a m => ?_, R.pt, fun a m => ?_⟩
  · obtain ⟨v, e1, dr⟩ := R.own i d e
    exact ⟨v, e1, dr.stay (st fun a m j n => ap j a n i m)⟩
  · obtain ⟨v, L, e1, dr, hL⟩ := R.bor i d e
    exact ⟨v, L, e1, dr.stay (st fun a m j n => hp j a n (hL a m)), hL⟩
  · obtain ⟨o, e, z⟩ := R.mu i a m
    exact ⟨o, k a o e fun j n => ap j a n i m, z⟩
  · obtain ⟨o, e⟩ := R.pa a m
    exact ⟨o, k a o e fun j n => hp j a n m⟩
theorem SR.tail {s : Slot} {v : Option V} (R : SR K Pr H (v :: σ) (s :: ρ) S) : SR K Pr H σ ρ (fun k => S (k + 1)) :=
  ⟨by have := R.len; simp at this; exact this, fun i d e => R.own (i + 1) d e, fun i d e => R.bor (i + 1) d e, fun i e => R.emp (i + 1) e, fun i => R.nd (i + 1), fun i j a m n => Nat.succ.inj (R.dj (i + 1) (j + 1) a m n), fun i a m => R.mu (i + 1) a m, fun i a m => R.pt (i + 1) a m, R.pa⟩
theorem give_ok : ∀ (ls : List (Option Nat)) (fs : List Slot) (e e' : En) (Sg : Foot) (vs : List V) (S' : Foot), giveBack ls fs e = some e' → SR K Pr H σ e Sg → SR K Pr H (vs.map some) fs S' → (∀ (k : Nat) (a : Addr), a ∈ S' k → ∀ i, a ∉ Sg i) →
    (∀ (k i : Nat), ls[k]? = some (some i) → ∃ v, vs[k]? = some v ∧ σ[i]? = some (some v)) → ∃ Sg', SR K Pr H σ e' Sg' ∧ ∀ (i : Nat) (a : Addr), a ∈ Sg' i → a ∈ Sg i ∨ ∃ k, a ∈ S' k
  | [], fs, e, e', Sg, vs, S', h, R, A, ap, hv => by
    simp only [giveBack] at h
    cases h
    exact ⟨Sg, R, fun i a m => .inl m⟩
  | none :: r, [], e, e', Sg, vs, S', h, R, A, ap, hv => by simp [giveBack] at h
  | some i :: r, [], e, e', Sg, vs, S', h, R, A, ap, hv => by simp [giveBack] at h
  | none :: r, f :: fs, e, e', Sg, [], S', h, R, A, ap, hv => by have := A.len; simp at this
  | some i :: r, f :: fs, e, e', Sg, [], S', h, R, A, ap, hv => by have := A.len; simp at this
  | none :: r, f :: fs, e, e', Sg, v :: vs, S', h, R, A, ap, hv => by
    simp only [giveBack] at h
    obtain ⟨Sg', R', o⟩ := give_ok r fs e e' Sg vs _ h R A.tail (fun k a m => ap (k + 1) a m) fun k i q => hv (k + 1) i q
    exact ⟨Sg', R', fun i a m => (o i a m).imp id fun ⟨k, z⟩ => ⟨k + 1, z⟩⟩
  | some i :: r, f :: fs, e, e', Sg, v :: vs, S', h, R, A, ap, hv => by
    simp only [giveBack] at h
    split at h
    · rename_i en
      obtain ⟨v', e1, e2⟩ := hv 0 i rfl
      cases Option.some.inj e1
      have hi : i < e.length := (List.getElem?_eq_some_iff.mp en).1
      have e0 : Sg i = [] := R.emp i fun d q => by rw [en] at q; cases q
      have next : ∃ Sn : Foot, SR K Pr H σ (e.set i f) Sn ∧ ∀ (j : Nat) (a : Addr), a ∈ Sn j → a ∈ Sg j ∨ a ∈ S' 0 := by
        cases f with
        | no => exact ⟨_, R.drop' i, fun j a m => by
            by_cases q : j = i
            · subst q; rw [Foot.set_same] at m; cases m
            · rw [Foot.set_ne q] at m; exact .inl m⟩
        | own d =>
          obtain ⟨u, e3, dr⟩ := A.own 0 d rfl
          cases Option.some.inj e3
          have R2 := R.put (H' := H) (i := i) (d := d) (v := v) (L := S' 0) hi (fun a o q _ => q) dr (A.nd 0) fun a m => ⟨A.mu 0 a m, fun j _ => ap 0 a m j, A.pt 0 a m⟩
          rw [set_self e2] at R2
          exact ⟨_, R2, fun j a m => by
            by_cases q : j = i
            · subst q; rw [Foot.set_same] at m; exact .inr m
            · rw [Foot.set_ne q] at m; exact .inl m⟩
        | bor d =>
          obtain ⟨u, L, e3, dr, hL⟩ := A.bor 0 d rfl
          cases Option.some.inj e3
          have R2 := R.lend (i := i) dr hL
          rw [set_self e2] at R2
          exact ⟨_, R2, fun j a m => by
            by_cases q : j = i
            · subst q; rw [Foot.set_same] at m; cases m
            · rw [Foot.set_ne q] at m; exact .inl m⟩
      obtain ⟨Sn, Rn, on⟩ := next
      obtain ⟨Sg', R', o⟩ := give_ok r fs _ e' Sn vs _ h Rn A.tail (fun k a m j n => by
        rcases on j a n with z | z
        · exact ap (k + 1) a m j z
        · exact absurd (A.dj (k + 1) 0 a m z) (Nat.succ_ne_zero k)) fun k i q => hv (k + 1) i q
      refine ⟨Sg', R', fun j a m => ?_⟩
      rcases o j a m with z | ⟨k, z⟩
      · exact (on j a z).imp id fun z => ⟨0, z⟩
      · exact .inr ⟨k + 1, z⟩
    · cases h
theorem OkP.bindK {α β : Type} {fin : α → En → Hp → Foot → Prop} {o : Out β} {f : β → En → Out α} (h : OkP K mg W false Pr σ H S fin (o.bind f)) : OkP K mg W p Pr σ H S (fun b e _ _ => OkP K mg W false Pr σ H S fin (f b e)) o := by
  cases o with
  | bad => exact h
  | exc c x y e => exact h
  | ok b e => exact fun _ _ _ _ => h
theorem se_call (G : Gl0 T lv P w K mg base) {f g : Str} {es : Es} {x : Expr} {xs : List Expr} {gp pos : Pos} (hf : f = g) (hgl : c.glo g = true) (hn : fine g = true) (hc : chkEs c es (x :: xs) = true) (se : SEs T lv P w K mg base c W es (x :: xs)) :
    SE T lv P w K mg base c W (.call f es) (.Call (.Name g gp) (x :: xs) [] pos) := by
  subst hf
  obtain ⟨hx, r, hr⟩ : plainX x = true ∧ ∃ r, chkEs c r xs = true := by
    cases es with
    | nil => simp [chkEs] at hc
    | cons e r =>
      simp only [chkEs, Bool.and_eq_true] at hc
      exact ⟨chk_plain hc.1, r, hc.2⟩
  cases hq : T.fn f with
  | none => exact se_bad fun own ρ => by simp only [evalE, hq]
  | some gf =>
    obtain ⟨t, pt, _, _, at'⟩ := se
    obtain ⟨a, fd, ps, m1, m2, m3, m4, m5⟩ := G.fn f gf hq
    refine ⟨tCallS (spF K mg ps.length gf) (WE W) t, fun X gd => ?_, fun own σ H ρ S Pr Q R ok => ?_⟩
    · have gd0 := gd
      obtain ⟨h1, h2, h3, h4, h5, h6, _, _, _, _, hroom, _, htk⟩ := gd
      subst h1 h2 h3 h4 h5
      exact pe_callS m4 hroom (isGlo_gl h6 hgl) m1 m2 m3 (fun σ => passAt htk σ) (pt X gd0) (fine_of hn).1 (pl_star hx) (back_any pos (star_all hr))
    · simp only [evalE, hq, E.pure, Bool.false_and] at ok
      show t σ H _
      refine at' σ H ρ S Pr _ R ((ok.bindK (p := false)).mono fun as e1 H1 S1 R1 F1 ok1 vs Sa A => ?_)
      unfold callF at ok1
      have hl : as.length = vs.length := by have := A.sr.len; simpa using this
      have hz : gf (as.map (·.1)) ≠ .bad := fun e => by rw [e] at ok1; exact ok1
      have keep : ∀ {H' : Hp}, (∀ a o, H1 a = some o → (∀ i, a ∉ Sa i) → H' a = some o) → ∀ a o, H a = some o → (∀ i, a ∉ S i) → H' a = some o := fun {H'} hk a o q n => by
        refine hk a o (F1.keep a o q n) fun k m => ?_
        rcases A.pv k a m with ⟨i, z⟩ | z
        · exact n i z
        · rw [z] at q; cases q
      refine ⟨by rw [← hl, ← m5 _ hz, List.length_map], as.map (·.1), Pr, Sa, A.sr, ?_⟩
      cases e : gf (as.map (·.1)) with
      | bad => exact absurd e hz
      | exc c' x' y' e' =>
        rw [e] at ok1
        intro C dd H' hm hk hx
        have R' := R1.framed hk (fun i a m j => A.ap i a m j) A.sr.pt A.sr.mu
        exact ok1 C dd H' S1 hm R' ⟨keep hk, F1.own, fun e => nomatch e⟩ hx
      | ok d fin =>
        rw [e] at ok1
        intro v H' S' L A' F' dr rs
        have R' := R1.framed F'.keep (fun i a m j => A.ap i a m j) A.sr.pt A.sr.mu
        have ap' : ∀ (k : Nat) (a : Addr), a ∈ S' k → ∀ i, a ∉ S1 i := fun k a m i n => by
          rcases F'.own k a m with ⟨j, z⟩ | z
          · exact A.ap j a z i n
          · exact (R1.mu i a n).there z
        cases e2 : giveBack (as.map (·.2)) fin e1 with
        | none => simp only [e2] at ok1; exact ok1.elim
        | some e' =>
          simp only [e2] at ok1
          obtain ⟨Sg, Rg, og⟩ := give_ok _ _ _ _ _ vs S' e2 R' A' ap' fun k i q => by
            rw [List.getElem?_map] at q
            cases z : as[k]? with
            | none => rw [z] at q; cases q
            | some s =>
              rw [z] at q
              have q' : s.2 = some i := Option.some.inj q
              exact A.ld k i s.1 (by rw [z, ← q'])
          have prov : ∀ (a : Addr), (∃ j, a ∈ Sa j) ∨ H1 a = none → (∃ i, a ∈ S i) ∨ H a = none := fun a h => by
            rcases h with ⟨j, z⟩ | z
            · exact A.pv j a z
            · exact F1.none_of z
          obtain ⟨n1, h1⟩ := rs.mine rfl
          refine ok1 H' Sg Rg ⟨keep F'.keep, fun i a m => ?_, fun e => nomatch e⟩ v L dr (Res.of ⟨n1, fun a m => ⟨fun i n => ?_, (h1 a m).2.1, prov a (h1 a m).2.2.1, (h1 a m).2.2.2⟩⟩)
          · rcases og i a m with z | ⟨k, z⟩
            · exact F1.own i a z
            · exact prov a (F'.own k a z)
          · rcases og i a n with z | ⟨k, z⟩
            · rcases (h1 a m).2.2.1 with ⟨j, y⟩ | y
              · exact A.ap j a y i z
              · exact (R1.mu i a z).there y
            · exact (h1 a m).1 k z
end
end Kh

set_option Elab.async false
set_option linter.all false
set_option maxRecDepth 100000
set_option maxHeartbeats 2000000
/-! containers changed in place; d.setdefault(k, v) -/
namespace Kh
open PySem PySem.Spec PyProof.Rows L2
section
variable {K : PySem.W.Frag} {H : Hp}
theorem KRs.app {k : I} {q : Key} {d : D} {v : V} {R : List Addr} (hk : keyOf k = some q) (h : DR K H d v R) : ∀ {kvs : List (I × D)} {ws : List (Key × V)} {L : List Addr}, KRs K H kvs ws L → KRs K H (kvs ++ [(k, d)]) (ws ++ [(q, v)]) (L ++ R)
  | _, _, _, .nil => by
    have r := KRs.cons hk h (.nil (K := K) (H := H))
    rw [List.append_nil] at r
    exact r
  | _, _, _, .cons (S := S) (R := R') e a r => by
    rw [List.append_assoc]
    exact .cons e a (KRs.app hk h r)
theorem putK_skip {ws : List (Key × V)} {p : Key × V} {q : Key} {v : V} (h : ¬ p.1 = q) : putK (p :: ws) q v = p :: putK ws q v := by
  unfold putK
  simp only [List.any_cons, h, decide_false, Bool.false_or, List.map_cons, if_false]
  split <;> rfl
theorem putK_hit {ws : List (Key × V)} {p : Key × V} {q : Key} {v : V} (h : p.1 = q) (n : q ∉ ws.map (·.1)) : putK (p :: ws) q v = (q, v) :: ws := by
  unfold putK
  simp only [List.any_cons, h, decide_true, Bool.true_or, if_true, List.map_cons]
  congr 1
  refine (List.map_congr_left fun a m => ?_).trans (List.map_id _)
  rw [if_neg fun e => n (List.mem_map.mpr ⟨a, m, e⟩)]
  rfl
theorem KRs.put {k : I} {q : Key} {d : D} {v : V} {R : List Addr} (hk : keyOf k = some q) (h : DR K H d v R) : ∀ {kvs kvs' : List (I × D)} {ws : List (Key × V)} {L : List Addr}, KRs K H kvs ws L → (ws.map (·.1)).Nodup → dput k d kvs = some kvs' →
    (∃ L1 L2 L3, L = L1 ++ (L2 ++ L3) ∧ KRs K H kvs' (putK ws q v) (L1 ++ (R ++ L3))) ∧ ((putK ws q v).map (·.1)).Nodup ∧ ∀ x ∈ (putK ws q v).map (·.1), x ∈ ws.map (·.1) ∨ x = q
  | _, _, _, _, .nil, _, e => by
    simp only [dput] at e
    cases e
    refine ⟨⟨[], [], [], rfl, ?_⟩, by simp [putK], fun x m => .inr (by simpa [putK] using m)⟩
    exact KRs.cons (S := R) (R := []) hk h .nil
  | _, kvs', _, _, .cons (k := j) (q := q') (d := dd) (v := vv) (S := S) (ds := ds) (vs := vs) (R := L3) e a r, n, eq => by
    simp only [dput] at eq
    rw [key_inj e hk] at eq
    have n1 : q' ∉ vs.map (·.1) := by
      have := n; simp only [List.map_cons, List.nodup_cons] at this; exact this.1
    have n2 : (vs.map (·.1)).Nodup := by
      have := n; simp only [List.map_cons, List.nodup_cons] at this; exact this.2
    by_cases z : q' = q
    · subst z
      simp only [decide_true, Option.bind_some, if_true] at eq
      cases eq
      rw [putK_hit (p := (q', vv)) rfl n1]
      exact ⟨⟨[], S, L3, rfl, KRs.cons (S := R) e h r⟩, n, fun x m => .inl m⟩
    · simp only [z, decide_false, Option.bind_some, Bool.false_eq_true, if_false] at eq
      cases y : dput k d ds with
      | none => rw [y] at eq; cases eq
      | some ds' =>
        rw [y] at eq
        cases eq
        obtain ⟨⟨L1, L2, L3', e1, e2⟩, m1, m2⟩ := KRs.put hk h r n2 y
        rw [putK_skip (p := (q', vv)) z]
        refine ⟨⟨S ++ L1, L2, L3', by rw [e1, List.append_assoc], ?_⟩, ?_, fun x m => ?_⟩
        · rw [List.append_assoc]
          exact .cons e a e2
        · rw [List.map_cons, List.nodup_cons]
          refine ⟨fun m => ?_, m1⟩
          rcases m2 _ m with m | m
          · exact n1 m
          · exact z m
        · rw [List.map_cons, List.mem_cons] at m
          rcases m with m | m
          · exact .inl (by rw [m]; exact List.mem_cons_self)
          · exact (m2 x m).imp (fun m => List.mem_cons_of_mem _ m) id
end
section
variable {K : PySem.W.Frag} {H : Hp} {σ : L2.St} {ρ : En} {Sv : Foot} {Pr : List Addr} {p : Bool}
/-- a place's container is changed in place: r its address; M the new parts -/
theorem SR.mutA {i : Nat} {d d' : D} {a : Addr} {L M : List Addr} {o : HO} (R : SR K Pr H σ ρ Sv) (e : ρ[i]? = some (.own d)) (es : σ[i]? = some (some (.ref a))) (hs : Sv i = a :: L) (ho : isMut o = true)
    (hd : ∀ H', H' a = some o → Stay H H' M → DR K H' d' (.ref a) (a :: M)) (nd : M.Nodup) (hM : ∀ b ∈ M, b ≠ a ∧ MutAt H b ∧ (∀ j, j ≠ i → b ∉ Sv j) ∧ b ∉ Pr) : SR K Pr (upd H a o) σ (ρ.set i (.own d')) (Sv.set i (a :: M)) := by
  have hi : i < ρ.length := (List.getElem?_eq_some_iff.mp e).1
  have ma : a ∈ Sv i := by rw [hs]; exact List.mem_cons_self
  have k : ∀ b u, H b = some u → b ∉ Sv i → (upd H a o) b = some u := fun b u q n => by
    rw [upd_ne (fun z : b = a => n (z ▸ ma))]; exact q
  have st : Stay H (upd H a o) M := fun b u q z => by
    rw [upd_ne fun y : b = a => ?_]
    · exact q
    · subst y
      rcases z with z | z
      · exact R.pers q z i ma
      · exact (hM b z).1 rfl
  have r := R.put (d := d') (v := .ref a) (L := a :: M) hi k (hd _ upd_same st) (List.nodup_cons.mpr ⟨fun m => (hM a m).1 rfl, nd⟩) fun b m => by
    rcases List.mem_cons.mp m with rfl | m
    · exact ⟨⟨_, upd_same, ho⟩, fun j n z => n (R.dj j i b z ma), R.pt i b ma⟩
    · obtain ⟨u, q, z⟩ := (hM b m).2.1
      exact ⟨⟨u, st b u q (.inr m), z⟩, (hM b m).2.2.1, (hM b m).2.2.2⟩
  rw [set_self es] at r
  exact r
theorem Fr.mutK {H0 : Hp} {S0 : Foot} {i : Nat} {a : Addr} {o : HO} {M : List Addr} (F : Fr p H0 S0 H Sv) (ma : a ∈ Sv i) (hM : ∀ b ∈ M, (∃ j, b ∈ S0 j) ∨ H0 b = none) : Fr false H0 S0 (upd H a o) (Sv.set i (a :: M)) := by
  refine ⟨fun b u q n => ?_, fun j b m => ?_, fun e => nomatch e⟩
  · rw [upd_ne fun z : b = a => ?_]
    · exact F.keep b u q n
    · subst z
      rcases F.own i b ma with ⟨j, y⟩ | y
      · exact n j y
      · rw [y] at q; cases q
  · by_cases h : j = i
    · subst h
      rw [Foot.set_same] at m
      rcases List.mem_cons.mp m with rfl | m
      · exact F.own j b ma
      · exact hM b m
    · rw [Foot.set_ne h] at m
      exact F.own j b m
end
section
variable {T : Tab} {lv : Nat} {P : Program} {w : World} {K : PySem.W.Frag} {mg : Str → Option Value} {base : Heap} {c : Cs} {W : WX}
theorem stay_updD {H : Hp} {a : Addr} {ws : List (Key × V)} {o : HO} (h : H a = some (.dK ws)) : Stay H (upd H a o) [] := fun b u q z => by
  rcases z with z | z
  · rw [upd_ne fun e : b = a => by
      subst e
      rw [h] at q
      cases q
      cases z]
    exact q
  · cases z
theorem se_sd {i : Nat} {a b : E} {x : Str} {y z : Expr} {xp apos pos : Pos} (hv : chkE c (.var i) (.Name x xp) = true) (hy : plainX y = true) (hz : plainX z = true) (hl : (apos.endLine == pos.line) = true) (sa : SE T lv P w K mg base c W a y) (sb : SE T lv P w K mg base c W b z) :
    SE T lv P w K mg base c W (.mut .setdefault i (.cons a (.cons b .nil))) (.Call (.Attribute (.Name x xp) "setdefault" apos) [y, z] [] pos) := by
  obtain ⟨ta, pa, ea⟩ := sa
  obtain ⟨tb, pb, eb⟩ := sb
  obtain ⟨pv', _⟩ := se_var' (T := T) (lv := lv) (P := P) (w := w) (K := K) (mg := mg) (base := base) (W := W) hv
  refine ⟨tDSetd (tVar i) ta tb, fun X g => ?_, fun own σ H ρ S Pr Q R ok => ?_⟩
  · have h2 : starEach [y, z] X.env = [(false, eval y X.env), (false, eval z X.env)] := by rw [pl_star hy, pl_star hz]; rfl
    exact pe_dsetd (pv' X g) (pa X g) (pb X g) ⟨pl_attr rfl, by rw [h2]; rfl, hl, by rw [h2]; rfl⟩
  · simp only [evalE, Mm.sup, Mm.sd, if_true, evalBs, bind_assoc'] at ok
    split at ok
    · rename_i t0 kvs0 e0
      obtain ⟨v0, es, dr0⟩ := R.own i _ e0
      obtain ⟨a', ws0, R0, rfl, ha0, ra0, hL0, nk0⟩ := dr0.dct_inv rfl
      refine ⟨_, es, a', rfl, .inl ⟨ws0, ha0⟩, ?_⟩
      refine use_E ea R (q := false) (by simpa only [Bool.and_false, E.pure, Bool.false_and] using ok) fun y' e1 H1 S1 u M R1 F1 d1 _ ok3 => ?_
      obtain ⟨k, rfl, ok4⟩ := okAsIm ok3
      refine use_E eb R1 (q := false) (by simpa only [Bool.and_false] using ok4) fun z' e2 H2 S2 u2 M2 R2 F2 d2 _ ok5 => ?_
      obtain ⟨v, rfl, ok6⟩ := okAsIm ok5
      simp only [Out.bind] at ok6
      unfold sdO at ok6
      split at ok6
      · rename_i kvs k' v' e3 ek
        cases ek
        split at ok6
        · rename_i hc
          rw [Bool.and_eq_true, decide_eq_true_eq] at hc
          obtain ⟨_, qk, hq⟩ := keyOk_some hc.1
          obtain ⟨v1, es1, dr⟩ := R2.own i _ e3
          rw [es] at es1
          cases es1
          have nds := R2.nd i
          have mus := R2.mu i
          have pts := R2.pt i
          have djs := fun j a (x : a ∈ S2 i) (y : a ∈ S2 j) => R2.dj j i a y x
          generalize hsi : S2 i = Si at dr nds mus pts djs
          obtain ⟨a2, ws, L, ea2, ha, ra, rfl, nk⟩ := dr.dct_inv rfl
          cases ea2
          have ha' : H2 a' = some (.dK ws) := by
            rcases ha with ha | ⟨o, ha⟩
            · exact ha
            · obtain ⟨u, q1, q2⟩ := mus a' List.mem_cons_self
              rw [ha] at q1; cases q1; cases q2
          have hu : u = kV qk := key_val hq (d1.still (q := b.pure) (by rfl) F2 R1).im_inv.2
          have hlen : ws.length < sizeLine := by
            rw [← ra.length]
            exact Nat.lt_of_lt_of_le hc.2 (by decide)
          refine ⟨ws, qk, ha', hu, hlen, fun v1 hv1 => ?_, fun hn => ?_⟩
          · split at ok6
            · rename_i hl
              rcases lkup_K ra hq hl with ⟨_, h2⟩ | ⟨d', v', R'', h0, _⟩
              · rw [hv1] at h2; cases h2
              · cases h0
            · rename_i y0 hl
              rcases lkup_K ra hq hl with ⟨h0, _⟩ | ⟨d', v', R'', h0, h2, h3, _⟩
              · cases h0
              · cases h0
                rw [hv1] at h2
                cases h2
                obtain ⟨_, ir⟩ := h3.im_inv
                exact ok6 _ _ R2 Fr.refl v1 [] (.im ir) Res.nil
            · exact ok6.elim
          · split at ok6
            · split at ok6
              · rename_i kvs' hp
                obtain ⟨⟨L1, L2, L3, eL, rs⟩, nk', _⟩ := KRs.put hq d2 ra nk hp
                subst eL
                obtain ⟨_, ir⟩ := d2.im_inv
                have sub : ∀ b ∈ L1 ++ (M2 ++ L3), b ∈ L1 ++ (L2 ++ L3) := fun b m => by
                  obtain ⟨e0, _⟩ := d2.im_inv
                  subst e0
                  simp only [List.nil_append, List.mem_append] at m ⊢
                  exact m.imp id .inr
                have ndM : (L1 ++ (M2 ++ L3)).Nodup := by
                  obtain ⟨e0, _⟩ := d2.im_inv
                  subst e0
                  exact (List.nodup_cons.mp nds).2.sublist (List.Sublist.append (List.Sublist.refl _) (List.sublist_append_right _ _))
                refine ok6 _ _ (R2.mutA e3 es hsi rfl (fun H' h' st => .dK nk' (.inl h') (rs.stay st)) ndM fun b m => ?_) (Fr.refl.mutK (p := true) (by rw [hsi]; exact List.mem_cons_self) fun b m => ?_) u2 [] (.im (ir.stay (stay_updD ha'))) Res.nil
                · have x' : b ∈ a' :: (L1 ++ (L2 ++ L3)) := List.mem_cons_of_mem _ (sub b m)
                  exact ⟨fun e => (List.nodup_cons.mp nds).1 (e ▸ sub b m), mus b x', fun j hj y => hj (djs j b x' y), pts b x'⟩
                · exact .inl ⟨i, by rw [hsi]; exact List.mem_cons_of_mem _ (sub b m)⟩
              · exact ok6.elim
            · rename_i y0 hl
              rcases lkup_K ra hq hl with ⟨h0, _⟩ | ⟨d', v', R'', h0, h2, h3, _⟩
              · cases h0
              · rw [hn] at h2; cases h2
            · exact ok6.elim
        · exact ok6.elim
      · exact ok6.elim
    · exact ok.elim
end
end Kh

set_option Elab.async false
set_option linter.all false
set_option maxRecDepth 100000
set_option maxHeartbeats 2000000
/-! methods that change a list -/
namespace Kh
open PySem PySem.Spec PyProof.Rows L2

section
variable {T : Tab} {lv : Nat} {P : Program} {w : World} {K : PySem.W.Frag} {mg : Str → Option Value} {base : Heap} {c : Cs} {W : WX}
variable {σ : L2.St} {H H' : Hp} {ρ : En} {S : Foot} {Pr : List Addr} {p q : Bool}

theorem DRs.snoc {d : D} {v : V} {R : List Addr} : ∀ {xs : List D} {vs : List V} {L : List Addr}, DRs K H xs vs L → DR K H d v R → DRs K H (xs ++ [d]) (vs ++ [v]) (L ++ R) := fun {xs vs L} r h => by
  have q := r.append (DRs.cons h .nil)
  rw [List.append_nil] at q
  exact q
theorem DRs.last : ∀ {xs : List D} {vs : List V} {L : List Addr} {d : D}, DRs K H xs vs L → xs.getLast? = some d → ∃ v L1 L2, vs[vs.length - 1]? = some v ∧ DRs K H xs.dropLast vs.dropLast L1 ∧ DR K H d v L2 ∧ L = L1 ++ L2
  | _, _, _, _, .nil, h => by cases h
  | [x], [v], _, d, .cons (S := S) a .nil, h => by
    cases h
    exact ⟨v, [], S, rfl, .nil, a, by simp⟩
  | x :: y :: xs, v :: u :: vs, _, d, .cons (S := S) a r, h => by
    rw [List.getLast?_cons_cons] at h
    obtain ⟨z, L1, L2, h1, h2, h3, h4⟩ := DRs.last r h
    refine ⟨z, S ++ L1, L2, ?_, .cons a h2, h3, by rw [h4, List.append_assoc]⟩
    show (v :: u :: vs)[(u :: vs).length]? = _
    rw [List.getElem?_cons]
    simpa using h1
theorem ix_bnd {n k : Nat} {i : Int} (h : (if n ≤ big then ixN n i else none) = some k) : -(2 ^ 63) ≤ i ∧ i < 2 ^ 63 ∧ seqIndex? i n = some k := by
  split at h
  · rename_i hb
    unfold big at hb
    obtain ⟨h1, h2, h3, h4⟩ := ixN_seq h
    exact ⟨by omega, by omega, h1⟩
  · cases h
theorem erase_map {α β : Type} (f : α → β) : ∀ (xs : List α) (k : Nat), (xs.eraseIdx k).map f = (xs.map f).eraseIdx k
  | [], _ => rfl
  | _ :: _, 0 => rfl
  | x :: xs, k + 1 => congrArg (f x :: ·) (erase_map f xs k)
theorem IRs.erase : ∀ (k : Nat) {xs : List I} {vs : List V}, IRs K H xs vs → IRs K H (xs.eraseIdx k) (vs.eraseIdx k)
  | _, _, _, .nil => .nil
  | 0, _, _, .cons _ r => r
  | k + 1, _, _, .cons a r => .cons a (IRs.erase k r)
theorem IRs.dropI (n : Nat) {xs : List I} {vs : List V} (r : IRs K H xs vs) : IRs K H (xs.drop n) (vs.drop n) := r.drop n
theorem IRs.takeI (n : Nat) {xs : List I} {vs : List V} (r : IRs K H xs vs) : IRs K H (xs.take n) (vs.take n) := r.take n
theorem stay_upd {a : Addr} {us vs : List V} (h : H a = some (.lst vs)) : Stay H (upd H a (.lst us)) [] := fun b o q z => by
  rcases z with z | z
  · rw [upd_ne fun e : b = a => by
      subst e
      rw [h] at q
      cases q
      cases z]
    exact q
  · cases z
def rIns : V → List V → Hp → VK → Prop := fun x vs H Q => ∃ (l : Addr) (xs : List V) (i : Int) (y : V), x = .ref l ∧ vs = [.int i, y] ∧ H l = some (.lst xs) ∧ xs.length < sizeLine ∧ 0 ≤ i ∧ i < 2 ^ 63 ∧ Q .non (upd H l (.lst (xs.take i.toNat ++ [y] ++ xs.drop i.toNat)))
def rMm : Mm → V → List V → Hp → VK → Prop
  | .append => rAppend
  | .extend => rExtend
  | .pop => fun x vs H Q => rPop x vs H Q ∨ rPopAt x vs H Q
  | .insert => rIns
  | _ => fun _ _ _ _ => False
def Mm.idl : Mm → String
  | .append => "list.append" | .extend => "list.extend" | .pop => "list.pop" | .insert => "list.insert" | _ => "list.append"
theorem mt_mm {X : Cx} {m : Mm} : MtR X m.idl (rMm m) := by
  cases m
  case append => exact mt_append
  case extend => exact mt_extend
  case pop => exact fun pins s σ H x xs v us Q I r1 r2 h => h.elim (mt_pop pins s σ H x xs v us Q I r1 r2) (mt_popAt pins s σ H x xs v us Q I r1 r2)
  case insert => exact mt_insert
  all_goals exact fun _ _ _ _ _ _ _ _ _ _ _ _ h => h.elim
theorem slot_mm {m : Mm} (h : m.sup = true) : PySem.Slot "list" m.nm m.idl := by
  cases m
  case append => exact PySem.F.slot_list_append
  case extend => exact PySem.F.slot_list_extend
  case pop => exact PySem.F.slot_list_pop
  case insert => exact PySem.F.slot_list_insert
  all_goals exact absurd h Bool.false_ne_true
theorem type_mm {m : Mm} (h : m.sup = true) : typeOf (.builtin m.idl) = pure (.type "method_descriptor") := by
  cases m
  case append => exact PySem.F.type_list_append
  case extend => exact PySem.F.type_list_extend
  case pop => exact PySem.F.type_list_pop
  case insert => exact PySem.F.type_list_insert
  all_goals exact absurd h Bool.false_ne_true
/-- a place's list is changed in place -/
theorem SR.lst {i : Nat} {xs : List D} (R : SR K Pr H σ ρ S) (e : ρ[i]? = some (.own (.lst xs))) : ∃ a vs L, σ[i]? = some (some (.ref a)) ∧ H a = some (.lst vs) ∧ DRs K H xs vs L ∧ S i = a :: L ∧
    ∀ ys us M, DRs K H ys us M → M.Nodup → (∀ b ∈ M, b ≠ a ∧ MutAt H b ∧ (∀ j, j ≠ i → b ∉ S j) ∧ b ∉ Pr) → SR K Pr (upd H a (.lst us)) σ (ρ.set i (.own (.lst ys))) (S.set i (a :: M)) := by
  obtain ⟨v, e1, dr⟩ := R.own i _ e
  generalize hs : S i = Si at dr
  obtain ⟨a, vs, L, rfl, ha, ra, rfl⟩ := dr.lst_inv
  refine ⟨a, vs, L, e1, ha, ra, rfl, fun ys us M rm nd hM => ?_⟩
  have hi : i < ρ.length := (List.getElem?_eq_some_iff.mp e).1
  have ma : a ∈ S i := by rw [hs]; exact List.mem_cons_self
  have k : ∀ b o, H b = some o → b ∉ S i → (upd H a (.lst us)) b = some o := fun b o q n => by
    rw [upd_ne (fun z : b = a => n (z ▸ ma))]; exact q
  have st : Stay H (upd H a (.lst us)) M := fun b o q z => by
    rw [upd_ne fun y : b = a => ?_]
    · exact q
    · subst y
      rcases z with z | z
      · exact R.pers q z i ma
      · exact (hM b z).1 rfl
  have r := R.put (d := .lst ys) (v := .ref a) (L := a :: M) hi k (.lst upd_same (rm.stay st)) (List.nodup_cons.mpr ⟨fun m => (hM a m).1 rfl, nd⟩) fun b m => by
    rcases List.mem_cons.mp m with rfl | m
    · exact ⟨⟨_, upd_same, rfl⟩, fun j n z => n (R.dj j i b z ma), R.pt i b ma⟩
    · obtain ⟨o, q, z⟩ := (hM b m).2.1
      exact ⟨⟨o, st b o q (.inr m), z⟩, (hM b m).2.2.1, (hM b m).2.2.2⟩
  rw [set_self e1] at r
  exact r
theorem Fr.lstK {H0 : Hp} {S0 : Foot} {i : Nat} {a : Addr} {us : List V} {M : List Addr} (F : Fr p H0 S0 H S) (ma : a ∈ S i) (hM : ∀ b ∈ M, (∃ j, b ∈ S0 j) ∨ H0 b = none) : Fr false H0 S0 (upd H a (.lst us)) (S.set i (a :: M)) := by
  refine ⟨fun b o q n => ?_, fun j b m => ?_, fun e => nomatch e⟩
  · rw [upd_ne fun z : b = a => ?_]
    · exact F.keep b o q n
    · subst z
      rcases F.own i b ma with ⟨j, y⟩ | y
      · exact n j y
      · rw [y] at q; cases q
  · by_cases h : j = i
    · subst h
      rw [Foot.set_same] at m
      rcases List.mem_cons.mp m with rfl | m
      · exact F.own j b ma
      · exact hM b m
    · rw [Foot.set_ne h] at m
      exact F.own j b m
theorem use_EsK {α : Type} {es : Es} {ta : TA} {Q : List V → Hp → Prop} {fin : α → En → Hp → Foot → Prop} {f : List D → En → Out α} (ea : SpEs T K mg W es ta) (R : SR K Pr H σ ρ S)
    (ok : OkP K mg W false Pr σ H S fin ((evalEs T es ρ).bind f))
    (k : ∀ ds e1 H1 S1 vs L, ds.length = es.len → SR K Pr H1 σ e1 S1 → Fr false H S H1 S1 → DRs K H1 ds vs L → Res true [] Pr H S H1 S1 L → OkP K mg W false Pr σ H S fin (f ds e1) → Q vs H1) : ta σ H Q := by
  refine ea σ H ρ S Pr Q R ?_
  cases e : evalEs T es ρ with
  | bad => rw [e] at ok; exact ok
  | exc _ _ _ _ => rw [e] at ok; exact ok
  | ok ds e1 =>
    rw [e] at ok
    exact fun H1 S1 R1 F1 vs L dr rs => k ds e1 H1 S1 vs L (evalEs_len e) R1 F1 dr rs ok
theorem few_ok {env : PySem.Env} {pos : Pos} {xs : List Expr} (h : starEach xs env = xs.map fun x => (false, eval x env)) (hl : xs.length < 20) :
    ((backTo pos (starEach xs env)).all (fun x => !x.1) && (backToKw pos (keywordEach [] env)).all (fun x => x.1.isSome) && decide (xs.length + ([] : List Keyword).length + (if ([] : List Keyword).isEmpty then 0 else 1) < 30)) = true := by
  have h1 : (backTo pos (starEach xs env)).all (fun x => !x.1) = true := by
    rw [h]
    unfold backTo
    rw [List.map_map, List.all_map]
    exact List.all_eq_true.mpr fun x _ => rfl
  have h2 : xs.length + ([] : List Keyword).length + (if ([] : List Keyword).isEmpty then 0 else 1) < 30 := by
    show xs.length + 0 + 0 < 30
    omega
  rw [h1, decide_eq_true h2]
  rfl
theorem se_mut {m : Mm} {i : Nat} {es : Es} {x : Str} {xs : List Expr} {xp apos pos : Pos} (hm : m ≠ .setdefault) (hv : chkE c (.var i) (.Name x xp) = true) (hc : chkEs c es xs = true) (hl : (apos.endLine == pos.line) = true) (hz : es.len < 20) (se : SEs T lv P w K mg base c W es xs) :
    SE T lv P w K mg base c W (.mut m i es) (.Call (.Attribute (.Name x xp) m.nm apos) xs [] pos) := by
  cases hs : m.sup with
  | false => exact se_bad fun own ρ => (by
      have hd : m.sd = false := (by cases m <;> first | rfl | exact absurd rfl hm)
      simp [evalE, hs, hd])
  | true =>
    clear hm
    obtain ⟨t, pt, et, hnil⟩ : ∃ t : TA, (∀ X, Gd lv c W P w K mg base X → PA X xs t) ∧ SpEs T K mg W es t ∧ (xs = [] → t = tNil) := by
      cases es with
      | nil =>
        cases xs with
        | nil => exact ⟨tNil, fun X g => pa_nil, fun σ H ρ S Pr Q R ok => by
            simp only [evalEs] at ok
            exact ok H S R Fr.refl [] [] .nil Res.nil, fun _ => rfl⟩
        | cons _ _ => simp [chkEs] at hc
      | cons _ _ =>
        obtain ⟨t, pt, et, _, _⟩ := se
        cases xs with
        | nil => simp [chkEs] at hc
        | cons _ _ => exact ⟨t, pt, et, fun e => nomatch e⟩
    obtain ⟨pv', _⟩ := se_var' (T := T) (lv := lv) (P := P) (w := w) (K := K) (mg := mg) (base := base) (W := W) hv
    have spec : ∀ (Q : VK) (σ : L2.St) (H : Hp) (ρ : En) (S : Foot) (Pr : List Addr) (own : Bool), SR K Pr H σ ρ S → OkP K mg W false Pr σ H S (finE K own [] Pr H S Q) (evalE T (.mut m i es) own ρ) →
        ∃ v, σ[i]? = some (some v) ∧ tyV K "list" v H ∧ t σ H fun xs H2 => rMm m v xs H2 Q := by
      intro Q σ H ρ S Pr own R ok
      simp only [evalE, hs, Bool.true_eq_false, if_false] at ok
      split at ok
      · rename_i xs0 e0
        obtain ⟨a, vs0, L0, e1, ha, _, _, _⟩ := R.lst e0
        refine ⟨.ref a, e1, .inl ⟨rfl, vs0, SqL.of ha⟩, ?_⟩
        refine use_EsK et R ok fun ds e2 H1 S1 vs L hlen R1 F1 d1 r1 ok1 => ?_
        split at ok1
        · rename_i d ed
          split at ok1
          · rename_i r d' hm
            obtain ⟨n1, h1⟩ := r1.mine rfl
            -- what the list owns
            have inn : ∀ {L2 : List Addr}, S1 i = a :: L2 → a ∈ S1 i ∧ (∀ b ∈ L2, b ∈ S1 i) ∧ a ∉ L2 ∧ L2.Nodup := fun {L2} es => by
              have nd := R1.nd i
              rw [es] at nd
              rw [es]
              exact ⟨List.mem_cons_self, fun b m => List.mem_cons_of_mem _ m, (List.nodup_cons.mp nd).1, (List.nodup_cons.mp nd).2⟩
            have old : ∀ b ∈ S1 i, b ≠ a → b ≠ a ∧ MutAt H1 b ∧ (∀ j, j ≠ i → b ∉ S1 j) ∧ b ∉ Pr := fun b m n => ⟨n, R1.mu i b m, fun j q z => q (R1.dj j i b z m), R1.pt i b m⟩
            unfold mutD at hm
            split at hm
            · -- append
              rename_i xs d0
              split at hm
              · rename_i hz
                cases hm
                obtain ⟨a2, us, L2, e3, ha2, ra, es, mk⟩ := R1.lst ed
                rw [e1] at e3; cases e3
                obtain ⟨ma, inL, na, n2⟩ := inn es
                cases d1 with
                | cons dd nn =>
                  cases nn with
                  | nil =>
                    rename_i y Sy
                    rw [List.append_nil] at n1 h1
                    refine ⟨a, us, y, rfl, rfl, ha2, ?_, ?_⟩
                    · rw [← ra.length]; exact Nat.lt_of_lt_of_le hz (by decide)
                    · have nd : (L2 ++ Sy).Nodup := List.nodup_append.mpr ⟨n2, n1, fun b m b' m' z => (h1 b' m').1 i (z ▸ inL b m)⟩
                      refine ok1 _ _ (mk _ _ _ (ra.snoc dd) nd fun b m => ?_) (Fr.lstK F1 ma fun b m => ?_) .non [] (.im .non) Res.nil
                      · rcases List.mem_append.mp m with m | m
                        · exact old b (inL b m) fun z => na (z ▸ m)
                        · exact ⟨fun z => (h1 b m).1 i (z ▸ ma), (h1 b m).2.2.2, fun j _ => (h1 b m).1 j, (h1 b m).2.1⟩
                      · rcases List.mem_append.mp m with m | m
                        · exact F1.own i b (inL b m)
                        · exact (h1 b m).2.2.1
              · cases hm
            · -- extend
              rename_i xs ys
              split at hm
              · rename_i hz
                cases hm
                obtain ⟨a2, us, L2, e3, ha2, ra, es, mk⟩ := R1.lst ed
                rw [e1] at e3; cases e3
                obtain ⟨ma, inL, na, n2⟩ := inn es
                cases d1 with
                | cons dd nn =>
                  cases nn with
                  | nil =>
                    rename_i y Sy
                    rw [List.append_nil] at n1 h1
                    obtain ⟨b0, ws, L3, rfl, hb, rb, rfl⟩ := dd.lst_inv
                    refine ⟨a, b0, us, ws, rfl, rfl, ha2, hb, ?_, ?_⟩
                    · rw [← ra.length, ← rb.length]; exact big_line hz
                    · have n3 := (List.nodup_cons.mp n1).2
                      have nd : (L2 ++ L3).Nodup := List.nodup_append.mpr ⟨n2, n3, fun b m b' m' z => (h1 b' (List.mem_cons_of_mem _ m')).1 i (z ▸ inL b m)⟩
                      refine ok1 _ _ (mk _ _ _ (ra.append rb) nd fun b m => ?_) (Fr.lstK F1 ma fun b m => ?_) .non [] (.im .non) Res.nil
                      · rcases List.mem_append.mp m with m | m
                        · exact old b (inL b m) fun z => na (z ▸ m)
                        · have m := List.mem_cons_of_mem b0 m
                          exact ⟨fun z => (h1 b m).1 i (z ▸ ma), (h1 b m).2.2.2, fun j _ => (h1 b m).1 j, (h1 b m).2.1⟩
                      · rcases List.mem_append.mp m with m | m
                        · exact F1.own i b (inL b m)
                        · exact (h1 b (List.mem_cons_of_mem b0 m)).2.2.1
              · cases hm
            · -- pop
              rename_i xs
              cases hg : xs.getLast? with
              | none => rw [hg] at hm; cases hm
              | some d0 =>
                rw [hg] at hm
                cases hm
                obtain ⟨a2, us, L2, e3, ha2, ra, es, mk⟩ := R1.lst ed
                rw [e1] at e3; cases e3
                obtain ⟨ma, inL, na, n2⟩ := inn es
                obtain ⟨y, M1, M2, h3, h4, h5, rfl⟩ := ra.last hg
                cases d1 with
                | nil =>
                  obtain ⟨m1, m2, m3⟩ := List.nodup_append.mp n2
                  have sub : ∀ b ∈ M1, b ∈ M1 ++ M2 := fun b m => List.mem_append_left _ m
                  have sub2 : ∀ b ∈ M2, b ∈ M1 ++ M2 := fun b m => List.mem_append_right _ m
                  refine .inl ⟨a, us, y, rfl, rfl, ha2, h3, ?_⟩
                  refine ok1 _ _ (mk _ _ _ h4 m1 fun b m => old b (inL b (sub b m)) fun z => na (z ▸ sub b m)) (Fr.lstK F1 ma fun b m => F1.own i b (inL b (sub b m))) y M2 (h5.stay fun b o q z => ?_) (Res.of ⟨m2, fun b m => ⟨fun j z => ?_, R1.pt i b (inL b (sub2 b m)), F1.own i b (inL b (sub2 b m)), ?_⟩⟩)
                  · rw [upd_ne fun w : b = a => ?_]
                    · exact q
                    · subst w
                      rcases z with z | z
                      · exact R1.pers q z i ma
                      · exact na (sub2 b z)
                  · by_cases hj : j = i
                    · subst hj
                      rw [Foot.set_same] at z
                      rcases List.mem_cons.mp z with rfl | z
                      · exact na (sub2 b m)
                      · exact m3 b z b m rfl
                    · rw [Foot.set_ne hj] at z
                      exact hj (R1.dj j i b z (inL b (sub2 b m)))
                  · obtain ⟨o, q, z⟩ := R1.mu i b (inL b (sub2 b m))
                    exact ⟨o, by rw [upd_ne fun w : b = a => na (w ▸ sub2 b m)]; exact q, z⟩
            · -- pop at a place
              rename_i xs ix
              obtain ⟨k, hk, hm2⟩ := Option.bind_eq_some_iff.mp hm
              obtain ⟨ys, hys, hm3⟩ := Option.bind_eq_some_iff.mp hm2
              obtain ⟨y, hy, hm4⟩ := Option.map_eq_some_iff.mp hm3
              cases hm4
              obtain ⟨a2, us, L2, e3, ha2, ra, es, mk⟩ := R1.lst ed
              rw [e1] at e3; cases e3
              obtain ⟨ma, inL, na, n2⟩ := inn es
              obtain ⟨rfl, rfl, ri⟩ := DRs.of_ims ra hys
              cases d1 with
              | cons dd nn =>
                cases nn
                obtain rfl := dd.int_inv
                obtain ⟨u, hu, ru⟩ := ri.get hy
                rw [List.length_map, ri.length] at hk
                refine .inr ⟨a, us, ix, k, u, rfl, rfl, ha2, (ix_bnd hk).1, (ix_bnd hk).2.1, (ix_bnd hk).2.2, hu, ?_⟩
                have re : DRs K H1 ((ys.map D.im).eraseIdx k) (us.eraseIdx k) [] := by
                  rw [← erase_map]
                  exact DRs.ims (ri.erase k)
                exact ok1 _ _ (mk _ _ _ re List.nodup_nil fun b m => absurd m List.not_mem_nil) (Fr.lstK F1 ma fun b m => absurd m List.not_mem_nil) u [] (.im (ru.stay (stay_upd ha2))) Res.nil
            · -- insert
              rename_i xs ix y
              split at hm
              · rename_i hz
                obtain ⟨ys, hys, hm2⟩ := Option.map_eq_some_iff.mp hm
                cases hm2
                obtain ⟨a2, us, L2, e3, ha2, ra, es, mk⟩ := R1.lst ed
                rw [e1] at e3; cases e3
                obtain ⟨ma, inL, na, n2⟩ := inn es
                obtain ⟨rfl, rfl, ri⟩ := DRs.of_ims ra hys
                cases d1 with
                | cons dd nn =>
                  cases nn with
                  | cons d2 nn2 =>
                    rename_i v2 _ _ _
                    cases nn2
                    obtain rfl := dd.int_inv
                    obtain ⟨rfl, ry⟩ := d2.im_inv
                    refine ⟨a, us, ix, v2, rfl, rfl, ha2, ?_, hz.2.1, ?_, ?_⟩
                    · rw [← ri.length]
                      have := hz.1
                      rw [List.length_map] at this
                      exact Nat.lt_of_lt_of_le this (by decide)
                    · have := hz.2.2
                      unfold big at this
                      omega
                    · have re : DRs K H1 ((ys.map D.im).take ix.toNat ++ [D.im y] ++ (ys.map D.im).drop ix.toNat) (us.take ix.toNat ++ [v2] ++ us.drop ix.toNat) [] := by
                        rw [← List.map_take, ← List.map_drop, show [D.im y] = [y].map D.im from rfl, ← List.map_append, ← List.map_append]
                        exact DRs.ims (((ri.takeI ix.toNat).append (.cons ry .nil)).append (ri.dropI ix.toNat))
                      exact ok1 _ _ (mk _ _ _ re List.nodup_nil fun b m => absurd m List.not_mem_nil) (Fr.lstK F1 ma fun b m => absurd m List.not_mem_nil) .non [] (.im .non) Res.nil
              · cases hm
            · cases hm
          · exact ok1.elim
        · exact ok1.elim
      · exact ok.elim
    refine ⟨fun σ H Q => ∃ v, σ[i]? = some (some v) ∧ tyV K "list" v H ∧ t σ H fun xs H2 => rMm m v xs H2 Q, fun X g => ?_, fun own σ H ρ S Pr Q R ok => ?_⟩
    · cases xs with
      | nil =>
        rw [hnil rfl]
        have r : PE X (.Call (.Attribute (.Name x xp) m.nm apos) [] [] pos) (tBM0 X.K "list" (rMm m) (tVar i)) := pe_bm0 PySem.F.plainAttrs_list (slot_mm hs) (type_mm hs) mt_mm (pv' X g) (pl_attr rfl) hl
        rw [g.hK] at r
        exact ⟨fun pins s σ H Q I ⟨v, h1, h2, h3⟩ => r.run pins s σ H Q I ⟨v, h1, h2, h3⟩⟩
      | cons y ys =>
        have hs' := star_all (env := X.env) hc
        obtain ⟨hy, r0, hr0⟩ : plainX y = true ∧ ∃ r, chkEs c r ys = true := by
          cases es with
          | nil => simp [chkEs] at hc
          | cons e r =>
            simp only [chkEs, Bool.and_eq_true] at hc
            exact ⟨chk_plain hc.1, r, hc.2⟩
        have hlen := chkEs_len hc
        have r : PE X (.Call (.Attribute (.Name x xp) m.nm apos) (y :: ys) [] pos) (tBM X.K "list" (rMm m) (tVar i) t) := by
          refine pe_bm PySem.F.plainAttrs_list (slot_mm hs) (type_mm hs) mt_mm (pv' X g) (pt X g) (pl_attr rfl) (few_ok hs' (by omega)) hl (pl_star hy) (back_any pos (star_all hr0))
        rw [g.hK] at r
        exact r
    · simp only [E.pure, Bool.false_and, E.src] at ok
      exact spec Q σ H ρ S Pr own R ok
end
end Kh

set_option Elab.async false
set_option linter.all false
set_option maxRecDepth 100000
set_option maxHeartbeats 2000000
/-! locking places, clearing them, settling behind a loop -/
namespace Kh
open PySem PySem.Spec PyProof.Rows L2

section
variable {K : PySem.W.Frag} {σ : L2.St} {H H' : Hp} {ρ : En} {S : Foot} {Pr : List Addr}

theorem SR.wipe : ∀ (vs : List Nat), SR K Pr H σ ρ S → ∃ S', SR K Pr H (L2.wipe σ vs) (clear vs ρ) S' ∧ ∀ (i : Nat) (a : Addr), a ∈ S' i → a ∈ S i
  | [], R => ⟨S, R, fun _ _ m => m⟩
  | v :: vs, R => by
    obtain ⟨S', R', o⟩ := SR.wipe vs R
    refine ⟨_, R'.drop v (w := none), fun i a m => ?_⟩
    by_cases h : i = v
    · subst h; rw [Foot.set_same] at m; cases m
    · rw [Foot.set_ne h] at m; exact o i a m
theorem SR.clear : ∀ (vs : List Nat), SR K Pr H σ ρ S → ∃ S', SR K Pr H σ (clear vs ρ) S' ∧ ∀ (i : Nat) (a : Addr), a ∈ S' i → a ∈ S i
  | [], R => ⟨S, R, fun _ _ m => m⟩
  | v :: vs, R => by
    obtain ⟨S', R', o⟩ := SR.clear vs R
    refine ⟨_, R'.drop' v, fun i a m => ?_⟩
    by_cases h : i = v
    · subst h; rw [Foot.set_same] at m; cases m
    · rw [Foot.set_ne h] at m; exact o i a m
/-- more is locked that nobody owns -/
theorem SR.protect {L : List Addr} (R : SR K Pr H σ ρ S) (h : ∀ a ∈ L, (∀ i, a ∉ S i) ∧ There H a) : SR K (Pr ++ L) H σ ρ S :=
  ⟨R.len, R.own, fun i d e => let ⟨v, M, e1, dr, hM⟩ := R.bor i d e; ⟨v, M, e1, dr, fun a m => List.mem_append_left _ (hM a m)⟩, R.emp, R.nd, R.dj, R.mu,
    fun i a m n => (List.mem_append.mp n).elim (R.pt i a m) fun n => (h a n).1 i m, fun a m => (List.mem_append.mp m).elim (R.pa a) fun m => (h a m).2⟩
/-- the owned places among src become borrowed ones -/
theorem SR.lock : ∀ (src : List Nat) {ρ : En} {S : Foot} {Pr : List Addr}, SR K Pr H σ ρ S → ∃ P' S', SR K P' H σ (lockAll src ρ) S' ∧ (∀ a ∈ Pr, a ∈ P') ∧ (∀ (i : Nat) (a : Addr), a ∈ S' i → a ∈ S i) ∧
    (∀ a ∈ P', a ∈ Pr ∨ ∃ i ∈ src, a ∈ S i) ∧ ∀ i ∈ src, ∀ a ∈ S i, a ∈ P' ∧ ∀ j, a ∉ S' j
  | [], ρ, S, Pr, R => ⟨Pr, S, R, fun _ m => m, fun _ _ m => m, fun _ m => .inl m, fun _ m => absurd m List.not_mem_nil⟩
  | i :: r, ρ, S, Pr, R => by
    -- one place
    have one : ∃ P1 S1, SR K P1 H σ (match ρ[i]? with
        | some (.own d) => if d.isIm then ρ else ρ.set i (.bor d)
        | _ => ρ) S1 ∧ (∀ a ∈ Pr, a ∈ P1) ∧ (∀ (j : Nat) (a : Addr), a ∈ S1 j → a ∈ S j) ∧ (∀ a ∈ P1, a ∈ Pr ∨ a ∈ S i) ∧ (∀ a ∈ S i, a ∈ P1 ∧ ∀ j, a ∉ S1 j) ∧ ∀ j, j ≠ i → ∀ a ∈ S j, a ∈ S1 j := by
      cases e : ρ[i]? with
      | none => exact ⟨Pr, S, R, fun _ m => m, fun _ _ m => m, fun _ m => .inl m, (fun a m => by rw [R.emp i (fun d q => by rw [e] at q; cases q)] at m; cases m), fun _ _ _ m => m⟩
      | some s =>
        cases s with
        | no => exact ⟨Pr, S, R, fun _ m => m, fun _ _ m => m, fun _ m => .inl m, (fun a m => by rw [R.emp i (fun d q => by rw [e] at q; cases q)] at m; cases m), fun _ _ _ m => m⟩
        | bor d => exact ⟨Pr, S, R, fun _ m => m, fun _ _ m => m, fun _ m => .inl m, (fun a m => by rw [R.emp i (fun d q => by rw [e] at q; cases q)] at m; cases m), fun _ _ _ m => m⟩
        | own d =>
          obtain ⟨v, e1, dr⟩ := R.own i d e
          cases hd : d.isIm with
          | true =>
            obtain ⟨x, rfl⟩ := isIm_inv hd
            have z : S i = [] := dr.im_inv.1
            exact ⟨Pr, S, by simp only [D.isIm, if_true]; exact R, fun _ m => m, fun _ _ m => m, fun _ m => .inl m, (fun a m => by rw [z] at m; cases m), fun _ _ _ m => m⟩
          | false =>
            have hi : i < ρ.length := (List.getElem?_eq_some_iff.mp e).1
            have R1 := (R.drop' i).protect (L := S i) fun a m => ⟨fun j n => by
              by_cases q : j = i
              · subst q; rw [Foot.set_same] at n; cases n
              · rw [Foot.set_ne q] at n; exact q (R.dj j i a n m), let ⟨o, q, _⟩ := R.mu i a m; ⟨o, q⟩⟩
            have R2 := R1.lend (i := i) dr fun a m => List.mem_append_right _ m
            rw [set_self e1, List.set_set] at R2
            refine ⟨_, _, by simp only [hd, Bool.false_eq_true, if_false]; exact R2, fun a m => List.mem_append_left _ m, fun j a m => ?_, fun a m => List.mem_append.mp m, fun a m => ⟨List.mem_append_right _ m, fun j n => ?_⟩, fun j q a m => by rw [Foot.set_ne q, Foot.set_ne q]; exact m⟩
            · by_cases q : j = i
              · subst q; rw [Foot.set_same] at m; cases m
              · rw [Foot.set_ne q, Foot.set_ne q] at m; exact m
            · by_cases q : j = i
              · subst q; rw [Foot.set_same] at n; cases n
              · rw [Foot.set_ne q, Foot.set_ne q] at n; exact q (R.dj j i a n m)
    obtain ⟨P1, S1, R1, a1, a2, a3, a4, a5⟩ := one
    obtain ⟨P2, S2, R2, b1, b2, b3, b4⟩ := SR.lock r R1
    refine ⟨P2, S2, R2, fun a m => b1 a (a1 a m), fun j a m => a2 j a (b2 j a m), fun a m => ?_, fun j hj a m => ?_⟩
    · rcases b3 a m with m | ⟨j, hj, m⟩
      · exact (a3 a m).imp id fun z => ⟨i, List.mem_cons_self, z⟩
      · exact .inr ⟨j, List.mem_cons_of_mem _ hj, a2 j a m⟩
    · rcases List.mem_cons.mp hj with rfl | hj
      · exact ⟨b1 a (a4 a m).1, fun k n => (a4 a m).2 k (b2 k a n)⟩
      · by_cases z : a ∈ S1 j
        · exact b4 j hj a z
        · by_cases q : j = i
          · subst q; exact ⟨b1 a (a4 a m).1, fun k n => (a4 a m).2 k (b2 k a n)⟩
          · exact absurd (a5 j q a m) z

/-! ### settling -/
theorem settleGo_get {src asg own : List Nat} : ∀ (k : Nat) (w s : En) (i : Nat), (settleGo src asg own k w s)[i]? = (match w[i]?, s[i]? with
    | some a, some b => some (if a.isOwnMut && src.contains (k + i) then a else if own.contains (k + i) then a.imOf else match b with
      | .bor _ => if asg.contains (k + i) then .no else a.borOf
      | b => b)
    | _, _ => none)
  | _, [], s, i => by simp [settleGo]
  | _, a :: w, [], i => by
    simp only [settleGo, List.getElem?_nil]
    cases (a :: w)[i]? <;> rfl
  | k, a :: w, b :: s, 0 => by
    simp only [settleGo, List.getElem?_cons_zero, Nat.add_zero] <;> rfl
  | k, a :: w, b :: s, i + 1 => by
    have h := settleGo_get (src := src) (asg := asg) (own := own) (k + 1) w s i
    simp only [settleGo, List.getElem?_cons_succ]
    rw [h]
    have e : k + 1 + i = k + (i + 1) := by omega
    rw [e]
theorem settleGo_len {src asg own : List Nat} : ∀ (k : Nat) (w s : En), (settleGo src asg own k w s).length = min w.length s.length
  | _, [], s => by simp [settleGo]
  | _, _ :: _, [] => by simp [settleGo]
  | k, a :: w, b :: s => by simp [settleGo, settleGo_len (k + 1) w s]
theorem SR.settle {σ' τ : L2.St} {e' : En} {S' : Foot} {P' : List Addr} {src asg own : List Nat} (R : SR K Pr H σ ρ S) (R' : SR K P' H' σ' e' S') (st : Stay H H' P') (sub : ∀ a ∈ Pr, a ∈ P')
    (lk : ∀ i ∈ src, ∀ a ∈ S i, a ∈ P') (hl : τ.length = σ.length) (hl' : σ'.length = σ.length) (hs : ∀ i : Nat, i ∉ asg ∨ i ∈ own → τ[i]? = σ[i]?) (hs' : ∀ i : Nat, i ∉ own → τ[i]? = σ'[i]?) (hd : ∀ i : Nat, i ∈ src → τ[i]? = σ[i]?) :
    ∃ S'', SR K Pr H' τ (Kh.settle ρ src asg own e') S'' ∧ ∀ (i : Nat) (a : Addr), a ∈ S'' i → a ∈ S' i ∨ a ∈ S i ∧ a ∈ P' := by
  have own_src : ∀ {i : Nat} {s : Slot}, ρ[i]? = some s → s.isOwnMut = true → ∃ d, s = .own d ∧ d.isIm = false := fun {i s} e h => by
    cases s with
    | no => cases h
    | bor d => cases h
    | own d => cases d <;> first | exact ⟨_, rfl, rfl⟩ | cases h
  have get : ∀ i : Nat, (Kh.settle ρ src asg own e')[i]? = (match ρ[i]?, e'[i]? with
    | some a, some b => some (if a.isOwnMut && src.contains i then a else if own.contains i then a.imOf else match b with
      | .bor _ => if asg.contains i then .no else a.borOf
      | b => b)
    | _, _ => none) := fun i => by
    have h := settleGo_get (src := src) (asg := asg) (own := own) 0 ρ e' i
    rw [Nat.zero_add] at h
    exact h
  have both : ∀ {i : Nat} {a : Slot}, ρ[i]? = some a → ∃ b, e'[i]? = some b := fun {i a} e => by
    have h1 := (List.getElem?_eq_some_iff.mp e).1
    have h2 : i < e'.length := by rw [R'.len, hl', ← R.len]; exact h1
    exact ⟨e'[i], List.getElem?_eq_getElem h2⟩
  have both' : ∀ {i : Nat} {b : Slot}, e'[i]? = some b → ∃ a, ρ[i]? = some a := fun {i b} e => by
    have h1 := (List.getElem?_eq_some_iff.mp e).1
    have h2 : i < ρ.length := by rw [R.len, ← hl', ← R'.len]; exact h1
    exact ⟨ρ[i], List.getElem?_eq_getElem h2⟩
  -- the three kinds of places
  have lockd : ∀ {i : Nat}, ((∃ s, ρ[i]? = some s ∧ s.isOwnMut = true) ∧ i ∈ src) → ∃ d, ρ[i]? = some (.own d) ∧ (Kh.settle ρ src asg own e')[i]? = some (.own d) := fun {i} h => by
    obtain ⟨⟨s, e, z⟩, m⟩ := h
    obtain ⟨d, rfl, _⟩ := own_src e z
    obtain ⟨b, eb⟩ := both e
    refine ⟨d, e, ?_⟩
    rw [get, e, eb]
    simp [z, m]
  have owned : ∀ {i : Nat}, ¬ ((∃ s, ρ[i]? = some s ∧ s.isOwnMut = true) ∧ i ∈ src) → i ∈ own → ∀ t, (Kh.settle ρ src asg own e')[i]? = some t → ∃ a, ρ[i]? = some a ∧ t = a.imOf := fun {i} h m t e => by
    rw [get] at e
    cases ea : ρ[i]? with
    | none => rw [ea] at e; cases e
    | some a =>
      obtain ⟨b, eb⟩ := both ea
      rw [ea, eb] at e
      have z : (a.isOwnMut && src.contains i) = false := by
        cases q : (a.isOwnMut && src.contains i) with
        | false => rfl
        | true =>
          simp at q
          exact absurd ⟨⟨a, ea, q.1⟩, q.2⟩ h
      simp only [z, Bool.false_eq_true, if_false, List.contains_iff_mem, m, if_true] at e
      exact ⟨a, rfl, (Option.some.inj e).symm⟩
  have other : ∀ {i : Nat}, ¬ ((∃ s, ρ[i]? = some s ∧ s.isOwnMut = true) ∧ i ∈ src) → i ∉ own → (Kh.settle ρ src asg own e')[i]? = (match ρ[i]?, e'[i]? with
      | some a, some b => some (match b with
        | .bor _ => if asg.contains i then .no else a.borOf
        | b => b)
      | _, _ => none) := fun {i} h m => by
    rw [get]
    cases ea : ρ[i]? with
    | none => rfl
    | some a =>
      obtain ⟨b, eb⟩ := both ea
      rw [eb]
      have z : (a.isOwnMut && src.contains i) = false := by
        cases q : (a.isOwnMut && src.contains i) with
        | false => rfl
        | true =>
          simp at q
          exact absurd ⟨⟨a, ea, q.1⟩, q.2⟩ h
      have z2 : own.contains i = false := by
        cases q : own.contains i with
        | false => rfl
        | true => exact absurd (List.contains_iff_mem.mp q) m
      simp only [z, z2, Bool.false_eq_true, if_false]
  refine ⟨fun i => if (∃ s, ρ[i]? = some s ∧ s.isOwnMut = true) ∧ i ∈ src then S i else if i ∈ own then [] else S' i, ⟨?_, fun i d e => ?_, fun i d e => ?_, fun i e => ?_, fun i => ?_, fun i j a m n => ?_, fun i a m => ?_, fun i a m => ?_, fun a m => ?_⟩, fun i a m => ?_⟩
  · unfold Kh.settle
    rw [settleGo_len, R.len, R'.len, hl, hl', Nat.min_self]
  · by_cases h : (∃ s, ρ[i]? = some s ∧ s.isOwnMut = true) ∧ i ∈ src
    · obtain ⟨d', e1, e2⟩ := lockd h
      rw [e] at e2
      cases e2
      obtain ⟨v, ev, dr⟩ := R.own i _ e1
      rw [if_pos h]
      exact ⟨v, by rw [hd i h.2]; exact ev, dr.stay (st.mono (lk i h.2))⟩
    · rw [if_neg h]
      by_cases m : i ∈ own
      · rw [if_pos m]
        obtain ⟨a, ea, ez⟩ := owned h m _ e
        cases a with
        | no => cases ez
        | bor _ => cases ez
        | own d' =>
          cases d' with
          | im x =>
            cases ez
            obtain ⟨v, ev, dr⟩ := R.own i _ ea
            exact ⟨v, by rw [hs i (.inr m)]; exact ev, .im (dr.im_inv.2.stay (st.mono (R := []) fun _ m => absurd m List.not_mem_nil))⟩
          | _ => cases ez
      · rw [if_neg m]
        rw [other h m] at e
        cases ea : ρ[i]? with
        | none => rw [ea] at e; cases e
        | some a =>
          obtain ⟨b, eb⟩ := both ea
          rw [ea, eb] at e
          cases b with
          | no => cases e
          | own d' =>
            cases e
            obtain ⟨v, ev, dr⟩ := R'.own i _ eb
            exact ⟨v, by rw [hs' i m]; exact ev, dr⟩
          | bor d' =>
            have e' : (if asg.contains i then Slot.no else a.borOf) = Slot.own d := Option.some.inj e
            split at e'
            · cases e'
            · cases a <;> cases e'
  · by_cases h : (∃ s, ρ[i]? = some s ∧ s.isOwnMut = true) ∧ i ∈ src
    · obtain ⟨d', e1, e2⟩ := lockd h
      rw [e] at e2
      cases e2
    · by_cases m : i ∈ own
      · obtain ⟨a, ea, ez⟩ := owned h m _ e
        cases a with
        | no => cases ez
        | bor _ => cases ez
        | own d' => cases d' <;> cases ez
      · rw [other h m] at e
        cases ea : ρ[i]? with
        | none => rw [ea] at e; cases e
        | some a =>
          obtain ⟨b, eb⟩ := both ea
          rw [ea, eb] at e
          cases b with
          | no => cases e
          | own d' => cases e
          | bor d' =>
            have e' : (if asg.contains i then Slot.no else a.borOf) = Slot.bor d := Option.some.inj e
            split at e'
            · cases e'
            · rename_i na
              cases a with
              | no => cases e'
              | own _ => cases e'
              | bor d2 =>
                cases e'
                obtain ⟨v, M, ev, dr, hM⟩ := R.bor i _ ea
                exact ⟨v, M, by rw [hs i (.inl fun z => na (List.contains_iff_mem.mpr z))]; exact ev, dr.stay (st.mono fun a m => sub a (hM a m)), hM⟩
  · by_cases h : (∃ s, ρ[i]? = some s ∧ s.isOwnMut = true) ∧ i ∈ src
    · obtain ⟨d', e1, e2⟩ := lockd h
      exact absurd e2 (e d')
    · rw [if_neg h]
      by_cases m : i ∈ own
      · rw [if_pos m]
      · rw [if_neg m]
        refine R'.emp i fun d q => ?_
        obtain ⟨a, ea⟩ := both' q
        refine e d ?_
        rw [other h m, ea, q]
  · split
    · exact R.nd i
    · split
      · exact List.nodup_nil
      · exact R'.nd i
  · skip
    split at m
    · rename_i hi
      split at n
      · exact R.dj i j a m n
      · split at n
        · cases n
        · exact absurd (lk i hi.2 a m) (R'.pt j a n)
    · split at m
      · cases m
      · split at n
        · rename_i hj
          exact absurd (lk j hj.2 a n) (R'.pt i a m)
        · split at n
          · cases n
          · exact R'.dj i j a m n
  · skip
    split at m
    · rename_i hi
      obtain ⟨o, q, z⟩ := R.mu i a m
      exact ⟨o, st a o q (.inr (lk i hi.2 a m)), z⟩
    · split at m
      · cases m
      · exact R'.mu i a m
  · skip
    split at m
    · exact R.pt i a m
    · split at m
      · cases m
      · exact fun z => R'.pt i a m (sub a z)
  · obtain ⟨o, q⟩ := R.pa a m
    exact ⟨o, st a o q (.inr (sub a m))⟩
  · dsimp only at m
    split at m
    · rename_i hi
      exact .inr ⟨m, lk i hi.2 a m⟩
    · split at m
      · cases m
      · exact .inl m
end
end Kh

set_option Elab.async false
set_option linter.all false
set_option maxRecDepth 100000
set_option maxHeartbeats 2000000
/-! targets; what a for walks -/
namespace Kh
open PySem PySem.Spec PyProof.Rows L2

section
variable (K : PySem.W.Frag)
/-- where a value that is bound comes from -/
def Mode (b : Bool) (Pr : List Addr) (H : Hp) (S : Foot) (L : List Addr) : Prop :=
  if b then ∀ a ∈ L, a ∈ Pr else L.Nodup ∧ ∀ a ∈ L, MutAt H a ∧ (∀ i, a ∉ S i) ∧ a ∉ Pr
def SpG (t : Tg) (g : TG) : Prop := ∀ (b : Bool) (d : D) (e e' : En) (v : V) (L : List Addr) (σ : L2.St) (H : Hp) (S : Foot) (Pr : List Addr) (Q : L2.St → Hp → Prop), bindT t d b e = some e' → SR K Pr H σ e S → DR K H d v L → Mode b Pr H S L →
  (∀ σ' S', SR K Pr H σ' e' S' → (∀ i : Nat, i ∉ t.slots → σ'[i]? = σ[i]?) → σ'.length = σ.length → (∀ (i : Nat) (a : Addr), a ∈ S' i → a ∈ S i ∨ a ∈ L) → Q σ' H) → g v σ H Q
def SpGs (t : Tgs) (g : TGs) : Prop := ∀ (b : Bool) (ds : List D) (e e' : En) (vs : List V) (L : List Addr) (σ : L2.St) (H : Hp) (S : Foot) (Pr : List Addr) (Q : L2.St → Hp → Prop), bindTs t ds b e = some e' → SR K Pr H σ e S → DRs K H ds vs L → Mode b Pr H S L →
  (∀ σ' S', SR K Pr H σ' e' S' → (∀ i : Nat, i ∉ t.slots → σ'[i]? = σ[i]?) → σ'.length = σ.length → (∀ (i : Nat) (a : Addr), a ∈ S' i → a ∈ S i ∨ a ∈ L) → Q σ' H) → g vs σ H Q
end
section
variable {T : Tab} {lv : Nat} {P : Program} {w : World} {K : PySem.W.Frag} {mg : Str → Option Value} {base : Heap} {c : Cs} {W : WX}

theorem spg_name {i : Nat} : SpG K (.name i) (gName i) := by
  intro b d e e' v L σ H S Pr Q hb R dr md k
  simp only [bindT] at hb
  split at hb
  · rename_i hi
    cases hb
    show Q (σ.set i (some v)) H
    have off : ∀ j : Nat, j ∉ (Tg.name i).slots → (σ.set i (some v))[j]? = σ[j]? := fun j n => List.getElem?_set_ne fun z => n (by rw [Tg.slots]; exact List.mem_singleton.mpr z.symm)
    have ln : (σ.set i (some v)).length = σ.length := List.length_set
    have put : L.Nodup → (∀ a ∈ L, MutAt H a ∧ (∀ j, a ∉ S j) ∧ a ∉ Pr) → SR K Pr H (σ.set i (some v)) (e.set i (.own d)) (S.set i L) := fun nd hL =>
      R.put hi (fun a o q _ => q) dr nd fun a m => ⟨(hL a m).1, fun j _ => (hL a m).2.1 j, (hL a m).2.2⟩
    have sub : ∀ (j : Nat) (a : Addr), a ∈ (S.set i L) j → a ∈ S j ∨ a ∈ L := fun j a m => by
      by_cases q : j = i
      · subst q; rw [Foot.set_same] at m; exact .inr m
      · rw [Foot.set_ne q] at m; exact .inl m
    cases d with
    | im x =>
      obtain ⟨rfl, _⟩ := dr.im_inv
      exact k _ _ (put List.nodup_nil fun a m => absurd m List.not_mem_nil) off ln sub
    | _ =>
      cases b with
      | false => exact k _ _ (put md.1 md.2) off ln sub
      | true =>
        refine k _ _ (R.lend dr md) off ln fun j a m => ?_
        by_cases q : j = i
        · subst q; rw [Foot.set_same] at m; cases m
        · rw [Foot.set_ne q] at m; exact .inl m
  · cases hb
theorem Mode.left {b : Bool} {Pr : List Addr} {H : Hp} {S : Foot} {L M : List Addr} (h : Mode b Pr H S (L ++ M)) : Mode b Pr H S L := by
  cases b with
  | true => exact fun a m => h a (List.mem_append_left _ m)
  | false => exact ⟨(List.nodup_append.mp h.1).1, fun a m => h.2 a (List.mem_append_left _ m)⟩
theorem spgs_nil : SpGs K .nil gNil := by
  intro b ds e e' vs L σ H S Pr Q hb R dr md k
  cases ds with
  | nil =>
    simp only [bindTs] at hb
    cases hb
    cases dr
    exact ⟨rfl, k σ S R (fun _ _ => rfl) rfl fun _ _ m => .inl m⟩
  | cons _ _ => simp [bindTs] at hb
theorem spgs_cons {t : Tg} {r : Tgs} {g : TG} {u : TGs} (h1 : SpG K t g) (h2 : SpGs K r u) : SpGs K (.cons t r) (gCons g u) := by
  intro b ds e e' vs L σ H S Pr Q hb R dr md k
  cases ds with
  | nil => simp [bindTs] at hb
  | cons d ds =>
    simp only [bindTs] at hb
    cases q : bindT t d b e with
    | none => rw [q] at hb; cases hb
    | some e1 =>
      rw [q] at hb
      have hb' : bindTs r ds b e1 = some e' := hb
      cases dr with
      | cons d1 d2 =>
        rename_i v S1 vs S2
        refine ⟨v, vs, rfl, ?_⟩
        refine h1 b d e e1 v S1 σ H S Pr _ q R d1 md.left fun σ1 S' R1 o1 l1 s1 => ?_
        have md2 : Mode b Pr H S' S2 := by
          cases b with
          | true => exact fun a m => md a (List.mem_append_right _ m)
          | false =>
            obtain ⟨n1, n2, n3⟩ := List.nodup_append.mp md.1
            refine ⟨n2, fun a m => ⟨(md.2 a (List.mem_append_right _ m)).1, fun i z => ?_, (md.2 a (List.mem_append_right _ m)).2.2⟩⟩
            rcases s1 i a z with z | z
            · exact (md.2 a (List.mem_append_right _ m)).2.1 i z
            · exact n3 a z a m rfl
        refine h2 b ds e1 e' vs S2 σ1 H S' Pr _ hb' R1 d2 md2 fun σ2 S2' R2 o2 l2 s2 => ?_
        refine k σ2 S2' R2 (fun i n => ?_) (l2.trans l1) fun i a m => ?_
        · rw [Tgs.slots, List.mem_append, not_or] at n
          rw [o2 i n.2, o1 i n.1]
        · rcases s2 i a m with z | z
          · exact (s1 i a z).imp id fun z => List.mem_append_left _ z
          · exact .inr (List.mem_append_right _ z)
theorem Tgs.len_vs {K : PySem.W.Frag} : ∀ {ts : Tgs} {ds : List D} {b : Bool} {e e' : En} {n : Nat}, bindTs ts ds b e = some e' → ds.length = n → ∀ {xs : List Expr}, chkTs c ts xs = true → xs.length = n
  | .nil, [], b, e, e', n, _, hl, [], _ => hl
  | .nil, _ :: _, b, e, e', n, h, _, _, _ => by simp [bindTs] at h
  | .nil, [], b, e, e', n, _, hl, _ :: _, h => by simp [chkTs] at h
  | .cons t r, [], b, e, e', n, h, _, _, _ => by simp [bindTs] at h
  | .cons t r, d :: ds, b, e, e', n, h, hl, [], hc => by simp [chkTs] at hc
  | .cons t r, d :: ds, b, e, e', n, h, hl, x :: xs, hc => by
    simp only [bindTs] at h
    simp only [chkTs, Bool.and_eq_true] at hc
    cases q : bindT t d b e with
    | none => rw [q] at h; cases h
    | some e1 =>
      rw [q] at h
      have h' : bindTs r ds b e1 = some e' := h
      rw [← hl]
      exact congrArg (· + 1) (Tgs.len_vs (K := K) h' rfl hc.2)
theorem spg_tup {ts : Tgs} {g : TGs} {n : Nat} {xs : List Expr} (hc : chkTs c ts xs = true) (hn : xs.length = n) (h : SpGs K ts g) : SpG K (.tup ts) (gTup K n g) := by
  intro b d e e' v L σ H S Pr Q hb R dr md k
  cases d with
  | im x =>
    cases x with
    | tup ys =>
      simp only [bindT] at hb
      obtain ⟨a, vs, rfl, sa, ra⟩ := dr.tup_inv
      obtain ⟨rfl, _⟩ := dr.im_inv
      refine ⟨a, vs, rfl, sa, ?_, h b _ e e' vs [] σ H S Pr Q hb R (DRs.ims ra) md k⟩
      rw [← ra.length, ← hn]
      exact ((Tgs.len_vs (K := K) hb (by rw [List.length_map]) hc)).symm
    | _ => simp [bindT] at hb
  | tup ds =>
    simp only [bindT] at hb
    cases dr with
    | tup sa ra =>
      refine ⟨_, _, rfl, sa, ?_, h b _ e e' _ L σ H S Pr Q hb R ra md k⟩
      rw [← ra.length, ← hn]
      exact ((Tgs.len_vs (K := K) hb rfl hc)).symm
  | _ => simp [bindT] at hb

/-! ### the targets of the text -/
def SG (lv : Nat) (P : Program) (w : World) (K : PySem.W.Frag) (mg : Str → Option Value) (base : Heap) (c : Cs) (W : WX) (t : Tg) (x : Expr) : Prop := ∃ g : TG, (∀ X, Gd lv c W P w K mg base X → PG X x g) ∧ SpG K t g
def SGs (lv : Nat) (P : Program) (w : World) (K : PySem.W.Frag) (mg : Str → Option Value) (base : Heap) (c : Cs) (W : WX) (t : Tgs) (xs : List Expr) : Prop := ∃ g : TGs, (∀ X, Gd lv c W P w K mg base X → PGs X xs g) ∧ SpGs K t g
theorem chkT_noStar {t : Tg} {x : Expr} {xs : List Expr} {env : PySem.Env} (h : chkT c t x = true) : assignEach (x :: xs) env = (false, assign x env) :: assignEach xs env := by
  unfold chkT at h
  split at h
  · rfl
  · rfl
  · cases h
theorem assign_all {env : PySem.Env} : ∀ {ts : Tgs} {xs : List Expr}, chkTs c ts xs = true → (assignEach xs env).length = xs.length ∧ (assignEach xs env).findIdx? (·.1) = none
  | .nil, [], _ => ⟨rfl, rfl⟩
  | .nil, _ :: _, h => by simp [chkTs] at h
  | .cons _ _, [], h => by simp [chkTs] at h
  | .cons t r, x :: xs, h => by
    simp only [chkTs, Bool.and_eq_true] at h
    obtain ⟨a, b⟩ := assign_all (env := env) h.2
    rw [chkT_noStar h.1]
    refine ⟨by rw [List.length_cons, a, List.length_cons], ?_⟩
    rw [List.findIdx?_cons, b]
    rfl
mutual
theorem sg_ok : ∀ (t : Tg) (x : Expr), chkT c t x = true → SG lv P w K mg base c W t x
  | .name i, x, h => by
    unfold chkT at h
    split at h
    · rename_i i' y pos e
      cases e
      simp only [Bool.and_eq_true, decide_eq_true_eq] at h
      refine ⟨gName i, fun X g => ?_, spg_name⟩
      obtain ⟨h1, h2⟩ := g.fnl y h.2
      exact pg_name (by rw [g.N]; exact g.nd) (by rw [g.N]; exact h.1) (by rw [g.sc]; exact h1) (by rw [g.sc]; exact h2)
    · rename_i e; cases e
    · cases h
  | .tup ts, x, h => by
    unfold chkT at h
    split at h
    · rename_i e; cases e
    · rename_i ts' xs k pos e
      cases e
      obtain ⟨g, pg, sg⟩ := sgs_ok ts xs h
      refine ⟨gTup K xs.length g, fun X gd => ?_, spg_tup h rfl sg⟩
      have r := pg_tup (X := X) (es := xs) (k := k) (pos := pos) gd.calm (pg X gd) (assign_all h).1 (assign_all h).2
      rw [gd.hK] at r
      exact r
    · cases h
theorem sgs_ok : ∀ (t : Tgs) (xs : List Expr), chkTs c t xs = true → SGs lv P w K mg base c W t xs
  | .nil, [], _ => ⟨gNil, fun X g => pgs_nil, spgs_nil⟩
  | .nil, _ :: _, h => by simp [chkTs] at h
  | .cons _ _, [], h => by simp [chkTs] at h
  | .cons t r, x :: xs, h => by
    simp only [chkTs, Bool.and_eq_true] at h
    obtain ⟨g, pg, sg⟩ := sg_ok t x h.1
    obtain ⟨u, pu, su⟩ := sgs_ok r xs h.2
    exact ⟨gCons g u, fun X gd => pgs_cons (pg X gd) (pu X gd) (by rw [chkT_noStar h.1]; rfl), spgs_cons sg su⟩
end
end
end Kh

set_option Elab.async false
set_option linter.all false
set_option maxRecDepth 100000
set_option maxHeartbeats 2000000
/-! what a for walks -/
namespace Kh
open PySem PySem.Spec PyProof.Rows L2

/-- an iterator over data that lie at L -/
structure Wlk (K : PySem.W.Frag) (J : It) (H1 : Hp) (ds : List D) (L : List Addr) : Prop where
  go : ∀ i H, i < ds.length → Stay H1 H L → J.go i H
  stop : ∀ H, Stay H1 H L → J.stop ds.length H
  yld : ∀ i H x H', i < ds.length → Stay H1 H L → J.yld i H x H' → (∀ a o, H a = some o → H' a = some o) ∧ ∃ d R, ds[i]? = some d ∧ DR K H' d x R ∧ ∀ a ∈ R, a ∈ L
section
variable {K : PySem.W.Frag} {H1 : Hp} {a : Addr} {vs : List V} {ds : List D} {L : List Addr}
theorem DRs.getV : ∀ {ds : List D} {vs : List V} {L : List Addr} {i : Nat} {x : V}, DRs K H1 ds vs L → vs[i]? = some x → ∃ d R, ds[i]? = some d ∧ DR K H1 d x R ∧ ∀ a ∈ R, a ∈ L := fun {ds vs L i x} r e => by
  have h1 := (List.getElem?_eq_some_iff.mp e).1
  rw [← r.length] at h1
  obtain ⟨u, R, h2, h3, h4⟩ := r.get (List.getElem?_eq_getElem h1)
  rw [e] at h2
  cases h2
  exact ⟨ds[i], R, List.getElem?_eq_getElem h1, h3, h4⟩
theorem wlk_list (h : H1 a = some (.lst vs)) (r : DRs K H1 ds vs L) : Wlk K (Itl K a) H1 ds (a :: L) := by
  have hs : ∀ H, Stay H1 H (a :: L) → SqL K H a vs := fun H st => SqL.of (st a _ h (.inr List.mem_cons_self))
  refine ⟨fun i H hi st => ?_, fun H st => ⟨vs, hs H st, by rw [r.length]; exact Nat.le_refl _⟩, fun i H x H' hi st y => ?_⟩
  · rw [r.length] at hi
    exact ⟨vs, vs[i], hs H st, List.getElem?_eq_getElem hi⟩
  · obtain ⟨rfl, y⟩ := y
    obtain ⟨d, R, e, dr, hR⟩ := r.getV (y vs (hs H' st))
    exact ⟨fun _ _ q => q, d, R, e, dr.stay (st.mono fun b m => List.mem_cons_of_mem _ (hR b m)), fun b m => List.mem_cons_of_mem _ (hR b m)⟩
theorem wlk_tup (h : SqT K H1 a vs) (r : DRs K H1 ds vs L) : Wlk K (Itt K a) H1 ds L := by
  have hs : ∀ H, Stay H1 H L → SqT K H a vs := fun H st => SqT.stay st h
  refine ⟨fun i H hi st => ?_, fun H st => ⟨vs, hs H st, by rw [r.length]; exact Nat.le_refl _⟩, fun i H x H' hi st y => ?_⟩
  · rw [r.length] at hi
    exact ⟨vs, vs[i], hs H st, List.getElem?_eq_getElem hi⟩
  · obtain ⟨rfl, y⟩ := y
    obtain ⟨d, R, e, dr, hR⟩ := r.getV (y vs (hs H' st))
    exact ⟨fun _ _ q => q, d, R, e, dr.stay (st.mono fun b m => (hR b m)), hR⟩
theorem drs_ints (ns : List Int) : DRs K H1 (ns.map fun n => D.im (.int n)) (ns.map V.int) [] := by
  have h := DRs.ims (K := K) (H := H1) (IRs.ints ns)
  rw [List.map_map] at h
  exact h
theorem wlk_scr {ns : List Int} (h : SqF K H1 a (ns.map V.int)) : Wlk K (Itl K a) H1 (ns.map fun n => .im (.int n)) [] := by
  have hs : ∀ H, Stay H1 H [] → SqL K H a (ns.map V.int) := fun H st => (h.stay st).l
  have r := drs_ints (K := K) (H1 := H1) ns
  refine ⟨fun i H hi st => ?_, fun H st => ⟨_, hs H st, by rw [r.length]; exact Nat.le_refl _⟩, fun i H x H' hi st y => ?_⟩
  · rw [r.length] at hi
    exact ⟨_, (ns.map V.int)[i], hs H st, List.getElem?_eq_getElem hi⟩
  · obtain ⟨rfl, y⟩ := y
    obtain ⟨d, R, e, dr, hR⟩ := r.getV (y _ (hs H' st))
    exact ⟨fun _ _ q => q, d, R, e, dr.stay (st.mono fun b m => (hR b m)), hR⟩
theorem rangeL_len (lo : Int) (n : Nat) : (rangeL lo n).length = n := by unfold rangeL; simp
theorem wlk_range (lo : Int) (n : Nat) : Wlk K (Itr lo n) H1 (rangeL lo n) [] := by
  refine ⟨fun i H hi st => by rw [rangeL_len] at hi; exact hi, fun H st => by rw [rangeL_len]; exact Nat.le_refl _, fun i H x H' hi st y => ?_⟩
  obtain ⟨rfl, rfl⟩ := y
  rw [rangeL_len] at hi
  refine ⟨fun _ _ q => q, .im (.int (lo + i)), [], ?_, .im (.int _), fun _ m => absurd m List.not_mem_nil⟩
  unfold rangeL
  rw [List.getElem?_map, List.getElem?_range hi]
  rfl
theorem wlk_rangeS (lo c : Int) (n : Nat) : Wlk K (Itc lo c n) H1 (rangeS lo c n) [] := by
  have hl : (rangeS lo c n).length = n := by unfold rangeS; simp
  refine ⟨fun i H hi st => by rw [hl] at hi; exact hi, fun H st => by rw [hl]; exact Nat.le_refl _, fun i H x H' hi st y => ?_⟩
  obtain ⟨rfl, rfl⟩ := y
  rw [hl] at hi
  refine ⟨fun _ _ q => q, .im (.int (lo + i * c)), [], ?_, .im (.int _), fun _ m => absurd m List.not_mem_nil⟩
  unfold rangeS
  rw [List.getElem?_map, List.getElem?_range hi]
  rfl
theorem rev_get {α : Type} {xs : List α} {i : Nat} (h : i < xs.length) : xs.reverse[i]? = xs[xs.length - 1 - i]? := List.getElem?_reverse h
theorem wlk_revL (h : H1 a = some (.lst vs)) (r : DRs K H1 ds vs L) : Wlk K (Itv K a vs.length) H1 ds.reverse (a :: L) := by
  have hs : ∀ H, Stay H1 H (a :: L) → SqL K H a vs := fun H st => SqL.of (st a _ h (.inr List.mem_cons_self))
  have hl : ds.reverse.length = vs.length := by rw [List.length_reverse, r.length]
  refine ⟨fun i H hi st => ?_, fun H st => by rw [hl]; exact Nat.le_refl _, fun i H x H' hi st y => ?_⟩
  · rw [hl] at hi
    exact ⟨hi, vs, vs[vs.length - 1 - i]'(by omega), hs H st, List.getElem?_eq_getElem _⟩
  · obtain ⟨rfl, y⟩ := y
    rw [hl] at hi
    obtain ⟨d, R, e, dr, hR⟩ := r.getV (y _ (hs H' st))
    refine ⟨fun _ _ q => q, d, R, ?_, dr.stay (st.mono fun b m => List.mem_cons_of_mem _ (hR b m)), fun b m => List.mem_cons_of_mem _ (hR b m)⟩
    rw [rev_get (by rw [r.length]; exact hi), r.length]; exact e
theorem wlk_revT (h : SqT K H1 a vs) (r : DRs K H1 ds vs L) : Wlk K (RT.ItvT K a vs.length) H1 ds.reverse L := by
  have hs : ∀ H, Stay H1 H L → SqT K H a vs := fun H st => SqT.stay st h
  have hl : ds.reverse.length = vs.length := by rw [List.length_reverse, r.length]
  refine ⟨fun i H hi st => ?_, fun H st => by rw [hl]; exact Nat.le_refl _, fun i H x H' hi st y => ?_⟩
  · rw [hl] at hi
    exact ⟨hi, vs, vs[vs.length - 1 - i]'(by omega), hs H st, List.getElem?_eq_getElem _⟩
  · obtain ⟨rfl, y⟩ := y
    rw [hl] at hi
    obtain ⟨d, R, e, dr, hR⟩ := r.getV (y _ (hs H' st))
    refine ⟨fun _ _ q => q, d, R, ?_, dr.stay (st.mono fun b m => hR b m), hR⟩
    rw [rev_get (by rw [r.length]; exact hi), r.length]; exact e
theorem wlk_revS {ns : List Int} (h : SqF K H1 a (ns.map V.int)) : Wlk K (Itv K a (ns.map V.int).length) H1 (ns.map fun n => D.im (.int n)).reverse [] := by
  have hs : ∀ H, Stay H1 H [] → SqL K H a (ns.map V.int) := fun H st => (h.stay st).l
  have r := drs_ints (K := K) (H1 := H1) ns
  have hl : (ns.map fun n => D.im (.int n)).reverse.length = (ns.map V.int).length := by rw [List.length_reverse, r.length]
  refine ⟨fun i H hi st => ?_, fun H st => by rw [hl]; exact Nat.le_refl _, fun i H x H' hi st y => ?_⟩
  · rw [hl] at hi
    exact ⟨hi, _, (ns.map V.int)[(ns.map V.int).length - 1 - i]'(by omega), hs H st, List.getElem?_eq_getElem _⟩
  · obtain ⟨rfl, y⟩ := y
    rw [hl] at hi
    obtain ⟨d, R, e, dr, hR⟩ := r.getV (y _ (hs H' st))
    refine ⟨fun _ _ q => q, d, R, ?_, dr.stay (st.mono fun b m => hR b m), hR⟩
    rw [rev_get (by rw [r.length]; exact hi), r.length]; exact e
end

theorem PI.or {X : Cx} {tg e : Expr} {t u : TI} (h : PI X tg e t) (k : PI X tg e u) : PI X tg e (fun σ H R => t σ H R ∨ u σ H R) :=
  ⟨fun pins s σ H R I z => z.elim (h.run pins s σ H R I) (k.run pins s σ H R I)⟩
theorem PI.fls {X : Cx} {tg e : Expr} : PI X tg e (fun _ _ _ => False) := ⟨fun _ _ _ _ _ _ z => z.elim⟩

section
variable (T : Tab) (lv : Nat) (P : Program) (w : World) (K : PySem.W.Frag) (mg : Str → Option Value) (base : Heap)
def SpW (W : WX) (mw : Wk) (wi : TI) : Prop := ∀ σ H ρ S Pr (R : It → Hp → Prop), SR K Pr H σ ρ S → OkP K mg W false Pr σ H S (fun ds e1 H1 S1 => ∀ J L, Wlk K J H1 ds L → (∀ a ∈ L, There H1 a) → (∀ a ∈ L, a ∈ Pr ∨ (∃ i ∈ mw.src, a ∈ S1 i) ∨ ∀ i, a ∉ S1 i) → R J H1) (evalW T mw ρ) → wi σ H R
def SW (c : Cs) (W : WX) (mw : Wk) (x : Expr) : Prop := ∃ wi : TI, (∀ X, Gd lv c W P w K mg base X → ∀ tg, (mw.tupT = true → isTupX tg = true) → PI X tg x wi) ∧ SpW T K mg W mw wi
end
section
variable {T : Tab} {lv : Nat} {P : Program} {w : World} {K : PySem.W.Frag} {mg : Str → Option Value} {base : Heap} {c : Cs} {W : WX}
variable {σ : L2.St} {H : Hp} {ρ : En} {S : Foot} {Pr : List Addr} {p q : Bool}
theorem use_EK {α : Type} {a : E} {ta : TE} {Q : VK} {fin : α → En → Hp → Foot → Prop} {f : D → En → Out α} (ea : SpE T K mg W a ta) (R : SR K Pr H σ ρ S)
    (ok : OkP K mg W false Pr σ H S fin ((evalE T a false ρ).bind f))
    (k : ∀ d e1 H1 S1 v L, evalE T a false ρ = .ok d e1 → SR K Pr H1 σ e1 S1 → Fr false H S H1 S1 → DR K H1 d v L → Res false a.src Pr H S H1 S1 L → OkP K mg W false Pr σ H S fin (f d e1) → Q v H1) : ta σ H Q := by
  refine ea false σ H ρ S Pr Q R ?_
  cases e : evalE T a false ρ with
  | bad => rw [e] at ok; exact ok
  | exc _ _ _ _ => rw [e] at ok; exact ok
  | ok d e1 =>
    rw [e] at ok
    exact fun H1 S1 R1 F1 v L dr rs => k d e1 H1 S1 v L e R1 F1.weak dr rs ok
theorem wlk_str {H1 : Hp} {z : Str} : Wlk K (Its z) H1 (signs z) [] := by
  have hl : (signs z).length = z.cps.size := by simp [signs]
  refine ⟨fun i H hi st => by rw [hl] at hi; exact hi, fun H st => by rw [hl]; exact Nat.le_refl _, fun i H x H' hi st y => ?_⟩
  obtain ⟨rfl, k, hk, rfl⟩ := y
  refine ⟨fun _ _ q => q, .im (.str ⟨#[k]⟩), [], ?_, .im (.str _), fun _ m => absurd m List.not_mem_nil⟩
  unfold signs
  rw [List.getElem?_map, Array.getElem?_toList, hk]
  rfl
def isSeqL : D → Bool
  | .lst _ => true
  | .scr _ => true
  | _ => false
theorem sw_it {a : E} {x : Expr} (sa : SE T lv P w K mg base c W a x) : SW T lv P w K mg base c W (.it a) x := by
  obtain ⟨ta, pa, ea⟩ := sa
  refine ⟨fun σ H R => (iList K ta σ H R ∨ iTup K ta σ H R) ∨ iStr ta σ H R, fun X g tg _ => ?_, fun σ H ρ S Pr R' R ok => ?_⟩
  · have r1 := pi_list (X := X) (tg := tg) (pa X g)
    have r2 := pi_tup (X := X) (tg := tg) (pa X g)
    rw [g.hK] at r1 r2
    exact PI.or (PI.or r1 r2) (pi_str (pa X g))
  · simp only [evalW] at ok
    by_cases hd : ∃ d e, evalE T a false ρ = .ok d e ∧ isSeqL d = true
    · obtain ⟨d0, e0, he, hs⟩ := hd
      refine .inl (.inl ?_)
      show ta σ H _
      refine use_EK ea R ok fun d e1 H1 S1 v L hq R1 F1 d1 r1 ok1 => ?_
      rw [he] at hq; cases hq
      obtain ⟨xs, hx, ok2⟩ := lift_ok ok1
      cases d0 with
      | lst ys =>
        cases hx
        obtain ⟨a', vs, M, rfl, ha, ra, rfl⟩ := d1.lst_inv
        exact ⟨a', rfl, ⟨vs, SqL.of ha⟩, ok2 H1 S1 R1 F1 _ _ (wlk_list ha ra) (fun b m => d1.there b m) r1.any⟩
      | scr ns =>
        cases hx
        cases d1 with
        | scr sa => exact ⟨_, rfl, ⟨_, sa.l⟩, ok2 H1 S1 R1 F1 _ _ (wlk_scr sa) (fun b m => absurd m List.not_mem_nil) fun b m => absurd m List.not_mem_nil⟩
      | _ => cases hs
    · by_cases hz : ∃ z e, evalE T a false ρ = .ok (.im (.str z)) e
      · refine .inr ?_
        obtain ⟨z, e0, he⟩ := hz
        show ta σ H _
        refine use_EK ea R ok fun d e1 H1 S1 v L hq R1 F1 d1 r1 ok1 => ?_
        rw [he] at hq; cases hq
        obtain ⟨xs, hx, ok2⟩ := lift_ok ok1
        cases hx
        exact ⟨z, d1.str_inv, ok2 H1 S1 R1 F1 _ _ wlk_str (fun b m => absurd m List.not_mem_nil) fun b m => absurd m List.not_mem_nil⟩
      refine .inl (.inr ?_)
      show ta σ H _
      refine use_EK ea R ok fun d e1 H1 S1 v L hq R1 F1 d1 r1 ok1 => ?_
      obtain ⟨xs, hx, ok2⟩ := lift_ok ok1
      cases d with
      | im y =>
        cases y with
        | str z => exact absurd ⟨z, e1, hq⟩ hz
        | tup ys =>
          cases hx
          obtain ⟨a', vs, rfl, sa, ra⟩ := d1.tup_inv
          exact ⟨a', rfl, ⟨vs, sa⟩, ok2 H1 S1 R1 F1 _ _ (wlk_tup sa (DRs.ims ra)) (fun b m => absurd m List.not_mem_nil) fun b m => absurd m List.not_mem_nil⟩
        | _ => cases hx
      | lst ys => exact absurd ⟨_, _, hq, rfl⟩ hd
      | scr ys => exact absurd ⟨_, _, hq, rfl⟩ hd
      | _ => cases hx
theorem sw_rev (G : Gl0 T lv P w K mg base) {a : E} {x : Expr} {g : Str} {gp pos : Pos} (hg : g = ("reversed" : Str)) (hgl : c.glo g = true) (hx : plainX x = true) (sa : SE T lv P w K mg base c W a x) : SW T lv P w K mg base c W (.rev a) (.Call (.Name g gp) [x] [] pos) := by
  subst hg
  obtain ⟨ta, pa, ea⟩ := sa
  refine ⟨RT.iRevA K ta, fun X g tg _ => ?_, fun σ H ρ S Pr R' R ok => ?_⟩
  · have r1 := RT.pi_revA (X := X) (tg := tg) (p := gp) (pos := pos) (isGlo_gl g.sc hgl) (isGl_mg G g (by decide)) (pa X g) (pl_star hx)
    rw [g.hK] at r1
    exact r1
  · simp only [evalW] at ok
    show ta σ H _
    refine use_EK ea R ok fun d e1 H1 S1 v L hq R1 F1 d1 r1 ok1 => ?_
    obtain ⟨xs, hx, ok2⟩ := lift_ok ok1
    cases d with
    | im y =>
      cases y with
      | tup ys =>
        cases hx
        obtain ⟨a', vs, rfl, sa, ra⟩ := d1.tup_inv
        exact ⟨a', vs, rfl, .inr ⟨sa, ok2 H1 S1 R1 F1 _ _ (wlk_revT sa (DRs.ims ra)) (fun b m => absurd m List.not_mem_nil) fun b m => absurd m List.not_mem_nil⟩⟩
      | _ => cases hx
    | lst ys =>
      cases hx
      obtain ⟨a', vs, M, rfl, ha, ra, rfl⟩ := d1.lst_inv
      exact ⟨a', vs, rfl, .inl ⟨SqL.of ha, ok2 H1 S1 R1 F1 _ _ (wlk_revL ha ra) (fun b m => d1.there b m) r1.any⟩⟩
    | scr ns =>
      cases hx
      cases d1 with
      | scr sa => exact ⟨_, _, rfl, .inl ⟨sa.l, ok2 H1 S1 R1 F1 _ _ (wlk_revS sa) (fun b m => absurd m List.not_mem_nil) fun b m => absurd m List.not_mem_nil⟩⟩
    | _ => cases hx
theorem sw_bad {mw : Wk} {x : Expr} (h : ∀ ρ, evalW T mw ρ = .bad) : SW T lv P w K mg base c W mw x :=
  ⟨fun _ _ _ => False, fun X g tg _ => PI.fls, fun σ H ρ S Pr R' R ok => by rw [h ρ] at ok; exact ok⟩
theorem sw_range (G : Gl0 T lv P w K mg base) {es : Es} {xs : List Expr} {g : Str} {gp pos : Pos} (hg : g = ("range" : Str)) (hgl : c.glo g = true) (hc : chkEs c es xs = true) (se : SEs T lv P w K mg base c W es xs) : SW T lv P w K mg base c W (.range es) (.Call (.Name g gp) xs [] pos) := by
  subst hg
  by_cases hn : es.len = 0 ∨ 3 < es.len
  · exact sw_bad fun ρ => by simp only [evalW, hn, if_true]
  · obtain ⟨t, pt, et, _, _⟩ := se
    have hl := chkEs_len hc
    match xs, hl, hc, pt with
    | [], hl, _, _ => exact absurd hl.symm fun e => hn (.inl e)
    | _ :: _ :: _ :: _ :: _, hl, _, _ => exact absurd hl fun e => hn (.inr (by rw [← e]; simp))
    | [x, y, z], hl, hc, pt =>
      have hc2 : ∃ r, chkEs c r [y, z] = true := by
        cases es with
        | nil => simp [chkEs] at hc
        | cons e r =>
          simp only [chkEs, Bool.and_eq_true] at hc
          exact ⟨r, hc.2⟩
      refine ⟨iRng3 t, fun X g tg _ => ?_, fun σ H ρ S Pr R' R ok => ?_⟩
      · obtain ⟨r, hr⟩ := hc2
        have e1 := star_all (env := X.env) hc
        have e2 := star_all (env := X.env) hr
        exact pi_range3 (isGlo_gl g.sc hgl) (isGl_mg G g (by decide)) (pt X g) (by rw [e1, e2]; rfl) (back_any pos e2)
      · simp only [evalW, hn, if_false] at ok
        show t σ H _
        refine use_EsK et R ok fun ds e1 H1 S1 vs L hd R1 F1 d1 r1 ok1 => ?_
        split at ok1
        · rw [← hl] at hd; simp at hd
        · rw [← hl] at hd; simp at hd
        · split at ok1
          · rename_i i j k hj
            cases d1 with
            | cons d2 d3 =>
              cases d3 with
              | cons d4 d5 =>
                cases d5 with
                | cons d6 d7 =>
                  cases d7
                  obtain rfl := d2.int_inv
                  obtain rfl := d4.int_inv
                  obtain rfl := d6.int_inv
                  obtain ⟨rfl, hj⟩ := hj
                  exact ⟨i, j, -1, (i - j).toNat, rfl, RgC.neg (by omega) (by omega) (by omega) (by omega), ok1 H1 S1 R1 F1 _ _ (wlk_rangeS i (-1) _) (fun b m => absurd m List.not_mem_nil) fun b m => absurd m List.not_mem_nil⟩
          · exact ok1.elim
        · exact ok1.elim
    | [x], hl, hc, pt =>
      refine ⟨iRng1 t, fun X g tg _ => pi_range1 (isGlo_gl g.sc hgl) (isGl_mg G g (by decide)) (pt X g) (star_all hc), fun σ H ρ S Pr R' R ok => ?_⟩
      simp only [evalW, hn, if_false] at ok
      show t σ H _
      refine use_EsK et R ok fun ds e1 H1 S1 vs L hd R1 F1 d1 r1 ok1 => ?_
      split at ok1
      · split at ok1
        · rename_i j hj
          cases d1 with
          | cons d2 d3 =>
            cases d3
            obtain rfl := d2.int_inv
            exact ⟨j, rfl, by omega, by omega, ok1 H1 S1 R1 F1 _ _ (wlk_range 0 _) (fun b m => absurd m List.not_mem_nil) fun b m => absurd m List.not_mem_nil⟩
        · exact ok1.elim
      · rw [← hl] at hd; simp at hd
      · rw [← hl] at hd; simp at hd
      · exact ok1.elim
    | [x, y], hl, hc, pt =>
      refine ⟨iRng2 t, fun X g tg _ => pi_range2 (isGlo_gl g.sc hgl) (isGl_mg G g (by decide)) (pt X g) (star_all hc) ?_, fun σ H ρ S Pr R' R ok => ?_⟩
      · cases es with
        | nil => simp [chkEs] at hc
        | cons e r =>
          simp only [chkEs, Bool.and_eq_true] at hc
          exact star_all hc.2
      · simp only [evalW, hn, if_false] at ok
        show t σ H _
        refine use_EsK et R ok fun ds e1 H1 S1 vs L hd R1 F1 d1 r1 ok1 => ?_
        split at ok1
        · rw [← hl] at hd; simp at hd
        · split at ok1
          · rename_i i j hj
            cases d1 with
            | cons d2 d3 =>
              cases d3 with
              | cons d4 d5 =>
                cases d5
                obtain rfl := d2.int_inv
                obtain rfl := d4.int_inv
                exact ⟨i, j, rfl, by omega, ok1 H1 S1 R1 F1 _ _ (wlk_range i _) (fun b m => absurd m List.not_mem_nil) fun b m => absurd m List.not_mem_nil⟩
          · exact ok1.elim
        · rw [← hl] at hd; simp at hd
        · exact ok1.elim
theorem DR.pair {K : PySem.W.Frag} {H' : Hp} {T : Addr} {x y : V} {a b : D} {R1 R2 : List Addr} (h : H' T = some (.tup [x, y])) (h1 : DR K H' a x R1) (h2 : DR K H' b y R2) : ∃ R, DR K H' (mkTup [a, b]) (.ref T) R ∧ ∀ c ∈ R, c ∈ R1 ∨ c ∈ R2 := by
  have ds : DRs K H' [a, b] [x, y] (R1 ++ (R2 ++ [])) := .cons h1 (.cons h2 .nil)
  have sq : SqT K H' T [x, y] := .inl (.inl h)
  cases e : ims [a, b] with
  | some ys =>
    have em : mkTup [a, b] = .im (.tup ys) := by unfold mkTup; rw [e]
    rw [em]
    obtain ⟨_, _, ri⟩ := DRs.of_ims ds e
    exact ⟨[], .im (.tup sq ri), fun _ m => absurd m List.not_mem_nil⟩
  | none =>
    have em : mkTup [a, b] = .tup [a, b] := by unfold mkTup; rw [e]
    rw [em]
    refine ⟨_, .tup sq ds, fun c m => ?_⟩
    rw [List.append_nil] at m
    exact List.mem_append.mp m
theorem upd_stay {H : Hp} {T : Addr} {o : HO} (n : H T = none) : ∀ a u, H a = some u → upd H T o a = some u := fun a u e => by
  rw [upd_ne fun z : a = T => by rw [z, n] at e; cases e]
  exact e
theorem enumL_len : ∀ (k : Nat) (ds : List D), (enumL k ds).length = ds.length
  | _, [] => rfl
  | k, d :: r => congrArg (· + 1) (enumL_len (k + 1) r)
theorem enumL_get : ∀ (k : Nat) (ds : List D) (i : Nat) (d : D), ds[i]? = some d → (enumL k ds)[i]? = some (mkTup [.im (.int ((k + i : Nat) : Int)), d])
  | k, a :: r, 0, d, h => by
    cases h
    rfl
  | k, a :: r, i + 1, d, h => by
    have h' : r[i]? = some d := h
    have e : k + (i + 1) = k + 1 + i := by omega
    rw [e]
    exact enumL_get (k + 1) r i d h'
theorem zipL_len : ∀ (xs ys : List D), (zipL xs ys).length = min xs.length ys.length
  | [], ys => by simp [zipL]
  | _ :: _, [] => by simp [zipL]
  | x :: xs, y :: ys => by
    simp only [zipL, List.length_cons, zipL_len xs ys]
    omega
theorem zipL_get : ∀ (xs ys : List D) (i : Nat) (x y : D), xs[i]? = some x → ys[i]? = some y → (zipL xs ys)[i]? = some (mkTup [x, y])
  | a :: r, b :: q, 0, x, y, h1, h2 => by
    cases h1; cases h2
    rfl
  | a :: r, b :: q, i + 1, x, y, h1, h2 => zipL_get r q i x y h1 h2
section
variable {H1 : Hp} {a b : Addr} {vs us : List V} {ds es : List D} {L M : List Addr}
theorem wlk_enumL (h : H1 a = some (.lst vs)) (r : DRs K H1 ds vs L) : Wlk K (Ite K a) H1 (enumL 0 ds) (a :: L) := by
  have hs : ∀ H, Stay H1 H (a :: L) → SqL K H a vs := fun H st => SqL.of (st a _ h (.inr List.mem_cons_self))
  refine ⟨fun i H hi st => ?_, fun H st => ⟨vs, hs H st, by rw [enumL_len, r.length]; exact Nat.le_refl _⟩, fun i H x H' hi st y => ?_⟩
  · rw [enumL_len, r.length] at hi
    exact ⟨vs, vs[i], hs H st, List.getElem?_eq_getElem hi⟩
  · obtain ⟨T, x', rfl, hn, rfl, y⟩ := y
    obtain ⟨d, R, e, dr, hR⟩ := r.getV (y vs (hs H st))
    have g := upd_stay (o := .tup [.int (i : Nat), x']) hn
    have dr' : DR K (upd H T (.tup [.int (i : Nat), x'])) d x' R := (dr.stay (st.mono fun b m => List.mem_cons_of_mem _ (hR b m))).stay (Stay.ext g)
    obtain ⟨R', h1, h2⟩ := DR.pair upd_same (.im (.int (i : Nat))) dr'
    refine ⟨g, _, R', ?_, h1, fun b m => ?_⟩
    · have := enumL_get 0 ds i d e
      rw [Nat.zero_add] at this
      exact this
    · rcases h2 b m with m | m
      · exact absurd m List.not_mem_nil
      · exact List.mem_cons_of_mem _ (hR b m)
theorem wlk_enumT (h : SqT K H1 a vs) (r : DRs K H1 ds vs L) : Wlk K (Kq.IteT K a) H1 (enumL 0 ds) L := by
  have hs : ∀ H, Stay H1 H L → SqT K H a vs := fun H st => SqT.stay st h
  refine ⟨fun i H hi st => ?_, fun H st => ⟨vs, hs H st, by rw [enumL_len, r.length]; exact Nat.le_refl _⟩, fun i H x H' hi st y => ?_⟩
  · rw [enumL_len, r.length] at hi
    exact ⟨vs, vs[i], hs H st, List.getElem?_eq_getElem hi⟩
  · obtain ⟨T, x', rfl, hn, rfl, y⟩ := y
    obtain ⟨d, R, e, dr, hR⟩ := r.getV (y vs (hs H st))
    have g := upd_stay (o := .tup [.int (i : Nat), x']) hn
    have dr' : DR K (upd H T (.tup [.int (i : Nat), x'])) d x' R := (dr.stay (st.mono fun b m => hR b m)).stay (Stay.ext g)
    obtain ⟨R', h1, h2⟩ := DR.pair upd_same (.im (.int (i : Nat))) dr'
    refine ⟨g, _, R', ?_, h1, fun b m => ?_⟩
    · have := enumL_get 0 ds i d e
      rw [Nat.zero_add] at this
      exact this
    · rcases h2 b m with m | m
      · exact absurd m List.not_mem_nil
      · exact hR b m
theorem wlk_enumS {z : Str} : Wlk K (Kq.IteS z) H1 (enumL 0 (signs z)) [] := by
  have hl : (signs z).length = z.cps.size := by simp [signs]
  refine ⟨fun i H hi st => by rw [enumL_len, hl] at hi; exact hi, fun H st => by rw [enumL_len, hl]; exact Nat.le_refl _, fun i H x H' hi st y => ?_⟩
  obtain ⟨T, k, rfl, hn, rfl, hk⟩ := y
  have g := upd_stay (o := .tup [.int (i : Nat), .str ⟨#[k]⟩]) hn
  obtain ⟨R', h1, h2⟩ := DR.pair (K := K) (H' := upd H T (.tup [.int (i : Nat), .str ⟨#[k]⟩])) upd_same (.im (.int (i : Nat))) (.im (.str ⟨#[k]⟩))
  refine ⟨g, _, R', ?_, h1, fun b m => (h2 b m).elim id id⟩
  have e : (signs z)[i]? = some (.im (.str ⟨#[k]⟩)) := by
    unfold signs
    rw [List.getElem?_map, Array.getElem?_toList, hk]
    rfl
  have := enumL_get 0 (signs z) i _ e
  rw [Nat.zero_add] at this
  exact this
theorem wlk_zipL (h : H1 a = some (.lst vs)) (r : DRs K H1 ds vs L) (h2 : H1 b = some (.lst us)) (r2 : DRs K H1 es us M) : Wlk K (Itz K a b) H1 (zipL ds es) ((a :: L) ++ (b :: M)) := by
  have hs : ∀ H, Stay H1 H ((a :: L) ++ (b :: M)) → SqL K H a vs ∧ SqL K H b us := fun H st => ⟨SqL.of (st a _ h (.inr (by simp))), SqL.of (st b _ h2 (.inr (by simp)))⟩
  refine ⟨fun i H hi st => ?_, fun H st => ⟨vs, us, (hs H st).1, (hs H st).2, ?_⟩, fun i H x H' hi st y => ?_⟩
  · rw [zipL_len, r.length, r2.length] at hi
    have i1 : i < vs.length := by omega
    have i2 : i < us.length := by omega
    exact ⟨vs, us, vs[i], us[i], (hs H st).1, (hs H st).2, List.getElem?_eq_getElem i1, List.getElem?_eq_getElem i2⟩
  · rw [zipL_len, r.length, r2.length]
    omega
  · obtain ⟨T, x1, x2, rfl, hn, rfl, y1, y2⟩ := y
    obtain ⟨d, R, e, dr, hR⟩ := r.getV (y1 vs (hs H st).1)
    obtain ⟨d2, R2, e2, dr2, hR2⟩ := r2.getV (y2 us (hs H st).2)
    have g := upd_stay (o := .tup [x1, x2]) hn
    have dr' : DR K (upd H T (.tup [x1, x2])) d x1 R := (dr.stay (st.mono fun c m => List.mem_append_left _ (List.mem_cons_of_mem _ (hR c m)))).stay (Stay.ext g)
    have dr2' : DR K (upd H T (.tup [x1, x2])) d2 x2 R2 := (dr2.stay (st.mono fun c m => List.mem_append_right _ (List.mem_cons_of_mem _ (hR2 c m)))).stay (Stay.ext g)
    obtain ⟨R', h1, h2⟩ := DR.pair upd_same dr' dr2'
    refine ⟨g, _, R', zipL_get _ _ _ _ _ e e2, h1, fun c m => ?_⟩
    rcases h2 c m with m | m
    · exact List.mem_append_left _ (List.mem_cons_of_mem _ (hR c m))
    · exact List.mem_append_right _ (List.mem_cons_of_mem _ (hR2 c m))
theorem wlk_zipT (h : SqT K H1 a vs) (r : DRs K H1 ds vs L) (h2 : SqT K H1 b us) (r2 : DRs K H1 es us M) : Wlk K (RZ.ItzT K a b) H1 (zipL ds es) (L ++ M) := by
  have hs : ∀ H, Stay H1 H (L ++ M) → SqT K H a vs ∧ SqT K H b us := fun H st => ⟨SqT.stay st h, SqT.stay st h2⟩
  refine ⟨fun i H hi st => ?_, fun H st => ⟨vs, us, (hs H st).1, (hs H st).2, ?_⟩, fun i H x H' hi st y => ?_⟩
  · rw [zipL_len, r.length, r2.length] at hi
    have i1 : i < vs.length := by omega
    have i2 : i < us.length := by omega
    exact ⟨vs, us, vs[i], us[i], (hs H st).1, (hs H st).2, List.getElem?_eq_getElem i1, List.getElem?_eq_getElem i2⟩
  · rw [zipL_len, r.length, r2.length]
    omega
  · obtain ⟨T, x1, x2, rfl, hn, rfl, y1, y2⟩ := y
    obtain ⟨d, R, e, dr, hR⟩ := r.getV (y1 vs (hs H st).1)
    obtain ⟨d2, R2, e2, dr2, hR2⟩ := r2.getV (y2 us (hs H st).2)
    have g := upd_stay (o := .tup [x1, x2]) hn
    have dr' : DR K (upd H T (.tup [x1, x2])) d x1 R := (dr.stay (st.mono fun c m => List.mem_append_left _ (hR c m))).stay (Stay.ext g)
    have dr2' : DR K (upd H T (.tup [x1, x2])) d2 x2 R2 := (dr2.stay (st.mono fun c m => List.mem_append_right _ (hR2 c m))).stay (Stay.ext g)
    obtain ⟨R', h1, h2⟩ := DR.pair upd_same dr' dr2'
    refine ⟨g, _, R', zipL_get _ _ _ _ _ e e2, h1, fun c m => ?_⟩
    rcases h2 c m with m | m
    · exact List.mem_append_left _ (hR c m)
    · exact List.mem_append_right _ (hR2 c m)
end
theorem isTupX_inv {x : Expr} (h : isTupX x = true) : ∃ es k p, x = .Tuple es k p := by
  cases x <;> first | exact ⟨_, _, _, rfl⟩ | exact absurd h Bool.false_ne_true
theorem sw_enum (G : Gl0 T lv P w K mg base) {a : E} {x : Expr} {g : Str} {gp pos : Pos} (hg : g = ("enumerate" : Str)) (hgl : c.glo g = true) (hx : plainX x = true) (sa : SE T lv P w K mg base c W a x) : SW T lv P w K mg base c W (.enum a) (.Call (.Name g gp) [x] [] pos) := by
  subst hg
  obtain ⟨ta, pa, ea⟩ := sa
  refine ⟨fun σ H R => (iEnum K (tCons ta tNil) σ H R ∨ Kq.iEnumT K (tCons ta tNil) σ H R) ∨ Kq.iEnumS (tCons ta tNil) σ H R, fun X gd tg ht => ?_, fun σ H ρ S Pr R' R ok => ?_⟩
  · obtain ⟨es, k, p, rfl⟩ := isTupX_inv (ht rfl)
    have ha := pa_cons (pa X gd) pa_nil (pl_star hx)
    have r1 := pi_enum (X := X) (elts := es) (kk := k) (tpos := p) (p := gp) (pos := pos) (isGlo_gl gd.sc hgl) (isGl_mg G gd (by decide)) ha (pl_star hx)
    have r2 := Kq.pi_enumT (X := X) (elts := es) (kk := k) (tpos := p) (p := gp) (pos := pos) (isGlo_gl gd.sc hgl) (isGl_mg G gd (by decide)) ha (pl_star hx)
    have r3 := Kq.pi_enumS (X := X) (elts := es) (kk := k) (tpos := p) (p := gp) (pos := pos) (isGlo_gl gd.sc hgl) (isGl_mg G gd (by decide)) ha (pl_star hx)
    rw [gd.hK] at r1 r2
    exact PI.or (PI.or r1 r2) r3
  · simp only [evalW] at ok
    by_cases hd : ∃ d e, evalE T a false ρ = .ok d e ∧ isSeqL d = true
    · obtain ⟨d0, e0, he, hs⟩ := hd
      refine .inl (.inl ?_)
      show ta σ H _
      refine use_EK ea R ok fun d e1 H1 S1 v L hq R1 F1 d1 r1 ok1 => ?_
      rw [he] at hq; cases hq
      obtain ⟨xs, hx, ok2⟩ := lift_ok ok1
      cases d0 with
      | lst ys =>
        cases hx
        obtain ⟨a', vs, M, rfl, ha, ra, rfl⟩ := d1.lst_inv
        exact ⟨a', vs, rfl, SqL.of ha, ok2 H1 S1 R1 F1 _ _ (wlk_enumL ha ra) (fun b m => d1.there b m) r1.any⟩
      | scr ns => cases hx
      | _ => cases hs
    · by_cases hz : ∃ z e, evalE T a false ρ = .ok (.im (.str z)) e
      · refine .inr ?_
        obtain ⟨z, e0, he⟩ := hz
        show ta σ H _
        refine use_EK ea R ok fun d e1 H1 S1 v L hq R1 F1 d1 r1 ok1 => ?_
        rw [he] at hq; cases hq
        obtain ⟨xs, hx, ok2⟩ := lift_ok ok1
        cases hx
        have hv := d1.str_inv
        subst hv
        exact ⟨z, rfl, ok2 H1 S1 R1 F1 _ _ wlk_enumS (fun b m => absurd m List.not_mem_nil) fun b m => absurd m List.not_mem_nil⟩
      refine .inl (.inr ?_)
      show ta σ H _
      refine use_EK ea R ok fun d e1 H1 S1 v L hq R1 F1 d1 r1 ok1 => ?_
      obtain ⟨xs, hx, ok2⟩ := lift_ok ok1
      cases d with
      | im y =>
        cases y with
        | str z => exact absurd ⟨z, e1, hq⟩ hz
        | tup ys =>
          cases hx
          obtain ⟨a', vs, rfl, sa, ra⟩ := d1.tup_inv
          exact ⟨a', vs, rfl, sa, ok2 H1 S1 R1 F1 _ _ (wlk_enumT sa (DRs.ims ra)) (fun b m => absurd m List.not_mem_nil) fun b m => absurd m List.not_mem_nil⟩
        | _ => cases hx
      | lst ys => exact absurd ⟨_, _, hq, rfl⟩ hd
      | scr ys => exact absurd ⟨_, _, hq, rfl⟩ hd
      | _ => cases hx
theorem sw_zip (G : Gl0 T lv P w K mg base) {a b : E} {x y : Expr} {g : Str} {gp pos : Pos} (hg : g = ("zip" : Str)) (hgl : c.glo g = true) (hx : plainX x = true) (hy : plainX y = true) (sa : SE T lv P w K mg base c W a x) (sb : SE T lv P w K mg base c W b y) : SW T lv P w K mg base c W (.zip a b) (.Call (.Name g gp) [x, y] [] pos) := by
  subst hg
  obtain ⟨ta, pa, ea⟩ := sa
  obtain ⟨tb, pb, eb⟩ := sb
  refine ⟨RZ.iZipA K (tCons ta (tCons tb tNil)), fun X gd tg ht => ?_, fun σ H ρ S Pr R' R ok => ?_⟩
  · obtain ⟨es, k, p, rfl⟩ := isTupX_inv (ht rfl)
    have hs : starEach [y] X.env = [(false, eval y X.env)] := pl_star hy
    have r := RZ.pi_zipA (X := X) (elts := es) (kk := k) (tpos := p) (p := gp) (pos := pos) (isGlo_gl gd.sc hgl) (isGl_mg G gd (by decide)) (pa_cons (pa X gd) (pa_cons (pb X gd) pa_nil hs) (pl_star hx)) (pl_star hx) (by rw [hs]; rfl)
    rw [gd.hK] at r
    exact r
  · simp only [evalW] at ok
    show ta σ H _
    refine use_EK ea R ok fun d e1 H1 S1 v L hq R1 F1 d1 r1 ok1 => ?_
    obtain ⟨hs, ok2⟩ := still_ok ok1
    show tb σ H1 _
    refine use_E (q := false) eb R1 (by rw [Bool.and_false]; exact ok2.shift0 F1) fun d' e2 H2 S2 u M R2 F2 d2 r2 ok3 => ?_
    obtain ⟨xs, hx', ok4⟩ := lift_ok ok3
    obtain ⟨pq, hz, rfl⟩ := Option.map_eq_some_iff.mp hx'
    have d1' := d1.still hs F2 R1
    cases d with
    | im yy =>
      cases yy with
      | tup ys =>
        cases d' with
        | im zz =>
          cases zz with
          | tup zs =>
            cases hz
            obtain ⟨a', vs, rfl, sa, ra⟩ := d1'.tup_inv
            obtain ⟨b', us, rfl, sb, rb⟩ := d2.tup_inv
            exact ⟨a', b', vs, us, rfl, .inr ⟨sa, sb, ok4 H2 S2 R2 Fr.refl _ _ (wlk_zipT sa (DRs.ims ra) sb (DRs.ims rb)) (fun b m => absurd m List.not_mem_nil) fun b m => absurd m List.not_mem_nil⟩⟩
          | _ => cases hz
        | _ => cases hz
      | _ => cases hz
    | lst ys =>
      cases d' with
      | lst zs =>
        cases hz
        have hp : b.pure = true := by simpa [D.isIm] using hs
        have e12 := (F2.pur hp).1
        obtain ⟨a', vs, M1, rfl, ha, ra, rfl⟩ := d1'.lst_inv
        obtain ⟨b', us, M2, rfl, hb, rb, rfl⟩ := d2.lst_inv
        refine ⟨a', b', vs, us, rfl, .inl ⟨SqL.of ha, SqL.of hb, ok4 H2 S2 R2 Fr.refl _ _ (wlk_zipL ha ra hb rb) (fun c m => ?_) fun c m => ?_⟩⟩
        · rcases List.mem_append.mp m with m | m
          · exact d1'.there c m
          · exact d2.there c m
        · rcases List.mem_append.mp m with m | m
          · rcases r1.any c m with z | ⟨i, hi, z⟩ | z
            · exact .inl z
            · exact .inr (.inl ⟨i, by simp only [Wk.src]; exact List.mem_append_left _ hi, by rw [e12]; exact z⟩)
            · exact .inr (.inr (by rw [e12]; exact z))
          · rcases r2.any c m with z | ⟨i, hi, z⟩ | z
            · exact .inl z
            · exact .inr (.inl ⟨i, by simp only [Wk.src]; exact List.mem_append_right _ hi, z⟩)
            · exact .inr (.inr z)
      | _ => cases hz
    | _ => cases hz
end
end Kh

set_option Elab.async false
set_option linter.all false
set_option maxRecDepth 100000
set_option maxHeartbeats 2000000
/-! comprehensions -/
namespace Kh
open PySem PySem.Spec PyProof.Rows L2

/-- where no error leaves -/
abbrev W0 : WX := fun _ _ _ _ => False
theorem blk_loc {c : Cs} {scope : Scope} {x : Str} (h : (c.blk scope).loc x = true) : Loc (c.blk scope).sc x ∧ ((scope.names.lookup x == some .cell) = true ∨ (c.blk scope).sc.names.lookup x = some .local) := by
  unfold Cs.loc isLoc at h
  have e : (c.blk scope).raw = scope := rfl
  rw [e] at h
  split at h
  · rename_i q
    have z : (c.blk scope).sc.names.lookup x = some .local := lookup_relS_keep (by intro h; cases h) q
    exact ⟨.inl z, .inr z⟩
  · rename_i q
    have z : (c.blk scope).sc.names.lookup x = some .cell := lookup_relS_keep (by intro h; cases h) q
    exact ⟨.inr z, .inl (by rw [q]; rfl)⟩
  · cases h
theorem wipe_get {σ : L2.St} : ∀ {vs : List Nat} {i : Nat}, (wipe σ vs)[i]? = if i ∈ vs then (if i < σ.length then some none else none) else σ[i]?
  | [], i => by simp [wipe]
  | v :: vs, i => by
    unfold wipe
    by_cases h : v = i
    · subst h
      rw [List.getElem?_set]
      simp [wipe_length]
    · rw [List.getElem?_set_ne h, wipe_get (vs := vs) (i := i)]
      have : (i ∈ v :: vs) ↔ i ∈ vs := by
        rw [List.mem_cons]
        exact ⟨fun z => z.elim (fun e => absurd e.symm h) id, .inr⟩
      simp only [this]
theorem wipe_eq {σ σ' : L2.St} {vs : List Nat} (hl : σ'.length = σ.length) (h : ∀ i : Nat, i ∉ vs → σ'[i]? = (wipe σ vs)[i]?) : wipe σ' vs = wipe σ vs := by
  apply List.ext_getElem?
  intro i
  rw [wipe_get, wipe_get]
  by_cases m : i ∈ vs
  · simp only [m, if_true, hl]
  · simp only [m, if_false]
    rw [h i m, wipe_get]
    simp only [m, if_false]

section
variable {T : Tab} {lv : Nat} {P : Program} {w : World} {K : PySem.W.Frag} {mg : Str → Option Value} {base : Heap} {c : Cs} {W : WX}
theorem gd_blk {X : Cx} {scope : Scope} {s : Shared} {H : Hp} {C : Addr} {cl : List (Str × Addr)} {fp : List Addr} (g : Gd lv c W P w K mg base X) : Gd lv (c.blk scope) W0 P w K mg base (X.blk s H scope (compEnvC scope cl C X.env) fp) := by
  have hs := g.sc
  refine ⟨g.hP, g.hw, g.hK, g.hm, g.hb, ?_, g.N, g.nd, g.calm, g.un, g.room, fun x h => ?_, takes0⟩
  · show relS scope X.env.scope = _
    rw [hs]; rfl
  · exact blk_loc h
variable (T lv P w K mg base)
def SpC (W : WX) (me : Eo) (t : TT) : Prop := ∀ σ H ρ S Pr Q, SR K Pr H σ ρ S → OkP K mg W false Pr σ H S (fun b _ H' _ => Q b H') (evalC T me ρ) → t σ H Q
def SC (c : Cs) (W : WX) (me : Eo) (xs : List Expr) : Prop := ∃ t : TT, (∀ X, Gd lv c W P w K mg base X → PTs X xs t) ∧ SpC T K mg W me t
variable {T lv P w K mg base}
theorem sc_no : SC T lv P w K mg base c W .no [] := ⟨tYes, fun X g => pts_nil, fun σ H ρ S Pr Q R ok => by
  simp only [evalC] at ok
  exact ok H S R Fr.refl⟩
theorem sc_so {e : E} {x : Expr} (h : ST T lv P w K mg base c W e x) : SC T lv P w K mg base c W (.so e) [x] := by
  obtain ⟨t, pt, et⟩ := h
  refine ⟨t, fun X g => pts_one (pt X g).1, fun σ H ρ S Pr Q R ok => ?_⟩
  simp only [evalC] at ok
  exact et σ H ρ S Pr Q R ok.weak

/-! ### the turns -/
variable (T) in
/-- one turn -/
def lcT (tg : Tg) (own : List Nat) (cn : Eo) (elt : E) : D → En → Out (Option D) := fun d e => match bindT tg d true e with
  | some e1 => ((evalC T cn e1).bind fun k e2 => if k then (evalE T elt true e2).bind fun y e3 => .ok (some y) (clear own e3) else .ok none (clear own e2)).nx
  | none => .bad
theorem lcT_inv {tg : Tg} {own : List Nat} {cn : Eo} {elt : E} {d : D} {e e' : En} {o : Option D} (h : lcT T tg own cn elt d e = .ok o e') : ∃ e1 k e2, bindT tg d true e = some e1 ∧ evalC T cn e1 = .ok k e2 ∧
    ((k = true ∧ ∃ y e3, evalE T elt true e2 = .ok y e3 ∧ o = some y ∧ e' = clear own e3) ∨ (k = false ∧ o = none ∧ e' = clear own e2)) := by
  unfold lcT at h
  split at h
  · rename_i e1 h1
    cases h2 : evalC T cn e1 with
    | bad => rw [h2] at h; cases h
    | exc _ _ _ _ => rw [h2] at h; cases h
    | ok k e2 =>
      rw [h2] at h
      refine ⟨e1, k, e2, h1, h2 ▸ rfl, ?_⟩
      cases k with
      | false =>
        simp only [Out.bind, Bool.false_eq_true, if_false, Out.nx] at h
        cases h
        exact .inr ⟨rfl, rfl, rfl⟩
      | true =>
        simp only [Out.bind, if_true] at h
        cases h3 : evalE T elt true e2 with
        | bad => rw [h3] at h; cases h
        | exc _ _ _ _ => rw [h3] at h; cases h
        | ok y e3 =>
          rw [h3] at h
          simp only [Out.nx] at h
          cases h
          exact .inl ⟨rfl, y, e3, rfl, rfl, rfl⟩
  · cases h
theorem lcT_nx {tg : Tg} {own : List Nat} {cn : Eo} {elt : E} {d : D} {e : En} : (∃ o e', lcT T tg own cn elt d e = .ok o e') ∨ lcT T tg own cn elt d e = .bad := by
  unfold lcT
  split
  · rename_i e1 h1
    cases (evalC T cn e1).bind _ with
    | bad => exact .inr rfl
    | exc _ _ _ _ => exact .inr rfl
    | ok _ _ => exact .inl ⟨_, _, rfl⟩
  · exact .inr rfl
theorem lcGo_nx {turn : D → En → Out (Option D)} (h : ∀ d e, (∃ o e', turn d e = .ok o e') ∨ turn d e = .bad) : ∀ (ds : List D) (e : En), (∃ ys e', lcGo turn ds e = .ok ys e') ∨ lcGo turn ds e = .bad
  | [], e => .inl ⟨_, _, rfl⟩
  | d :: ds, e => by
    unfold lcGo
    rcases h d e with ⟨o, e', h1⟩ | h1
    · rcases lcGo_nx h ds e' with ⟨ys, e'', h2⟩ | h2
      · rw [h1]
        simp only [Out.bind, h2]
        exact .inl ⟨_, _, rfl⟩
      · exact .inr (by rw [h1]; simp only [Out.bind, h2])
    · exact .inr (by rw [h1]; rfl)
theorem lcGo_cons {turn : D → En → Out (Option D)} {d : D} {ds : List D} {e e' : En} {ys : List D} (h : lcGo turn (d :: ds) e = .ok ys e') : ∃ o e1 zs, turn d e = .ok o e1 ∧ lcGo turn ds e1 = .ok zs e' ∧ ys = (match o with
    | some y => y :: zs
    | none => zs) := by
  unfold lcGo at h
  cases h1 : turn d e with
  | bad => rw [h1] at h; cases h
  | exc _ _ _ _ => rw [h1] at h; cases h
  | ok o e1 =>
    rw [h1] at h
    simp only [Out.bind] at h
    cases h2 : lcGo turn ds e1 with
    | bad => rw [h2] at h; cases h
    | exc _ _ _ _ => rw [h2] at h; cases h
    | ok zs e2 =>
      rw [h2] at h
      cases h
      exact ⟨o, e1, zs, rfl, h2, rfl⟩
theorem drop_cons {α : Type} {xs : List α} {i : Nat} {x : α} (h : xs[i]? = some x) : xs.drop i = x :: xs.drop (i + 1) := by
  obtain ⟨h1, h2⟩ := List.getElem?_eq_some_iff.mp h
  rw [List.drop_eq_getElem_cons h1, h2]

/-- what holds ahead of turn i -/
def LcI (K : PySem.W.Frag) (P2 : List Addr) (H1 : Hp) (S3 : Foot) (σ : L2.St) (turn : D → En → Out (Option D)) (ds ys : List D) (ef : En) (Dd : Addr) (i : Nat) (H : Hp) : Prop :=
  ∃ acc La done zs e S, H Dd = some (.lst acc) ∧ DRs K H done acc La ∧ La.Nodup ∧ (∀ a ∈ La, a ≠ Dd ∧ MutAt H a ∧ (∀ j, a ∉ S j) ∧ a ∉ P2 ∧ ((∃ j, a ∈ S3 j) ∨ H1 a = none)) ∧
    SR K P2 H σ e S ∧ (∀ j, Dd ∉ S j) ∧ Fr false H1 S3 H S ∧ lcGo turn (ds.drop i) e = .ok zs ef ∧ done ++ zs = ys ∧ done.length ≤ i ∧ i ≤ ds.length

theorem se_lc {mw : Wk} {tg : Tg} {own : List (Str × Nat)} {cn : Eo} {elt : E} {y t it : Expr} {ifs : List Expr} {scope : Scope} (hb : blkC c.N c.sc scope own = true) (hit : plainX it = true)
    (hsl : tg.slots.all (fun i => (own.map (·.2)).contains i) = true) (htt : mw.tupT = true → isTupX t = true) (sw : SW T lv P w K mg base c W mw it) (sg : SG lv P w K mg base (c.blk scope) W0 tg t) (sc : SC T lv P w K mg base (c.blk scope) W0 cn ifs) (se : SE T lv P w K mg base (c.blk scope) W0 elt y) :
    ∃ wi g tt te, (∀ X, Gd lv c W P w K mg base X → PI X t it wi ∧ BlkOk X.N X.env.scope scope own ∧ (∀ (s : Shared) (H : Hp) (C : Addr) (cl : List (Str × Addr)) (fp : List Addr), PG (X.blk s H scope (compEnvC scope cl C X.env) fp) t g) ∧
      (∀ (s : Shared) (H : Hp) (C : Addr) (cl : List (Str × Addr)) (fp : List Addr), PTs (X.blk s H scope (compEnvC scope cl C X.env) fp) ifs tt) ∧ (∀ (s : Shared) (H : Hp) (C : Addr) (cl : List (Str × Addr)) (fp : List Addr), PE (X.blk s H scope (compEnvC scope cl C X.env) fp) y te) ∧ ∀ x, foldedSetIterable it X.env x = pure x) ∧
      SpE T K mg W (.lc mw tg own cn elt) (tLc wi g tt te (own.map (·.2))) := by
  obtain ⟨wi, pw, ew⟩ := sw
  obtain ⟨g, pg, eg⟩ := sg
  obtain ⟨tt, pt, et⟩ := sc
  obtain ⟨te, pe, ee⟩ := se
  refine ⟨wi, g, tt, te, fun X gd => ⟨pw X gd t htt, by rw [gd.N, gd.sc]; exact blkOk_by hb, fun s H C cl fp => pg _ (gd_blk gd), fun s H C cl fp => pt _ (gd_blk gd), fun s H C cl fp => pe _ (gd_blk gd), pl_set hit⟩, ?_⟩
  intro ow σ H0 ρ S0 Pr Q R0 ok
  simp only [evalE, E.pure, Bool.false_and] at ok
  show wi σ H0 _
  refine ew σ H0 ρ S0 Pr _ R0 ((ok.bindK (p := false)).mono fun ds e1 H1 S1 R1 F1 ok1 J L wl hth hL Dd hD => ?_)
  split at ok1
  · rename_i hbig
    generalize hvs : own.map (·.2) = vs at ok1 hsl ⊢
    obtain ⟨P', S', RL, l1, l2, l3, l4⟩ := SR.lock mw.src R1
    have R2 := RL.protect (L := L) fun a m => ⟨fun i n => by
      rcases hL a m with z | ⟨j, hj, z⟩ | z
      · exact RL.pt i a n (l1 a z)
      · exact (l4 j hj a z).2 i n
      · exact z i (l2 i a n), hth a m⟩
    obtain ⟨S3, R3, w1⟩ := R2.wipe vs
    have s31 : ∀ (i : Nat) (a : Addr), a ∈ S3 i → a ∈ S1 i := fun i a m => l2 i a (w1 i a m)
    generalize hP2 : P' ++ L = P2 at R3
    have pr2 : ∀ a ∈ Pr, a ∈ P2 := fun a m => by rw [← hP2]; exact List.mem_append_left _ (l1 a m)
    have L2' : ∀ a ∈ L, a ∈ P2 := fun a m => by rw [← hP2]; exact List.mem_append_right _ m
    have lk : ∀ i ∈ mw.src, ∀ a ∈ S1 i, a ∈ P2 := fun i hi a m => by rw [← hP2]; exact List.mem_append_left _ (l4 i hi a m).1
    have hDP : Dd ∉ P2 := fun m => (R3.pa Dd m).ne hD
    -- the run
    have ok2 : OkP K mg W false Pr σ H0 S0 (finE K ow [] Pr H0 S0 Q) ((lcGo (lcT T tg vs cn elt) ds (clear vs (lockAll mw.src e1))).bind fun ys e' => .ok (.lst ys) (settle e1 mw.src vs vs e')) := ok1
    rcases lcGo_nx (fun d e => lcT_nx) ds (clear vs (lockAll mw.src e1)) with ⟨ys, ef, hrun⟩ | hrun
    · rw [hrun] at ok2
      have stayL : ∀ {H : Hp} {S : Foot}, Fr false H1 S3 H S → Stay H1 H P2 := fun F => R3.stayP F
      refine ⟨fun i m H => m = ds.length - i ∧ LcI K P2 H1 S3 (wipe σ vs) (lcT T tg vs cn elt) ds ys ef Dd i H, ⟨ds.length, by simp, ?_⟩, ?_⟩
      · refine ⟨[], [], [], ys, _, S3, upd_same, .nil, List.nodup_nil, fun a m => absurd m List.not_mem_nil, R3.grow (grow_new hD), fun j m => (R3.mu j Dd m).there hD, Fr.ext (grow_new hD), by rw [List.drop_zero]; exact hrun, rfl, Nat.le_refl _, Nat.zero_le _⟩
      · rintro i m H ⟨rfl, acc, La, done, zs, e, S, hd, rd, nd, hLa, R, dS, F, hz, hys, hdl, hi⟩
        by_cases hlt : i < ds.length
        · refine .inr ⟨wl.go i H hlt ((stayL F).mono L2'), fun H' => LcI K P2 H1 S3 (wipe σ vs) (lcT T tg vs cn elt) ds ys ef Dd (i + 1) H', fun H' q => ⟨ds.length - (i + 1), by omega, rfl, q⟩, fun x H' yl => ?_⟩
          obtain ⟨ex, d, Rr, hdi, dx, hRr⟩ := wl.yld i H x H' hlt ((stayL F).mono L2') yl
          rw [drop_cons hdi] at hz
          obtain ⟨o, e2, zs', ht, hz', hzs⟩ := lcGo_cons hz
          obtain ⟨eb, k, ec, hbind, hcn, hcase⟩ := lcT_inv ht
          have RH := R.grow ex
          refine eg true d e eb x Rr _ H' S P2 _ hbind RH dx (fun a m => L2' a (hRr a m)) fun σ2 S2 Rb ob lb sb => ?_
          have s2 : ∀ (j : Nat) (a : Addr), a ∈ S2 j → a ∈ S j := fun j a m => by
            rcases sb j a m with z | z
            · exact z
            · exact absurd (L2' a (hRr a z)) (Rb.pt j a m)
          have hw : wipe σ2 vs = wipe σ vs := wipe_eq (by rw [lb, wipe_length]) fun j n => ob j fun z => n (by
            have := List.all_eq_true.mp hsl j z
            exact List.contains_iff_mem.mp this)
          refine ⟨hw, ?_⟩
          refine et σ2 H' eb S2 P2 _ Rb ?_
          rw [hcn]
          intro H3 S3' Rc Fc
          -- what stood ahead of the turn, seen from a later heap
          have later : ∀ {H4 : Hp} {S4 : Foot}, Fr false H' S2 H4 S4 → H4 Dd = some (.lst acc) ∧ DRs K H4 done acc La ∧ (∀ j, Dd ∉ S4 j) ∧ Fr false H1 S3 H4 S4 ∧ ∀ a ∈ La, a ≠ Dd ∧ MutAt H4 a ∧ (∀ j, a ∉ S4 j) ∧ a ∉ P2 ∧ ((∃ j, a ∈ S3 j) ∨ H1 a = none) := fun {H4 S4} G => by
            have no : ∀ a, (∀ j, a ∉ S j) → There H' a → ∀ j, a ∉ S4 j := fun a n th j m => by
              rcases G.own j a m with ⟨l, z⟩ | z
              · exact n l (s2 l a z)
              · exact th.ne z
            refine ⟨G.keep _ _ (ex _ _ hd) fun j m => dS j (s2 j _ m), (rd.stay (Stay.ext ex)).stay (Rb.stay G fun a m j n => (hLa a m).2.2.1 j (s2 j a n)), no Dd dS ⟨_, ex _ _ hd⟩, ?_, fun a m => ?_⟩
            · have F' : Fr false H1 S3 H' S2 := ⟨fun a o q n => ex a o (F.keep a o q n), fun j a m => F.own j a (s2 j a m), fun e => nomatch e⟩
              exact F'.trans' G
            · obtain ⟨h1, ⟨o, h2, h2'⟩, h3, h4, h5⟩ := hLa a m
              exact ⟨h1, ⟨o, G.keep a o (ex a o h2) fun j n => h3 j (s2 j a n), h2'⟩, no a h3 ⟨o, ex a o h2⟩, h4, h5⟩
          rcases hcase with ⟨rfl, yv, e3, hel, rfl, rfl⟩ | ⟨rfl, rfl, rfl⟩
          · simp only [if_true]
            refine ee true σ2 H3 ec S3' P2 _ Rc ?_
            rw [hel, Bool.not_true, Bool.and_false]
            intro H4 S4 Rd Fd v Ly dv rv
            have G := Fc.trans' Fd
            obtain ⟨g1, g2, g3, g4, g5⟩ := later G
            have rv' := rv.back Fc
            obtain ⟨n1, h1⟩ := rv'.mine rfl
            have hal : acc.length = done.length := g2.length.symm
            refine ⟨acc, g1, by rw [hal]; exact Nat.lt_of_lt_of_le (Nat.lt_of_le_of_lt hdl hlt) (Nat.le_trans hbig (by decide)), ?_⟩
            obtain ⟨S5, R5, w5⟩ := Rd.wipe vs
            rw [hw] at R5
            have up : ∀ a o, H4 a = some o → a ≠ Dd → (upd H4 Dd (.lst (acc ++ [v]))) a = some o := fun a o q n => by rw [upd_ne n]; exact q
            have stU : ∀ {M : List Addr}, (∀ a ∈ M, a ≠ Dd) → Stay H4 (upd H4 Dd (.lst (acc ++ [v]))) M := fun {M} hM a o q z => up a o q fun e => by
              subst e
              rcases z with z | z
              · rw [g1] at q; cases q; cases z
              · exact hM a z rfl
            have yD : ∀ a ∈ Ly, a ≠ Dd := fun a m e => by
              subst e
              rcases (h1 a m).2.2.1 with ⟨j, z⟩ | z
              · exact dS j (s2 j a z)
              · rw [ex _ _ hd] at z; cases z
            refine ⟨acc ++ [v], La ++ Ly, done ++ [yv], zs', _, S5, upd_same, (g2.stay (stU fun a m => (g5 a m).1)).snoc (dv.stay (stU yD)), ?_, fun a m => ?_, ?_, fun j m => g3 j (w5 j _ m), ?_, hz', ?_, ?_, hlt⟩
            · refine List.nodup_append.mpr ⟨nd, n1, fun a m b n e => ?_⟩
              subst e
              rcases (h1 a n).2.2.1 with ⟨j, z⟩ | z
              · exact (hLa a m).2.2.1 j (s2 j a z)
              · obtain ⟨o, q, _⟩ := (hLa a m).2.1
                rw [ex a o q] at z; cases z
            · rcases List.mem_append.mp m with m | m
              · obtain ⟨z1, ⟨o, q, z2⟩, z3, z4, z5⟩ := g5 a m
                exact ⟨z1, ⟨o, up a o q z1, z2⟩, fun j n => z3 j (w5 j a n), z4, z5⟩
              · obtain ⟨z1, z2, z3, ⟨o, q, z4⟩⟩ := h1 a m
                refine ⟨yD a m, ⟨o, up a o q (yD a m), z4⟩, fun j n => z1 j (w5 j a n), z2, ?_⟩
                rcases z3 with ⟨j, z⟩ | z
                · exact F.own j a (s2 j a z)
                · refine F.none_of ?_
                  cases q' : H a with
                  | none => rfl
                  | some o' => rw [ex a o' q'] at z; cases z
            · refine R5.framed (Sa := fun _ => [Dd]) (fun a o q n => up a o q fun e => n 0 (by rw [e]; exact List.mem_singleton.mpr rfl)) (fun _ a m j n => ?_) (fun _ a m => ?_) fun _ a m => ?_
              · rw [List.mem_singleton.mp m] at n; exact g3 j (w5 j _ n)
              · rw [List.mem_singleton.mp m]; exact hDP
              · rw [List.mem_singleton.mp m]; exact ⟨_, g1, rfl⟩
            · refine ⟨fun a o q n => up a o (g4.keep a o q n) fun e => ?_, fun j a m => g4.own j a (w5 j a m), fun e => nomatch e⟩
              rw [e, hD] at q; cases q
            · rw [← hys, hzs, List.append_assoc]; rfl
            · rw [List.length_append]; exact Nat.add_le_add_right hdl 1
          · simp only [Bool.false_eq_true, if_false]
            obtain ⟨g1, g2, g3, g4, g5⟩ := later Fc
            obtain ⟨S5, R5, w5⟩ := Rc.wipe vs
            rw [hw] at R5
            refine ⟨acc, La, done, zs', _, S5, g1, g2, nd, fun a m => ?_, R5, fun j m => g3 j (w5 j _ m), ⟨g4.keep, fun j a m => g4.own j a (w5 j a m), fun e => nomatch e⟩, hz', ?_, Nat.le_succ_of_le hdl, hlt⟩
            · obtain ⟨z1, z2, z3, z4, z5⟩ := g5 a m
              exact ⟨z1, z2, fun j n => z3 j (w5 j a n), z4, z5⟩
            · rw [← hys, hzs]
        · have hie : i = ds.length := by omega
          subst hie
          refine .inl ⟨wl.stop H ((stayL F).mono L2'), ?_⟩
          rw [List.drop_length] at hz
          cases hz
          rw [List.append_nil] at hys
          subst hys
          obtain ⟨S'', R'', o''⟩ := SR.settle (τ := σ) (src := mw.src) (asg := vs) (own := vs) R1 R (stayL F) pr2 lk rfl (wipe_length _ _) (fun _ _ => rfl) (fun j n => by rw [wipe_get]; simp only [n, if_false]) fun _ _ => rfl
          refine ok2 H S'' R'' ⟨fun a o q n => F.keep a o (F1.keep a o q n) fun j m => ?_, fun j a m => ?_, fun e => nomatch e⟩ (.ref Dd) (Dd :: La) (.lst hd rd) (Res.of ⟨List.nodup_cons.mpr ⟨fun m => (hLa Dd m).1 rfl, nd⟩, fun a m => ?_⟩)
          · rcases F1.own j a (s31 j a m) with ⟨l, z⟩ | z
            · exact n l z
            · rw [z] at q; cases q
          · rcases o'' j a m with z | z
            · refine F1.prov ((F.own j a z).imp (fun ⟨l, z⟩ => ⟨l, s31 l a z⟩) id)
            · exact F1.own j a z.1
          · rcases List.mem_cons.mp m with rfl | m
            · refine ⟨fun j n => ?_, fun n => hDP (pr2 a n), F1.prov (.inr hD), ⟨_, hd, rfl⟩⟩
              rcases o'' j a n with z | z
              · exact dS j z
              · exact hDP z.2
            · obtain ⟨z1, z2, z3, z4, z5⟩ := hLa a m
              refine ⟨fun j n => ?_, fun n => z4 (pr2 a n), F1.prov (z5.imp (fun ⟨l, z⟩ => ⟨l, s31 l a z⟩) id), z2⟩
              rcases o'' j a n with z | z
              · exact z3 j z
              · exact z4 z.2
    · rw [hrun] at ok2
      exact ok2.elim
  · exact ok1.elim
end
end Kh

set_option Elab.async false
set_option linter.all false
set_option maxRecDepth 100000
set_option maxHeartbeats 2000000
/-! all expressions of the text -/
namespace Kh
open PySem PySem.Spec PyProof.Rows L2
section
variable {T : Tab} {lv : Nat} {P : Program} {w : World} {K : PySem.W.Frag} {mg : Str → Option Value} {base : Heap}
theorem st_bad {c : Cs} {W : WX} {me : E} {x : Expr} (h : ∀ ρ, evalT T me ρ = .bad) : ST T lv P w K mg base c W me x :=
  ⟨fun _ _ _ => False, fun X g => ⟨PT.fls, fun _ => ⟨fun _ _ _ _ _ _ _ z => z.elim⟩⟩, fun σ H ρ S Pr Q R ok => by rw [h ρ] at ok; exact ok⟩
theorem tup_of {w : Wk} {x : Expr} (h : (!w.tupT || isTupX x) = true) : w.tupT = true → isTupX x = true := fun e => by
  rw [e, Bool.not_true, Bool.false_or] at h
  exact h
theorem ord_of {o : Cm} (h : (match o with | .lt => true | .le => true | .gt => true | .ge => true | _ => false) = true) : isOrd o = true := by
  cases o <;> first | rfl | exact h
theorem vt {c : Cs} {a : E} {x : Expr} (h : chkE c a x = true) (k : (match a with | .not _ => false | .gin _ _ _ => false | .cmp _ _ _ => false | .chain _ _ _ _ _ => false | .one _ => false | .and _ _ => false | .or _ _ => false | .ite _ _ _ => false | _ => true) = true) : valTest x = true := by
  unfold chkE at h
  split at h <;> first | rfl | (exact absurd h Bool.false_ne_true) | (exact absurd k Bool.false_ne_true)
theorem vb {c : Cs} {W : WX} {a : E} {x : Expr} (h : chkE c a x = true) (k : (match a with | .not _ => false | .gin _ _ _ => false | .cmp _ _ _ => false | .chain _ _ _ _ _ => false | .one _ => false | .and _ _ => false | .or _ _ => false | .ite _ _ _ => false | _ => true) = true)
    (hT : ∀ ρ, evalT T a ρ = (evalE T a false ρ).bind fun d e => asBool d e) (s : SE T lv P w K mg base c W a x) : SE T lv P w K mg base c W a x ∧ ST T lv P w K mg base c W a x := ⟨s, st_val (vt h k) hT s⟩
variable (G : Gl0 T lv P w K mg base)
include G
mutual
theorem e_ok : ∀ (a : E) (x : Expr) (c : Cs) (W : WX), chkE c a x = true → SE T lv P w K mg base c W a x ∧ ST T lv P w K mg base c W a x
  | .var i, x, c, W, h => by
    have hh := h
    have h0 := h
    unfold chkE at h
    split at h <;> first | (exact absurd h Bool.false_ne_true) | (rename_i e; cases e)
    exact vb hh rfl (fun ρ => by simp only [evalT]) (se_var h0)
  | .cst n, x, c, W, h => by
    cases x <;> first | exact vb h rfl (fun ρ => by simp only [evalT]) (se_cst h) | (cases n <;> exact absurd h Bool.false_ne_true)
  | .glob y, x, c, W, h => by
    have hh := h
    have h0 := h
    unfold chkE at h
    split at h <;> first | (exact absurd h Bool.false_ne_true) | (rename_i e; cases e)
    exact vb hh rfl (fun ρ => by simp only [evalT]) (se_glob G h0)
  | .tup es, x, c, W, h => by
    have hh := h
    unfold chkE at h
    split at h <;> first | (exact absurd h Bool.false_ne_true) | (rename_i e; cases e)
    simp only [Bool.and_eq_true, decide_eq_true_eq] at h
    exact vb hh rfl (fun ρ => by simp only [evalT]) (se_tup h.2 (es_ok _ _ c W h.1))
  | .lst es, x, c, W, h => by
    have hh := h
    unfold chkE at h
    split at h <;> first | (exact absurd h Bool.false_ne_true) | (rename_i e; cases e)
    simp only [Bool.and_eq_true, decide_eq_true_eq] at h
    exact vb hh rfl (fun ρ => by simp only [evalT]) (se_lst h.2 (es_ok _ _ c W h.1))
  | .dnew, x, c, W, h => by
    have hh := h
    unfold chkE at h
    split at h <;> first | (exact absurd h Bool.false_ne_true) | (rename_i e; cases e)
    exact vb hh rfl (fun ρ => by simp only [evalT]) (se_dnew)
  | .bin op a b, x, c, W, h => by
    have hh := h
    unfold chkE at h
    split at h <;> first | (exact absurd h Bool.false_ne_true) | (rename_i e; cases e)
    simp only [Bool.and_eq_true] at h
    exact vb hh rfl (fun ρ => by simp only [evalT]) (se_bin h.1.1 (e_ok _ _ c W h.1.2).1 (e_ok _ _ c W h.2).1)
  | .neg a, x, c, W, h => by
    have hh := h
    unfold chkE at h
    split at h <;> first | (exact absurd h Bool.false_ne_true) | (rename_i e; cases e)
    exact vb hh rfl (fun ρ => by simp only [evalT]) (se_neg (e_ok _ _ c W h).1)
  | .not a, x, c, W, h => by
    unfold chkE at h
    split at h <;> first | (exact absurd h Bool.false_ne_true) | (rename_i e; cases e)
    exact ⟨se_not (e_ok _ _ c W h).1, st_not (e_ok _ _ c W h).2⟩
  | .cmp op a b, x, c, W, h => by
    unfold chkE at h
    split at h <;> first | (exact absurd h Bool.false_ne_true) | (rename_i e; cases e)
    simp only [Bool.and_eq_true] at h
    exact se_cmp h.1.1 (chk_plain h.2) (e_ok _ _ c W h.1.2).1 (e_ok _ _ c W h.2).1
  | .chain o1 o2 a b d, x, c, W, h => by
    unfold chkE at h
    split at h <;> first | (exact absurd h Bool.false_ne_true) | (rename_i e; cases e)
    simp only [Bool.and_eq_true] at h
    exact se_chain h.1.1.1.1.1.1 h.1.1.1.1.1.2 (ord_of h.1.2) (ord_of h.2) (chk_plain h.1.1.2) (e_ok _ _ c W h.1.1.1.1.2).1 (e_ok _ _ c W h.1.1.1.2).1 (e_ok _ _ c W h.1.1.2).1
  | .one a, x, c, W, h => by
    unfold chkE at h
    split at h <;> first | (exact absurd h Bool.false_ne_true) | (rename_i e; cases e)
    exact ⟨se_one (e_ok _ _ c W h).1, st_one (e_ok _ _ c W h).2⟩
  | .and a b, x, c, W, h => by
    unfold chkE at h
    split at h <;> first | (exact absurd h Bool.false_ne_true) | (rename_i e; cases e)
    simp only [Bool.and_eq_true] at h
    exact ⟨se_and (e_ok _ _ c W h.1).1 (e_ok _ _ c W h.2).1, st_and (e_ok _ _ c W h.1).2 (e_ok _ _ c W h.2).2⟩
  | .or a b, x, c, W, h => by
    unfold chkE at h
    split at h <;> first | (exact absurd h Bool.false_ne_true) | (rename_i e; cases e)
    simp only [Bool.and_eq_true] at h
    exact ⟨se_or (e_ok _ _ c W h.1).1 (e_ok _ _ c W h.2).1, st_or (e_ok _ _ c W h.1).2 (e_ok _ _ c W h.2).2⟩
  | .ite a b d, x, c, W, h => by
    unfold chkE at h
    split at h <;> first | (exact absurd h Bool.false_ne_true) | (rename_i e; cases e)
    simp only [Bool.and_eq_true] at h
    exact ⟨se_ite (e_ok _ _ c W h.1.1).2 (e_ok _ _ c W h.1.2).1 (e_ok _ _ c W h.2).1, st_bad fun ρ => by simp only [evalT]⟩
  | .ix a b, x, c, W, h => by
    have hh := h
    unfold chkE at h
    split at h <;> first | (exact absurd h Bool.false_ne_true) | (rename_i e; cases e)
    simp only [Bool.and_eq_true] at h
    exact vb hh rfl (fun ρ => by simp only [evalT]) (se_ix (chk_plain h.2) (e_ok _ _ c W h.1).1 (e_ok _ _ c W h.2).1)
  | .sl a lo hi, x, c, W, h => by
    have hh := h
    unfold chkE at h
    split at h <;> first | (exact absurd h Bool.false_ne_true) | (rename_i e; cases e)
    simp only [Bool.and_eq_true] at h
    exact vb hh rfl (fun ρ => by simp only [evalT]) (se_sl (e_ok _ _ c W h.1.1).1 (o_ok _ _ c W h.1.2) (o_ok _ _ c W h.2))
  | .ixv i b, x, c, W, h => by
    have hh := h
    unfold chkE at h
    split at h <;> first | (exact absurd h Bool.false_ne_true) | (rename_i e; cases e)
    rw [Bool.and_eq_true] at h
    exact vb hh rfl (fun ρ => by simp only [evalT]) (se_ixv (by simp only [chkE]; exact h.1) (chk_plain h.2) (e_ok _ _ c W h.2).1)
  | .slv i lo hi, x, c, W, h => by
    have hh := h
    unfold chkE at h
    split at h <;> first | (exact absurd h Bool.false_ne_true) | (rename_i e; cases e)
    rw [Bool.and_eq_true, Bool.and_eq_true] at h
    exact vb hh rfl (fun ρ => by simp only [evalT]) (se_slv (by simp only [chkE]; exact h.1.1) (o_ok _ _ c W h.1.2) (o_ok _ _ c W h.2))
  | .rev a, x, c, W, h => by
    have hh := h
    unfold chkE at h
    split at h <;> first | (exact absurd h Bool.false_ne_true) | (rename_i e; cases e)
    exact vb hh rfl (fun ρ => by simp only [evalT]) (se_rev (e_ok _ _ c W h).1)
  | .lrange .nil, x, c, W, h => vb h rfl (fun ρ => by simp only [evalT]) (se_bad fun own ρ => by simp [evalE, Es.len])
  | .lrange (.cons a .nil), x, c, W, h => by
    have hh := h
    unfold chkE at h
    split at h <;> first | (exact absurd h Bool.false_ne_true) | (rename_i e; cases e)
    simp only [Bool.and_eq_true, decide_eq_true_eq] at h
    obtain ⟨⟨⟨⟨⟨h1, h2⟩, h3⟩, h4⟩, h5⟩, h6⟩ := h
    rename_i g gp h' hp xs pos2 pos
    match xs, h5 with
    | [y], h5 =>
      simp only [chkEs, Bool.and_eq_true] at h5
      exact vb hh rfl (fun ρ => by simp only [evalT]) (se_lrange1 G (eq_of_beq h1) (eq_of_beq h2) h3 h4 (chk_plain h5.1) (e_ok a y c W h5.1).1)
    | [], h5 => simp [chkEs] at h5
    | _ :: _ :: _, h5 => simp [chkEs] at h5
  | .lrange (.cons a (.cons b .nil)), x, c, W, h => by
    have hh := h
    unfold chkE at h
    split at h <;> first | (exact absurd h Bool.false_ne_true) | (rename_i e; cases e)
    simp only [Bool.and_eq_true, decide_eq_true_eq] at h
    obtain ⟨⟨⟨⟨⟨h1, h2⟩, h3⟩, h4⟩, h5⟩, h6⟩ := h
    rename_i g gp h' hp xs pos2 pos
    match xs, h5 with
    | [y, z], h5 =>
      simp only [chkEs, Bool.and_eq_true] at h5
      exact vb hh rfl (fun ρ => by simp only [evalT]) (se_lrange2 G (eq_of_beq h1) (eq_of_beq h2) h3 h4 (chk_plain h5.1) (chk_plain h5.2.1) (e_ok a y c W h5.1).1 (e_ok b z c W h5.2.1).1)
    | [], h5 => simp [chkEs] at h5
    | [_], h5 => simp [chkEs] at h5
    | _ :: _ :: _ :: _, h5 => simp [chkEs] at h5
  | .lrange (.cons a (.cons b (.cons d es))), x, c, W, h => vb h rfl (fun ρ => by simp only [evalT]) (se_bad fun own ρ => by
      have e : (Es.cons a (.cons b (.cons d es))).len = 0 ∨ 2 < (Es.cons a (.cons b (.cons d es))).len := .inr (by simp [Es.len])
      simp only [evalE, e, if_true])
  | .disp ks vs, x, c, W, h => by
    have hh := h
    unfold chkE at h
    split at h <;> first | (exact absurd h Bool.false_ne_true) | (rename_i e; cases e)
    simp only [Bool.and_eq_true, decide_eq_true_eq] at h
    exact vb hh rfl (fun ρ => by simp only [evalT]) (se_disp h.1.1.1 h.1.1.2 h.1.2 h.2)
  | .dispD ks vs, x, c, W, h => by
    have hh := h
    unfold chkE at h
    split at h <;> first | (exact absurd h Bool.false_ne_true) | (rename_i e; cases e)
    simp only [Bool.and_eq_true, decide_eq_true_eq] at h
    exact vb hh rfl (fun ρ => by simp only [evalT]) (se_dispD h.1.1.1 h.1.1.2 h.1.2 h.2)
  | .isin a t, x, c, W, h => by
    have hh := h
    unfold chkE at h
    split at h <;> first | (exact absurd h Bool.false_ne_true) | (rename_i e; cases e)
    simp only [Bool.and_eq_true] at h
    obtain ⟨⟨⟨⟨⟨h1, h2⟩, h3⟩, h4⟩, h5⟩, h6⟩ := h
    exact vb hh rfl (fun ρ => by simp only [evalT]) (se_isin G (eq_of_beq h1) (eq_of_beq h2) h3 h4 h6 (chk_plain h5) (e_ok _ _ c W h5).1)
  | .gcd a b, x, c, W, h => by
    have hh := h
    unfold chkE at h
    split at h <;> first | (exact absurd h Bool.false_ne_true) | (rename_i e; cases e)
    simp only [Bool.and_eq_true] at h
    exact vb hh rfl (fun ρ => by simp only [evalT]) (se_gcd G (eq_of_beq h.1.1.1) h.1.1.2 (chk_plain h.1.2) (chk_plain h.2) (e_ok _ _ c W h.1.2).1 (e_ok _ _ c W h.2).1)
  | .gin n d a, x, c, W, h => by
    unfold chkE at h
    split at h <;> first | (exact absurd h Bool.false_ne_true) | (rename_i e; cases e)
    simp only [Bool.and_eq_true] at h
    obtain ⟨⟨⟨⟨h1, h2⟩, h3⟩, h4⟩, h5⟩ := h
    exact se_gin G h1 (eq_of_beq h2) h3 h4 (e_ok _ _ c W h5).1
  | .gix d a, x, c, W, h => by
    have hh := h
    unfold chkE at h
    split at h <;> first | (exact absurd h Bool.false_ne_true) | (rename_i e; cases e)
    simp only [Bool.and_eq_true] at h
    obtain ⟨⟨⟨h1, h2⟩, h3⟩, h4⟩ := h
    exact vb hh rfl (fun ρ => by simp only [evalT]) (se_gix G (eq_of_beq h1) h2 h3 (chk_plain h4) (e_ok _ _ c W h4).1)
  | .call f es, x, c, W, h => by
    have hh := h
    unfold chkE at h
    split at h <;> first | (exact absurd h Bool.false_ne_true) | (rename_i e; cases e)
    simp only [Bool.and_eq_true, decide_eq_true_eq] at h
    obtain ⟨⟨⟨⟨h1, h2⟩, h3⟩, h4⟩, h5⟩ := h
    rename_i g gp xs pos
    have se := es_ok _ _ c W h4
    cases xs with
    | nil => have := chkEs_len h4; simp at this; omega
    | cons y ys => exact vb hh rfl (fun ρ => by simp only [evalT]) (se_call G (eq_of_beq h1) h2 h3 h4 se)
  | .bi f .nil, x, c, W, h => vb h rfl (fun ρ => by simp only [evalT]) (se_bad fun own ρ => by simp only [evalE])
  | .bi f (.cons a (.cons b (.cons d es))), x, c, W, h => vb h rfl (fun ρ => by simp only [evalT]) (se_bad fun own ρ => by simp only [evalE])
  | .bi f (.cons a .nil), x, c, W, h => by
    have hh := h
    unfold chkE at h
    split at h <;> first | (exact absurd h Bool.false_ne_true) | (rename_i e; cases e)
    simp only [Bool.and_eq_true, decide_eq_true_eq] at h
    obtain ⟨⟨⟨⟨h1, h2⟩, h3⟩, h4⟩, h5⟩ := h
    have hb : f.blt = true := by cases f <;> first | rfl | exact h5
    rename_i g gp xs pos
    match xs, h3 with
    | [y], h3 =>
      simp only [chkEs, Bool.and_eq_true] at h3
      exact vb hh rfl (fun ρ => by simp only [evalT]) (se_bi1 G hb (eq_of_beq h1) h2 (chk_plain h3.1) (e_ok a y c W h3.1).1)
    | [], h3 => simp [chkEs] at h3
    | _ :: _ :: _, h3 => simp [chkEs] at h3
  | .bi f (.cons a (.cons b .nil)), x, c, W, h => by
    have hh := h
    unfold chkE at h
    split at h <;> first | (exact absurd h Bool.false_ne_true) | (rename_i e; cases e)
    simp only [Bool.and_eq_true, decide_eq_true_eq] at h
    obtain ⟨⟨⟨⟨h1, h2⟩, h3⟩, h4⟩, h5⟩ := h
    have hb : f.blt = true := by cases f <;> first | rfl | exact h5
    rename_i g gp xs pos
    match xs, h3 with
    | [y, z], h3 =>
      simp only [chkEs, Bool.and_eq_true] at h3
      exact vb hh rfl (fun ρ => by simp only [evalT]) (se_bi2 G hb (eq_of_beq h1) h2 (chk_plain h3.1) (chk_plain h3.2.1) (e_ok a y c W h3.1).1 (e_ok b z c W h3.2.1).1)
    | [], h3 => simp [chkEs] at h3
    | [_], h3 => simp [chkEs] at h3
    | _ :: _ :: _ :: _, h3 => simp [chkEs] at h3
  | .me m r es, x, c, W, h => by
    have hh := h
    unfold chkE at h
    split at h <;> first | (exact absurd h Bool.false_ne_true) | (rename_i e; cases e)
    simp only [Bool.and_eq_true, decide_eq_true_eq] at h
    obtain ⟨⟨⟨⟨h1, h2⟩, h3⟩, h4⟩, h5⟩ := h
    rename_i o at' apos xs pos
    have h1 := eq_of_beq h1
    subst h1
    by_cases hm : m = .get
    · subst hm
      have h6 : es.len = 2 := of_decide_eq_true h5
      match es, xs, h6, h3 with
      | .cons a (.cons b .nil), [y, z], _, h3 =>
        simp only [chkEs, Bool.and_eq_true] at h3
        exact vb hh rfl (fun ρ => by simp only [evalT]) (se_get (chk_plain h2) (chk_plain h3.1) (chk_plain h3.2.1) h4 (e_ok r o c W h2).1 (e_ok a y c W h3.1).1 (e_ok b z c W h3.2.1).1)
      | .cons a (.cons b .nil), [], _, h3 => simp [chkEs] at h3
      | .cons a (.cons b .nil), [_], _, h3 => simp [chkEs] at h3
      | .cons a (.cons b .nil), _ :: _ :: _ :: _, _, h3 => simp [chkEs] at h3
      | .nil, _, h6, _ => simp [Es.len] at h6
      | .cons _ .nil, _, h6, _ => simp [Es.len] at h6
      | .cons _ (.cons _ (.cons _ _)), _, h6, _ => simp [Es.len] at h6
    · have h6 : es.len = 1 := by
        cases m <;> first | exact absurd rfl hm | exact absurd h5 Bool.false_ne_true | exact of_decide_eq_true h5
      match es, xs, h6, h3 with
      | .cons a .nil, [y], _, h3 =>
        simp only [chkEs, Bool.and_eq_true] at h3
        exact vb hh rfl (fun ρ => by simp only [evalT]) (se_me1 hm (chk_plain h2) (chk_plain h3.1) h4 (e_ok r o c W h2).1 (e_ok a y c W h3.1).1)
      | .cons a .nil, [], _, h3 => simp [chkEs] at h3
      | .cons a .nil, _ :: _ :: _, _, h3 => simp [chkEs] at h3
      | .nil, _, h6, _ => simp [Es.len] at h6
      | .cons _ (.cons _ _), _, h6, _ => simp [Es.len] at h6
  | .mut m i es, x, c, W, h => by
    have hh := h
    unfold chkE at h
    split at h <;> first | (exact absurd h Bool.false_ne_true) | (rename_i e; cases e)
    simp only [Bool.and_eq_true, decide_eq_true_eq] at h
    obtain ⟨⟨⟨⟨⟨⟨⟨h1, h2⟩, h3⟩, h4⟩, h5⟩, h6⟩, h7⟩, h8⟩ := h
    rename_i xn xp at' apos xs pos
    have h1 := eq_of_beq h1
    subst h1
    by_cases hm : m = .setdefault
    · subst hm
      have hvv : chkE c (.var i) (.Name xn xp) = true := by simp only [chkE, Bool.and_eq_true, decide_eq_true_eq]; exact ⟨⟨h2, h3⟩, h4⟩
      have h8 : es.len = 2 := of_decide_eq_true h8
      match es, xs, h8, h5 with
      | .cons a (.cons b .nil), [y, z], _, h5 =>
        simp only [chkEs, Bool.and_eq_true] at h5
        exact vb hh rfl (fun ρ => by simp only [evalT]) (se_sd hvv (chk_plain h5.1) (chk_plain h5.2.1) h6 (e_ok a y c W h5.1).1 (e_ok b z c W h5.2.1).1)
      | .nil, _, h8, _ => simp [Es.len] at h8
      | .cons _ .nil, _, h8, _ => simp [Es.len] at h8
      | .cons _ (.cons _ (.cons _ _)), _, h8, _ => simp [Es.len] at h8
      | .cons a (.cons b .nil), [], _, h5 => simp [chkEs] at h5
      | .cons a (.cons b .nil), [_], _, h5 => simp [chkEs] at h5
      | .cons a (.cons b .nil), _ :: _ :: _ :: _, _, h5 => simp [chkEs] at h5
    exact vb hh rfl (fun ρ => by simp only [evalT]) (se_mut hm (by simp only [chkE, Bool.and_eq_true, decide_eq_true_eq]; exact ⟨⟨h2, h3⟩, h4⟩) h5 h6 h7 (es_ok _ _ c W h5))
  | .lc wk tg own cn elt, x, c, W, h => by
    have hh := h
    unfold chkE at h
    split at h <;> first | (exact absurd h Bool.false_ne_true) | (rename_i e; cases e)
    simp only [Bool.and_eq_true] at h
    obtain ⟨⟨⟨⟨⟨⟨h1, h2⟩, h3⟩, h4⟩, h5⟩, h6⟩, h7⟩ := h
    rename_i y t it ifs scope pos
    obtain ⟨hp, sw⟩ := w_ok _ _ c W h2
    obtain ⟨wi, g, tt, te, hX, sp⟩ := se_lc h1 hp h6 (tup_of h7) sw (sg_ok _ _ h3) (c_ok _ _ _ W0 h4) (e_ok _ _ _ W0 h5).1
    exact vb hh rfl (fun ρ => by simp only [evalT]) ⟨_, fun X gd => have ⟨a1, a2, a3, a4, a5, a6⟩ := hX X gd; pe_lc gd.calm (by rw [gd.N]; exact gd.nd) a1 a2 a3 a4 a5 a6, sp⟩
theorem es_ok : ∀ (a : Es) (x : List Expr) (c : Cs) (W : WX), chkEs c a x = true → SEs T lv P w K mg base c W a x
  | .nil, [], c, W, h => ses_nil
  | .nil, _ :: _, c, W, h => by simp [chkEs] at h
  | .cons _ _, [], c, W, h => by simp [chkEs] at h
  | .cons e r, x :: xs, c, W, h => by
    simp only [chkEs, Bool.and_eq_true] at h
    refine ses_cons (chk_plain h.1) (e_ok e x c W h.1).1 (fun i q => ?_) (es_ok r xs c W h.2)
    subst q
    have h0 := h.1
    have h1 := h.1
    unfold chkE at h1
    split at h1 <;> first | (exact absurd h1 Bool.false_ne_true) | (rename_i e; cases e)
    exact se_var' h0
theorem o_ok : ∀ (a : Eo) (x : Option Expr) (c : Cs) (W : WX), chkO c a x = true → SO T lv P w K mg base c W a x
  | .no, none, c, W, h => so_no
  | .no, some _, c, W, h => by simp [chkO] at h
  | .so _, none, c, W, h => by simp [chkO] at h
  | .so e, some x, c, W, h => so_some (e_ok e x c W (by simpa only [chkO] using h)).1
theorem c_ok : ∀ (a : Eo) (x : List Expr) (c : Cs) (W : WX), chkC c a x = true → SC T lv P w K mg base c W a x
  | .no, [], c, W, h => sc_no
  | .no, _ :: _, c, W, h => by simp [chkC] at h
  | .so _, [], c, W, h => by simp [chkC] at h
  | .so _, _ :: _ :: _, c, W, h => by simp [chkC] at h
  | .so e, [x], c, W, h => sc_so (e_ok e x c W (by simpa only [chkC] using h)).2
theorem w_ok : ∀ (a : Wk) (x : Expr) (c : Cs) (W : WX), chkW c a x = true → plainX x = true ∧ SW T lv P w K mg base c W a x
  | .it e, x, c, W, h => by
    have h : chkE c e x = true := by simpa only [chkW] using h
    exact ⟨chk_plain h, sw_it (e_ok e x c W h).1⟩
  | .rev e, x, c, W, h => by
    unfold chkW at h
    split at h <;> first | (exact absurd h Bool.false_ne_true) | (rename_i e; cases e)
    simp only [Bool.and_eq_true] at h
    exact ⟨rfl, sw_rev G (eq_of_beq h.1.1) h.1.2 (chk_plain h.2) (e_ok _ _ c W h.2).1⟩
  | .range es, x, c, W, h => by
    unfold chkW at h
    split at h <;> first | (exact absurd h Bool.false_ne_true) | (rename_i e; cases e)
    simp only [Bool.and_eq_true, decide_eq_true_eq] at h
    rename_i g gp xs pos
    refine ⟨?_, sw_range G (eq_of_beq h.1.1.1) h.1.1.2 h.1.2 (es_ok _ _ c W h.1.2)⟩
    cases xs with
    | nil => have := chkEs_len h.1.2; have := h.2; simp at *; omega
    | cons y ys => rfl
  | .enum e, x, c, W, h => by
    unfold chkW at h
    split at h <;> first | (exact absurd h Bool.false_ne_true) | (rename_i e; cases e)
    simp only [Bool.and_eq_true] at h
    exact ⟨rfl, sw_enum G (eq_of_beq h.1.1) h.1.2 (chk_plain h.2) (e_ok _ _ c W h.2).1⟩
  | .zip a b, x, c, W, h => by
    unfold chkW at h
    split at h <;> first | (exact absurd h Bool.false_ne_true) | (rename_i e; cases e)
    simp only [Bool.and_eq_true] at h
    exact ⟨rfl, sw_zip G (eq_of_beq h.1.1.1) h.1.1.2 (chk_plain h.1.2) (chk_plain h.2) (e_ok _ _ c W h.1.2).1 (e_ok _ _ c W h.2).1⟩
  | .items a, x, c, W, h => absurd h (by simp [chkW])
end
end
end Kh

set_option Elab.async false
set_option linter.all false
set_option maxRecDepth 100000
set_option maxHeartbeats 2000000
/-! statements: what they do by values -/
namespace Kh
open PySem PySem.Spec PyProof.Rows L2

/-! ### statements -/
inductive Fl where | nx | rt (d : D) | bk | ct
def stepClear (dead : List Nat) : Out Fl → Out Fl
  | .ok (.rt d) e => .ok (.rt d) e
  | .ok f e => .ok f (clear dead e)
  | o => o
def forGo (turn : D → En → Out Fl) : List D → En → Out Fl
  | [], e => .ok .nx e
  | d :: ds, e => match turn d e with
    | .ok .nx e => forGo turn ds e
    | .ok .ct e => forGo turn ds e
    | .ok .bk e => .ok .nx e
    | .ok (.rt d) e => .ok (.rt d) e
    | .exc c x y e => .exc c x y e
    | .bad => .bad
def whileN (test : En → Out Bool) (body : En → Out Fl) : Nat → En → Out Fl
  | 0, _ => .bad
  | n + 1, e => match test e with
    | .ok true e => (match body e with
      | .ok .nx e => whileN test body n e
      | .ok .ct e => whileN test body n e
      | .ok .bk e => .ok .nx e
      | .ok (.rt d) e => .ok (.rt d) e
      | .exc c x y e => .exc c x y e
      | .bad => .bad)
    | .ok false e => .ok .nx e
    | .exc c x y e => .exc c x y e
    | .bad => .bad
open Classical in
noncomputable def whileGo (test : En → Out Bool) (body : En → Out Fl) (e : En) : Out Fl :=
  if h : ∃ n, whileN test body n e ≠ .bad then whileN test body (choose h) e else .bad
def settleF (was : En) (src asg : List Nat) : Out Fl → Out Fl
  | .ok f e => .ok f (settle was src asg [] e)
  | .exc c x y e => .exc c x y (settle was src asg [] e)
  | .bad => .bad
mutual
def S.stores : S → List Nat
  | .setv i _ => [i]
  | .asg t _ => t.slots
  | .unp ts _ => ts.slots
  | .par i j _ _ => [i, j]
  | .ifs _ a b => a.stores ++ b.stores
  | .fors _ t _ b => t.slots ++ b.stores
  | .whiles _ _ b => b.stores
  | .tryx a _ (some v) _ => v :: a.stores
  | .tryx a _ none _ => a.stores
  | _ => []
def Ss.stores : Ss → List Nat
  | .nil => []
  | .cons s r => s.stores ++ r.stores
end
/-- what an except suite's expression gives: x the error's code, y its place -/
def imAt (e : En) (i : Nat) : Option I := match e[i]? with
  | some (.own (.im z)) => some z
  | some (.bor (.im z)) => some z
  | _ => none
def eqI (x y : I) : Option Bool := if I.shal 60 x && I.shal 60 y then I.eq x y else none
def evalH (x y : I) (e : En) : HE → Option I
  | .code => some x
  | .place => some y
  | .cst c => some c
  | .var i => imAt e i
  | .pair a b => (evalH x y e a).bind fun u => (evalH x y e b).map fun v => .tup [u, v]
  | .eq a b => (evalH x y e a).bind fun u => (evalH x y e b).bind fun v => (eqI u v).map .bl
  | .ite p q a b => (evalH x y e p).bind fun u => (evalH x y e q).bind fun v => (eqI u v).bind fun k => if k then evalH x y e a else evalH x y e b
  | .ite2 p q r s a b => (evalH x y e p).bind fun u => (evalH x y e q).bind fun v => (eqI u v).bind fun k => if k then (evalH x y e r).bind fun u => (evalH x y e s).bind fun v => (eqI u v).bind fun k => if k then evalH x y e a else evalH x y e b else evalH x y e b
def clearV : Option Nat → En → En
  | none, e => e
  | some i, e => e.set i .no
def vOk : Option Nat → En → Bool
  | none, _ => true
  | some i, e => decide (i < e.length)
def runH (h : Hs) (x y : I) (e : En) : Out Fl := match h with
  | .rt he => (match evalH x y e he with
    | some r => .ok (.rt (.im r)) e
    | none => .bad)
  | .ct => .ok .ct e
def swapL {α : Type} (xs : List α) (j k : Nat) : List α := match xs[j]?, xs[k]? with
  | some a, some b => (xs.set j b).set k a
  | _, _ => xs
section
variable (T : Tab)
mutual
noncomputable def exec : S → En → Out Fl
  | .setv i a, e => (evalE T a true e).bind fun d e => if i < e.length then .ok .nx (e.set i (.own d)) else .bad
  | .asg t a, e => (evalE T a true e).bind fun d e => (lift (bindT t d false e) e).bind fun e' _ => .ok .nx e'
  | .unp ts a, e => (evalE T a false e).bind fun d e => (lift ((itemsIm d).bind fun xs => bindTs ts (xs.map .im) false e) e).bind fun e' _ => .ok .nx e'
  | .par i j a b, e => (evalEs T (.cons a (.cons b .nil)) e).bind fun ds e => (match ds with
    | [x, y] => if i < e.length ∧ j < e.length then .ok .nx ((e.set i (.own x)).set j (.own y)) else .bad
    | _ => .bad)
  | .ret a, e => (evalE T a true e).bind fun d e => .ok (.rt d) e
  | .retN, e => .ok (.rt (.im .non)) e
  | .expr a, e => (evalE T a false e).bind fun _ e => .ok .nx e
  | .doc, e => .ok .nx e
  | .pass, e => .ok .nx e
  | .brk, e => .ok .bk e
  | .cont, e => .ok .ct e
  | .ifs c a b, e => (evalT T c e).bind fun k e => if k then execs a e else execs b e
  | .fors w t dead body, e => (evalW T w e).bind fun xs e =>
      settleF e w.src (t.slots ++ body.stores) (forGo (fun d e => match bindT t d true e with
        | some e1 => stepClear dead (execs body e1)
        | none => .bad) xs (clear dead (lockAll w.src e)))
  | .whiles c dead body, e => whileGo (evalT T c) (fun e => stepClear dead (execs body e)) e
  | .raise c es, e => if T.ec.contains c then (evalEs T es e).bind fun ds e => (match ds with
    | [.im x] => .exc c x (.int 0) e
    | [.im x, .im y] => .exc c x y e
    | _ => .bad) else .bad
  | .tryx body c v h, e => if T.ec.contains c && vOk v e then (match execs body e with
    | .exc cc x y e' => if cc == c then runH h x y (clearV v e') else .bad
    | o => o) else .bad
  | .swapix i p q, e => match e[i]? with
    | some (.own (.lst xs)) => (match evalE T q false (e.set i .no), evalE T p false (e.set i .no) with
      | .ok (.im (.int n)) _, .ok (.im (.int m)) _ => (match ixN xs.length m, ixN xs.length n with
        | some j, some k => if p.pure && q.pure then .ok .nx (e.set i (.own (.lst (swapL xs j k)))) else .bad
        | _, _ => .bad)
      | _, _ => .bad)
    | _ => .bad
  | .setix i path a, e => (evalE T a true e).bind fun v e => (match path with
    | .cons p .nil => (match e[i]? with
      | some (.own (.im _)) => .bad
      | some (.own _) => (evalE T p false e).bind fun k e => (match e[i]? with
        | some (.own d) => (match setD d k v with
          | some d' => .ok .nx (e.set i (.own d'))
          | none => .bad)
        | _ => .bad)
      | _ => .bad)
    | _ => .bad)
noncomputable def execs : Ss → En → Out Fl
  | .nil, e => .ok .nx e
  | .cons s r, e => match exec s e with
    | .ok .nx e => execs r e
    | o => o
end
/-- a def of the text: its parameters, its places, its body -/
structure Fd where
  ps : Nat
  n : Nat
  body : Ss
noncomputable def Fd.sem (d : Fd) : Fn := fun as =>
  if as.length = d.ps then (match execs T d.body (as ++ List.replicate (d.n - d.ps) .no) with
    | .ok (.rt v) e => .ok v ((clear d.body.stores e).take d.ps)
    | .ok .nx e => .ok (.im .non) ((clear d.body.stores e).take d.ps)
    | .ok _ _ => .bad
    | .exc c x y _ => .exc c x y []
    | .bad => .bad) else .bad
end
end Kh

set_option Elab.async false
set_option linter.all false
set_option maxRecDepth 100000
set_option maxHeartbeats 2000000
/-! statements: soundness -/
namespace Kh
open PySem PySem.Spec PyProof.Rows L2

def Off (st : List Nat) (σ σ' : L2.St) : Prop := σ'.length = σ.length ∧ ∀ i : Nat, i ∉ st → σ'[i]? = σ[i]?
theorem Off.refl {st : List Nat} {σ : L2.St} : Off st σ σ := ⟨rfl, fun _ _ => rfl⟩
theorem Off.trans {st : List Nat} {σ σ' σ'' : L2.St} (a : Off st σ σ') (b : Off st σ' σ'') : Off st σ σ'' := ⟨b.1.trans a.1, fun i n => (b.2 i n).trans (a.2 i n)⟩
theorem Off.mono {st st' : List Nat} {σ σ' : L2.St} (h : Off st σ σ') (s : ∀ i ∈ st, i ∈ st') : Off st' σ σ' := ⟨h.1, fun i n => h.2 i fun m => n (s i m)⟩
theorem Off.set {st : List Nat} {σ : L2.St} {i : Nat} {w : Option V} (h : i ∈ st) : Off st σ (σ.set i w) := ⟨List.length_set, fun j n => List.getElem?_set_ne fun e => n (by rw [← e]; exact h)⟩
section
variable (K : PySem.W.Frag) (mg : Str → Option Value)
def FlP (Pr : List Addr) (H : Hp) (S : Foot) (D : Ends) (σ' : L2.St) (H' : Hp) (S' : Foot) : Fl → Prop
  | .nx => D.nx σ' H'
  | .bk => D.bk σ' H'
  | .ct => D.ct σ' H'
  | .rt d => ∀ v L, DR K H' d v L → Res true [] Pr H S H' S' L → D.rt v H'
def OkS (W : WX) (st : List Nat) (Pr : List Addr) (σ : L2.St) (H : Hp) (S : Foot) (D : Ends) : Out Fl → Prop
  | .ok f e => ∀ σ' H' S', SR K Pr H' σ' e S' → Fr false H S H' S' → Off st σ σ' → FlP K Pr H S D σ' H' S' f
  | .exc c x y e => ∀ C dd σ' H' S', mg c = some (.ref C) → SR K Pr H' σ' e S' → Fr false H S H' S' → Off st σ σ' → ExcAt K H' dd x y → W (.ref C) (some dd) σ' H'
  | .bad => False
end
section
variable {K : PySem.W.Frag} {mg : Str → Option Value} {W : WX} {st st' : List Nat} {Pr : List Addr} {σ σ1 : L2.St} {H H1 : Hp} {S S1 : Foot} {D D' : Ends} {p : Bool}
theorem FlP.back {σ' : L2.St} {H' : Hp} {S' : Foot} {f : Fl} (F : Fr p H S H1 S1) (h : FlP K Pr H S D σ' H' S' f) : FlP K Pr H1 S1 D σ' H' S' f := by
  cases f with
  | rt d => exact fun v L dr rs => h v L dr (rs.back F)
  | _ => exact h
theorem OkS.shift {o : Out Fl} (h : OkS K mg W st Pr σ H S D o) (F : Fr p H S H1 S1) (O : Off st σ σ1) : OkS K mg W st Pr σ1 H1 S1 D o := by
  cases o with
  | bad => exact h
  | ok f e => exact fun σ' H' S' R F' O' => (h σ' H' S' R (F.trans' F') (O.trans O')).back F
  | exc c x y e => exact fun C dd σ' H' S' m R F' O' x => h C dd σ' H' S' m R (F.trans' F') (O.trans O') x
theorem OkS.sub {o : Out Fl} (h : OkS K mg W st' Pr σ H S D o) (s : ∀ i ∈ st, i ∈ st') : OkS K mg W st Pr σ H S D o := by
  cases o with
  | bad => exact h
  | ok f e => exact fun σ' H' S' R F' O' => h σ' H' S' R F' (O'.mono s)
  | exc c x y e => exact fun C dd σ' H' S' m R F' O' x => h C dd σ' H' S' m R F' (O'.mono s) x
theorem OkS.bind {β : Type} {o : Out β} {f : β → En → Out Fl} (h : OkS K mg W st Pr σ H S D (o.bind f)) : OkP K mg W p Pr σ H S (fun b e H1 S1 => OkS K mg W st Pr σ H1 S1 D (f b e)) o := by
  cases o with
  | bad => exact h
  | exc c x y e => exact fun C dd H' S' m R F x => h C dd σ H' S' m R F .refl x
  | ok b e => exact fun H1 S1 R F => h.shift F .refl
theorem OkS.bindK {β : Type} {o : Out β} {f : β → En → Out Fl} (h : OkS K mg W st Pr σ H S D (o.bind f)) : OkP K mg W p Pr σ H S (fun b e _ _ => OkS K mg W st Pr σ H S D (f b e)) o := by
  cases o with
  | bad => exact h
  | exc c x y e => exact fun C dd H' S' m R F x => h C dd σ H' S' m R F .refl x
  | ok b e => exact fun H1 S1 R F => h

end
structure Gs (lv : Nat) (c : Cs) (W : WX) (P : Program) (w : World) (K : PySem.W.Frag) (mg : Str → Option Value) (base : Heap) (X : Cx) : Prop where
  gd : Gd lv c W P w K mg base X
  po : PassesOwn (model X.prog X.w) X.A X.env X.xe
  kd : X.env.scope.kind = .function
  st : X.stack = X.env :: X.outer
  fr : X.env.frame = some X.env.locals
section
variable (T : Tab) (lv : Nat) (P : Program) (w : World) (K : PySem.W.Frag) (mg : Str → Option Value) (base : Heap)
def SpS (W : WX) (s : S) (t : TS) : Prop := ∀ σ H ρ S Pr D, SR K Pr H σ ρ S → OkS K mg W s.stores Pr σ H S D (exec T s ρ) → t D σ H
def SpSs (W : WX) (s : Ss) (t : TS) : Prop := ∀ σ H ρ S Pr D, SR K Pr H σ ρ S → OkS K mg W s.stores Pr σ H S D (execs T s ρ) → t D σ H
def SS (c : Cs) (W : WX) (s : S) (x : Stmt) : Prop := ∃ t : TS, (∀ X, Gs lv c W P w K mg base X → PS X x t) ∧ SpS T K mg W s t
def SSs (c : Cs) (W : WX) (s : Ss) (x : List Stmt) : Prop := ∃ t : TS, (∀ X, Gs lv c W P w K mg base X → PSs X x t) ∧ SpSs T K mg W s t
end
section
variable {T : Tab} {lv : Nat} {P : Program} {w : World} {K : PySem.W.Frag} {mg : Str → Option Value} {base : Heap} {c : Cs} {W : WX}
variable {st : List Nat} {σ : L2.St} {H : Hp} {ρ : En} {Sv : Foot} {Pr : List Addr} {Dv : Ends}

theorem useS_O {a : E} {ta : TE} {Q : VK} {f : D → En → Out Fl} (ea : SpE T K mg W a ta) (R : SR K Pr H σ ρ Sv) (ok : OkS K mg W st Pr σ H Sv Dv ((evalE T a true ρ).bind f))
    (k : ∀ d e1 H1 S1 v L, SR K Pr H1 σ e1 S1 → Fr false H Sv H1 S1 → DR K H1 d v L → Res true a.src Pr H Sv H1 S1 L → OkS K mg W st Pr σ H Sv Dv (f d e1) → Q v H1) : ta σ H Q := by
  refine ea true σ H ρ Sv Pr Q R ?_
  rw [Bool.not_true, Bool.and_false]
  exact ok.bindK.mono fun d e1 H1 S1 R1 F1 h v L dr rs => k d e1 H1 S1 v L R1 F1 dr rs h
theorem useS_E {a : E} {ta : TE} {Q : VK} {f : D → En → Out Fl} (ea : SpE T K mg W a ta) (R : SR K Pr H σ ρ Sv) (ok : OkS K mg W st Pr σ H Sv Dv ((evalE T a false ρ).bind f))
    (k : ∀ d e1 H1 S1 v L, SR K Pr H1 σ e1 S1 → Fr a.pure H Sv H1 S1 → DR K H1 d v L → Res false a.src Pr H Sv H1 S1 L → OkS K mg W st Pr σ H Sv Dv (f d e1) → Q v H1) : ta σ H Q := by
  refine ea false σ H ρ Sv Pr Q R ?_
  rw [Bool.not_false, Bool.and_true]
  exact ok.bindK.mono fun d e1 H1 S1 R1 F1 h v L dr rs => k d e1 H1 S1 v L R1 F1 dr rs h
theorem useS_T {a : E} {ta : TT} {Q : Bool → Hp → Prop} {f : Bool → En → Out Fl} (ea : SpT T K mg W a ta) (R : SR K Pr H σ ρ Sv) (ok : OkS K mg W st Pr σ H Sv Dv ((evalT T a ρ).bind f))
    (k : ∀ d e1 H1 S1, SR K Pr H1 σ e1 S1 → Fr a.pure H Sv H1 S1 → OkS K mg W st Pr σ H Sv Dv (f d e1) → Q d H1) : ta σ H Q :=
  ea σ H ρ Sv Pr Q R (ok.bindK.mono fun d e1 H1 S1 R1 F1 h => k d e1 H1 S1 R1 F1 h)

/-! ### blocks -/
theorem ss_nil : SSs T lv P w K mg base c W .nil [] := ⟨tNext, fun X g => pss_nil, fun σ H ρ S Pr D R ok => by
  simp only [execs] at ok
  exact ok σ H S R Fr.refl .refl⟩
theorem ss_cons {s : S} {r : Ss} {x : Stmt} {xs : List Stmt} (h1 : SS T lv P w K mg base c W s x) (h2 : SSs T lv P w K mg base c W r xs) : SSs T lv P w K mg base c W (.cons s r) (x :: xs) := by
  obtain ⟨t, pt, et⟩ := h1
  obtain ⟨u, pu, eu⟩ := h2
  refine ⟨tSeq t u, fun X g => pss_cons (pt X g) (pu X g), fun σ H ρ S Pr D R ok => ?_⟩
  simp only [execs, Ss.stores] at ok
  refine et σ H ρ S Pr _ R ?_
  have s1 : ∀ i ∈ s.stores, i ∈ s.stores ++ r.stores := fun i m => List.mem_append_left _ m
  have s2 : ∀ i ∈ r.stores, i ∈ s.stores ++ r.stores := fun i m => List.mem_append_right _ m
  cases e : exec T s ρ with
  | bad => rw [e] at ok; exact ok
  | exc c x y e' => rw [e] at ok; exact ok.sub s1
  | ok f e' =>
    rw [e] at ok
    cases f with
    | nx => exact fun σ' H' S' R' F' O' => eu σ' H' e' S' Pr D R' ((ok.shift F' (O'.mono s1)).sub s2)
    | rt d => exact fun σ' H' S' R' F' O' => (ok σ' H' S' R' F' (O'.mono s1) : FlP K Pr H S D σ' H' S' (.rt d))
    | bk => exact fun σ' H' S' R' F' O' => (ok σ' H' S' R' F' (O'.mono s1) : FlP K Pr H S D σ' H' S' .bk)
    | ct => exact fun σ' H' S' R' F' O' => (ok σ' H' S' R' F' (O'.mono s1) : FlP K Pr H S D σ' H' S' .ct)

/-! ### small statements -/
theorem ss_pass {pos : Pos} : SS T lv P w K mg base c W .pass (.Pass pos) := ⟨tNext, fun X g => ps_pass, fun σ H ρ S Pr D R ok => by
  simp only [exec] at ok
  exact ok σ H S R Fr.refl .refl⟩
theorem ss_brk {pos : Pos} : SS T lv P w K mg base c W .brk (.Break pos) := ⟨tBreak, fun X g => ps_break, fun σ H ρ S Pr D R ok => by
  simp only [exec] at ok
  exact ok σ H S R Fr.refl .refl⟩
theorem ss_cont {pos : Pos} : SS T lv P w K mg base c W .cont (.Continue pos) := ⟨tCont, fun X g => ps_continue, fun σ H ρ S Pr D R ok => by
  simp only [exec] at ok
  exact ok σ H S R Fr.refl .refl⟩
theorem ss_doc {x : Str} {j : Nat} {p pos : Pos} : SS T lv P w K mg base c W .doc (.Expr (.Constant (.str x) j p) pos) := ⟨tNext, fun X g => ps_doc, fun σ H ρ S Pr D R ok => by
  simp only [exec] at ok
  exact ok σ H S R Fr.refl .refl⟩
theorem ss_expr {a : E} {x : Expr} {pos : Pos} (hx : plainX x = true) (hl : isLC x = false) (sa : SE T lv P w K mg base c W a x) : SS T lv P w K mg base c W (.expr a) (.Expr x pos) := by
  obtain ⟨ta, pa, ea⟩ := sa
  refine ⟨tDrop ta, fun X g => ps_expr (pa X g.gd) (pl_swap hx hl), fun σ H ρ S Pr D R ok => ?_⟩
  simp only [exec] at ok
  show ta σ H _
  exact useS_E ea R ok fun d e1 H1 S1 v L R1 F1 d1 r1 ok1 => ok1 σ H1 S1 R1 F1.weak .refl
theorem ss_ret {a : E} {x : Expr} {pos : Pos} (sa : SE T lv P w K mg base c W a x) : SS T lv P w K mg base c W (.ret a) (.Return (some x) pos) := by
  obtain ⟨ta, pa, ea⟩ := sa
  refine ⟨tRet ta, fun X g => ps_ret (pa X g.gd), fun σ H ρ S Pr D R ok => ?_⟩
  simp only [exec] at ok
  show ta σ H _
  exact useS_O ea R ok fun d e1 H1 S1 v L R1 F1 d1 r1 ok1 => ok1 σ H1 S1 R1 F1 .refl v L d1 ⟨fun a m => .inr (.inr ((r1.mine rfl).2 a m).1), r1.mine⟩
theorem ss_retN {pos : Pos} : SS T lv P w K mg base c W .retN (.Return none pos) := ⟨tRetN, fun X g => ps_retN, fun σ H ρ S Pr D R ok => by
  simp only [exec] at ok
  exact ok σ H S R Fr.refl .refl .non [] (.im .non) Res.nil⟩
theorem ss_ifs {a : E} {p q : Ss} {x : Expr} {xs ys : List Stmt} {pos : Pos} (sa : ST T lv P w K mg base c W a x) (sp : SSs T lv P w K mg base c W p xs) (sq : SSs T lv P w K mg base c W q ys) : SS T lv P w K mg base c W (.ifs a p q) (.If x xs ys pos) := by
  obtain ⟨ta, pa, ea⟩ := sa
  obtain ⟨t, pt, et⟩ := sp
  obtain ⟨u, pu, eu⟩ := sq
  refine ⟨tIfS ta t u, fun X g => ps_if (pa X g.gd).1 (pt X g) (pu X g), fun σ H ρ S Pr D R ok => ?_⟩
  simp only [exec, Kh.S.stores] at ok
  show ta σ H _
  refine useS_T ea R ok fun k e1 H1 S1 R1 F1 ok1 => ?_
  cases k with
  | true =>
    simp only [if_true] at ok1 ⊢
    exact et σ H1 e1 S1 Pr D R1 ((ok1.shift F1 .refl).sub fun i m => List.mem_append_left _ m)
  | false =>
    simp only [Bool.false_eq_true, if_false] at ok1 ⊢
    exact eu σ H1 e1 S1 Pr D R1 ((ok1.shift F1 .refl).sub fun i m => List.mem_append_right _ m)

/-! ### storing -/
theorem Fr.putS {p : Bool} {H0 : Hp} {S0 : Foot} {i : Nat} {L : List Addr} (F : Fr p H0 S0 H Sv) (hL : ∀ b ∈ L, (∃ j, b ∈ S0 j) ∨ H0 b = none) : Fr false H0 S0 H (Sv.set i L) := ⟨F.keep, fun j b m => by
  by_cases h : j = i
  · subst h; rw [Foot.set_same] at m; exact hL b m
  · rw [Foot.set_ne h] at m; exact F.own j b m, fun e => nomatch e⟩
theorem ss_setv' {i : Nat} {a : E} {x : Stmt} {ta : TE} (pa : ∀ X, Gs lv c W P w K mg base X → PS X x (tAsg ta (gName i))) (ea : SpE T K mg W a ta) : SS T lv P w K mg base c W (.setv i a) x := by
  refine ⟨tAsg ta (gName i), pa, fun σ H ρ S Pr D R ok => ?_⟩
  simp only [exec, Kh.S.stores] at ok
  show ta σ H _
  refine useS_O ea R ok fun d e1 H1 S1 v L R1 F1 d1 r1 ok1 => ?_
  split at ok1
  · rename_i hi
    obtain ⟨n1, h1⟩ := r1.mine rfl
    exact ok1 _ H1 _ (R1.put hi (fun a o q _ => q) d1 n1 fun a m => ⟨(h1 a m).2.2.2, fun j _ => (h1 a m).1 j, (h1 a m).2.1⟩) (F1.putS fun b m => (h1 b m).2.2.1) (Off.set (List.mem_singleton.mpr rfl))
  · exact ok1.elim
theorem ss_setv {i : Nat} {a : E} {y : Str} {py pos : Pos} {x : Expr} (hi : c.N[i]? = some y) (hy : c.loc y = true) (hx : plainX x = true) (hl : isLC x = false) (sa : SE T lv P w K mg base c W a x) : SS T lv P w K mg base c W (.setv i a) (.Assign [.Name y py] x pos) := by
  obtain ⟨ta, pa, ea⟩ := sa
  refine ss_setv' (fun X g => ?_) ea
  obtain ⟨h1, h2⟩ := g.gd.fnl y hy
  exact ps_set (by rw [g.gd.N]; exact g.gd.nd) (by rw [g.gd.N]; exact hi) (by rw [g.gd.sc]; exact h1) (pa X g.gd) (pl_swap hx hl) (by rw [g.gd.sc]; exact h2)
theorem ss_asg {t : Tg} {a : E} {y x : Expr} {ts : List Expr} {k : Nat} {p pos : Pos} (ht : y = .Tuple ts k p) (hx : plainX x = true) (hl : isLC x = false) (hp : (match x with | .Tuple _ _ _ => false | _ => true) = true) (sg : SG lv P w K mg base c W t y) (sa : SE T lv P w K mg base c W a x) :
    SS T lv P w K mg base c W (.asg t a) (.Assign [y] x pos) := by
  subst ht
  obtain ⟨ta, pa, ea⟩ := sa
  obtain ⟨g, pg, eg⟩ := sg
  refine ⟨tAsg ta g, fun X gs => ps_asg (pa X gs.gd) (pg X gs.gd) (by unfold swapsWithSole; exact pl_swap hx hl) (by cases x <;> first | rfl | (exact absurd hp Bool.false_ne_true)), fun σ H ρ S Pr D R ok => ?_⟩
  simp only [exec, Kh.S.stores] at ok
  show ta σ H _
  refine useS_O ea R ok fun d e1 H1 S1 v L R1 F1 d1 r1 ok1 => ?_
  obtain ⟨n1, h1⟩ := r1.mine rfl
  cases q : bindT t d false e1 with
  | none => rw [q] at ok1; exact ok1.elim
  | some e' =>
    rw [q] at ok1
    refine eg false d e1 e' v L σ H1 S1 Pr _ q R1 d1 ⟨n1, fun a m => ⟨(h1 a m).2.2.2, (h1 a m).1, (h1 a m).2.1⟩⟩ fun σ' S' R' o' l' s' => ?_
    exact ok1 σ' H1 S' R' ⟨F1.keep, fun i a m => (s' i a m).elim (F1.own i a) fun z => (h1 a z).2.2.1, fun e => nomatch e⟩ ⟨l', o'⟩
end
end Kh

set_option Elab.async false
set_option linter.all false
set_option maxRecDepth 100000
set_option maxHeartbeats 2000000
/-! loops -/
namespace Kh
open PySem PySem.Spec PyProof.Rows L2
section
variable {T : Tab} {lv : Nat} {P : Program} {w : World} {K : PySem.W.Frag} {mg : Str → Option Value} {base : Heap} {c : Cs} {W : WX}

/-- one turn of a for -/
noncomputable def forT (T : Tab) (t : Tg) (dead : List Nat) (body : Ss) : D → En → Out Fl := fun d e => match bindT t d true e with
  | some e1 => stepClear dead (execs T body e1)
  | none => .bad
theorem ss_for {mw : Wk} {tg : Tg} {dead : List Nat} {body : Ss} {t it : Expr} {xs : List Stmt} {pos : Pos} (hit : plainX it = true) (hd : mw.src.all (fun i => !(tg.slots ++ body.stores).contains i) = true) (htt : mw.tupT = true → isTupX t = true) (sw : SW T lv P w K mg base c W mw it) (sg : SG lv P w K mg base c W tg t)
    (sb : SSs T lv P w K mg base c W body xs) : SS T lv P w K mg base c W (.fors mw tg dead body) (.For t it xs [] pos) := by
  obtain ⟨wi, pw, ew⟩ := sw
  obtain ⟨g, pg, eg⟩ := sg
  obtain ⟨tb, pb, eb⟩ := sb
  refine ⟨tFor wi g tb, fun X gs => ps_for gs.po gs.gd.calm (pw X gs.gd t htt) (pg X gs.gd) (pb X gs) (pl_set hit), fun σ H0 ρ S0 Pr De R0 ok => ?_⟩
  simp only [exec, Kh.S.stores] at ok
  generalize hst : tg.slots ++ body.stores = st at ok hd
  have d1 : ∀ i ∈ mw.src, i ∉ st := fun i m n => by
    have := List.all_eq_true.mp hd i m
    rw [List.contains_iff_mem.mpr n] at this
    cases this
  have t1 : ∀ i ∈ tg.slots, i ∈ st := fun i m => by rw [← hst]; exact List.mem_append_left _ m
  have t2 : ∀ i ∈ body.stores, i ∈ st := fun i m => by rw [← hst]; exact List.mem_append_right _ m
  show wi σ H0 _
  refine ew σ H0 ρ S0 Pr _ R0 (ok.bindK.mono fun ds e1 H1 S1 R1 F1 ok1 J L wl hth hL => ?_)
  obtain ⟨P', S', RL, l1, l2, l3, l4⟩ := SR.lock mw.src R1
  have R2 := RL.protect (L := L) fun a m => ⟨fun i n => by
    rcases hL a m with z | ⟨j, hj, z⟩ | z
    · exact RL.pt i a n (l1 a z)
    · exact (l4 j hj a z).2 i n
    · exact z i (l2 i a n), hth a m⟩
  obtain ⟨S3, R3, w1⟩ := R2.clear dead
  have s31 : ∀ (i : Nat) (a : Addr), a ∈ S3 i → a ∈ S1 i := fun i a m => l2 i a (w1 i a m)
  generalize hP2 : P' ++ L = P2 at R3
  have pr2 : ∀ a ∈ Pr, a ∈ P2 := fun a m => by rw [← hP2]; exact List.mem_append_left _ (l1 a m)
  have L2' : ∀ a ∈ L, a ∈ P2 := fun a m => by rw [← hP2]; exact List.mem_append_right _ m
  have lk : ∀ i ∈ mw.src, ∀ a ∈ S1 i, a ∈ P2 := fun i hi a m => by rw [← hP2]; exact List.mem_append_left _ (l4 i hi a m).1
  have ok2 : OkS K mg W st Pr σ H0 S0 De (settleF e1 mw.src st (forGo (forT T tg dead body) ds (clear dead (lockAll mw.src e1)))) := ok1
  have stayL : ∀ {H : Hp} {S : Foot}, Fr false H1 S3 H S → Stay H1 H P2 := fun F => R3.stayP F
  -- the end of the loop
  have fin : ∀ {σ' : L2.St} {H' : Hp} {e : En} {S : Foot}, SR K P2 H' σ' e S → Fr false H1 S3 H' S → Off st σ σ' → ∃ S'', SR K Pr H' σ' (settle e1 mw.src st [] e) S'' ∧ Fr false H0 S0 H' S'' ∧ ∀ (i : Nat) (a : Addr), a ∈ S'' i → a ∈ S i ∨ a ∈ S1 i ∧ a ∈ P2 := fun {σ' H' e S} R F O => by
    obtain ⟨S'', R'', o''⟩ := SR.settle (τ := σ') (src := mw.src) (asg := st) (own := []) R1 R (stayL F) pr2 lk O.1 O.1 (fun i h => h.elim (O.2 i) fun m => absurd m List.not_mem_nil) (fun _ _ => rfl) fun i m => O.2 i (d1 i m)
    refine ⟨S'', R'', ⟨fun a o q n => F.keep a o (F1.keep a o q n) fun j m => ?_, fun j a m => ?_, fun e => nomatch e⟩, o''⟩
    · rcases F1.own j a (s31 j a m) with ⟨l, z⟩ | z
      · exact n l z
      · rw [z] at q; cases q
    · rcases o'' j a m with z | z
      · exact F1.prov ((F.own j a z).imp (fun ⟨l, z⟩ => ⟨l, s31 l a z⟩) id)
      · exact F1.own j a z.1
  have prov : ∀ {H' : Hp} {S : Foot} {a : Addr}, Fr false H1 S3 H' S → (∃ i, a ∈ S i) ∨ H' a = none → (∃ i, a ∈ S0 i) ∨ H0 a = none := fun {H' S a} F h => F1.prov ((F.prov h).imp (fun ⟨l, z⟩ => ⟨l, s31 l a z⟩) id)
  generalize ho : forGo (forT T tg dead body) ds (clear dead (lockAll mw.src e1)) = o at ok2
  refine ⟨fun i m σ' H => m = ds.length - i ∧ i ≤ ds.length ∧ Off st σ σ' ∧ ∃ e S, SR K P2 H σ' e S ∧ Fr false H1 S3 H S ∧ forGo (forT T tg dead body) (ds.drop i) e = o, ⟨ds.length, by simp, Nat.zero_le _, .refl, _, S3, R3, Fr.refl, by rw [List.drop_zero]; exact ho⟩, ?_⟩
  rintro i m σ' H ⟨rfl, hi, O, e, S, R, F, hz⟩
  by_cases hlt : i < ds.length
  · refine .inr ⟨wl.go i H hlt ((stayL F).mono L2'), fun σ' H => i + 1 ≤ ds.length ∧ Off st σ σ' ∧ ∃ e S, SR K P2 H σ' e S ∧ Fr false H1 S3 H S ∧ forGo (forT T tg dead body) (ds.drop (i + 1)) e = o, fun σ' H' q => ⟨ds.length - (i + 1), by omega, rfl, q⟩, fun x H' yl => ?_⟩
    obtain ⟨ex, d, Rr, hdi, dx, hRr⟩ := wl.yld i H x H' hlt ((stayL F).mono L2') yl
    rw [drop_cons hdi] at hz
    unfold forGo at hz
    have RH := R.grow ex
    cases hb : bindT tg d true e with
    | none =>
      simp only [forT, hb] at hz
      rw [← hz] at ok2
      exact ok2.elim
    | some eb' =>
    refine eg true d e eb' x Rr σ' H' S P2 _ hb RH dx (fun a m => L2' a (hRr a m)) fun σ2 S2 Rb ob lb sb => ?_
    have s2 : ∀ (j : Nat) (a : Addr), a ∈ S2 j → a ∈ S j := fun j a m => by
      rcases sb j a m with z | z
      · exact z
      · exact absurd (L2' a (hRr a z)) (Rb.pt j a m)
    have O2 : Off st σ σ2 := O.trans ⟨lb, fun j n => ob j fun z => n (t1 j z)⟩
    have F2 : Fr false H1 S3 H' S2 := ⟨fun a o q n => ex a o (F.keep a o q n), fun j a m => F.own j a (s2 j a m), fun e => nomatch e⟩
    refine eb σ2 H' eb' S2 P2 _ Rb ?_
    have hft : forT T tg dead body d e = stepClear dead (execs T body eb') := by simp only [forT, hb]
    rw [hft] at hz
    cases hx : execs T body eb' with
    | bad =>
      rw [hx] at hz
      simp only [stepClear] at hz
      rw [← hz] at ok2
      exact ok2.elim
    | exc cc xx yy e3 =>
      rw [hx] at hz
      simp only [stepClear] at hz
      rw [← hz] at ok2
      intro C dd σ3 H3 S3' hm R3' F3 O3 hx'
      have O4 := O2.trans (O3.mono t2)
      obtain ⟨S'', R'', F'', _⟩ := fin R3' (F2.trans' F3) O4
      exact ok2 C dd σ3 H3 S'' hm R'' F'' O4 hx'
    | ok f e3 =>
      rw [hx] at hz
      intro σ3 H3 S3' R3' F3 O3
      have O4 := O2.trans (O3.mono t2)
      obtain ⟨S5, R5, w5⟩ := R3'.clear dead
      have F5 : Fr false H1 S3 H3 S5 := ⟨(F2.trans' F3).keep, fun j a m => (F2.trans' F3).own j a (w5 j a m), fun e => nomatch e⟩
      cases f with
      | nx =>
        simp only [stepClear] at hz
        exact ⟨hlt, O4, _, S5, R5, F5, hz⟩
      | ct =>
        simp only [stepClear] at hz
        exact ⟨hlt, O4, _, S5, R5, F5, hz⟩
      | bk =>
        simp only [stepClear] at hz
        rw [← hz] at ok2
        obtain ⟨S'', R'', F'', _⟩ := fin R5 F5 O4
        exact ok2 σ3 H3 S'' R'' F'' O4
      | rt dv =>
        simp only [stepClear] at hz
        rw [← hz] at ok2
        obtain ⟨S'', R'', F'', o''⟩ := fin R3' (F2.trans' F3) O4
        intro v M dr rs
        obtain ⟨n1, h1⟩ := rs.mine rfl
        refine ok2 σ3 H3 S'' R'' F'' O4 v M dr (Res.of ⟨n1, fun a m => ⟨fun j z => ?_, fun z => (h1 a m).2.1 (pr2 a z), prov F2 (h1 a m).2.2.1, (h1 a m).2.2.2⟩⟩)
        rcases o'' j a z with z | z
        · exact (h1 a m).1 j z
        · exact (h1 a m).2.1 z.2
  · have hie : i = ds.length := by omega
    subst hie
    refine .inl ⟨wl.stop H ((stayL F).mono L2'), ?_⟩
    rw [List.drop_length] at hz
    unfold forGo at hz
    rw [← hz] at ok2
    obtain ⟨S'', R'', F'', _⟩ := fin R F O
    exact ok2 σ' H S'' R'' F'' O

/-! ### while -/
theorem ss_while {a : E} {dead : List Nat} {body : Ss} {x : Expr} {xs : List Stmt} {pos : Pos} (sa : ST T lv P w K mg base c W a x) (sb : SSs T lv P w K mg base c W body xs) : SS T lv P w K mg base c W (.whiles a dead body) (.While x xs [] pos) := by
  obtain ⟨ta, pa, ea⟩ := sa
  obtain ⟨tb, pb, eb⟩ := sb
  refine ⟨tWhile ta tb, fun X gs => ps_while gs.po (pa X gs.gd).1 (pb X gs), fun σ H0 ρ S0 Pr De R0 ok => ?_⟩
  simp only [exec, Kh.S.stores] at ok
  unfold whileGo at ok
  split at ok
  · rename_i hex
    generalize hn : Classical.choose hex = n at ok
    generalize ho : whileN (evalT T a) (fun e => stepClear dead (execs T body e)) n ρ = o at ok
    refine ⟨fun m σ' H => Off body.stores σ σ' ∧ ∃ e S, SR K Pr H σ' e S ∧ Fr false H0 S0 H S ∧ whileN (evalT T a) (fun e => stepClear dead (execs T body e)) m e = o, ⟨n, .refl, ρ, S0, R0, Fr.refl, ho⟩, ?_⟩
    rintro m σ' H ⟨O, e, S, R, F, hz⟩
    cases m with
    | zero =>
      unfold whileN at hz
      rw [← hz] at ok
      exact ok.elim
    | succ m =>
      unfold whileN at hz
      refine ea σ' H e S Pr _ R ?_
      cases ht : evalT T a e with
      | bad =>
        rw [ht] at hz
        simp only at hz
        rw [← hz] at ok
        exact ok.elim
      | exc cc xx yy e' =>
        rw [ht] at hz
        simp only at hz
        rw [← hz] at ok
        exact fun C dd H' S' hm R' F' hx => ok C dd σ' H' S' hm R' (F.trans' F') O hx
      | ok k e1 =>
        rw [ht] at hz
        intro H1 S1 R1 F1
        cases k with
        | false =>
          simp only at hz
          rw [← hz] at ok
          exact ok σ' H1 S1 R1 (F.trans' F1) O
        | true =>
          simp only at hz
          simp only [if_true]
          refine ⟨fun σ'' H'' => Off body.stores σ σ'' ∧ ∃ e S, SR K Pr H'' σ'' e S ∧ Fr false H0 S0 H'' S ∧ whileN (evalT T a) (fun e => stepClear dead (execs T body e)) m e = o, fun σ'' H'' q => ⟨m, Nat.lt_succ_self _, q⟩, ?_⟩
          refine eb σ' H1 e1 S1 Pr _ R1 ?_
          have FF := F.trans' F1
          cases hx : execs T body e1 with
          | bad =>
            rw [hx] at hz
            simp only [stepClear] at hz
            rw [← hz] at ok
            exact ok.elim
          | exc cc xx yy e3 =>
            rw [hx] at hz
            simp only [stepClear] at hz
            rw [← hz] at ok
            exact fun C dd σ3 H3 S3 hm R3 F3 O3 hx' => ok C dd σ3 H3 S3 hm R3 (FF.trans' F3) (O.trans O3) hx'
          | ok f e3 =>
            rw [hx] at hz
            intro σ3 H3 S3 R3 F3 O3
            have O4 := O.trans O3
            obtain ⟨S5, R5, w5⟩ := R3.clear dead
            have F5 : Fr false H0 S0 H3 S5 := ⟨(FF.trans' F3).keep, fun j a m => (FF.trans' F3).own j a (w5 j a m), fun e => nomatch e⟩
            cases f with
            | nx =>
              simp only [stepClear] at hz
              exact ⟨O4, _, S5, R5, F5, hz⟩
            | ct =>
              simp only [stepClear] at hz
              exact ⟨O4, _, S5, R5, F5, hz⟩
            | bk =>
              simp only [stepClear] at hz
              rw [← hz] at ok
              exact ok σ3 H3 S5 R5 F5 O4
            | rt dv =>
              simp only [stepClear] at hz
              rw [← hz] at ok
              exact (ok σ3 H3 S3 R3 (FF.trans' F3) O4).back FF
  · exact ok.elim
end
end Kh

set_option Elab.async false
set_option linter.all false
set_option maxRecDepth 100000
set_option maxHeartbeats 2000000
/-! o[i] = v; names set to comprehensions; two names at once -/
namespace Kh
open PySem PySem.Spec PyProof.Rows L2
section
variable {K : PySem.W.Frag} {H : Hp}
theorem DRs.setAt {d : D} {v : V} {R : List Addr} (h : DR K H d v R) : ∀ {xs : List D} {vs : List V} {L : List Addr} {j : Nat}, DRs K H xs vs L → j < xs.length → ∃ L1 L2 L3, L = L1 ++ (L2 ++ L3) ∧ DRs K H (xs.set j d) (vs.set j v) (L1 ++ (R ++ L3))
  | _, _, _, 0, .cons (S := S) (R := L3) a r, _ => ⟨[], S, L3, rfl, DRs.cons (S := R) h r⟩
  | _, _, _, j + 1, .cons (S := S) a r, hj => by
    obtain ⟨L1, L2, L3, e, q⟩ := DRs.setAt h r (Nat.lt_of_succ_lt_succ hj)
    refine ⟨S ++ L1, L2, L3, by rw [e, List.append_assoc], ?_⟩
    rw [List.append_assoc]
    exact .cons a q
  | _, _, _, _, .nil, hj => absurd hj (Nat.not_lt_zero _)
theorem PSet.or {X : Cx} {t u : TSet} (h : PSet X t) (k : PSet X u) : PSet X (fun o i v H Q => t o i v H Q ∨ u o i v H Q) :=
  fun pins s σ H o i v ov iv uu Q I r1 r2 r3 z => z.elim (h pins s σ H o i v ov iv uu Q I r1 r2 r3) (k pins s σ H o i v ov iv uu Q I r1 r2 r3)
theorem pl_swapS {x o i : Expr} {p : Pos} {n : Nat} {env : PySem.Env} (h : plainX x = true) : swapsWith x (some (.Subscript o i p)) n env = pure false := by
  cases x <;> first | rfl | (exact absurd h Bool.false_ne_true)
end
section
variable {K : PySem.W.Frag} {H : Hp} {σ : L2.St} {ρ : En} {Sv : Foot} {Pr : List Addr} {p : Bool}
end
section
variable {T : Tab} {lv : Nat} {P : Program} {w : World} {K : PySem.W.Frag} {mg : Str → Option Value} {base : Heap} {c : Cs} {W : WX}
variable {σ : L2.St} {H : Hp} {ρ : En} {Sv : Foot} {Pr : List Addr}
theorem OkS.bindF {D : Ends} {st : List Nat} {H1 : Hp} {S1 : Foot} {p q : Bool} {β : Type} {o : Out β} {f : β → En → Out Fl} (h : OkS K mg W st Pr σ H Sv D (o.bind f)) (F : Fr p H Sv H1 S1) : OkP K mg W q Pr σ H1 S1 (fun b e _ _ => OkS K mg W st Pr σ H Sv D (f b e)) o := by
  cases o with
  | bad => exact h
  | exc c x y e => exact fun C dd H' S' m R F' x => h C dd σ H' S' m R (F.trans' F') .refl x
  | ok b e => exact fun _ _ _ _ => h
def rSet2 : TSet := fun o i v H Q => rSetL o i v H Q ∨ rSetD o i v H Q
theorem parts_nd {L1 L2 L3 R : List Addr} (h : (L1 ++ (L2 ++ L3)).Nodup) (hR : R.Nodup) (dj : ∀ a ∈ R, a ∉ L1 ++ (L2 ++ L3)) : (L1 ++ (R ++ L3)).Nodup ∧ ∀ a ∈ L1 ++ (R ++ L3), a ∈ L1 ++ (L2 ++ L3) ∨ a ∈ R := by
  obtain ⟨n1, n2, n3⟩ := List.nodup_append.mp h
  obtain ⟨m1, m2, m3⟩ := List.nodup_append.mp n2
  refine ⟨List.nodup_append.mpr ⟨n1, List.nodup_append.mpr ⟨hR, m2, fun a x b y e => ?_⟩, fun a x b y e => ?_⟩, fun a m => ?_⟩
  · subst e
    exact dj a x (List.mem_append_right _ (List.mem_append_right _ y))
  · subst e
    rcases List.mem_append.mp y with y | y
    · exact dj a y (List.mem_append_left _ x)
    · exact n3 a x a (List.mem_append_right _ y) rfl
  · rcases List.mem_append.mp m with m | m
    · exact .inl (List.mem_append_left _ m)
    · rcases List.mem_append.mp m with m | m
      · exact .inr m
      · exact .inl (List.mem_append_right _ (List.mem_append_right _ m))
/-- one step: o[k] = v at place i -/
theorem set_step {i : Nat} {d k v d' : D} {ov kv vv : V} {Lk Lv : List Addr} {H0 : Hp} {S0 : Foot} {q : Bool} {Q : Hp → Prop} (R : SR K Pr H σ ρ Sv) (F : Fr q H0 S0 H Sv) (e : ρ[i]? = some (.own d)) (es : σ[i]? = some (some ov)) (dk : DR K H k kv Lk) (dv : DR K H v vv Lv) (nd : Lv.Nodup)
    (hv : ∀ a ∈ Lv, MutAt H a ∧ (∀ j, a ∉ Sv j) ∧ a ∉ Pr ∧ ((∃ j, a ∈ S0 j) ∨ H0 a = none)) (h : setD d k v = some d') (ok : ∀ H' S', SR K Pr H' σ (ρ.set i (.own d')) S' → Fr false H0 S0 H' S' → Q H') : rSet2 ov kv vv H Q := by
  obtain ⟨v0, e0, dr⟩ := R.own i d e
  rw [es] at e0
  cases e0
  have nds := R.nd i
  have mus := R.mu i
  have pts := R.pt i
  have djs := fun j a (x : a ∈ Sv i) (y : a ∈ Sv j) => R.dj j i a y x
  have own := fun a (x : a ∈ Sv i) => F.own i a x
  have hvd := fun a (m : a ∈ Lv) => (hv a m).2.1 i
  generalize hsi : Sv i = Si at dr nds mus pts djs own hvd
  have new : ∀ {a : Addr} {L1 L2 L3 : List Addr}, Si = a :: (L1 ++ (L2 ++ L3)) → (L1 ++ (Lv ++ L3)).Nodup ∧ (∀ b ∈ L1 ++ (Lv ++ L3), b ≠ a ∧ MutAt H b ∧ (∀ j, j ≠ i → b ∉ Sv j) ∧ b ∉ Pr) ∧ ∀ b ∈ L1 ++ (Lv ++ L3), (∃ j, b ∈ S0 j) ∨ H0 b = none := fun {a L1 L2 L3} eS => by
    subst eS
    obtain ⟨n1, n2⟩ := List.nodup_cons.mp nds
    obtain ⟨z1, z2⟩ := parts_nd n2 nd fun b m x => hvd b m (List.mem_cons_of_mem _ x)
    refine ⟨z1, fun b m => ?_, fun b m => ?_⟩
    · rcases z2 b m with x | x
      · have x' : b ∈ a :: (L1 ++ (L2 ++ L3)) := List.mem_cons_of_mem _ x
        exact ⟨fun e => n1 (e ▸ x), mus b x', fun j hj y => hj (djs j b x' y), pts b x'⟩
      · obtain ⟨y1, y2, y3, y4⟩ := hv b x
        exact ⟨fun e => hvd b x (by rw [e]; exact List.mem_cons_self), y1, fun j _ => y2 j, y3⟩
    · rcases z2 b m with x | x
      · exact own b (List.mem_cons_of_mem _ x)
      · exact (hv b x).2.2.2
  cases d with
  | lst xs =>
    cases k with
    | im kk =>
      cases kk with
      | int n =>
        simp only [setD] at h
        cases hj : ixN xs.length n with
        | none => rw [hj] at h; cases h
        | some j =>
          rw [hj] at h
          cases h
          obtain ⟨a, vs, L, rfl, ha, ra, rfl⟩ := dr.lst_inv
          obtain rfl := dk.int_inv
          have hjl : j < xs.length := (ixN_seq hj).2.1
          obtain ⟨L1, L2, L3, eL, rs⟩ := DRs.setAt dv ra hjl
          obtain ⟨z1, z2, z3⟩ := new (by rw [eL])
          refine .inl ⟨a, vs, n, j, rfl, rfl, ha, by rw [← ra.length]; exact hj, ?_⟩
          exact ok _ _ (R.mutA e es hsi rfl (fun H' h' st => .lst h' (rs.stay st)) z1 z2) (F.mutK (by rw [hsi]; exact List.mem_cons_self) z3)
      | _ => simp [setD] at h
    | _ => simp [setD] at h
  | dct t kvs =>
    cases k with
    | im kk =>
      simp only [setD] at h
      split at h
      · rename_i hc
        simp only [Bool.and_eq_true, decide_eq_true_eq] at hc
        obtain ⟨rfl, q, hq⟩ := keyOk_some hc.1
        cases hp : dput kk v kvs with
        | none => rw [hp] at h; cases h
        | some kvs' =>
          rw [hp] at h
          cases h
          obtain ⟨a, ws, L, rfl, ha, ra, rfl, nk⟩ := dr.dct_inv rfl
          have ha' : H a = some (.dK ws) := by
            rcases ha with ha | ⟨o, ha⟩
            · exact ha
            · obtain ⟨u, q1, q2⟩ := mus a List.mem_cons_self
              rw [ha] at q1; cases q1; cases q2
          obtain ⟨⟨L1, L2, L3, eL, rs⟩, nk', _⟩ := KRs.put hq dv ra nk hp
          obtain ⟨z1, z2, z3⟩ := new (by rw [eL])
          have hkv : kv = kV q := key_val hq dk.im_inv.2
          refine .inr ⟨a, _, rfl, .inl ⟨ws, q, ha', hkv, by rw [← ra.length]; exact Nat.lt_of_lt_of_le hc.2 (by decide), rfl⟩, ?_⟩
          exact ok _ _ (R.mutA e es hsi rfl (fun H' h' st => .dK nk' (.inl h') (rs.stay st)) z1 z2) (F.mutK (by rw [hsi]; exact List.mem_cons_self) z3)
      · cases h
    | _ => simp [setD] at h
  | im x => cases k <;> simp [setD] at h
  | tup x => cases k <;> simp [setD] at h
  | scr x => cases k <;> simp [setD] at h
theorem ss_setix {i : Nat} {pe a : E} {y : Str} {yp sp pos : Pos} {kx x : Expr} (hv : chkE c (.var i) (.Name y yp) = true) (hk : plainX kx = true) (hx : plainX x = true) (sk : SE T lv P w K mg base c W pe kx) (sa : SE T lv P w K mg base c W a x) :
    SS T lv P w K mg base c W (.setix i (.cons pe .nil) a) (.Assign [.Subscript (.Name y yp) kx sp] x pos) := by
  obtain ⟨tk, pk, ek⟩ := sk
  obtain ⟨ta, pa, ea⟩ := sa
  have hv' := se_var' (T := T) (lv := lv) (P := P) (w := w) (K := K) (mg := mg) (base := base) (W := W) hv
  refine ⟨tAsg ta (gSub (tVar i) tk rSet2), fun X gs => ?_, fun σ H ρ S Pr De R ok => ?_⟩
  · have hu : X.A.units + 1 < cLine := Nat.lt_of_le_of_lt (Nat.add_le_add_left (by decide) _) gs.gd.un
    exact ps_asg (pa X gs.gd) (pg_sub (hv'.1 X gs.gd) (pk X gs.gd) (PSet.or set_list (set_dict hu)) (by cases kx <;> first | (intro v; rfl) | (exact absurd hk Bool.false_ne_true))) (by unfold swapsWithSole; exact pl_swapS hx) (by cases x <;> rfl) rfl
  · simp only [exec, Kh.S.stores] at ok
    show ta σ H _
    refine useS_O ea R ok fun d e1 H1 S1 v L R1 F1 d1 r1 ok1 => ?_
    obtain ⟨n1, h1⟩ := r1.mine rfl
    have fin : ∀ d0, e1[i]? = some (.own d0) → OkS K mg W [] Pr σ H S De ((evalE T pe false e1).bind fun k e => (match e[i]? with
        | some (.own d2) => (match setD d2 k d with
          | some d' => .ok .nx (e.set i (.own d'))
          | none => .bad)
        | _ => .bad)) → gSub (tVar i) tk rSet2 v σ H1 De.nx := fun d0 e0 ok2 => by
      obtain ⟨ov, es, _⟩ := R1.own i d0 e0
      refine ⟨ov, es, ?_⟩
      show tk σ H1 _
      refine ek false σ H1 e1 S1 Pr _ R1 ((ok2.bindF F1).mono fun k e2 H2 S2 R2 F2 ok3 kv Lk dk rk => ?_)
      split at ok3
      · rename_i d2 e3
        split at ok3
        · rename_i d' hset
          have st := R1.stay F2 (L := L) fun a m j => (h1 a m).1 j
          refine set_step R2 (F1.trans' F2) e3 es dk (d1.stay st) n1 (fun a m => ?_) hset fun H' S' R' F' => ?_
          · obtain ⟨z1, z2, z3, ⟨o, z4, z5⟩⟩ := h1 a m
            refine ⟨⟨o, st a o z4 (.inr m), z5⟩, fun j y => ?_, z2, z3⟩
            rcases F2.own j a y with ⟨l, y⟩ | y
            · exact z1 l y
            · rw [y] at z4; cases z4
          · exact ok3 σ H' S' R' F' .refl
        · exact ok3.elim
      · exact ok3.elim
    split at ok1
    · rename_i hm
      exact ok1.elim
    · rename_i d0 hne e0
      exact fin d0 e0 ok1
    · exact ok1.elim
end
end Kh

set_option Elab.async false
set_option linter.all false
set_option maxRecDepth 100000
set_option maxHeartbeats 2000000
/-! raise of an own error -/
namespace Kh
open PySem PySem.Spec PyProof.Rows L2
section
variable {T : Tab} {lv : Nat} {P : Program} {w : World} {K : PySem.W.Frag} {mg : Str → Option Value} {base : Heap} {c : Cs} {W : WX}
theorem ss_bad {s : Kh.S} {x : Stmt} (h : ∀ ρ, exec T s ρ = .bad) : SS T lv P w K mg base c W s x := ⟨tNever, fun X g => ps_never, fun σ H ρ S Pr D R ok => by rw [h ρ] at ok; exact ok⟩
/-- the heap behind an error that was made -/
theorem made_ok {σ : L2.St} {ρ : En} {S : Foot} {Pr : List Addr} {H1 : Hp} {a d C : Addr} {u v : V} {x y : I} (R : SR K Pr H1 σ ρ S) (ha : H1 a = none) (hd : upd H1 a (exo a C none) d = none) (hda : d ≠ a) (hx : IR K H1 x u) (hy : IR K H1 y v) :
    ∃ Hz H' : Hp, Hz = upd (upd (upd (upd H1 a (exo a C none)) d (exd d [("code", u)])) a (exo a C (some d))) d (exd d [("place", v), ("code", u)]) ∧ H' = upd (del Hz a) d (.xd [("place", v), ("code", u)]) ∧ Hz a = some (exo a C (some d)) ∧ Hz d = some (exd d [("place", v), ("code", u)]) ∧ H1 d = none ∧
      (∀ b o, H1 b = some o → H' b = some o) ∧ ExcAt K H' d x y := by
  have h1 : H1 d = none := by rw [upd_ne hda] at hd; exact hd
  have ex : ∀ b o, H1 b = some o → (upd (del (upd (upd (upd (upd H1 a (exo a C none)) d (exd d [("code", u)])) a (exo a C (some d))) d (exd d [("place", v), ("code", u)])) a) d (.xd [("place", v), ("code", u)])) b = some o := fun b o q => by
    have n1 : b ≠ d := ne_of_none q h1
    have n2 : b ≠ a := ne_of_none q ha
    rw [upd_ne n1, del_ne n2, upd_ne n1, upd_ne n2, upd_ne n1, upd_ne n2]
    exact q
  refine ⟨_, _, rfl, rfl, ?_, upd_same, h1, ex, ⟨_, u, v, upd_same, ?_, ?_, hx.stay (Stay.ext (L := []) ex), hy.stay (Stay.ext (L := []) ex)⟩⟩
  · rw [upd_ne (Ne.symm hda), upd_same]
  · rw [lookup_put, if_neg (by decide), lookup_put, if_pos rfl]
  · rw [lookup_put, if_pos rfl]
theorem ss_raise {cn : Str} {es : Es} {x : Expr} {xs : List Expr} {gp pos pos2 : Pos} (G : Gl0 T lv P w K mg base) (hgl : c.glo cn = true) (hn : fine cn = true) (hc : chkEs c es (x :: xs) = true) (hz : es.len ≤ 2) (se : SEs T lv P w K mg base c W es (x :: xs)) :
    SS T lv P w K mg base c W (.raise cn es) (.Raise (some (.Call (.Name cn gp) (x :: xs) [] pos)) none pos2) := by
  obtain ⟨hx, r, hr⟩ : plainX x = true ∧ ∃ r, chkEs c r xs = true := by
    cases es with
    | nil => simp [chkEs] at hc
    | cons e r =>
      simp only [chkEs, Bool.and_eq_true] at hc
      exact ⟨chk_plain hc.1, r, hc.2⟩
  cases hq : T.ec.contains cn with
  | false => exact ss_bad fun ρ => by simp only [exec, hq, Bool.false_eq_true, if_false]
  | true =>
  obtain ⟨t, pt, et, _, _⟩ := se
  obtain ⟨C, fI, k, fd, ps, sp, ds0, m1, m2, m3, m4, m5, m6, m7, m8, m9, m10⟩ := G.ex cn (List.contains_iff_mem.mp hq)
  have hl := chkEs_len hc
  -- one or two arguments
  obtain ⟨dvs, ds, hv, hb, hdl⟩ : ∃ (dvs : List V) (ds : List Value), Vals dvs ds ∧ Binds K fd ps ds ∧ ((es.len = 1 ∧ dvs = [.int 0]) ∨ (es.len = 2 ∧ dvs = [])) := by
    have h1 : es.len = 1 ∨ es.len = 2 := by simp at hl; omega
    rcases h1 with h1 | h1
    · exact ⟨[.int 0], ds0, m6, m7, .inl ⟨h1, rfl⟩⟩
    · exact ⟨[], [], .nil, m8, .inr ⟨h1, rfl⟩⟩
  refine ⟨fun De σ H => tMkO C sp dvs t σ H fun cls d H' => W cls d σ H', fun X gs => ?_, fun σ H ρ S Pr De R ok => ?_⟩
  · have pa := pt X gs.gd
    obtain ⟨⟨h1, h2, h3, h4, h5, h6, _, _, hcalm, _, hroom, _, htk⟩, _, _⟩ := gs
    subst h1 h2 h3 h4 h5
    exact ps_raise hcalm htk (pmk_oex m2 m3 m4 m5 (hroom.mono m1) hb hv passL (isGlo_gl h6 hgl) m9 pa (fine_of hn).1 (pl_star hx) (back_any pos (star_all hr)))
  · simp only [exec, Kh.S.stores, hq, if_true] at ok
    show t σ H _
    refine et σ H ρ S Pr _ R ?_
    cases e : evalEs T es ρ with
    | bad => rw [e] at ok; exact ok
    | exc _ _ _ _ =>
      rw [e] at ok
      exact fun C' dd H' S' m R' F' x' => ok C' dd σ H' S' m R' F' .refl x'
    | ok dd e1 =>
      rw [e] at ok
      have ld := evalEs_len e
      intro H1 S1 R1 F1 vs L dr rs
      simp only [Out.bind] at ok
      have fin : ∀ {y1 y2 : I} {u v : V}, OkS K mg W [] Pr σ H S De (.exc cn y1 y2 e1) → IR K H1 y1 u → IR K H1 y2 v → ∀ a, H1 a = none → sp [.ref a, u, v] (upd H1 a (exo a C none)) (fun v H2 => v = .non ∧ ∃ (d : Addr) (fs : List (Str × V)), H2 a = some (exo a C (some d)) ∧ H2 d = some (exd d fs) ∧ H1 d = none ∧ W (.ref C) (some d) σ (upd (del H2 a) d (.xd fs))) (fun _ _ _ => False) := fun {y1 y2 u v} ok1 r1 r2 a ha => by
        refine m10 a u v _ _ _ upd_same fun d hd hda => ⟨rfl, ?_⟩
        obtain ⟨Hz, H', rfl, rfl, q1, q2, q3, q4, q5⟩ := made_ok R1 ha hd hda r1 r2
        exact ⟨d, _, q1, q2, q3, ok1 C d σ _ S1 m9 (R1.grow q4) (F1.trans' (Fr.ext (p := false) q4)) .refl q5⟩
      split at ok
      · rename_i y1
        cases dr with
        | cons d1 d2 =>
          cases d2
          rcases hdl with ⟨_, rfl⟩ | ⟨z, _⟩
          · exact ⟨by simp, fun a ha => fin ok d1.im_inv.2 (.int 0) a ha⟩
          · rw [z] at ld; simp at ld
      · rename_i y1 y2
        cases dr with
        | cons d1 d2 =>
          cases d2 with
          | cons d3 d4 =>
            cases d4
            rcases hdl with ⟨z, _⟩ | ⟨_, rfl⟩
            · rw [z] at ld; simp at ld
            · exact ⟨by simp, fun a ha => fin ok d1.im_inv.2 d3.im_inv.2 a ha⟩
      · exact ok.elim
end
end Kh

set_option Elab.async false
set_option linter.all false
set_option maxRecDepth 100000
set_option maxHeartbeats 2000000
/-! try .. except of an own error -/
namespace Kh
open PySem PySem.Spec PyProof.Rows L2
/-- the check of an except suite's expression -/
def chkH (c : Cs) (v : Option Nat) : HE → Expr → Bool
  | .code, .Attribute (.Name n _) a _ => (match v with | some i => decide (c.N[i]? = some n) && c.vis n && fine n | none => false) && (a == ("code" : Str))
  | .place, .Attribute (.Name n _) a _ => (match v with | some i => decide (c.N[i]? = some n) && c.vis n && fine n | none => false) && (a == ("place" : Str))
  | .cst (.int n), .Constant (.int m) _ _ => n == m
  | .cst (.str n), .Constant (.str m) _ _ => n == m
  | .cst (.bl n), .Constant (.bool m) _ _ => n == m
  | .cst .non, .Constant .none _ _ => true
  | .var i, .Name x _ => decide (c.N[i]? = some x) && c.vis x && fine x
  | .pair a b, .Tuple [x, y] _ _ => chkH c v a x && chkH c v b y && plainX x && plainX y
  | .eq a b, .Compare x [.Eq] [y] _ => chkH c v a x && chkH c v b y && plainX y
  | .ite p q a b, .IfExp (.Compare x [.Eq] [y] _) z t _ => chkH c v p x && chkH c v q y && chkH c v a z && chkH c v b t && plainX y
  | .ite2 p q r s a b, .IfExp (.BoolOp .And [.Compare x [.Eq] [y] _, .Compare x' [.Eq] [y'] _] _) z t _ => chkH c v p x && chkH c v q y && chkH c v r x' && chkH c v s y' && chkH c v a z && chkH c v b t && plainX y && plainX y'
  | _, _ => false
def chkHs (c : Cs) (v : Option Nat) : Hs → List Stmt → Bool
  | .rt e, [.Return (some x) _] => chkH c v e x
  | .ct, [.Continue _] => true
  | _, _ => false
def tH (K : PySem.W.Frag) (a : Addr) (cls : Value) (d : Option Addr) (C : Addr) (i : Nat) : HE → TE
  | .code => tXf a cls d C "code" (tVar i)
  | .place => tXf a cls d C "place" (tVar i)
  | .cst (.int n) => tC (.int n)
  | .cst (.str n) => tC (.str n)
  | .cst (.bl n) => tC (.bl n)
  | .cst _ => tC .non
  | .var j => tVar j
  | .pair x y => tTup (tCons (tH K a cls d C i x) (tCons (tH K a cls d C i y) tNil))
  | .eq x y => tOp (rCm K .eq) (tH K a cls d C i x) (tH K a cls d C i y)
  | .ite p q x y => tIf (tTest (tOp (rCm K .eq) (tH K a cls d C i p) (tH K a cls d C i q))) (tH K a cls d C i x) (tH K a cls d C i y)
  | .ite2 p q r s x y => tIf (tAnd (tTest (tOp (rCm K .eq) (tH K a cls d C i p) (tH K a cls d C i q))) (tTest (tOp (rCm K .eq) (tH K a cls d C i r) (tH K a cls d C i s)))) (tH K a cls d C i x) (tH K a cls d C i y)
def tHs (K : PySem.W.Frag) (C : Addr) (i : Nat) (h : Hs) (a : Addr) (cls : Value) (d : Option Addr) : TS := match h with
  | .rt e => tRet (tH K a cls d C i e)
  | .ct => tCont
section
variable {T : Tab} {lv : Nat} {P : Program} {w : World} {K : PySem.W.Frag} {mg : Str → Option Value} {base : Heap} {c : Cs} {W : WX}
/-- what holds in the suite -/
structure HF (K : PySem.W.Frag) (H : Hp) (σ : L2.St) (e : En) (a dd : Addr) (fs : List (Str × V)) (v : Option Nat) (x y : I) : Prop where
  vr : ∀ i z, imAt e i = some z → ∃ u, σ[i]? = some (some u) ∧ IR K H z u
  me : ∀ i, v = some i → σ[i]? = some (some (.ref a))
  xd : H dd = some (.xd fs)
  cd : ∃ u, fs.lookup ("code" : Str) = some u ∧ IR K H x u
  pl : ∃ u, fs.lookup ("place" : Str) = some u ∧ IR K H y u
theorem HF.grow {H H' : Hp} {σ : L2.St} {e : En} {a dd : Addr} {fs : List (Str × V)} {v : Option Nat} {x y : I} (F : HF K H σ e a dd fs v x y) (g : ∀ b o, H b = some o → H' b = some o) : HF K H' σ e a dd fs v x y :=
  ⟨fun i z q => let ⟨u, h1, h2⟩ := F.vr i z q; ⟨u, h1, h2.stay (Stay.ext (L := []) g)⟩, F.me, g _ _ F.xd, let ⟨u, h1, h2⟩ := F.cd; ⟨u, h1, h2.stay (Stay.ext (L := []) g)⟩, let ⟨u, h1, h2⟩ := F.pl; ⟨u, h1, h2.stay (Stay.ext (L := []) g)⟩⟩
theorem eqI_ok {H : Hp} {x y : I} {b : Bool} {u v : V} {Q : VK} (h : eqI x y = some b) (r1 : IR K H x u) (r2 : IR K H y v) (q : Q (.bl b) H) : rCm K .eq u v H Q := by
  unfold eqI at h
  split at h
  · rename_i hs
    rw [Bool.and_eq_true] at hs
    refine .inr ⟨_, _, dp_of r1, dp_of r2, py_shaped hs.1, py_shaped hs.2, ?_⟩
    rw [eq_py x y b h]; exact q
  · cases h
theorem VOk.grow {H H1 : Hp} {z : D} {Q : VK} (q : VOk K H z Q) (g : ∀ b o, H b = some o → H1 b = some o) (hz : z.isIm = true) : VOk K H1 z Q := fun H' w L g' dr fr => by
  obtain ⟨x, rfl⟩ := isIm_inv hz
  obtain ⟨rfl, r⟩ := dr.im_inv
  exact q H' w [] (fun b o e => g' b o (g b o e)) (.im r) Fresh.nil
variable {σ : L2.St} {e : En} {a dd C : Addr} {fs : List (Str × V)} {v : Option Nat} {i : Nat} {x y : I}
theorem th_ok (hv : ∀ j, v = some j → j = i) : ∀ (he : HE) (ex : Expr) (r : I) (H : Hp) (Q : VK), chkH c v he ex = true → HF K H σ e a dd fs v x y → evalH x y e he = some r → VOk K H (.im r) Q → tH K a (.ref C) (some dd) C i he σ H Q
  | .code, ex, r, H, Q, hc, F, h, q => by
    cases h
    obtain ⟨u, h1, h2⟩ := F.cd
    have hs : ∃ j, v = some j := by
      cases v with
      | none => unfold chkH at hc; split at hc <;> simp_all
      | some j => exact ⟨j, rfl⟩
    obtain ⟨j, hj⟩ := hs
    have := hv j hj
    subst this
    exact ⟨_, F.me j hj, rfl, rfl, dd, fs, u, rfl, F.xd, h1, q.im h2⟩
  | .place, ex, r, H, Q, hc, F, h, q => by
    cases h
    obtain ⟨u, h1, h2⟩ := F.pl
    have hs : ∃ j, v = some j := by
      cases v with
      | none => unfold chkH at hc; split at hc <;> simp_all
      | some j => exact ⟨j, rfl⟩
    obtain ⟨j, hj⟩ := hs
    have := hv j hj
    subst this
    exact ⟨_, F.me j hj, rfl, rfl, dd, fs, u, rfl, F.xd, h1, q.im h2⟩
  | .cst k, ex, r, H, Q, hc, F, h, q => by
    cases h
    cases k with
    | int n => exact q.im (.int n)
    | str n => exact q.im (.str n)
    | bl n => exact q.im (.bl n)
    | non => exact q.im .non
    | tup xs => unfold chkH at hc; exact absurd hc Bool.false_ne_true
  | .var j, ex, r, H, Q, hc, F, h, q => by
    obtain ⟨u, h1, h2⟩ := F.vr j r h
    exact ⟨u, h1, q.im h2⟩
  | .pair p s, ex, r, H, Q, hc, F, h, q => by
    unfold chkH at hc
    split at hc <;> first | (exact absurd hc Bool.false_ne_true) | (rename_i e; cases e)
    simp only [Bool.and_eq_true] at hc
    obtain ⟨u, h1, h2⟩ := Option.bind_eq_some_iff.mp h
    obtain ⟨z, h3, h4⟩ := Option.map_eq_some_iff.mp h2
    subst h4
    refine th_ok hv p _ u H _ hc.1.1.1 F h1 fun H1 w1 L1 g1 d1 f1 => ?_
    refine th_ok hv s _ z H1 _ hc.1.1.2 (F.grow g1) h3 fun H2 w2 L2 g2 d2 f2 => ?_
    refine ⟨by show 2 ≤ sizeLine; decide, ?_⟩
    exact (q.grow (fun b o e => g2 b o (g1 b o e)) rfl).tup (.cons (d1.im_inv.2.stay (Stay.ext (L := []) g2)) (.cons d2.im_inv.2 .nil))
  | .eq p s, ex, r, H, Q, hc, F, h, q => by
    unfold chkH at hc
    split at hc <;> first | (exact absurd hc Bool.false_ne_true) | (rename_i e; cases e)
    simp only [Bool.and_eq_true] at hc
    obtain ⟨u, h1, h2⟩ := Option.bind_eq_some_iff.mp h
    obtain ⟨z, h3, h4⟩ := Option.bind_eq_some_iff.mp h2
    obtain ⟨b, h5, h6⟩ := Option.map_eq_some_iff.mp h4
    subst h6
    refine th_ok hv p _ u H _ hc.1.1 F h1 fun H1 w1 L1 g1 d1 f1 => ?_
    refine th_ok hv s _ z H1 _ hc.1.2 (F.grow g1) h3 fun H2 w2 L2 g2 d2 f2 => ?_
    exact eqI_ok h5 (d1.im_inv.2.stay (Stay.ext (L := []) g2)) d2.im_inv.2 ((q.grow (fun b o e => g2 b o (g1 b o e)) rfl).bl)
  | .ite p s t t', ex, r, H, Q, hc, F, h, q => by
    unfold chkH at hc
    split at hc <;> first | (exact absurd hc Bool.false_ne_true) | (rename_i e; cases e)
    simp only [Bool.and_eq_true] at hc
    obtain ⟨⟨⟨⟨c1, c2⟩, c3⟩, c4⟩, c5⟩ := hc
    obtain ⟨u, h1, h2⟩ := Option.bind_eq_some_iff.mp h
    obtain ⟨z, h3, h4⟩ := Option.bind_eq_some_iff.mp h2
    obtain ⟨b, h5, h6⟩ := Option.bind_eq_some_iff.mp h4
    refine th_ok hv p _ u H _ c1 F h1 fun H1 w1 L1 g1 d1 f1 => ?_
    refine th_ok hv s _ z H1 _ c2 (F.grow g1) h3 fun H2 w2 L2 g2 d2 f2 => ?_
    refine eqI_ok h5 (d1.im_inv.2.stay (Stay.ext (L := []) g2)) d2.im_inv.2 ⟨b, rfl, ?_⟩
    have F2 := (F.grow g1).grow g2
    have q2 := q.grow (fun b o e => g2 b o (g1 b o e)) rfl
    cases b with
    | true => simp only [if_true] at h6 ⊢; exact th_ok hv t _ r H2 Q c3 F2 h6 q2
    | false => simp only [Bool.false_eq_true, if_false] at h6 ⊢; exact th_ok hv t' _ r H2 Q c4 F2 h6 q2
  | .ite2 p s p' s' t t', ex, r, H, Q, hc, F, h, q => by
    unfold chkH at hc
    split at hc <;> first | (exact absurd hc Bool.false_ne_true) | (rename_i e; cases e)
    simp only [Bool.and_eq_true] at hc
    obtain ⟨⟨⟨⟨⟨⟨⟨c1, c2⟩, c3⟩, c4⟩, c5⟩, c6⟩, c7⟩, c8⟩ := hc
    obtain ⟨u, h1, h2⟩ := Option.bind_eq_some_iff.mp h
    obtain ⟨z, h3, h4⟩ := Option.bind_eq_some_iff.mp h2
    obtain ⟨b, h5, h6⟩ := Option.bind_eq_some_iff.mp h4
    refine th_ok hv p _ u H _ c1 F h1 fun H1 w1 L1 g1 d1 f1 => ?_
    refine th_ok hv s _ z H1 _ c2 (F.grow g1) h3 fun H2 w2 L2 g2 d2 f2 => ?_
    refine eqI_ok h5 (d1.im_inv.2.stay (Stay.ext (L := []) g2)) d2.im_inv.2 ⟨b, rfl, ?_⟩
    have F2 := (F.grow g1).grow g2
    have q2 := q.grow (fun b o e => g2 b o (g1 b o e)) rfl
    cases b with
    | false => simp only [Bool.false_eq_true, if_false] at h6 ⊢; exact th_ok hv t' _ r H2 Q c6 F2 h6 q2
    | true =>
      simp only [if_true] at h6 ⊢
      obtain ⟨u', k1, k2⟩ := Option.bind_eq_some_iff.mp h6
      obtain ⟨z', k3, k4⟩ := Option.bind_eq_some_iff.mp k2
      obtain ⟨b', k5, k6⟩ := Option.bind_eq_some_iff.mp k4
      refine th_ok hv p' _ u' H2 _ c3 F2 k1 fun H3 w3 L3 g3 d3 f3 => ?_
      refine th_ok hv s' _ z' H3 _ c4 (F2.grow g3) k3 fun H4 w4 L4 g4 d4 f4 => ?_
      refine eqI_ok k5 (d3.im_inv.2.stay (Stay.ext (L := []) g4)) d4.im_inv.2 ⟨b', rfl, ?_⟩
      have F4 := (F2.grow g3).grow g4
      have q4 := q2.grow (fun b o e => g4 b o (g3 b o e)) rfl
      cases b' with
      | true => simp only [if_true] at k6 ⊢; exact th_ok hv t _ r H4 Q c5 F4 k6 q4
      | false => simp only [Bool.false_eq_true, if_false] at k6 ⊢; exact th_ok hv t' _ r H4 Q c6 F4 k6 q4

/-- the suite's expressions run -/
theorem th_pe {X : Cx} {a C : Addr} {oe : Obj} {cls : Value} {d : Option Addr} {pn : List (Addr × Obj)} {v : Option Nat} {i : Nat} (g : Gd lv c W P w K mg base X) (hv : ∀ j, v = some j → j = i) (TX : XfC K C) (n1 : PySem.W.findIn K (.ref C) "code" = some none) (n2 : PySem.W.findIn K (.ref C) "place" = some none)
    (hz : Zc cls d oe) (hf : ∃ vs, oe.data = .fields vs) : ∀ (he : HE) (ex : Expr), chkH c v he ex = true → PE (X.suite a ((a, oe) :: pn)) ex (tH K a cls d C i he)
  | .code, ex, hc => by
    unfold chkH at hc
    split at hc <;> first | (exact absurd hc Bool.false_ne_true) | (rename_i e; cases e)
    rename_i n np at' ap
    rw [Bool.and_eq_true] at hc
    obtain ⟨h1, h2⟩ := hc
    have h2 := eq_of_beq h2
    subst h2
    cases v with
    | none => cases h1
    | some j =>
      have e := hv j rfl
      subst e
      simp only [Bool.and_eq_true, decide_eq_true_eq] at h1
      obtain ⟨⟨h3, h4⟩, h5⟩ := h1
      obtain ⟨d1, d2, _⟩ := fine_of h5
      exact pe_xf (by rw [g.hK]; exact TX) (by rw [g.hK]; exact n1) hz hf (pe_var (by show X.N[j]? = some n; rw [g.N]; exact h3) (by show Vis X.env.scope n; rw [g.sc]; exact isVar_vis h4) d1 d2)
  | .place, ex, hc => by
    unfold chkH at hc
    split at hc <;> first | (exact absurd hc Bool.false_ne_true) | (rename_i e; cases e)
    rename_i n np at' ap
    rw [Bool.and_eq_true] at hc
    obtain ⟨h1, h2⟩ := hc
    have h2 := eq_of_beq h2
    subst h2
    cases v with
    | none => cases h1
    | some j =>
      have e := hv j rfl
      subst e
      simp only [Bool.and_eq_true, decide_eq_true_eq] at h1
      obtain ⟨⟨h3, h4⟩, h5⟩ := h1
      obtain ⟨d1, d2, _⟩ := fine_of h5
      exact pe_xf (by rw [g.hK]; exact TX) (by rw [g.hK]; exact n2) hz hf (pe_var (by show X.N[j]? = some n; rw [g.N]; exact h3) (by show Vis X.env.scope n; rw [g.sc]; exact isVar_vis h4) d1 d2)
  | .cst k, ex, hc => by
    cases k with
    | tup xs => unfold chkH at hc; exact absurd hc Bool.false_ne_true
    | int n =>
      unfold chkH at hc
      split at hc <;> first | (exact absurd hc Bool.false_ne_true) | (rename_i e; cases e)
      cases eq_of_beq hc; exact pe_int
    | str n =>
      unfold chkH at hc
      split at hc <;> first | (exact absurd hc Bool.false_ne_true) | (rename_i e; cases e)
      cases eq_of_beq hc; exact pe_str
    | bl n =>
      unfold chkH at hc
      split at hc <;> first | (exact absurd hc Bool.false_ne_true) | (rename_i e; cases e)
      cases eq_of_beq hc; exact pe_bl
    | non =>
      unfold chkH at hc
      split at hc <;> first | (exact absurd hc Bool.false_ne_true) | (rename_i e; cases e)
      exact pe_non
  | .var j, ex, hc => by
    unfold chkH at hc
    split at hc <;> first | (exact absurd hc Bool.false_ne_true) | (rename_i e; cases e)
    rename_i n np
    simp only [Bool.and_eq_true, decide_eq_true_eq] at hc
    obtain ⟨⟨h3, h4⟩, h5⟩ := hc
    obtain ⟨d1, d2, _⟩ := fine_of h5
    exact pe_var (by show X.N[j]? = some n; rw [g.N]; exact h3) (by show Vis X.env.scope n; rw [g.sc]; exact isVar_vis h4) d1 d2
  | .pair p s, ex, hc => by
    unfold chkH at hc
    split at hc <;> first | (exact absurd hc Bool.false_ne_true) | (rename_i e; cases e)
    simp only [Bool.and_eq_true] at hc
    obtain ⟨⟨⟨c1, c2⟩, c3⟩, c4⟩ := hc
    exact pe_tup (pa_cons (th_pe g hv TX n1 n2 hz hf p _ c1) (pa_cons (th_pe g hv TX n1 n2 hz hf s _ c2) pa_nil (pl_star c4)) (pl_star c3))
  | .eq p s, ex, hc => by
    unfold chkH at hc
    split at hc <;> first | (exact absurd hc Bool.false_ne_true) | (rename_i e; cases e)
    simp only [Bool.and_eq_true] at hc
    obtain ⟨⟨c1, c2⟩, c3⟩ := hc
    have r := op_cm (X := X.suite a ((a, oe) :: pn)) (op := .eq) (o := .Eq) rfl (Nat.lt_trans (Nat.add_lt_add_left (by decide) _) g.un)
    have hK : (X.suite a ((a, oe) :: pn)).K = K := g.hK
    rw [hK] at r
    exact pe_cmpR r (th_pe g hv TX n1 n2 hz hf p _ c1) (th_pe g hv TX n1 n2 hz hf s _ c2) (pl_mark c3)
  | .ite p s t t', ex, hc => by
    unfold chkH at hc
    split at hc <;> first | (exact absurd hc Bool.false_ne_true) | (rename_i e; cases e)
    simp only [Bool.and_eq_true] at hc
    obtain ⟨⟨⟨⟨c1, c2⟩, c3⟩, c4⟩, c5⟩ := hc
    have r := op_cm (X := X.suite a ((a, oe) :: pn)) (op := .eq) (o := .Eq) rfl (Nat.lt_trans (Nat.add_lt_add_left (by decide) _) g.un)
    have hK : (X.suite a ((a, oe) :: pn)).K = K := g.hK
    rw [hK] at r
    exact pe_ifExp (pt_cmpR r (th_pe g hv TX n1 n2 hz hf p _ c1) (th_pe g hv TX n1 n2 hz hf s _ c2) (pl_mark c5)) (th_pe g hv TX n1 n2 hz hf t _ c3) (th_pe g hv TX n1 n2 hz hf t' _ c4)
  | .ite2 p s p' s' t t', ex, hc => by
    unfold chkH at hc
    split at hc <;> first | (exact absurd hc Bool.false_ne_true) | (rename_i e; cases e)
    simp only [Bool.and_eq_true] at hc
    obtain ⟨⟨⟨⟨⟨⟨⟨c1, c2⟩, c3⟩, c4⟩, c5⟩, c6⟩, c7⟩, c8⟩ := hc
    have r := op_cm (X := X.suite a ((a, oe) :: pn)) (op := .eq) (o := .Eq) rfl (Nat.lt_trans (Nat.add_lt_add_left (by decide) _) g.un)
    have hK : (X.suite a ((a, oe) :: pn)).K = K := g.hK
    rw [hK] at r
    exact pe_ifExp (pw_and (pt_cmpR r (th_pe g hv TX n1 n2 hz hf p _ c1) (th_pe g hv TX n1 n2 hz hf s _ c2) (pl_mark c7)) (pw_and1 (pt_cmpR r (th_pe g hv TX n1 n2 hz hf p' _ c3) (th_pe g hv TX n1 n2 hz hf s' _ c4) (pl_mark c8)))).pt (th_pe g hv TX n1 n2 hz hf t _ c5) (th_pe g hv TX n1 n2 hz hf t' _ c6)
theorem ths_ps {X : Cx} {a C : Addr} {oe : Obj} {cls : Value} {d : Option Addr} {pn : List (Addr × Obj)} {v : Option Nat} {i : Nat} {h : Hs} {b : Stmt} {bs : List Stmt} (g : Gd lv c W P w K mg base X) (hv : ∀ j, v = some j → j = i) (TX : XfC K C) (n1 : PySem.W.findIn K (.ref C) "code" = some none) (n2 : PySem.W.findIn K (.ref C) "place" = some none)
    (hz : Zc cls d oe) (hf : ∃ vs, oe.data = .fields vs) (hc : chkHs c v h (b :: bs) = true) : PSs (X.suite a ((a, oe) :: pn)) (b :: bs) (tHs K C i h a cls d) := by
  unfold chkHs at hc
  split at hc
  · rename_i e x pos heq
    cases heq
    exact pss_one (ps_ret (th_pe g hv TX n1 n2 hz hf e x hc))
  · rename_i heq
    cases heq
    exact pss_one ps_continue
  · cases hc

theorem Gs.try {X : Cx} {W' : WX} {pn : List (Addr × Obj)} {xe : Value → Shared → Prop} (g : Gs lv c W P w K mg base X) (tk : Takes (X.tr pn xe) W') (pa : PassesOwn (model X.prog X.w) X.A X.env xe) : Gs lv c W' P w K mg base (X.tr pn xe) :=
  ⟨⟨g.gd.hP, g.gd.hw, g.gd.hK, g.gd.hm, g.gd.hb, g.gd.sc, g.gd.N, g.gd.nd, g.gd.calm, g.gd.un, g.gd.room, g.gd.fnl, tk⟩, pa, g.kd, g.st, g.fr⟩
theorem im_at {H : Hp} {σ : L2.St} {e : En} {S : Foot} {Pr : List Addr} (R : SR K Pr H σ e S) {i : Nat} {z : I} (h : imAt e i = some z) : ∃ u, σ[i]? = some (some u) ∧ IR K H z u := by
  unfold imAt at h
  split at h
  · rename_i q
    cases h
    obtain ⟨v, e1, dr⟩ := R.own i _ q
    exact ⟨v, e1, dr.im_inv.2⟩
  · rename_i q
    cases h
    obtain ⟨v, L, e1, dr, _⟩ := R.bor i _ q
    exact ⟨v, e1, dr.im_inv.2⟩
  · cases h
theorem ss_try {body : Ss} {cn x : Str} {v : Option Nat} {n : Option Str} {h : Hs} {xs bs : List Stmt} {b : Stmt} {np pos pos' : Pos} (G : Gl0 T lv P w K mg base) (hx : cn = x) (hgl : c.glo cn = true) (hn : fine cn = true)
    (hvn : (match v, n with | some i, some y => decide (c.N[i]? = some y) && decide (c.sc.names.lookup y = some .local) | none, none => true | _, _ => false) = true) (hc : chkHs c v h (b :: bs) = true) (hb : ∀ W', SSs T lv P w K mg base c W' body xs) :
    SS T lv P w K mg base c W (.tryx body cn v h) (.Try xs [.ExceptHandler (some (.Name x np)) n (b :: bs) pos'] [] [] pos) := by
  subst hx
  cases hq : T.ec.contains cn with
  | false => exact ss_bad fun ρ => by simp only [exec, hq, Bool.false_and, Bool.false_eq_true, if_false]
  | true =>
  obtain ⟨C, hm, TX, n1, n2, hex⟩ := (G.exg cn (List.contains_iff_mem.mp hq)).ex
  have tb1 := fun W' => (Classical.choose_spec (hb W')).1
  have tb2 := fun W' => (Classical.choose_spec (hb W')).2
  generalize htb : (fun W' => Classical.choose (hb W')) = tb at *
  have tb1' : ∀ W', ∀ X, Gs lv c W' P w K mg base X → PSs X xs (tb W') := fun W' => by rw [← htb]; exact tb1 W'
  have tb2' : ∀ W', SpSs T K mg W' body (tb W') := fun W' => by rw [← htb]; exact tb2 W'
  obtain ⟨d1, d2, d3⟩ := fine_of hn
  have key : ∀ (i : Nat), (∀ j, v = some j → j = i) → ∀ (σ' : L2.St) (H' : Hp) (e' : En) (S' : Foot) (Pr : List Addr) (xx yy : I) (dd a : Addr) (st : List Nat) (σ : L2.St) (H : Hp) (S : Foot) (D : Ends) (σ2 σ3 : L2.St), SR K Pr H' σ' e' S' → Fr false H S H' S' → ExcAt K H' dd xx yy →
      σ2 = (match v with | some j => σ'.set j (some (.ref a)) | none => σ') → σ3 = (match v with | some j => σ'.set j none | none => σ') → (∀ j, v = some j → j < e'.length) → Off st σ σ3 → OkS K mg W st Pr σ H S D (runH h xx yy (clearV v e')) →
      (match h with | .rt e => tH K a (.ref C) (some dd) C i e σ2 H' D.rt | .ct => D.ct σ3 H') := by
    intro i hi σ' H' e' S' Pr xx yy dd a st σ H S D σ2 σ3 R' F' hx h2 h3 hl O ok
    obtain ⟨fs, vx, vy, ed, lx, ly, rx, ry⟩ := hx
    have R3 : ∃ S3, SR K Pr H' σ3 (clearV v e') S3 ∧ Fr false H S H' S3 := by
      cases v with
      | none => subst h3; exact ⟨S', R', F'⟩
      | some j => subst h3; exact ⟨_, R'.drop j, F'.trans' (Fr.drop (i := j))⟩
    obtain ⟨S3, R3, F3⟩ := R3
    cases h with
    | ct => exact ok σ3 H' S3 R3 F3 O
    | rt he =>
      simp only [runH] at ok
      cases hr : evalH xx yy (clearV v e') he with
      | none => rw [hr] at ok; exact ok.elim
      | some r =>
        rw [hr] at ok
        have hch : ∃ ex, chkH c v he ex = true := by
          unfold chkHs at hc
          split at hc
          · rename_i e0 x0 p0 q0 _
            cases q0
            exact ⟨_, hc⟩
          · rename_i q0 _; cases q0
          · cases hc
        obtain ⟨ex, hch⟩ := hch
        refine th_ok hi he ex r H' D.rt hch ⟨fun j z q => ?_, fun j q => ?_, ed, ⟨vx, lx, rx⟩, ⟨vy, ly, ry⟩⟩ hr fun H2 w L g dr fr => ?_
        · obtain ⟨u, h5, h6⟩ := im_at R3 q
          refine ⟨u, ?_, h6⟩
          cases v with
          | none => subst h2 h3; exact h5
          | some k =>
            subst h2 h3
            by_cases e : k = j
            · subst e
              rw [List.getElem?_set] at h5
              simp at h5
            · rw [List.getElem?_set_ne e] at h5 ⊢
              exact h5
        · subst q
          subst h2
          exact List.getElem?_set_self (by rw [← R'.len]; exact hl j rfl)
        · exact ok σ3 H2 S3 (R3.grow g) (F3.trans' (Fr.ext (p := false) g)) O w L dr (R3.fresh F3 fr)
  cases v with
  | none =>
    cases n with
    | some y => cases hvn
    | none =>
    refine ⟨fun D σ H => tb (wOnly K (.ref C) (fun a cls d => tHs K C 0 h a cls d) W D) D σ H, fun X gs => ?_, fun σ H ρ S Pr D R ok => ?_⟩
    · have r := ps_try_only (X := X) (x := cn) (c := .ref C) (np := np) (pos := pos) (pos' := pos') (tb := tb) (ts := fun a cls d => tHs K C 0 h a cls d) (Wout := W) gs.st gs.fr ⟨isGlo_gl gs.gd.sc hgl, d1, .inl (by rw [gs.gd.hm]; exact hm)⟩ gs.gd.tk
        (fun W' pn xe tk pa => tb1' W' _ (gs.try tk pa)) (fun a oe cls d pn hz hf => ths_ps gs.gd (fun j z => by cases z) TX n1 n2 hz hf hc)
      rw [gs.gd.hK] at r
      exact r
    · simp only [exec, hq, vOk, Bool.and_self, if_true, Kh.S.stores] at ok
      refine tb2' _ σ H ρ S Pr D R ?_
      cases hx : execs T body ρ with
      | bad => rw [hx] at ok; exact ok.elim
      | ok f e' => rw [hx] at ok; exact ok
      | exc cc xx yy e' =>
        rw [hx] at ok
        simp only at ok
        split at ok
        · rename_i hcc
          have hcc := eq_of_beq hcc
          subst hcc
          intro C' dd σ' H' S' hm' R' F' O' hxx
          rw [hm] at hm'
          cases hm'
          refine ⟨true, hex, fun _ a ha => ?_, fun z => nomatch z⟩
          have k := key 0 (fun j z => by cases z) σ' H' e' S' Pr xx yy dd a _ σ H S D σ' σ' R' F' hxx rfl rfl (fun j z => by cases z) O' ok
          cases h with
          | rt e => exact k
          | ct => exact k
        · exact ok.elim
  | some i =>
    cases n with
    | none => cases hvn
    | some y =>
    simp only [Bool.and_eq_true, decide_eq_true_eq] at hvn
    obtain ⟨hi, hl⟩ := hvn
    refine ⟨fun D σ H => tb (wAs K (.ref C) i (fun a cls d => tHs K C i h a cls d) W D) D σ H, fun X gs => ?_, fun σ H ρ S Pr D R ok => ?_⟩
    · have r := ps_try_as (X := X) (x := cn) (n := y) (c := .ref C) (i := i) (np := np) (pos := pos) (pos' := pos') (tb := tb) (ts := fun a cls d => tHs K C i h a cls d) (Wout := W) gs.st gs.fr (by rw [gs.gd.N]; exact gs.gd.nd) (by rw [gs.gd.N]; exact hi) (by show X.env.scope.names.lookup y = _; rw [gs.gd.sc]; exact hl)
        ⟨isGlo_gl gs.gd.sc hgl, d1, .inl (by rw [gs.gd.hm]; exact hm)⟩ gs.gd.tk
        (fun W' pn xe tk pa => tb1' W' _ (gs.try tk pa)) (fun a oe cls d pn hz hf => ths_ps gs.gd (fun j z => by cases z; rfl) TX n1 n2 hz hf hc)
      rw [gs.gd.hK] at r
      exact r
    · simp only [exec, hq, vOk, Bool.true_and, Kh.S.stores, decide_eq_true_eq] at ok
      split at ok
      case isFalse => exact ok.elim
      rename_i hil
      rw [R.len] at hil
      refine tb2' _ σ H ρ S Pr D R ?_
      cases hx : execs T body ρ with
      | bad => rw [hx] at ok; exact ok.elim
      | ok f e' => rw [hx] at ok; exact ok.sub fun j m => List.mem_cons_of_mem _ m
      | exc cc xx yy e' =>
        rw [hx] at ok
        simp only at ok
        split at ok
        · rename_i hcc
          have hcc := eq_of_beq hcc
          subst hcc
          intro C' dd σ' H' S' hm' R' F' O' hxx
          rw [hm] at hm'
          cases hm'
          refine ⟨true, hex, fun _ a ha => ?_, fun z => nomatch z⟩
          have k := key i (fun j z => by cases z; rfl) σ' H' e' S' Pr xx yy dd a (i :: body.stores) σ H S D (σ'.set i (some (.ref a))) (σ'.set i none) R' F' hxx rfl rfl (fun j z => by cases z; rw [R'.len, O'.1]; exact hil)
            ((O'.mono fun j m => List.mem_cons_of_mem _ m).trans (Off.set List.mem_cons_self)) ok
          cases h with
          | rt e => exact k
          | ct =>
            show D.ct ((σ'.set i (some (.ref a))).set i none) H'
            rw [List.set_set]
            exact k
        · exact ok.elim
end
end Kh

set_option Elab.async false
set_option linter.all false
set_option maxRecDepth 100000
set_option maxHeartbeats 2000000
/-! xs[p], xs[q] = xs[q], xs[p] -/
namespace Kh
open PySem PySem.Spec PyProof.Rows L2
section
variable {K : PySem.W.Frag} {H : Hp}
/-- the parts of a list's things -/
theorem DRs.parts : ∀ {xs : List D} {vs : List V} {L : List Addr}, DRs K H xs vs L → ∃ Ls : List (List Addr), L = Ls.flatten ∧ Ls.length = xs.length ∧ vs.length = xs.length ∧ ∀ (n : Nat) (x : D) (v : V) (R : List Addr), xs[n]? = some x → vs[n]? = some v → Ls[n]? = some R → DR K H x v R
  | _, _, _, .nil => ⟨[], rfl, rfl, rfl, fun n x v R h => by simp at h⟩
  | _, _, _, .cons (S := S) a r => by
    obtain ⟨Ls, h1, h2, h3, h4⟩ := DRs.parts r
    refine ⟨S :: Ls, by rw [h1]; rfl, by simp [h2], by simp [h3], fun n x v R e1 e2 e3 => ?_⟩
    cases n with
    | zero => cases e1; cases e2; cases e3; exact a
    | succ n => exact h4 n x v R e1 e2 e3
theorem DRs.join : ∀ {xs : List D} {vs : List V} {Ls : List (List Addr)}, Ls.length = xs.length → vs.length = xs.length → (∀ (n : Nat) (x : D) (v : V) (R : List Addr), xs[n]? = some x → vs[n]? = some v → Ls[n]? = some R → DR K H x v R) → DRs K H xs vs Ls.flatten
  | [], [], [], _, _, _ => .nil
  | [], _ :: _, _, _, h, _ => by simp at h
  | [], _, _ :: _, h, _, _ => by simp at h
  | _ :: _, [], _, _, h, _ => by simp at h
  | _ :: _, _, [], h, _, _ => by simp at h
  | x :: xs, v :: vs, R :: Ls, h1, h2, h => by
    rw [List.flatten_cons]
    exact .cons (h 0 x v R rfl rfl rfl) (DRs.join (Nat.succ.inj h1) (Nat.succ.inj h2) fun n x v R e1 e2 e3 => h (n + 1) x v R e1 e2 e3)
theorem swap_get {α : Type} {xs : List α} {j k n : Nat} (hj : j < xs.length) (hk : k < xs.length) : ((xs.set j xs[k]).set k xs[j])[n]? = if n = k then some xs[j] else if n = j then some xs[k] else xs[n]? := by
  by_cases e : k = n
  · subst e
    rw [List.getElem?_set_self (by simpa using hk), if_pos rfl]
  · rw [List.getElem?_set_ne e, if_neg (Ne.symm e)]
    by_cases e2 : j = n
    · subst e2
      rw [List.getElem?_set_self hj, if_pos rfl]
    · rw [List.getElem?_set_ne e2, if_neg (Ne.symm e2)]
theorem DRs.swap {xs : List D} {vs : List V} {L : List Addr} {j k : Nat} (r : DRs K H xs vs L) (hj : j < xs.length) (hk : k < xs.length) : ∃ w1 w2 M, vs[j]? = some w1 ∧ vs[k]? = some w2 ∧ DRs K H (swapL xs j k) ((vs.set j w2).set k w1) M ∧ M.Perm L := by
  obtain ⟨Ls, h1, h2, h3, h4⟩ := DRs.parts r
  have vj : j < vs.length := by omega
  have vk : k < vs.length := by omega
  have lj : j < Ls.length := by omega
  have lk : k < Ls.length := by omega
  have e : swapL xs j k = (xs.set j xs[k]).set k xs[j] := by
    unfold swapL
    rw [List.getElem?_eq_getElem hj, List.getElem?_eq_getElem hk]
  refine ⟨vs[j], vs[k], ((Ls.set j Ls[k]).set k Ls[j]).flatten, List.getElem?_eq_getElem vj, List.getElem?_eq_getElem vk, ?_, ?_⟩
  · rw [e]
    refine DRs.join (by simp [h2]) (by simp [h3]) fun n x v R e1 e2 e3 => ?_
    rw [swap_get hj hk] at e1
    rw [swap_get vj vk] at e2
    rw [swap_get lj lk] at e3
    by_cases c1 : n = k
    · rw [if_pos c1] at e1 e2 e3
      exact h4 j x v R (by rw [List.getElem?_eq_getElem hj]; exact e1) (by rw [List.getElem?_eq_getElem vj]; exact e2) (by rw [List.getElem?_eq_getElem lj]; exact e3)
    · rw [if_neg c1] at e1 e2 e3
      by_cases c2 : n = j
      · rw [if_pos c2] at e1 e2 e3
        exact h4 k x v R (by rw [List.getElem?_eq_getElem hk]; exact e1) (by rw [List.getElem?_eq_getElem vk]; exact e2) (by rw [List.getElem?_eq_getElem lk]; exact e3)
      · rw [if_neg c2] at e1 e2 e3
        exact h4 n x v R e1 e2 e3
  · rw [h1]
    exact List.Perm.flatten (List.set_set_perm lj lk)
end
section
variable {T : Tab} {lv : Nat} {P : Program} {w : World} {K : PySem.W.Frag} {mg : Str → Option Value} {base : Heap} {c : Cs} {W : WX}
/-- a pure expression whose value is known, at a larger heap -/
theorem use_again {a : E} {ta : TE} {σ : L2.St} {H : Hp} {ρ e : En} {S : Foot} {Pr : List Addr} {Q : VK} {n : Int} (ea : SpE T K mg W a ta) (R : SR K Pr H σ ρ S) (hp : a.pure = true) (h : evalE T a false ρ = .ok (.im (.int n)) e)
    (k : ∀ H1, (∀ b o, H b = some o → H1 b = some o) → Q (.int n) H1) : ta σ H Q := by
  refine ea false σ H ρ S Pr Q R ?_
  rw [h]
  intro H1 S1 R1 F1 v L dr rs
  rw [hp] at F1
  obtain rfl := dr.int_inv
  exact k H1 (F1.pur rfl).2
theorem swapped_subs {y1 y2 : Expr} {k1 k2 : Expr} {p1 p2 pt pt2 : Pos} {kt kt2 : Nat} {a b : Expr} {env : PySem.Env} : swappedStores [.Tuple [.Subscript y1 k1 p1, .Subscript y2 k2 p2] kt pt] (.Tuple [a, b] kt2 pt2) env = pure none := by
  unfold swappedStores
  simp only [List.length_cons, List.length_nil, List.filterMap]
  split
  · rfl
  · split
    · rfl
    · rfl
theorem ss_swapix {i : Nat} {p q : E} {y1 y2 y3 y4 : Str} {yp1 yp2 yp3 yp4 p1 p2 p3 p4 pt pt2 pos : Pos} {kt kt2 : Nat} {kp kp' kq kq' : Expr} (h1 : chkE c (.var i) (.Name y1 yp1) = true) (h2 : chkE c (.var i) (.Name y2 yp2) = true) (h3 : chkE c (.var i) (.Name y3 yp3) = true) (h4 : chkE c (.var i) (.Name y4 yp4) = true)
    (x1 : plainX kp = true) (x2 : plainX kp' = true) (x3 : plainX kq = true) (x4 : plainX kq' = true) (s1 : SE T lv P w K mg base c W p kp) (s2 : SE T lv P w K mg base c W p kp') (s3 : SE T lv P w K mg base c W q kq) (s4 : SE T lv P w K mg base c W q kq') :
    SS T lv P w K mg base c W (.swapix i p q) (.Assign [.Tuple [.Subscript (.Name y1 yp1) kp p1, .Subscript (.Name y2 yp2) kq p2] kt pt] (.Tuple [.Subscript (.Name y3 yp3) kq' p3, .Subscript (.Name y4 yp4) kp' p4] kt2 pt2) pos) := by
  obtain ⟨t1, a1, e1⟩ := s1
  obtain ⟨t2, a2, e2⟩ := s2
  obtain ⟨t3, a3, e3⟩ := s3
  obtain ⟨t4, a4, e4⟩ := s4
  obtain ⟨n1, _⟩ := se_var' (T := T) (lv := lv) (P := P) (w := w) (K := K) (mg := mg) (base := base) (W := W) h1
  obtain ⟨n2, _⟩ := se_var' (T := T) (lv := lv) (P := P) (w := w) (K := K) (mg := mg) (base := base) (W := W) h2
  obtain ⟨n3, _⟩ := se_var' (T := T) (lv := lv) (P := P) (w := w) (K := K) (mg := mg) (base := base) (W := W) h3
  obtain ⟨n4, _⟩ := se_var' (T := T) (lv := lv) (P := P) (w := w) (K := K) (mg := mg) (base := base) (W := W) h4
  refine ⟨tAsg (tTup (tCons (tOp (rIx K) (tVar i) t4) (tCons (tOp (rIx K) (tVar i) t2) tNil))) (gTup K 2 (gCons (gSub (tVar i) t1 rSetL) (gCons (gSub (tVar i) t3 rSetL) gNil))), fun X gs => ?_, fun σ H ρ S Pr D R ok => ?_⟩
  · have r := @ix_seq X
    rw [gs.gd.hK] at r
    have g := gs.gd
    have pe := @pe_tup X _ _ pt2 kt2 (pa_cons (pe_ix (pos := p3) r (n3 X g) (a4 X g) (pl_ix x4)) (pa_cons (pe_ix (pos := p4) r (n4 X g) (a2 X g) (pl_ix x2)) pa_nil rfl) rfl)
    have pg := pg_tup (X := X) (k := kt) (pos := pt) g.calm (pgs_cons (pg_sub (pos := p1) (n1 X g) (a1 X g) set_list (by cases kp <;> first | (intro v; rfl) | (exact absurd x1 Bool.false_ne_true))) (pgs_cons (pg_sub (pos := p2) (n2 X g) (a3 X g) set_list (by cases kq <;> first | (intro v; rfl) | (exact absurd x3 Bool.false_ne_true))) pgs_nil))
    rw [g.hK] at pg
    exact ps_asg pe pg (by unfold swapsWithSole; exact pl_swap rfl rfl) swapped_subs rfl
  · simp only [exec, Kh.S.stores] at ok
    split at ok
    · rename_i xs he
      obtain ⟨a, vs, L, es, ha, ra, eS, mk⟩ := R.lst he
      have R0 := R.drop' i
      split at ok
      · rename_i n e4' m e2' hq hp
        split at ok
        · rename_i j k hj hk
          split at ok
          · rename_i hpp
            rw [Bool.and_eq_true] at hpp
            have jl := (ixN_seq hj).2.1
            have kl := (ixN_seq hk).2.1
            obtain ⟨w1, w2, M, hw1, hw2, rM, pM⟩ := ra.swap jl kl
            have vl : vs.length = xs.length := ra.length.symm
            have na : a ∉ L ∧ L.Nodup := by
              have := R.nd i
              rw [eS, List.nodup_cons] at this
              exact this
            have ma : a ∈ S i := by rw [eS]; exact List.mem_cons_self
            have at_ : ∀ {z : Int} {l : Nat} {u : V}, ixN xs.length z = some l → vs[l]? = some u → atI vs z = some u := fun {z l u} h5 h6 => by
              unfold atI
              rw [vl, h5]
              exact h6
            refine ⟨.ref a, es, use_again e4 R0 hpp.2 hq fun H1 g1 => ?_⟩
            refine .inl ⟨a, vs, n, w2, rfl, rfl, SqL.of (g1 _ _ ha), at_ hk hw2, ?_⟩
            refine ⟨.ref a, es, use_again e2 (R0.grow g1) hpp.1 hp fun H2 g2 => ?_⟩
            refine .inl ⟨a, vs, m, w1, rfl, rfl, SqL.of (g2 _ _ (g1 _ _ ha)), at_ hj hw1, ?_⟩
            refine ⟨by show 2 ≤ sizeLine; decide, fun t ht => ?_⟩
            have g3 := fun b o q => grow_new (o := HO.tup [w2, w1]) ht b o (g2 b o (g1 b o q))
            refine ⟨t, [w2, w1], rfl, sqT_new, rfl, w2, [w1], rfl, ?_⟩
            refine ⟨.ref a, es, use_again e1 (R0.grow g3) hpp.1 hp fun H4 g4 => ?_⟩
            have ha4 : H4 a = some (.lst vs) := g4 _ _ (g3 _ _ ha)
            have R4 := (R0.grow g3).grow g4
            refine ⟨a, vs, m, j, rfl, rfl, ha4, by rw [vl]; exact hj, w1, [], rfl, ?_⟩
            have R5 : SR K Pr (upd H4 a (.lst (vs.set j w2))) σ (ρ.set i .no) (S.set i []) := R4.framed (Sa := fun _ => [a]) (fun b o q n => by
                rw [upd_ne fun z : b = a => n 0 (by rw [z]; exact List.mem_singleton.mpr rfl)]; exact q)
              (fun _ b mb l ml => by
                rw [List.mem_singleton.mp mb] at ml
                by_cases z : l = i
                · subst z; rw [Foot.set_same] at ml; cases ml
                · rw [Foot.set_ne z] at ml; exact z (R.dj l i a ml ma))
              (fun _ b mb => by rw [List.mem_singleton.mp mb]; exact R.pt i a ma) (fun _ b mb => by rw [List.mem_singleton.mp mb]; exact ⟨_, ha4, rfl⟩)
            refine ⟨.ref a, es, use_again e3 R5 hpp.2 hq fun H6 g6 => ?_⟩
            have ha6 : H6 a = some (.lst (vs.set j w2)) := g6 _ _ upd_same
            refine ⟨a, vs.set j w2, n, k, rfl, rfl, ha6, by rw [List.length_set, vl]; exact hk, rfl, ?_⟩
            have far : ∀ b o, b ≠ a → H b = some o → (upd H6 a (.lst ((vs.set j w2).set k w1))) b = some o := fun b o n q => by
              rw [upd_ne n]
              exact g6 b o (by rw [upd_ne n]; exact g4 b o (g3 b o q))
            have hM : ∀ b ∈ M, b ≠ a ∧ MutAt H b ∧ (∀ j, j ≠ i → b ∉ S j) ∧ b ∉ Pr := fun b mb => by
              have mL : b ∈ L := pM.mem_iff.mp mb
              have mS : b ∈ S i := by rw [eS]; exact List.mem_cons_of_mem _ mL
              exact ⟨fun z => na.1 (z ▸ mL), R.mu i b mS, fun l hl ml => hl (R.dj l i b ml mS), R.pt i b mS⟩
            have Rf := mk _ _ M rM (pM.nodup_iff.mpr na.2) hM
            have gf : ∀ b o, (upd H a (.lst ((vs.set j w2).set k w1))) b = some o → (upd H6 a (.lst ((vs.set j w2).set k w1))) b = some o := fun b o q => by
              by_cases z : b = a
              · subst z; rw [upd_same] at q ⊢; exact q
              · rw [upd_ne z] at q; exact far b o z q
            refine ok σ _ _ (Rf.grow gf) ⟨fun b o q n => far b o (fun z => n i (z ▸ ma)) q, fun l b mb => ?_, fun e => nomatch e⟩ .refl
            by_cases z : l = i
            · subst z
              rw [Foot.set_same] at mb
              rcases List.mem_cons.mp mb with rfl | mb
              · exact .inl ⟨l, ma⟩
              · exact .inl ⟨l, by rw [eS]; exact List.mem_cons_of_mem _ (pM.mem_iff.mp mb)⟩
            · rw [Foot.set_ne z] at mb
              exact .inl ⟨l, mb⟩
          · exact ok.elim
        · exact ok.elim
      · exact ok.elim
    · exact ok.elim
end
end Kh

set_option Elab.async false
set_option linter.all false
set_option maxRecDepth 100000
set_option maxHeartbeats 2000000
/-! a, b = a tuple or a list of what never changes -/
namespace Kh
open PySem PySem.Spec PyProof.Rows L2
theorem PG.or {X : Cx} {x : Expr} {t u : TG} (h : PG X x t) (k : PG X x u) : PG X x (fun v σ H Q => t v σ H Q ∨ u v σ H Q) :=
  ⟨fun pins s σ H v u' Q I r z => z.elim (h.run pins s σ H v u' Q I r) (k.run pins s σ H v u' Q I r)⟩
section
variable {T : Tab} {lv : Nat} {P : Program} {w : World} {K : PySem.W.Frag} {mg : Str → Option Value} {base : Heap} {c : Cs} {W : WX}
theorem ss_unp {t : Tgs} {a : E} {x : Expr} {ts : List Expr} {k : Nat} {p pos : Pos} (ht : chkTs c t ts = true) (hx : plainX x = true) (hl : isLC x = false) (hp : (match x with | .Tuple _ _ _ => false | _ => true) = true) (sa : SE T lv P w K mg base c W a x) :
    SS T lv P w K mg base c W (.unp t a) (.Assign [.Tuple ts k p] x pos) := by
  obtain ⟨ta, pa, ea⟩ := sa
  obtain ⟨g, pg, eg⟩ := sgs_ok (lv := lv) (P := P) (w := w) (K := K) (mg := mg) (base := base) (c := c) (W := W) t ts ht
  refine ⟨tAsg ta (fun v σ H Q => gTup K ts.length g v σ H Q ∨ gLst K ts.length g v σ H Q), fun X gs => ?_, fun σ H ρ S Pr D R ok => ?_⟩
  · have r1 := pg_tup (X := X) (es := ts) (k := k) (pos := p) gs.gd.calm (pg X gs.gd) (assign_all ht).1 (assign_all ht).2
    have r2 := pg_lst (X := X) (es := ts) (k := k) (pos := p) gs.gd.calm (pg X gs.gd) (assign_all ht).1 (assign_all ht).2
    rw [gs.gd.hK] at r1 r2
    exact ps_asg (pa X gs.gd) (PG.or r1 r2) (by unfold swapsWithSole; exact pl_swap hx hl) (by cases x <;> first | rfl | (exact absurd hp Bool.false_ne_true))
  · simp only [exec, Kh.S.stores] at ok
    show ta σ H _
    refine useS_E ea R ok fun d e1 H1 S1 v L R1 F1 d1 r1 ok1 => ?_
    have go : ∀ (xs : List I) (vs : List V), itemsIm d = some xs → IRs K H1 xs vs → vs.length = ts.length ∧ g vs σ H1 D.nx := fun xs vs hi ri => by
      rw [hi] at ok1
      simp only [Option.bind_some] at ok1
      cases q : bindTs t (xs.map .im) false e1 with
      | none => rw [q] at ok1; exact ok1.elim
      | some e' =>
        rw [q] at ok1
        refine ⟨?_, eg false _ e1 e' vs [] σ H1 S1 Pr _ q R1 (DRs.ims ri) ⟨List.nodup_nil, fun a m => absurd m List.not_mem_nil⟩ fun σ' S' R' o' l' s' => ?_⟩
        · rw [← ri.length]
          exact (Tgs.len_vs (K := K) q (by rw [List.length_map]) ht).symm
        · exact ok1 σ' H1 S' R' ⟨F1.weak.keep, fun i a m => (s' i a m).elim (F1.weak.own i a) fun z => absurd z List.not_mem_nil, fun e => nomatch e⟩ ⟨l', o'⟩
    cases d with
    | im x =>
      cases x with
      | tup ys =>
        obtain ⟨a, vs, rfl, sa, ra⟩ := d1.tup_inv
        obtain ⟨h1, h2⟩ := go ys vs rfl ra
        exact .inl ⟨a, vs, rfl, sa, h1, h2⟩
      | _ => exact ok1.elim
    | lst ds =>
      cases e : ims ds with
      | none => simp only [itemsIm, e] at ok1; exact ok1.elim
      | some xs =>
        obtain ⟨a, vs, M, rfl, ha, ra, rfl⟩ := d1.lst_inv
        obtain ⟨rfl, _, ri⟩ := DRs.of_ims ra e
        obtain ⟨h1, h2⟩ := go xs vs e ri
        exact .inr ⟨a, vs, rfl, SqL.of ha, h1, h2⟩
    | _ => exact ok1.elim
end
end Kh

set_option Elab.async false
set_option linter.all false
set_option maxRecDepth 100000
set_option maxHeartbeats 2000000
/-! all statements of the text -/
namespace Kh
open PySem PySem.Spec PyProof.Rows L2

def swC (c : Cs) (y : Str) (py : Pos) : Expr → Bool
  | .ListComp _ _ scope pos => decide (c.sc.names.lookup y = some .local) && (py.line == pos.line) && !(scope.names.any fun (n, k) => n == y && (k == .local || k == .cell))
  | _ => false
def nswC (c : Cs) (y : Str) : Expr → Bool
  | .ListComp _ _ _ _ => decide (c.sc.names.lookup y = some .cell)
  | _ => false
mutual
def chkS (c : Cs) : S → Stmt → Bool
  | .setv i a, .Assign [.Name y py] x _ => decide (c.N[i]? = some y) && c.loc y && chkE c a x && (!isLC x || swC c y py x || nswC c y x)
  | .asg t a, .Assign [.Tuple ts k p] x _ => chkT c t (.Tuple ts k p) && chkE c a x && !isLC x && !isTupX x
  | .unp ts a, .Assign [.Tuple xs _ _] x _ => chkTs c ts xs && chkE c a x && !isLC x && !isTupX x
  | .par i j a b, .Assign [.Tuple [.Name x px, .Name y py] _ _] (.Tuple [v, u] _ _) _ => decide (c.N[i]? = some x) && decide (c.N[j]? = some y) && decide (i ≠ j) && decide (c.sc.names.lookup x = some .local) && decide (c.sc.names.lookup y = some .local) &&
      (py.line == px.line) && chkE c a v && chkE c b u && !(foldedForSure 8 v && foldedForSure 8 u) && !(constantsAlone 8 v && constantsAlone 8 u) && c.loc x && c.loc y
  | .ret a, .Return (some x) _ => chkE c a x
  | .retN, .Return none _ => true
  | .expr a, .Expr x _ => chkE c a x && !isLC x
  | .doc, .Expr (.Constant (.str _) _ _) _ => true
  | .ifs a p q, .If x xs ys _ => chkE c a x && chkSs c p xs && chkSs c q ys
  | .fors w t _ b, .For t' it xs [] _ => chkW c w it && chkT c t t' && chkSs c b xs && w.src.all (fun i => !(t.slots ++ b.stores).contains i) && (!w.tupT || isTupX t')
  | .whiles a _ b, .While x xs [] _ => chkE c a x && chkSs c b xs
  | .pass, .Pass _ => true
  | .brk, .Break _ => true
  | .cont, .Continue _ => true
  | .raise cn es, .Raise (some (.Call (.Name g _) xs [] _)) none _ => (cn == g) && c.glo g && fine g && chkEs c es xs && decide (0 < es.len) && decide (es.len ≤ 2)
  | .setix i (.cons p .nil) a, .Assign [.Subscript (.Name y yp) kx _] x _ => chkE c (.var i) (.Name y yp) && chkE c p kx && chkE c a x
  | .tryx b cn v h, .Try xs [.ExceptHandler (some (.Name x _)) n (y :: ys) _] [] [] _ => (cn == x) && c.glo cn && fine cn && (match v, n with | some i, some z => decide (c.N[i]? = some z) && decide (c.sc.names.lookup z = some .local) | none, none => true | _, _ => false) && chkHs c v h (y :: ys) && chkSs c b xs
  | .swapix i p q, .Assign [.Tuple [.Subscript (.Name y1 yp1) kp _, .Subscript (.Name y2 yp2) kq _] _ _] (.Tuple [.Subscript (.Name y3 yp3) kq' _, .Subscript (.Name y4 yp4) kp' _] _ _) _ =>
      chkE c (.var i) (.Name y1 yp1) && chkE c (.var i) (.Name y2 yp2) && chkE c (.var i) (.Name y3 yp3) && chkE c (.var i) (.Name y4 yp4) && chkE c p kp && chkE c p kp' && chkE c q kq && chkE c q kq'
  | _, _ => false
def chkSs (c : Cs) : Ss → List Stmt → Bool
  | .nil, [] => true
  | .cons s r, x :: xs => chkS c s x && chkSs c r xs
  | _, _ => false
end

theorem swapped_two {x y : Str} {px py pt pt2 : Pos} {kt k2 : Nat} {a b : Expr} {env : PySem.Env} (hk : env.scope.kind = .function) (hx : env.scope.names.lookup x = some .local) (hy : env.scope.names.lookup y = some .local) (hl : (py.line == px.line) = true) (hn : x ≠ y)
    (ha : plainX a = true) (hb : plainX b = true) (hf : (foldedForSure 8 a && foldedForSure 8 b) = false) (hc : (constantsAlone 8 a && constantsAlone 8 b) = false) :
    swappedStores [.Tuple [.Name x px, .Name y py] kt pt] (.Tuple [a, b] k2 pt2) env = pure (some [x, y]) := by
  have kx : env.kindOf x = some .local := hx
  have ky : env.kindOf y = some .local := hy
  have hbk : env.blockKind = .function := by unfold Env.blockKind; rw [hk]; rfl
  have hyx : (y == x) = false := by
    cases z : (y == x) with
    | false => rfl
    | true => exact absurd (eq_of_beq z).symm hn
  have hl' : py.line = px.line := eq_of_beq hl
  have e1 : ([a, b] : List Expr).all (foldedForSure 8) = false := by simpa using hf
  have e2 : ([a, b] : List Expr).all (constantsAlone 8) = false := by simpa using hc
  unfold swappedStores
  simp only [hbk, e1, e2]
  rw [if_neg (by simp), if_neg ?_]
  · simp [List.filterMap, kx, ky, Expr.pos, hl', List.eraseDups_cons, hyx]
  · intro h
    simp only [List.any_cons, List.any_nil, Bool.or_false, Bool.or_eq_true] at h
    rcases h with h | h
    · cases a <;> first | (exact absurd h Bool.false_ne_true) | exact absurd ha Bool.false_ne_true
    · cases b <;> first | (exact absurd h Bool.false_ne_true) | exact absurd hb Bool.false_ne_true

section
variable {T : Tab} {lv : Nat} {P : Program} {w : World} {K : PySem.W.Frag} {mg : Str → Option Value} {base : Heap}
section
variable {c : Cs} {W : WX}
theorem ss_par {i j : Nat} {a b : E} {x y : Str} {px py pt pt2 pos : Pos} {kt k2 : Nat} {v u : Expr} (hi : c.N[i]? = some x) (hj : c.N[j]? = some y) (hij : i ≠ j) (hx : c.sc.names.lookup x = some .local) (hy : c.sc.names.lookup y = some .local) (hl : (py.line == px.line) = true)
    (pv : plainX v = true) (pu : plainX u = true) (hf : (foldedForSure 8 v && foldedForSure 8 u) = false) (hc : (constantsAlone 8 v && constantsAlone 8 u) = false) (se : SEs T lv P w K mg base c W (.cons a (.cons b .nil)) [v, u]) :
    SS T lv P w K mg base c W (.par i j a b) (.Assign [.Tuple [.Name x px, .Name y py] kt pt] (.Tuple [v, u] k2 pt2) pos) := by
  obtain ⟨ta, pa, ea, _, _⟩ := se
  refine ⟨tPar i j ta, fun X gs => ?_, fun σ H ρ S Pr De R ok => ?_⟩
  · have n := gs.gd.nd
    have hn : x ≠ y := fun e => by
      subst e
      exact hij ((List.getElem?_inj (List.getElem?_eq_some_iff.mp hi).1 n).mp (hi.trans hj.symm))
    exact ps_par gs.gd.calm (by rw [gs.gd.N]; exact n) (by rw [gs.gd.N]; exact hi) (by rw [gs.gd.N]; exact hj) hij (by rw [gs.gd.sc]; exact hx) (by rw [gs.gd.sc]; exact hy) (pa X gs.gd)
      (swapped_two gs.kd (by rw [gs.gd.sc]; exact hx) (by rw [gs.gd.sc]; exact hy) hl hn pv pu hf hc) (by rfl)
  · simp only [exec, Kh.S.stores] at ok
    show ta σ H _
    refine ea σ H ρ S Pr _ R (ok.bindK.mono fun ds e1 H1 S1 R1 F1 ok1 vs L dr rs => ?_)
    split at ok1
    · rename_i dx dy
      split at ok1
      · rename_i hz
        cases dr with
        | cons d1 d2 =>
          rename_i vx Lx vs' Ls
          cases d2 with
          | cons d3 d4 =>
            rename_i vy Ly vs'' Ls'
            cases d4
            obtain ⟨n1, h1⟩ := rs.mine rfl
            rw [List.append_nil] at n1 h1
            obtain ⟨m1, m2, m3⟩ := List.nodup_append.mp n1
            have hX := fun a (m : a ∈ Lx) => h1 a (List.mem_append_left _ m)
            have hY := fun a (m : a ∈ Ly) => h1 a (List.mem_append_right _ m)
            have Ra := R1.put hz.1 (fun a o q _ => q) d1 m1 fun a m => ⟨(hX a m).2.2.2, fun j _ => (hX a m).1 j, (hX a m).2.1⟩
            have Rb := Ra.put (i := j) (by rw [List.length_set]; exact hz.2) (fun a o q _ => q) d3 m2 fun a m => ⟨(hY a m).2.2.2, fun k hk q => ?_, (hY a m).2.1⟩
            · refine ⟨_, _, rfl, ok1 _ H1 _ Rb (((F1.putS fun b m => (hX b m).2.2.1).putS fun b m => (hY b m).2.2.1)) ?_⟩
              exact (Off.set (by simp)).trans (Off.set (by simp))
            · by_cases z : k = i
              · subst z; rw [Foot.set_same] at q; exact m3 a q a m rfl
              · rw [Foot.set_ne z] at q; exact (hY a m).1 k q
      · exact ok1.elim
    · exact ok1.elim
end
variable (G : Gl0 T lv P w K mg base)
include G
theorem ss_setLc {c : Cs} {W : WX} {i : Nat} {a : E} {y : Str} {py pos : Pos} {x : Expr} (hi : c.N[i]? = some y) (hy : c.loc y = true) (h : chkE c a x = true) (hl : isLC x = true) (hs : (swC c y py x || nswC c y x) = true) : SS T lv P w K mg base c W (.setv i a) (.Assign [.Name y py] x pos) := by
  have sa := (e_ok G a x c W h).1
  have h0 := h
  unfold chkE at h
  split at h <;> first | (exact absurd hl Bool.false_ne_true) | (exact absurd h Bool.false_ne_true) | skip
  rename_i wk tg own cn elt yy t it ifs scope lpos
  simp only [Bool.and_eq_true] at h
  obtain ⟨⟨⟨⟨⟨⟨h1, h2⟩, h3⟩, h4⟩, h5⟩, h6⟩, h7⟩ := h
  cases hsw : swC c y py (.ListComp yy [⟨t, it, ifs, 0⟩] scope lpos) with
  | true =>
    simp only [swC, Bool.and_eq_true, decide_eq_true_eq, Bool.not_eq_true'] at hsw
    obtain ⟨hp, sw⟩ := w_ok G _ _ c W h2
    obtain ⟨wi, g, tt, te, hX, sp⟩ := se_lc h1 hp h6 (tup_of h7) sw (sg_ok _ _ h3) (c_ok G _ _ _ W0 h4) (e_ok G _ _ _ W0 h5).1
    refine ss_setv' (fun X gs => ?_) sp
    obtain ⟨a1, a2, a3, a4, a5, a6⟩ := hX X gs.gd
    exact ps_setLc gs.gd.calm (by rw [gs.gd.N]; exact gs.gd.nd) (by rw [gs.gd.N]; exact hi) (by rw [gs.gd.sc]; exact hsw.1.1) (sw_true gs.kd (by rw [gs.gd.sc]; exact hsw.1.1) hsw.1.2 hsw.2) a1 a2 a3 a4 a5 a6
  | false =>
    rw [hsw, Bool.false_or] at hs
    simp only [nswC, decide_eq_true_eq] at hs
    obtain ⟨ta, pa, ea⟩ := sa
    refine ss_setv' (fun X gs => ?_) ea
    obtain ⟨k1, k2⟩ := gs.gd.fnl y hy
    refine ps_set (by rw [gs.gd.N]; exact gs.gd.nd) (by rw [gs.gd.N]; exact hi) (by rw [gs.gd.sc]; exact k1) (pa X gs.gd) ?_ (by rw [gs.gd.sc]; exact k2)
    have ky : X.env.kindOf y = some .cell := by
      show X.env.scope.names.lookup y = _
      rw [gs.gd.sc]; exact hs
    unfold swapsWith
    simp only [ky]
    have z : (some NameKind.cell == some NameKind.local) = false := rfl
    simp only [z, Bool.and_false, Bool.false_and]
mutual
theorem s_ok : ∀ (s : S) (x : Stmt) (c : Cs) (W : WX), chkS c s x = true → SS T lv P w K mg base c W s x
  | .setv i a, x, c, W, h => by
    unfold chkS at h
    split at h <;> first | (exact absurd h Bool.false_ne_true) | (rename_i e; cases e)
    simp only [Bool.and_eq_true, decide_eq_true_eq] at h
    rename_i y py x' pos
    cases hl : isLC x' with
    | false => exact ss_setv h.1.1.1 h.1.1.2 (chk_plain h.1.2) hl (e_ok G _ _ c W h.1.2).1
    | true =>
      have h2 := h.2
      rw [hl, Bool.not_true, Bool.false_or] at h2
      exact ss_setLc G h.1.1.1 h.1.1.2 h.1.2 hl h2
  | .asg t a, x, c, W, h => by
    unfold chkS at h
    split at h <;> first | (exact absurd h Bool.false_ne_true) | (rename_i e; cases e)
    simp only [Bool.and_eq_true, Bool.not_eq_true'] at h
    rename_i ts k p x' pos
    exact ss_asg rfl (chk_plain h.1.1.2) h.1.2 (by cases x' <;> first | rfl | exact h.2.symm) (sg_ok _ _ h.1.1.1) (e_ok G _ _ c W h.1.1.2).1
  | .unp ts a, x, c, W, h => by
    unfold chkS at h
    split at h <;> first | (exact absurd h Bool.false_ne_true) | (rename_i e; cases e)
    simp only [Bool.and_eq_true, Bool.not_eq_true'] at h
    rename_i ts' k p x' pos
    exact ss_unp h.1.1.1 (chk_plain h.1.1.2) h.1.2 (by cases x' <;> first | rfl | exact h.2.symm) (e_ok G _ _ c W h.1.1.2).1
  | .par i j a b, x, c, W, h => by
    unfold chkS at h
    split at h <;> first | (exact absurd h Bool.false_ne_true) | (rename_i e; cases e)
    simp only [Bool.and_eq_true, decide_eq_true_eq, Bool.not_eq_true'] at h
    obtain ⟨⟨⟨⟨⟨⟨⟨⟨⟨⟨⟨h1, h2⟩, h3⟩, h4⟩, h5⟩, h6⟩, h7⟩, h8⟩, h9⟩, h10⟩, h11⟩, h12⟩ := h
    exact ss_par h1 h2 h3 h4 h5 h6 (chk_plain h7) (chk_plain h8) h9 h10 (es_ok G (.cons a (.cons b .nil)) _ c W (by simp only [chkEs, h7, h8]; rfl))
  | .ret a, x, c, W, h => by
    unfold chkS at h
    split at h <;> first | (exact absurd h Bool.false_ne_true) | (rename_i e; cases e)
    exact ss_ret (e_ok G _ _ c W h).1
  | .retN, x, c, W, h => by
    unfold chkS at h
    split at h <;> first | (exact absurd h Bool.false_ne_true) | (rename_i e; cases e)
    exact ss_retN
  | .expr a, x, c, W, h => by
    unfold chkS at h
    split at h <;> first | (exact absurd h Bool.false_ne_true) | (rename_i e; cases e)
    simp only [Bool.and_eq_true, Bool.not_eq_true'] at h
    exact ss_expr (chk_plain h.1) h.2 (e_ok G _ _ c W h.1).1
  | .doc, x, c, W, h => by
    unfold chkS at h
    split at h <;> first | (exact absurd h Bool.false_ne_true) | (rename_i e; cases e)
    exact ss_doc
  | .ifs a p q, x, c, W, h => by
    unfold chkS at h
    split at h <;> first | (exact absurd h Bool.false_ne_true) | (rename_i e; cases e)
    simp only [Bool.and_eq_true] at h
    exact ss_ifs (e_ok G _ _ c W h.1.1).2 (ss_ok _ _ c W h.1.2) (ss_ok _ _ c W h.2)
  | .fors mw t d b, x, c, W, h => by
    unfold chkS at h
    split at h <;> first | (exact absurd h Bool.false_ne_true) | (rename_i e; cases e)
    simp only [Bool.and_eq_true] at h
    obtain ⟨hp, sw⟩ := w_ok G _ _ c W h.1.1.1.1
    exact ss_for hp h.1.2 (tup_of h.2) sw (sg_ok _ _ h.1.1.1.2) (ss_ok _ _ c W h.1.1.2)
  | .whiles a d b, x, c, W, h => by
    unfold chkS at h
    split at h <;> first | (exact absurd h Bool.false_ne_true) | (rename_i e; cases e)
    simp only [Bool.and_eq_true] at h
    exact ss_while (e_ok G _ _ c W h.1).2 (ss_ok _ _ c W h.2)
  | .pass, x, c, W, h => by
    unfold chkS at h
    split at h <;> first | (exact absurd h Bool.false_ne_true) | (rename_i e; cases e)
    exact ss_pass
  | .brk, x, c, W, h => by
    unfold chkS at h
    split at h <;> first | (exact absurd h Bool.false_ne_true) | (rename_i e; cases e)
    exact ss_brk
  | .cont, x, c, W, h => by
    unfold chkS at h
    split at h <;> first | (exact absurd h Bool.false_ne_true) | (rename_i e; cases e)
    exact ss_cont
  | .setix i p a, x, c, W, h => by
    unfold chkS at h
    split at h <;> first | (exact absurd h Bool.false_ne_true) | (rename_i e; cases e)
    simp only [Bool.and_eq_true] at h
    exact ss_setix h.1.1 (chk_plain h.1.2) (chk_plain h.2) (e_ok G _ _ c W h.1.2).1 (e_ok G _ _ c W h.2).1
  | .raise cn es, x, c, W, h => by
    unfold chkS at h
    split at h <;> first | (exact absurd h Bool.false_ne_true) | (rename_i e; cases e)
    simp only [Bool.and_eq_true, decide_eq_true_eq] at h
    obtain ⟨⟨⟨⟨⟨h1, h2⟩, h3⟩, h4⟩, h5⟩, h6⟩ := h
    rename_i g gp xs pos pos2
    have se := es_ok G _ _ c W h4
    cases eq_of_beq h1
    cases xs with
    | nil => have := chkEs_len h4; simp at this; omega
    | cons y ys => exact ss_raise G h2 h3 h4 h6 se
  | .tryx b cn v s, x, c, W, h => by
    unfold chkS at h
    split at h <;> first | (exact absurd h Bool.false_ne_true) | (rename_i e; cases e)
    simp only [Bool.and_eq_true] at h
    obtain ⟨⟨⟨⟨⟨h1, h2⟩, h3⟩, h4⟩, h5⟩, h6⟩ := h
    exact ss_try G (eq_of_beq h1) h2 h3 h4 h5 fun W' => ss_ok b _ c W' h6
  | .swapix i p q, x, c, W, h => by
    unfold chkS at h
    split at h <;> first | (exact absurd h Bool.false_ne_true) | (rename_i e; cases e)
    simp only [Bool.and_eq_true] at h
    obtain ⟨⟨⟨⟨⟨⟨⟨h1, h2⟩, h3⟩, h4⟩, h5⟩, h6⟩, h7⟩, h8⟩ := h
    exact ss_swapix h1 h2 h3 h4 (chk_plain h5) (chk_plain h6) (chk_plain h7) (chk_plain h8) (e_ok G _ _ c W h5).1 (e_ok G _ _ c W h6).1 (e_ok G _ _ c W h7).1 (e_ok G _ _ c W h8).1
theorem ss_ok : ∀ (s : Ss) (x : List Stmt) (c : Cs) (W : WX), chkSs c s x = true → SSs T lv P w K mg base c W s x
  | .nil, [], c, W, h => ss_nil
  | .nil, _ :: _, c, W, h => by simp [chkSs] at h
  | .cons _ _, [], c, W, h => by simp [chkSs] at h
  | .cons s r, x :: xs, c, W, h => by
    simp only [chkSs, Bool.and_eq_true] at h
    exact ss_cons (s_ok s x c W h.1) (ss_ok r xs c W h.2)
end
end
end Kh

set_option Elab.async false
set_option linter.all false
set_option maxRecDepth 100000
set_option maxHeartbeats 2000000
/-! a def of the text does what its datum does; the table by levels -/
namespace Kh
open PySem PySem.Spec PyProof.Rows L2
section
variable {K : PySem.W.Frag} {Pr : List Addr} {H : Hp} {σ : L2.St} {ρ : En} {Sv : Foot}
theorem SR.ext (R : SR K Pr H σ ρ Sv) (k : Nat) : SR K Pr H (σ ++ List.replicate k none) (ρ ++ List.replicate k Slot.no) Sv := by
  have get : ∀ {i : Nat} {s : Slot}, (ρ ++ List.replicate k Slot.no)[i]? = some s → s ≠ .no → ρ[i]? = some s ∧ i < σ.length := fun {i s} e n => by
    by_cases h : i < ρ.length
    · rw [List.getElem?_append_left h] at e
      exact ⟨e, by rw [← R.len]; exact h⟩
    · rw [List.getElem?_append_right (by omega), List.getElem?_replicate] at e
      split at e
      · cases e; exact absurd rfl n
      · cases e
  refine ⟨by simp [R.len], fun i d e => ?_, fun i d e => ?_, fun i e => R.emp i fun d q => e d ?_, R.nd, R.dj, R.mu, R.pt, R.pa⟩
  · obtain ⟨e1, h⟩ := get e (by intro z; cases z)
    obtain ⟨v, e2, r⟩ := R.own i d e1
    exact ⟨v, by rw [List.getElem?_append_left h]; exact e2, r⟩
  · obtain ⟨e1, h⟩ := get e (by intro z; cases z)
    obtain ⟨v, M, e2, r⟩ := R.bor i d e1
    exact ⟨v, M, by rw [List.getElem?_append_left h]; exact e2, r⟩
  · rw [List.getElem?_append_left (List.getElem?_eq_some_iff.mp q).1]; exact q
theorem clear_get : ∀ {vs : List Nat} {i : Nat}, (clear vs ρ)[i]? = if i ∈ vs then (if i < ρ.length then some .no else none) else ρ[i]?
  | [], i => by simp [clear]
  | v :: vs, i => by
    have hl : (clear vs ρ).length = ρ.length := by
      clear clear_get
      induction vs with
      | nil => rfl
      | cons a r ih => simp [clear, ih]
    unfold clear
    by_cases h : v = i
    · subst h
      rw [List.getElem?_set]
      simp [hl]
    · rw [List.getElem?_set_ne h, clear_get (vs := vs) (i := i)]
      have : (i ∈ v :: vs) ↔ i ∈ vs := by
        rw [List.mem_cons]
        exact ⟨fun z => z.elim (fun e => absurd e.symm h) id, .inr⟩
      simp only [this]
/-- the parameters' places at the end -/
theorem SR.params {σ' : L2.St} {st : List Nat} {us : List (Option V)} {tl : List (Option V)} {n : Nat} (R : SR K Pr H σ' (Kh.clear st ρ) Sv) (O : Off st (us ++ tl) σ') (hn : us.length = n) : ∃ S', SR K Pr H us ((Kh.clear st ρ).take n) S' ∧ ∀ (i : Nat) (a : Addr), a ∈ S' i → a ∈ Sv i := by
  have hl : (Kh.clear st ρ).length = (us ++ tl).length := by rw [R.len, O.1]
  have get : ∀ {i : Nat} {s : Slot}, ((Kh.clear st ρ).take n)[i]? = some s → s ≠ .no → (Kh.clear st ρ)[i]? = some s ∧ i < n ∧ σ'[i]? = us[i]? := fun {i s} e ns => by
    rw [List.getElem?_take] at e
    split at e
    · rename_i h
      refine ⟨e, h, ?_⟩
      have m : i ∉ st := fun m => by
        rw [clear_get] at e
        simp only [m, if_true] at e
        split at e
        · cases e; exact ns rfl
        · cases e
      rw [O.2 i m, List.getElem?_append_left (by omega)]
    · cases e
  refine ⟨fun i => if i < n then Sv i else [], ⟨by rw [List.length_take, hl, List.length_append]; omega, fun i d e => ?_, fun i d e => ?_, fun i e => ?_, fun i => ?_, fun i j a m m' => ?_, fun i a m => ?_, fun i a m => ?_, R.pa⟩, fun i a m => ?_⟩
  · obtain ⟨e1, h, e2⟩ := get e (by intro z; cases z)
    obtain ⟨v, e3, r⟩ := R.own i d e1
    exact ⟨v, by rw [← e2]; exact e3, by rw [if_pos h]; exact r⟩
  · obtain ⟨e1, h, e2⟩ := get e (by intro z; cases z)
    obtain ⟨v, M, e3, r⟩ := R.bor i d e1
    exact ⟨v, M, by rw [← e2]; exact e3, r⟩
  · split
    · rename_i h
      exact R.emp i fun d q => e d (by rw [List.getElem?_take, if_pos h]; exact q)
    · rfl
  · split
    · exact R.nd i
    · exact List.nodup_nil
  · split at m
    · split at m'
      · exact R.dj i j a m m'
      · cases m'
    · cases m
  · split at m
    · exact R.mu i a m
    · cases m
  · split at m
    · exact R.pt i a m
    · cases m
  · dsimp only at m; split at m
    · exact m
    · cases m
end
section
variable {T : Tab} {lv : Nat} {P : Program} {w : World} {K : PySem.W.Frag} {mg : Str → Option Value} {base : Heap}
theorem fd_ok (G : Gl0 T lv P w K mg base) {x qual : Str} {args : Arguments} {body : List Stmt} {scope : Scope} {d : Fd} {N ps : List Str} {f : Addr} {fd : FuncData} {dvs : List V} {kws : List (Str × V)} (F : FunD K x qual args body scope dvs kws f fd) (S : FnScope N ps scope)
    (hps : ps.length = d.ps) (hn : N.length = d.n) (hc : chkSs ⟨N, scope, scope⟩ d.body body = true) : FnOk P w K mg base (L2.CX P w) (lv + 1) f fd ps (spF K mg ps.length (d.sem T)) := by
  refine F.ok S (fun vs H Q E h => h.1) fun cdv A outer s H vs Q E hr h => ?_
  obtain ⟨hl, as, Pr, Sv, R, hg⟩ := h
  obtain ⟨t, pt, et⟩ := ss_ok G d.body body ⟨N, scope, scope⟩ (fun cls dd _ H => E cls dd H) hc
  have gd : Gd lv ⟨N, scope, scope⟩ (fun cls dd _ H => E cls dd H) P w K mg base (cxOf (L2.CX P w) P w K mg base N qual scope f cdv A outer s H E) := by
    refine ⟨rfl, rfl, rfl, rfl, rfl, rfl, rfl, S.nd, rfl, ?_, hr, fun y hy => ⟨?_, .inl rfl⟩, takes_of rfl rfl rfl rfl⟩
    · have := hr.un
      show (A.deeper _).units + 100 < cLine
      omega
    · unfold Cs.loc isLoc at hy
      show L2.Loc scope y
      unfold L2.Loc
      have hy : (match scope.names.lookup y with
        | some .local => true
        | some .cell => true
        | _ => false) = true := hy
      split at hy
      · exact .inl (by assumption)
      · exact .inr (by assumption)
      · cases hy
  refine ⟨t, pt _ ⟨gd, passes_of rfl, S.kind, rfl, rfl⟩, ?_⟩
  have hla : as.length = vs.length := by have := R.len; simpa using this
  have hpN : ps.length ≤ N.length := by have := congrArg List.length S.pre; rw [List.length_take] at this; omega
  have hR := R.ext (N.length - vs.length)
  have hsem : as.length = d.ps := by rw [hla, hl, hps]
  refine et (start N vs) H (as ++ List.replicate (d.n - d.ps) .no) Sv Pr _ (by rw [← hn, ← hps, ← hl]; exact hR) ?_
  unfold Fd.sem at hg
  rw [if_pos hsem] at hg
  have fin : ∀ {σ' : L2.St} {e : En} {H' : Hp} {S' : Foot}, SR K Pr H' σ' e S' → Off d.body.stores (start N vs) σ' → ∃ S'', SR K Pr H' (vs.map some) ((clear d.body.stores e).take d.ps) S'' ∧ ∀ (i : Nat) (a : Addr), a ∈ S'' i → a ∈ S' i := fun {σ' e H' S'} R' O => by
    obtain ⟨S5, R5, w5⟩ := R'.clear d.body.stores
    obtain ⟨S6, R6, w6⟩ := R5.params (us := vs.map some) (tl := List.replicate (N.length - vs.length) none) (n := d.ps) O (by rw [List.length_map, hl, hps])
    exact ⟨S6, R6, fun i a m => w5 i a (w6 i a m)⟩
  have shr : ∀ {H' : Hp} {S' S'' : Foot}, Fr false H Sv H' S' → (∀ (i : Nat) (a : Addr), a ∈ S'' i → a ∈ S' i) → Fr false H Sv H' S'' := fun F h => ⟨F.keep, fun i a m => F.own i a (h i a m), fun e => nomatch e⟩
  cases hx : execs T d.body (as ++ List.replicate (d.n - d.ps) .no) with
  | bad => rw [hx] at hg; exact hg.elim
  | exc cc xx yy e =>
    rw [hx] at hg
    exact fun C dd σ' H' S' hm R' F' O' hex => hg C dd H' hm F'.keep hex
  | ok fl e =>
    rw [hx] at hg
    cases fl with
    | nx =>
      intro σ' H' S' R' F' O'
      obtain ⟨S'', R'', w''⟩ := fin R' O'
      exact hg .non H' S'' [] R'' (shr F' w'') (.im .non) Res.nil
    | rt v =>
      intro σ' H' S' R' F' O' vv L dr rs
      obtain ⟨S'', R'', w''⟩ := fin R' O'
      obtain ⟨n1, h1⟩ := rs.mine rfl
      exact hg vv H' S'' L R'' (shr F' w'') dr (Res.of ⟨n1, fun a m => ⟨fun i z => (h1 a m).1 i (w'' i a z), (h1 a m).2⟩⟩)
    | bk => exact hg.elim
    | ct => exact hg.elim
end

/-! ### an error's __init__, that stores code and place -/
def spInit (K : PySem.W.Frag) : Sp := fun vs H Q E => ∃ (a : Addr) (u v : V) (C : Addr), vs = [.ref a, u, v] ∧ OexC K C ∧ PySem.W.findIn K (.ref C) "code" = some none ∧ PySem.W.findIn K (.ref C) "place" = some none ∧ H a = some (exo a C none) ∧
  ∀ d, H d = none → d ≠ a → Q .non (upd (upd (upd H d (exd d [("code", u)])) a (exo a C (some d))) d (exd d [("place", v), ("code", u)]))
theorem init_ok {P : Program} {w : World} {K : PySem.W.Frag} {mg : Str → Option Value} {base : Heap} {x qual : Str} {args : Arguments} {scope : Scope} {dvs : List V} {kws : List (Str × V)} {f : Addr} {fd : FuncData} {p1 p2 p3 p4 q1 q2 q3 q4 : Pos}
    (F : FunD K x qual args [.Assign [.Attribute (.Name "self" p1) "code" p2] (.Name "code" p3) p4, .Assign [.Attribute (.Name "self" q1) "place" q2] (.Name "place" q3) q4] scope dvs kws f fd) (S : FnScope ["self", "code", "place"] ["self", "code", "place"] scope)
    (l1 : scope.names.lookup ("self" : Str) = some .local) (l2 : scope.names.lookup ("code" : Str) = some .local) (l3 : scope.names.lookup ("place" : Str) = some .local) : FnOk P w K mg base (L2.CX P w) 1 f fd ["self", "code", "place"] (spInit K) := by
  refine F.ok S (fun vs H Q E h => ?_) fun cdv A outer s H vs Q E hr h => ?_
  · obtain ⟨a, u, v, C, rfl, _⟩ := h
    rfl
  · obtain ⟨a, u, v, C, rfl, hC, n1, n2, ha, q⟩ := h
    have v0 : ∀ p, PE (cxOf (L2.CX P w) P w K mg base ["self", "code", "place"] qual scope f cdv A outer s H E) (.Name "self" p) (tVar 0) := fun p => pe_var (i := 0) rfl (.inl l1)
    have v1 : ∀ p, PE (cxOf (L2.CX P w) P w K mg base ["self", "code", "place"] qual scope f cdv A outer s H E) (.Name "code" p) (tVar 1) := fun p => pe_var (i := 1) rfl (.inl l2)
    have v2 : ∀ p, PE (cxOf (L2.CX P w) P w K mg base ["self", "code", "place"] qual scope f cdv A outer s H E) (.Name "place" p) (tVar 2) := fun p => pe_var (i := 2) rfl (.inl l3)
    refine ⟨_, pss_cons (ps_ost (v0 _) (v1 _)) (pss_one (ps_ost (v0 _) (v2 _))), ?_⟩
    refine ⟨u, rfl, .ref a, rfl, a, C, rfl, hC, n1, .inl ⟨ha, fun d hd hda => ?_⟩⟩
    refine ⟨v, rfl, .ref a, rfl, a, C, rfl, hC, n2, .inr ⟨d, [("code", u)], upd_same, ?_, by simp, q d hd hda⟩⟩
    rw [upd_ne hda, upd_same]
/-! ### the table by levels -/
noncomputable def tabL (fds : List (Str × Fd)) (gl : Str → Option I) (ec : List Str) (im : Bool) (gd : Str → Option (List (Str × I))) : Nat → Tab
  | 0 => ⟨fun _ => none, gl, gd, im, []⟩
  | k + 1 => ⟨fun f => (fds.lookup f).map fun d => d.sem (tabL fds gl ec im gd k), gl, gd, im, if k = 0 then [] else ec⟩
/-- an error's class, of the top -/
structure ExH (K : PySem.W.Frag) (mg : Str → Option Value) (x : Str) : Prop where
  g : ExG K mg x
  ex : ∃ (C fI : Addr) (y qual : Str) (args : Arguments) (scope : Scope) (dvs : List V) (kws : List (Str × V)) (fd : FuncData) (p1 p2 p3 p4 q1 q2 q3 q4 : Pos) (ds : List Value), OexC K C ∧ PySem.W.findIn K (.ref C) "__init__" = some (some (.ref fI)) ∧ PySem.W.typeIn K (.ref fI) = some (.type "function") ∧
    FunD K y qual args [.Assign [.Attribute (.Name "self" p1) "code" p2] (.Name "code" p3) p4, .Assign [.Attribute (.Name "self" q1) "place" q2] (.Name "place" q3) q4] scope dvs kws fI fd ∧ FnScope ["self", "code", "place"] ["self", "code", "place"] scope ∧
    scope.names.lookup ("self" : Str) = some .local ∧ scope.names.lookup ("code" : Str) = some .local ∧ scope.names.lookup ("place" : Str) = some .local ∧ Vals [.int 0] ds ∧ Binds K fd ["self", "code", "place"] ds ∧ Binds K fd ["self", "code", "place"] [] ∧ mg x = some (.ref C) ∧
    PySem.W.findIn K (.ref C) "code" = some none ∧ PySem.W.findIn K (.ref C) "place" = some none
theorem ExH.exF {P : Program} {w : World} {K : PySem.W.Frag} {mg : Str → Option Value} {base : Heap} {x : Str} {k : Nat} (h : ExH K mg x) : ExF (k + 2) P w K mg base x := by
  obtain ⟨_, C, fI, y, qual, args, scope, dvs, kws, fd, p1, p2, p3, p4, q1, q2, q3, q4, ds, h1, h2, h3, F, S, l1, l2, l3, hv, b1, b2, hm, n1, n2⟩ := h
  exact ⟨C, fI, 1, fd, _, spInit K, ds, by omega, h1, h2, h3, init_ok F S l1 l2 l3, hv, b1, b2, hm, fun a u v H Q E ha q => ⟨a, u, v, C, rfl, h1, n1, n2, ha, q⟩⟩
/-- what the head tells -/
structure Hd (fds : List (Str × Fd)) (gl : Str → Option I) (ec : List Str) (im : Bool) (gd : Str → Option (List (Str × I))) (w : World) (K : PySem.W.Frag) (mg : Str → Option Value) : Prop where
  blt : ∀ x ∈ builtins, mg x = none
  gl : ∀ x v, gl x = some v → ∃ vv u, mg x = some u ∧ RelV vv u ∧ ∀ H, IR K H v vv
  ex : ∀ x ∈ ec, ExH K mg x
  gcd : im = true → mg ("gcd" : Str) = some (.builtin "math.gcd")
  gd : ∀ x kvs, gd x = some kvs → GdOk K w mg x kvs
  fn : ∀ f d, fds.lookup f = some d → ∃ x qual args body scope a fd N ps, FunD K x qual args body scope [] [] a fd ∧ mg f = some (.ref a) ∧ Binds K fd ps [] ∧ FnScope N ps scope ∧ ps.length = d.ps ∧ N.length = d.n ∧ chkSs ⟨N, scope, scope⟩ d.body body = true
theorem gl_all {fds : List (Str × Fd)} {gl : Str → Option I} {ec : List Str} {im : Bool} {gd : Str → Option (List (Str × I))} {P : Program} {w : World} {K : PySem.W.Frag} {mg : Str → Option Value} {base : Heap} (h : Hd fds gl ec im gd w K mg) : ∀ k, Gl0 (tabL fds gl ec im gd k) k P w K mg base
  | 0 => ⟨h.blt, h.gl, fun x m => absurd m List.not_mem_nil, fun x m => absurd m List.not_mem_nil, h.gcd, h.gd, fun f g e => nomatch e⟩
  | k + 1 => ⟨h.blt, h.gl, fun x m => by
      cases k with
      | zero => exact absurd m List.not_mem_nil
      | succ k => exact (h.ex x m).exF, fun x m => by
      cases k with
      | zero => exact absurd m List.not_mem_nil
      | succ k => exact (h.ex x m).g, h.gcd, h.gd, fun f g e => by
      have ih := gl_all (P := P) (w := w) (base := base) h k
      have e : (fds.lookup f).map (fun d => d.sem (tabL fds gl ec im gd k)) = some g := e
      cases q : fds.lookup f with
      | none => rw [q] at e; cases e
      | some d =>
        rw [q] at e
        cases e
        obtain ⟨x, qual, args, body, scope, a, fd, N, ps, F, hm, hb, S, hps, hn, hc⟩ := h.fn f d q
        refine ⟨a, fd, ps, hm, F.kp, hb, fd_ok ih F S hps hn hc, fun as z => ?_⟩
        simp only [Fd.sem] at z
        split at z
        · rename_i hl
          rw [hl, hps]
        · exact absurd rfl z⟩
end Kh

set_option Elab.async false
set_option linter.all false
set_option maxRecDepth 100000
set_option maxHeartbeats 2000000
/-! from the top's facts to the table; the law's end -/
namespace Kh
open PySem PySem.Spec PyProof.Rows L2

/-! ### what never changes, among the top's values -/
mutual
def relI (K : PySem.W.Frag) : I → Value → Bool
  | .non, .none => true
  | .bl b, .bool d => b == d
  | .int i, .int j _ => decide (i = j)
  | .str s, .str t _ => decide (s = t)
  | .tup xs, .ref a => (match K.lookup a with
    | some ⟨.type n, _, .seq its _, _⟩ => decide (n = "tuple") && (decide (its.size ≤ sizeLine) && relIs K xs its.toList)
    | _ => false)
  | _, _ => false
def relIs (K : PySem.W.Frag) : List I → List Value → Bool
  | [], [] => true
  | x :: xs, u :: us => relI K x u && relIs K xs us
  | _, _ => false
end
mutual
theorem relI_ok {K : PySem.W.Frag} : ∀ (x : I) (u : Value), relI K x u = true → ∃ vv, RelV vv u ∧ ∀ H, IR K H x vv
  | .non, u, h => by
    cases u <;> first | exact ⟨.non, rfl, fun _ => .non⟩ | exact absurd h Bool.false_ne_true
  | .bl b, u, h => by
    cases u <;> first | exact absurd h Bool.false_ne_true | skip
    cases eq_of_beq h
    exact ⟨.bl _, rfl, fun _ => .bl _⟩
  | .int i, u, h => by
    cases u <;> first | exact absurd h Bool.false_ne_true | skip
    cases of_decide_eq_true h
    exact ⟨.int _, ⟨_, rfl⟩, fun _ => .int _⟩
  | .str s, u, h => by
    cases u <;> first | exact absurd h Bool.false_ne_true | skip
    cases of_decide_eq_true h
    exact ⟨.str _, ⟨_, rfl⟩, fun _ => .str _⟩
  | .tup xs, u, h => by
    cases u <;> first | exact absurd h Bool.false_ne_true | skip
    rename_i a
    cases q : K.lookup a with
    | none => simp [relI, q] at h
    | some o =>
      obtain ⟨oc, od, dt, osl⟩ := o
      cases oc with
      | type n =>
        cases dt with
        | seq its m =>
          simp only [relI, q, Bool.and_eq_true, decide_eq_true_eq] at h
          obtain ⟨h1, h2, h3⟩ := h
          obtain ⟨vs, r1, r2⟩ := relIs_ok xs its.toList h3
          exact ⟨.ref a, rfl, fun H => .tup (.inr ⟨_, its, m, q, by rw [h1], rfl, h2, r1⟩) (r2 H)⟩
        | _ => simp [relI, q] at h
      | _ => simp [relI, q] at h
theorem relIs_ok {K : PySem.W.Frag} : ∀ (xs : List I) (us : List Value), relIs K xs us = true → ∃ vs, Vals vs us ∧ ∀ H, IRs K H xs vs
  | [], [], _ => ⟨[], .nil, fun _ => .nil⟩
  | [], _ :: _, h => absurd h Bool.false_ne_true
  | _ :: _, [], h => absurd h Bool.false_ne_true
  | x :: xs, u :: us, h => by
    simp only [relIs, Bool.and_eq_true] at h
    obtain ⟨v, a1, a2⟩ := relI_ok x u h.1
    obtain ⟨vs, b1, b2⟩ := relIs_ok xs us h.2
    exact ⟨v :: vs, .cons a1 b1, fun H => .cons (a2 H) (b2 H)⟩
end
def glB (K : PySem.W.Frag) (q : Str × I) : Bool := match PySem.W.nsIn K mainGlobals q.1 with
  | some (some u) => relI K q.2 u
  | _ => false
theorem glB_ok {K : PySem.W.Frag} {h : Heap} {mg : Str → Option Value} (X : K.In h) (G : h.Ns mainGlobals mg) {x : Str} {i : I} (e : glB K (x, i) = true) : ∃ vv u, mg x = some u ∧ RelV vv u ∧ ∀ H, IR K H i vv := by
  unfold glB at e
  split at e
  · rename_i u q
    obtain ⟨vv, a, b⟩ := relI_ok i u e
    exact ⟨vv, u, PySem.W.mg_of X G q, a, b⟩
  · cases e

/-! ### the defs of the text, as data -/
structure DD where
  x : Str
  args : Arguments
  body : List Stmt
  scope : Scope
  fd : Fd
  N : List Str
  ps : List Str
def DD.dd (d : DD) : He.DefD := ⟨(d.x, none), d.x, d.x, d.args, d.body, d.scope, [], []⟩
/-- a def's names stand as a body wants them -/
def scD (N ps : List Str) (sc : Scope) : Bool :=
  (((match sc.kind with | .function => true | _ => false) && !sc.isCoroutine) && (!sc.isGenerator && decide N.Nodup)) && (decide (N.take ps.length = ps) && (ps.all (fun x => isLoc (sc.names.lookup x)) && sc.names.all fun y => !decide (y.2 = .free)))
theorem scD_ok {N ps : List Str} {sc : Scope} (h : scD N ps sc = true) : FnScope N ps sc := by
  unfold scD at h
  simp only [Bool.and_eq_true, Bool.not_eq_true', decide_eq_true_eq, List.all_eq_true, decide_eq_false_iff_not] at h
  obtain ⟨⟨⟨h1, h2⟩, h3, h4⟩, h5, h6, h7⟩ := h
  refine ⟨?_, h2, h3, h4, h5, fun x m => ?_, h7⟩
  · split at h1
    · assumption
    · cases h1
  · have z := h6 x m
    unfold isLoc at z
    split at z
    · exact .inl (by assumption)
    · exact .inr (by assumption)
    · cases z
theorem lookup_in {α : Type} {x : Str} {v : α} : ∀ {l : List (Str × α)}, l.lookup x = some v → (x, v) ∈ l
  | [], h => by cases h
  | (y, u) :: r, h => by
    rw [List.lookup_cons] at h
    cases q : (x == y) with
    | true =>
      rw [q] at h
      rw [eq_of_beq q, Option.some.inj h]
      exact List.mem_cons_self
    | false =>
      rw [q] at h
      exact List.mem_cons_of_mem _ (lookup_in h)
def DD.okB (d : DD) : Bool := scD d.N d.ps d.scope && decide (d.ps.length = d.fd.ps) && decide (d.N.length = d.fd.n) && chkSs ⟨d.N, d.scope, d.scope⟩ d.fd.body d.body
def DD.Bnd (d : DD) : Prop := ∀ (kV doc pm : Value) (an : Option Addr) (cdv ct : Value) (us : List Value), us.length = d.ps.length → bindArgs (PySem.W.fnOf d.x d.x d.args d.body d.scope .none kV doc pm an cdv ct) ⟨us, []⟩ = pure (d.ps.zip us)
def AllD : List DD → Prop
  | [] => True
  | d :: r => (d.okB = true ∧ d.Bnd) ∧ AllD r
theorem AllD.mem : ∀ {l : List DD} {d : DD}, AllD l → d ∈ l → d.okB = true ∧ d.Bnd
  | _ :: _, _, h, m => by
    rcases List.mem_cons.mp m with rfl | m
    · exact h.1
    · exact AllD.mem h.2 m
def fdsOf (l : List DD) : List (Str × Fd) := l.map fun d => (d.x, d.fd)
def factsOf (l : List DD) : List He.Fa := builtins.map .free ++ l.map fun d => .glo d.x
theorem lookup_fds : ∀ {l : List DD} {f : Str} {g : Fd}, (fdsOf l).lookup f = some g → ∃ d ∈ l, d.x = f ∧ d.fd = g
  | [], _, _, h => by cases h
  | d :: r, f, g, h => by
    unfold fdsOf at h
    rw [List.map_cons, List.lookup_cons] at h
    cases q : (f == d.x) with
    | true =>
      rw [q] at h
      exact ⟨d, List.mem_cons_self, (eq_of_beq q).symm, Option.some.inj h⟩
    | false =>
      rw [q] at h
      obtain ⟨d', m, e⟩ := lookup_fds (l := r) h
      exact ⟨d', List.mem_cons_of_mem _ m, e⟩
theorem hd_of {defs : List DD} {ds : List He.DefD} {gls : List (Str × I)} {ecs : List Str} {im : Bool} {gds : List (Str × List (Str × I))} {w : World} {K : PySem.W.Frag} {h : Heap} {mg : Str → Option Value} (X : K.In h) (G : h.Ns mainGlobals mg) (ok : AllD defs) (hds : ∀ d ∈ defs, d.dd ∈ ds) (c : He.SaysD (factsOf defs) ds K) (e : gls.all (glB K) = true) (hex : ∀ x ∈ ecs, ExH K mg x)
    (hg : im = true → mg ("gcd" : Str) = some (.builtin "math.gcd")) (hgd : ∀ x kvs, gds.lookup x = some kvs → GdOk K w mg x kvs) : Hd (fdsOf defs) (fun x => gls.lookup x) ecs im (fun x => gds.lookup x) w K mg := by
  refine ⟨fun x m => He.free_ok X G (c.facts (f := .free x) (List.mem_append_left _ (List.mem_map_of_mem m))), fun x v q => ?_, hex, hg, hgd, fun f d q => ?_⟩
  · exact glB_ok X G (List.all_eq_true.mp e (x, v) (lookup_in q))
  · obtain ⟨dd, m, rfl, rfl⟩ := lookup_fds q
    obtain ⟨o1, o2⟩ := ok.mem m
    obtain ⟨fd, F⟩ := c.defs (d := dd.dd) (hds _ m)
    have hg := He.glo_ok X G (c.facts (f := .glo dd.x) (List.mem_append_right _ (List.mem_map_of_mem (f := fun d => He.Fa.glo d.x) m)))
    unfold DD.okB at o1
    simp only [Bool.and_eq_true, decide_eq_true_eq] at o1
    exact ⟨dd.x, dd.x, dd.args, dd.body, dd.scope, _, fd, dd.N, dd.ps, F, hg, FunD.bindsN F o2, scD_ok o1.1.1.1, o1.1.1.2, o1.1.2, o1.2⟩

/-! ### dicts of the top -/
def entsB (K : PySem.W.Frag) : List DictEntry → List (Str × I) → Bool
  | [], [] => true
  | e :: r, q :: l => (match e.key with
    | .str y _ => decide (y = q.1)
    | _ => false) && relI K q.2 e.val && entsB K r l
  | _, _ => false
def gdB (K : PySem.W.Frag) (q : Str × List (Str × I)) : Bool := match PySem.W.nsIn K mainGlobals q.1 with
  | some (some (.ref a)) => (match K.lookup a with
    | some ⟨_, _, .dict es _, _⟩ => entsB K es.toList q.2
    | _ => false)
  | _ => false
def tabsOf (gds : List (Str × List (Str × I))) : List He.Tab := gds.map fun q => ((fun K => He.ga K q.1), q.2.map (·.1))
theorem ents_ok {K : PySem.W.Frag} (z : Str) : ∀ {l : List DictEntry} {kvs : List (Str × I)}, entsB K l kvs = true → l.any (·.refKey) = false ∧ (kvs.lookup z = none → l.find? (·.key.isStr z) = none) ∧ ∀ v, kvs.lookup z = some v → ∃ e vv, l.find? (·.key.isStr z) = some e ∧ RelV vv e.val ∧ ∀ H, IR K H v vv
  | [], [], _ => ⟨rfl, fun _ => rfl, fun v h => nomatch h⟩
  | [], _ :: _, h => by simp [entsB] at h
  | _ :: _, [], h => by simp [entsB] at h
  | e :: r, q :: l, h => by
    simp only [entsB, Bool.and_eq_true] at h
    obtain ⟨⟨h1, h2⟩, h3⟩ := h
    obtain ⟨i1, i2, i3⟩ := ents_ok z h3
    split at h1
    · rename_i y t hy
      have h1 := of_decide_eq_true h1
      subst h1
      have hk : e.key.isStr z = (q.1 == z) := by rw [hy]; rfl
      have hr : e.refKey = false := by unfold DictEntry.refKey; rw [hy]
      refine ⟨by rw [List.any_cons, hr, i1]; rfl, fun hn => ?_, fun v hv => ?_⟩
      · rw [List.lookup_cons] at hn
        cases c : (z == q.1) with
        | true => rw [c] at hn; cases hn
        | false =>
          rw [c] at hn
          rw [List.find?_cons]
          have c2 : (q.1 == z) = false := by
            cases d : (q.1 == z) with
            | false => rfl
            | true => rw [eq_of_beq d, beq_self_eq_true] at c; cases c
          rw [hk, c2]
          exact i2 hn
      · rw [List.lookup_cons] at hv
        cases c : (z == q.1) with
        | true =>
          rw [c] at hv
          have hv := Option.some.inj hv
          subst hv
          obtain ⟨vv, a, b⟩ := relI_ok _ _ h2
          refine ⟨e, vv, ?_, a, b⟩
          rw [List.find?_cons, hk, eq_of_beq c, beq_self_eq_true]
        | false =>
          rw [c] at hv
          rw [List.find?_cons]
          have c2 : (q.1 == z) = false := by
            cases d : (q.1 == z) with
            | false => rfl
            | true => rw [eq_of_beq d, beq_self_eq_true] at c; cases c
          rw [hk, c2]
          exact i3 v hv
    · cases h1
theorem gds_ok {fa : List He.Fa} {fn : List He.DefD} {gds : List (Str × List (Str × I))} {w : World} {K : PySem.W.Frag} {h : Heap} {mg : Str → Option Value} (X : K.In h) (G : h.Ns mainGlobals mg) (c : He.SaysT fa fn (tabsOf gds) w K) (e : gds.all (gdB K) = true) : ∀ x kvs, gds.lookup x = some kvs → GdOk K w mg x kvs := fun x kvs q => by
  have hm := lookup_in q
  have e1 := List.all_eq_true.mp e _ hm
  obtain ⟨i, hi, hq⟩ := List.getElem_of_mem hm
  have ht : (tabsOf gds)[i]? = some ((fun K => He.ga K x), kvs.map (·.1)) := by
    unfold tabsOf
    rw [List.getElem?_map, List.getElem?_eq_getElem hi, hq]
    rfl
  obtain ⟨es, n, D⟩ := c.tab i ht
  unfold gdB at e1
  split at e1
  · rename_i a ha
    have hga : He.ga K x = a := by unfold He.ga; rw [ha]
    have D : KDict K w (He.ga K x) es n := D
    rw [hga] at D
    refine ⟨a, es, n, PySem.W.mg_of X G ha, D, fun z => ?_⟩
    rw [D.at_] at e1
    obtain ⟨i1, i2, i3⟩ := ents_ok z e1
    unfold PySem.W.nsIn
    rw [D.at_]
    refine ⟨fun hn => ?_, fun v hv => ?_⟩
    · simp only [i2 hn, i1, Bool.false_eq_true, if_false]
    · obtain ⟨e, vv, h1, h2, h3⟩ := i3 v hv
      exact ⟨e.val, vv, by simp only [h1], h2, h3⟩
  · cases e1
/-! ### the law's end -/
theorem walk_EB {l : PySem.W.OpenLaw} {n k : Nat} {q : Program} {loose : List Str} {XP : (Str → Option Value) → Heap → Prop} {YP : World → Heap → Prop} {d : DefRec} {x : Str}
    (hn : l.most = some n) (hn2 : n ≤ sizeLine) (hdf : d.params.defaults = []) (hr : Room k callerA)
    (F : ∀ (w : World) (mg : Str → Option Value) (fa : Addr) (h : Heap), YP w h → h.Ns mainGlobals mg → mg d.name = some (.ref fa) →
      ∃ (K : PySem.W.Frag) (fd : FuncData) (sp : Sp), K.In h ∧ (∀ (s : Shared) (u : Value), BindsTo s fd ⟨[u], []⟩ [(x, u)]) ∧
        (∀ (H : Hp) (a : Addr) (ns : List Int), ns.length ≤ n → (∀ z ∈ ns, Builtin.Int.intBits z ≤ 1048576) → Only H → SqL K H a (ns.map V.int) → sp [.ref a] H (fun v _ => v = .bl true) fun _ _ _ => False) ∧
        ∀ base : Heap, K.In base → base.Ns mainGlobals mg → FnOk l.prog w K mg base (L2.CX l.prog w) k fa fd [x] sp) :
    PySem.W.WalkO q loose XP YP l.row.toRowW d [] (fun f vs => PySem.call f vs) := by
  refine Att.attach_callB hn hdf fun w s₀ s₁ mg mb fa o pm cd doc a vs ns G Y ho hd hcd hmg hobj hints hlen hbits hg => ?_
  obtain ⟨K, fd, sp, KX, hb, hsp, hF⟩ := F w mg fa _ Y G.T.g hmg
  refine law_call KX G.T.g G.T.b G.T.builtins G.T.nolimit hg hobj hints (Nat.le_trans hlen hn2) hr hF hb (fun H hO hS => hsp H a ns hlen hbits hO hS) fun H e s' z => ?_
  obtain ⟨_, _, _, _, _, _, _, _, _, _, _, _, z⟩ := z
  exact z
theorem sqF_of {K : PySem.W.Frag} {H : Hp} {a : Addr} {xs : List V} (o : Only H) (h : SqL K H a xs) : SqF K H a xs := by
  rcases h with (h | ⟨u, h⟩) | h
  · rcases o a with e | ⟨u, ys, e⟩
    · rw [e] at h; cases h
    · rw [e] at h; cases h
  · exact .inl ⟨u, h⟩
  · exact .inr h
/-- a law keeps its word if its datum says so at every script -/
theorem law_sp {K : PySem.W.Frag} {mg : Str → Option Value} {g : Fn} {H : Hp} {a : Addr} {ns : List Int} (o : Only H) (h : SqL K H a (ns.map V.int)) (e : ∃ fin, g [.own (.scr ns)] = .ok (.im (.bl true)) fin) : spF K mg 1 g [.ref a] H (fun v _ => v = .bl true) fun _ _ _ => False := by
  obtain ⟨fin, e⟩ := e
  refine ⟨rfl, [.own (.scr ns)], [], fun _ => [], ⟨rfl, fun i d q => ?_, fun i d q => ?_, fun _ _ => rfl, fun _ => List.nodup_nil, fun _ _ _ m => absurd m List.not_mem_nil, fun _ _ m => absurd m List.not_mem_nil, fun _ _ m => absurd m List.not_mem_nil, fun _ m => absurd m List.not_mem_nil⟩, ?_⟩
  · cases i with
    | zero =>
      cases q
      exact ⟨.ref a, rfl, .scr (sqF_of o h)⟩
    | succ i => cases q
  · cases i with
    | zero => cases q
    | succ i => cases q
  · rw [e]
    intro v H' S' L R F dr rs
    exact dr.bl_inv
end Kh

set_option Elab.async false
set_option linter.all false
set_option maxRecDepth 100000
set_option maxHeartbeats 2000000
/-! an error's class, by a look at the top -/
namespace Kh
open PySem PySem.Spec PyProof.Rows L2
def clsB (K : PySem.W.Frag) (C : Addr) : Bool := match K.lookup C with
  | some ⟨.type t, _, .cls cd, sl⟩ => (match cd.mro, sl.toList with
    | .ref C' :: bm, [_, _, _, _, some (.builtin n), _] => (((t == "type") && (C' == C)) && ((n == "ValueError.__new__") && PySem.HandSPX.refsVE bm)) && (cd.hasDict && !cd.hasDel)
    | _, _ => false)
  | _ => false
theorem clsB_ok {K : PySem.W.Frag} {C : Addr} (h : clsB K C = true) : ∃ nm q N bs bm sn sub ab col dd k0 k1 k2 k3 k5, K.lookup C = some (excClassObj nm q C N bs bm true sn sub ab col dd k0 k1 k2 k3 k5 "ValueError.__new__") ∧ PySem.HandSPX.refsVE bm = true := by
  unfold clsB at h
  split at h
  · rename_i t dd cd sl ho
    split at h
    · rename_i C' bm k0 k1 k2 k3 n k5 hm hs
      simp only [Bool.and_eq_true, beq_iff_eq, Bool.not_eq_true'] at h
      obtain ⟨⟨⟨rfl, rfl⟩, rfl, hr⟩, hd, hdel⟩ := h
      obtain ⟨nm, bs, mro, N, qn, hdi, sn, sub, ab, col, del⟩ := cd
      dsimp only at hm hdel hd
      subst hm hdel hd
      have hsl : sl = #[k0, k1, k2, k3, some (.builtin "ValueError.__new__"), k5] := by
        obtain ⟨l⟩ := sl
        simp only at hs
        rw [hs]
      subst hsl
      exact ⟨nm, qn, N, bs, bm, sn, sub, ab, col, dd, k0, k1, k2, k3, k5, ho, hr⟩
    · cases h
  · cases h
/-- x: an error's class whose __init__ is that of b -/
def errB (K : PySem.W.Frag) (b x : Str) : Bool := clsB K (He.ga K x) && (He.eqO (PySem.W.findIn K (.ref (He.ga K x)) "__setattr__") (some (some (.builtin "object.__setattr__"))) && (decide (PySem.W.subIn K (.ref (He.ga K x)) (.type "BaseException") = some true) && (decide (PySem.W.typeIn K (.ref (He.ga K x)) = some (.type "type")) &&
  (PySem.W.keepIn K (.ref (He.ga K x)) && (He.eqO (PySem.W.findIn K (.ref (He.ga K x)) "__init__") (some (some (.ref (He.ma K (He.ga K b) "__init__")))) && (decide (PySem.W.typeIn K (.ref (He.ma K (He.ga K b) "__init__")) = some (.type "function")) &&
  (He.eqO (PySem.W.nsIn K mainGlobals x) (some (some (.ref (He.ga K x)))) && (He.eqO (PySem.W.findIn K (.ref (He.ga K x)) "code") (some none) && (He.eqO (PySem.W.findIn K (.ref (He.ga K x)) "place") (some none) && (xfB K (He.ga K x) && decide (PySem.W.exmOne K (.ref (He.ga K x)) (.ref (He.ga K x)) = some true)))))))))))
theorem errB_ok {K : PySem.W.Frag} {h : Heap} {mg : Str → Option Value} {b x : Str} (X : K.In h) (G : h.Ns mainGlobals mg) (e : errB K b x = true) : OexC K (He.ga K x) ∧ PySem.W.findIn K (.ref (He.ga K x)) "__init__" = some (some (.ref (He.ma K (He.ga K b) "__init__"))) ∧ PySem.W.typeIn K (.ref (He.ma K (He.ga K b) "__init__")) = some (.type "function") ∧
    mg x = some (.ref (He.ga K x)) ∧ PySem.W.findIn K (.ref (He.ga K x)) "code" = some none ∧ PySem.W.findIn K (.ref (He.ga K x)) "place" = some none ∧ XfC K (He.ga K x) ∧ PySem.W.exmOne K (.ref (He.ga K x)) (.ref (He.ga K x)) = some true := by
  unfold errB at e
  simp only [Bool.and_eq_true, decide_eq_true_eq] at e
  obtain ⟨h1, h2, h3, h4, h5, h6, h7, h8, h9, h10, h11, h12⟩ := e
  exact ⟨⟨clsB_ok h1, He.eqO_ok h2, h3, h4, h5⟩, He.eqO_ok h6, h7, He.glo_ok X G h8, He.eqO_ok h9, He.eqO_ok h10, xfB_ok h11, h12⟩
end Kh

set_option Elab.async false
set_option linter.all false
set_option maxRecDepth 100000
set_option maxHeartbeats 2000000
namespace Kh
open PySem PySem.Spec PyProof.Rows L2
/-- the __init__ of the errors, as the top has it -/
structure InD where
  b : Str
  qual : Str
  args : Arguments
  scope : Scope
  p1 : Pos
  p2 : Pos
  p3 : Pos
  p4 : Pos
  q1 : Pos
  q2 : Pos
  q3 : Pos
  q4 : Pos
def InD.body (d : InD) : List Stmt := [.Assign [.Attribute (.Name "self" d.p1) "code" d.p2] (.Name "code" d.p3) d.p4, .Assign [.Attribute (.Name "self" d.q1) "place" d.q2] (.Name "place" d.q3) d.q4]
def InD.dd (d : InD) : He.DefD := ⟨(d.b, some "__init__"), "__init__", d.qual, d.args, d.body, d.scope, [.int 0], []⟩
def InD.B1 (d : InD) : Prop := ∀ (T : Addr) (kV doc pm : Value) (an : Option Addr) (cdv ct : Value) (us its : List Value), us.length = 2 → its.length = 1 →
  ∃ k, bindArgs (PySem.W.fnOf "__init__" d.qual d.args d.body d.scope (.ref T) kV doc pm an cdv ct) ⟨us, []⟩ = seqItems? (.ref T) >>= k ∧ k (some its.toArray) = pure ((["self", "code", "place"] : List Str).zip (us ++ its.drop 0))
def InD.B2 (d : InD) : Prop := ∀ (T : Addr) (kV doc pm : Value) (an : Option Addr) (cdv ct : Value) (us its : List Value), us.length = 3 → its.length = 1 →
  ∃ k, bindArgs (PySem.W.fnOf "__init__" d.qual d.args d.body d.scope (.ref T) kV doc pm an cdv ct) ⟨us, []⟩ = seqItems? (.ref T) >>= k ∧ k (some its.toArray) = pure ((["self", "code", "place"] : List Str).zip (us ++ its.drop 1))
theorem exH_of {d : InD} {K : PySem.W.Frag} {h : Heap} {mg : Str → Option Value} {x : Str} {fd : FuncData} (X : K.In h) (G : h.Ns mainGlobals mg) (F : FunD K "__init__" d.qual d.args d.body d.scope [.int 0] [] (He.fAd K (d.b, some "__init__")) fd) (S : scD ["self", "code", "place"] ["self", "code", "place"] d.scope = true)
    (l1 : d.scope.names.lookup ("self" : Str) = some .local) (l2 : d.scope.names.lookup ("code" : Str) = some .local) (l3 : d.scope.names.lookup ("place" : Str) = some .local) (b1 : d.B1) (b2 : d.B2) (e : errB K d.b x = true) : ExH K mg x := by
  obtain ⟨h1, h2, h3, h4, h5, h6, h7, h8⟩ := errB_ok X G e
  obtain ⟨ds, v1, c1⟩ := FunD.binds1 (ps := ["self", "code", "place"]) F 2 0 (by simp) rfl b1
  obtain ⟨ds', v2, c2⟩ := FunD.binds1 (ps := ["self", "code", "place"]) F 3 1 (by simp) rfl b2
  have z : ds' = [] := by
    cases v2
    rfl
  subst z
  exact ⟨⟨He.ga K x, h4, h7, h5, h6, h8⟩, He.ga K x, _, _, d.qual, d.args, d.scope, _, _, fd, d.p1, d.p2, d.p3, d.p4, d.q1, d.q2, d.q3, d.q4, ds, h1, h2, h3, F, scD_ok S, l1, l2, l3, v1, c1, c2, h4, h5, h6⟩
/-- what the head is asked for, in one Bool -/
def exB (gls : List (Str × I)) (ecs : List Str) (b : Str) (im : Bool) (gds : List (Str × List (Str × I))) (K : PySem.W.Frag) : Bool := gds.all (gdB K) && (gls.all (glB K) && (ecs.all (errB K b) && (!im || He.eqO (PySem.W.nsIn K mainGlobals "gcd") (some (some (.builtin "math.gcd"))))))
theorem hd_all {defs : List DD} {gls : List (Str × I)} {ecs : List Str} {im : Bool} {gds : List (Str × List (Str × I))} {w : World} {ind : InD} {K : PySem.W.Frag} {h : Heap} {mg : Str → Option Value} (X : K.In h) (G : h.Ns mainGlobals mg) (ok : AllD defs) (ct : He.SaysT (factsOf defs) (defs.map DD.dd ++ [ind.dd]) (tabsOf gds) w K) (e : exB gls ecs ind.b im gds K = true)
    (S : scD ["self", "code", "place"] ["self", "code", "place"] ind.scope = true) (l1 : ind.scope.names.lookup ("self" : Str) = some .local) (l2 : ind.scope.names.lookup ("code" : Str) = some .local) (l3 : ind.scope.names.lookup ("place" : Str) = some .local) (b1 : ind.B1) (b2 : ind.B2) : Hd (fdsOf defs) (fun x => gls.lookup x) ecs im (fun x => gds.lookup x) w K mg := by
  have c := ct.d
  unfold exB at e
  rw [Bool.and_eq_true, Bool.and_eq_true, Bool.and_eq_true] at e
  obtain ⟨e0, e1, e2, e3⟩ := e
  obtain ⟨fd, F⟩ := c.defs (d := ind.dd) (List.mem_append_right _ List.mem_cons_self)
  refine hd_of X G ok (fun d m => List.mem_append_left _ (List.mem_map_of_mem m)) c e1 (fun x m => exH_of X G F S l1 l2 l3 b1 b2 (List.all_eq_true.mp e2 x m)) (fun z => ?_) (gds_ok X G ct e0)
  rw [z, Bool.not_true, Bool.false_or] at e3
  exact PySem.W.mg_of X G (He.eqO_ok e3)
def clsIni (s : Stmt) : Stmt := match s with
  | .ClassDef _ _ _ (b :: _) _ _ _ _ _ _ _ => b
  | s => s
def inD (b q : Str) (s : Stmt) : InD := match defBody s with
  | [.Assign [.Attribute (.Name _ p1) _ p2] (.Name _ p3) p4, .Assign [.Attribute (.Name _ q1) _ q2] (.Name _ q3) q4] => ⟨b, q, defArgs s, defScope s, p1, p2, p3, p4, q1, q2, q3, q4⟩
  | _ => ⟨b, q, defArgs s, defScope s, ⟨0, 0, 0, 0⟩, ⟨0, 0, 0, 0⟩, ⟨0, 0, 0, 0⟩, ⟨0, 0, 0, 0⟩, ⟨0, 0, 0, 0⟩, ⟨0, 0, 0, 0⟩, ⟨0, 0, 0, 0⟩, ⟨0, 0, 0, 0⟩⟩
end Kh

set_option Elab.async false
set_option linter.all false
set_option maxRecDepth 100000
set_option maxHeartbeats 2000000
/-! running a datum: lemmas for plain laws -/
namespace Kh
open PySem L2
theorem lcGo_fm {α : Type} {turn : D → En → Out (Option D)} (g : α → D) (f : α → Option D) (e0 : En) : ∀ l : List α, (∀ a ∈ l, turn (g a) e0 = .ok (f a) e0) → lcGo turn (l.map g) e0 = .ok (l.filterMap f) e0
  | [], _ => rfl
  | a :: l, h => by
    have ih := lcGo_fm g f e0 l fun b m => h b (List.mem_cons_of_mem _ m)
    rw [List.map_cons]
    unfold lcGo
    rw [h a List.mem_cons_self]
    simp only [Out.bind, ih]
    rw [List.filterMap_cons]
    cases f a <;> rfl
theorem lcGo_map {α : Type} {turn : D → En → Out (Option D)} (g f : α → D) (e0 : En) (l : List α) (h : ∀ a ∈ l, turn (g a) e0 = .ok (some (f a)) e0) : lcGo turn (l.map g) e0 = .ok (l.map f) e0 := by
  rw [lcGo_fm g (fun a => some (f a)) e0 l h, List.filterMap_eq_map']
/-- a comprehension whose turns change a state that rides in the places -/
theorem lcGo_st {α σ : Type} {turn : D → En → Out (Option D)} (g : α → D) (E : σ → En) (Inv : σ → Prop) (Rel : D → Prop) : ∀ (l : List α) (s : σ), Inv s → (∀ a ∈ l, ∀ s, Inv s → ∃ y s', turn (g a) (E s) = .ok (some y) (E s') ∧ Inv s' ∧ Rel y) →
    ∃ ys s', lcGo turn (l.map g) (E s) = .ok ys (E s') ∧ Inv s' ∧ ys.length = l.length ∧ ∀ y ∈ ys, Rel y
  | [], s, i, _ => ⟨[], s, rfl, i, rfl, fun _ m => absurd m List.not_mem_nil⟩
  | a :: l, s, i, h => by
    obtain ⟨y, s1, h1, i1, r1⟩ := h a List.mem_cons_self s i
    obtain ⟨ys, s2, h2, i2, l2, r2⟩ := lcGo_st g E Inv Rel l s1 i1 fun b m => h b (List.mem_cons_of_mem _ m)
    refine ⟨y :: ys, s2, ?_, i2, by simp [l2], fun z m => ?_⟩
    · rw [List.map_cons]
      unfold lcGo
      rw [h1]
      simp only [Out.bind, h2]
    · rcases List.mem_cons.mp m with rfl | m
      · exact r1
      · exact r2 z m
theorem forGo_st {α σ : Type} {turn : D → En → Out Fl} (g : α → D) (E : σ → En) (step : σ → α → σ) (Inv : List α → σ → Prop) : ∀ (l : List α) (s : σ), Inv l s → (∀ a r s, Inv (a :: r) s → turn (g a) (E s) = .ok .nx (E (step s a)) ∧ Inv r (step s a)) →
    forGo turn (l.map g) (E s) = .ok .nx (E (l.foldl step s)) ∧ Inv [] (l.foldl step s)
  | [], s, i, _ => ⟨rfl, i⟩
  | a :: l, s, i, h => by
    obtain ⟨h1, i1⟩ := h a l s i
    obtain ⟨h2, i2⟩ := forGo_st g E step Inv l (step s a) i1 h
    refine ⟨?_, i2⟩
    rw [List.map_cons]
    unfold forGo
    rw [h1]
    exact h2
end Kh

set_option Elab.async false
set_option linter.all false
set_option maxRecDepth 100000
set_option maxHeartbeats 2000000
/-! the evaluator's rows as rewriting rules (loops and comprehensions apart) -/
namespace Kh.Ro
open PySem L2 Kh
variable {T : Tab}
def argS (T : Tab) (a : E) (e : En) : Out (Slot × Option Nat) := match a with
  | .var i => lendS i e
  | a => (evalE T a true e).bind fun x e => .ok (Slot.own x, none) e
theorem b_ok {α β : Type} (a : α) (e : En) (f : α → En → Out β) : (Out.ok a e).bind f = f a e := rfl
theorem b_exc {α β : Type} (c : Str) (x y : I) (e : En) (f : α → En → Out β) : (Out.exc c x y e).bind f = .exc c x y e := rfl
theorem b_bad {α β : Type} (f : α → En → Out β) : (Out.bad : Out α).bind f = .bad := rfl
theorem a_var : ∀ i e, argS T (.var i) e = lendS i e := fun _ _ => rfl
theorem e_var : ∀ i own e, evalE T (.var i) own e = readS i own e := by
  intros
  first | rfl | (simp only [evalE]; done) | (simp only [evalE] <;> rfl)
theorem e_cst : ∀ x own e, evalE T (.cst x) own e = .ok (.im x) e := by
  intros
  first | rfl | (simp only [evalE]; done) | (simp only [evalE] <;> rfl)
theorem e_glob : ∀ x own e, evalE T (.glob x) own e = lift ((T.gl x).map .im) e := by
  intros
  first | rfl | (simp only [evalE]; done) | (simp only [evalE] <;> rfl)
theorem e_tup : ∀ es own e, evalE T (.tup es) own e = (evalEs T es e).bind fun ds e => .ok (mkTup ds) e := by
  intros
  first | rfl | (simp only [evalE]; done) | (simp only [evalE] <;> rfl)
theorem e_lst : ∀ es own e, evalE T (.lst es) own e = (evalEs T es e).bind fun ds e => .ok (.lst ds) e := by
  intros
  first | rfl | (simp only [evalE]; done) | (simp only [evalE] <;> rfl)
theorem e_dnew : ∀ own e, evalE T .dnew own e = .ok (.dct false []) e := by
  intros
  first | rfl | (simp only [evalE]; done) | (simp only [evalE] <;> rfl)
theorem e_bin : ∀ op a b own e, evalE T (.bin op a b) own e = (evalE T a false e).bind fun x e => still x (b.pure || a.src.isEmpty) ((evalE T b false e).bind fun y e => lift (binD op x y) e) := by
  intros
  first | rfl | (simp only [evalE]; done) | (simp only [evalE] <;> rfl)
theorem e_neg : ∀ a own e, evalE T (.neg a) own e = (evalE T a false e).bind fun x e => (asInt x e).bind fun i e => .ok (.im (.int (-i))) e := by
  intros
  first | rfl | (simp only [evalE]; done) | (simp only [evalE] <;> rfl)
theorem e_not : ∀ a own e, evalE T (.not a) own e = (evalE T a false e).bind fun x e => (asBool x e).bind fun b e => .ok (.im (.bl (!b))) e := by
  intros
  first | rfl | (simp only [evalE]; done) | (simp only [evalE] <;> rfl)
theorem e_cmp : ∀ op a b own e, evalE T (.cmp op a b) own e = (evalE T a false e).bind fun x e => still x b.pure ((evalE T b false e).bind fun y e => lift ((cmpD op x y).map fun b => .im (.bl b)) e) := by
  intros
  first | rfl | (simp only [evalE]; done) | (simp only [evalE] <;> rfl)
theorem e_chain : ∀ o1 o2 a b c own e, evalE T (.chain o1 o2 a b c) own e = (evalE T a false e).bind fun x e => (asInt x e).bind fun i e => (evalE T b false e).bind fun y e => (asInt y e).bind fun j e => if cmpI o1 i j then (evalE T c false e).bind fun z e => (asInt z e).bind fun k e => .ok (.im (.bl (cmpI o2 j k))) e else .ok (.im (.bl false)) e := by
  intros
  first | rfl | (simp only [evalE]; done) | (simp only [evalE] <;> rfl)
theorem e_one : ∀ a own e, evalE T (.one a) own e = evalE T a own e := by
  intros
  first | rfl | (simp only [evalE]; done) | (simp only [evalE] <;> rfl)
theorem e_and : ∀ a b own e, evalE T (.and a b) own e = (evalE T a false e).bind fun x e => (asBool x e).bind fun k e => if k then evalE T b own e else .ok (.im (.bl false)) e := by
  intros
  first | rfl | (simp only [evalE]; done) | (simp only [evalE] <;> rfl)
theorem e_or : ∀ a b own e, evalE T (.or a b) own e = (evalE T a false e).bind fun x e => (asBool x e).bind fun k e => if k then .ok (.im (.bl true)) e else evalE T b own e := by
  intros
  first | rfl | (simp only [evalE]; done) | (simp only [evalE] <;> rfl)
theorem e_ite : ∀ c a b own e, evalE T (.ite c a b) own e = (evalT T c e).bind fun k e => if k then evalE T a own e else evalE T b own e := by
  intros
  first | rfl | (simp only [evalE]; done) | (simp only [evalE] <;> rfl)
theorem e_ix : ∀ a b own e, evalE T (.ix a b) own e = (evalE T a false e).bind fun x e => (still x b.pure ((evalE T b false e).bind fun y e => lift (ixD x y) e)).bind fun d e => needIm own d e := by
  intros
  first | rfl | (simp only [evalE]; done) | (simp only [evalE] <;> rfl)
theorem e_sl : ∀ a lo hi own e, evalE T (.sl a lo hi) own e = (evalE T a false e).bind fun x e => still x (lo.pure && hi.pure) ((evalO T lo e).bind fun l e => (evalO T hi e).bind fun h e => lift (slD x l h) e) := by
  intros
  first | rfl | (simp only [evalE]; done) | (simp only [evalE] <;> rfl)
theorem e_ixv : ∀ i b own e, evalE T (.ixv i b) own e = (readS i false e).bind fun _ e => (evalE T b false e).bind fun y e => (readS i false e).bind fun x e => (lift (ixV x y) e).bind fun d e => if d.isIm then .ok d e else .bad := by
  intros
  first | rfl | (simp only [evalE]; done) | (simp only [evalE] <;> rfl)
theorem e_slv : ∀ i lo hi own e, evalE T (.slv i lo hi) own e = (readS i false e).bind fun _ e => (evalO T lo e).bind fun l e => (evalO T hi e).bind fun h e => (readS i false e).bind fun x e => lift (slD x l h) e := by
  intros
  first | rfl | (simp only [evalE]; done) | (simp only [evalE] <;> rfl)
theorem e_rev : ∀ a own e, evalE T (.rev a) own e = (evalE T a false e).bind fun x e => lift (revD x) e := by
  intros
  first | rfl | (simp only [evalE]; done) | (simp only [evalE] <;> rfl)
theorem e_lrange : ∀ es own e, evalE T (.lrange es) own e = if es.len = 0 ∨ 2 < es.len then .bad else (evalBs T es e).bind fun ds e => (match ds with | [.int j] => if j ≤ 1000000 ∧ -1000000 ≤ j then .ok (.lst (rangeL 0 j.toNat)) e else .bad | [.int i, .int j] => if (j ≤ 1000000 ∧ -1000000 ≤ j) ∧ (i ≤ 1000000 ∧ -1000000 ≤ i) then .ok (.lst (rangeL i (j - i).toNat)) e else .bad | _ => .bad) := by
  intros
  first | rfl | (simp only [evalE]; done) | (simp only [evalE] <;> rfl)
theorem e_disp : ∀ ks vs own e, evalE T (.disp ks vs) own e = if ks.length ≤ 15 ∧ ks.all isKey ∧ vs.all isKey ∧ distinct ks then .ok (.dct false (ks.zip (vs.map .im))) e else .bad := by
  intros
  first | rfl | (simp only [evalE]; done) | (simp only [evalE] <;> rfl)
theorem e_dispD : ∀ ks vs own e, evalE T (.dispD ks vs) own e = if ks.length ≤ 15 ∧ ks.all isKey ∧ vs.all constD ∧ distinct ks then .ok (.dct false (ks.zip vs)) e else .bad := by
  intros
  first | rfl | (simp only [evalE]; done) | (simp only [evalE] <;> rfl)
theorem e_gin : ∀ n x a own e, evalE T (.gin n x a) own e = (match T.gd x with | some kvs => (evalE T a false e).bind fun y e => (asIm y e).bind fun y e => (match y with | .str z => .ok (.im (.bl (n != (kvs.lookup z).isSome))) e | _ => .bad) | none => .bad) := by
  intros
  first | rfl | (simp only [evalE]; done) | (simp only [evalE] <;> rfl)
theorem e_gix : ∀ x a own e, evalE T (.gix x a) own e = (match T.gd x with | some kvs => (evalE T a false e).bind fun y e => (asIm y e).bind fun y e => (match y with | .str z => lift ((kvs.lookup z).map .im) e | _ => .bad) | none => .bad) := by
  intros
  first | rfl | (simp only [evalE]; done) | (simp only [evalE] <;> rfl)
theorem e_gcd : ∀ a b own e, evalE T (.gcd a b) own e = if T.im then (evalE T a false e).bind fun x e => still x b.pure ((evalE T b false e).bind fun y e => lift (biD .gcd [x, y]) e) else .bad := by
  intros
  first | rfl | (simp only [evalE]; done) | (simp only [evalE] <;> rfl)
theorem e_isin : ∀ a t own e, evalE T (.isin a t) own e = (evalE T a false e).bind fun x e => (asIm x e).bind fun x e => lift ((isinD t x).map fun b => .im (.bl b)) e := by
  intros
  first | rfl | (simp only [evalE]; done) | (simp only [evalE] <;> rfl)
theorem e_call : ∀ f es own e, evalE T (.call f es) own e = match T.fn f with | some g => (evalAs T es e).bind fun as e => callF g as e | none => .bad := by
  intros
  first | rfl | (simp only [evalE]; done) | (simp only [evalE] <;> rfl)
theorem e_bi1 : ∀ f a own e, evalE T (.bi f (.cons a .nil)) own e = (evalE T a false e).bind fun x e => lift (biD f [x]) e := by
  intros
  first | rfl | (simp only [evalE]; done) | (simp only [evalE] <;> rfl)
theorem e_bi2 : ∀ f a b own e, evalE T (.bi f (.cons a (.cons b .nil))) own e = (evalE T a false e).bind fun x e => still x b.pure ((evalE T b false e).bind fun y e => lift (biD f [x, y]) e) := by
  intros
  first | rfl | (simp only [evalE]; done) | (simp only [evalE] <;> rfl)
theorem e_get : ∀ r es own e, evalE T (.me .get r es) own e = (evalE T r false e).bind fun x e => if meOk .get x then still x es.pure ((evalBs T es e).bind fun xs e => lift (meD .get x xs) e) else .bad := by
  intros
  first | rfl | (simp only [evalE]; done) | (simp only [evalE] <;> rfl)
theorem e_index : ∀ r a own e, evalE T (.me .index r (.cons a .nil)) own e = (evalE T r false e).bind fun x e => if mxOk .index x then still x a.pure ((evalE T a false e).bind fun y e => lift (mxD .index x [y]) e) else .bad := by
  intros
  first | rfl | (simp only [evalE]; done) | (simp only [evalE] <;> rfl)
theorem e_count : ∀ r a own e, evalE T (.me .count r (.cons a .nil)) own e = (evalE T r false e).bind fun x e => if mxOk .count x then still x a.pure ((evalE T a false e).bind fun y e => lift (mxD .count x [y]) e) else .bad := by
  intros
  first | rfl | (simp only [evalE]; done) | (simp only [evalE] <;> rfl)
theorem e_join : ∀ r a own e, evalE T (.me .join r (.cons a .nil)) own e = (evalE T r false e).bind fun x e => if mxOk .join x then still x a.pure ((evalE T a false e).bind fun y e => lift (mxD .join x [y]) e) else .bad := by
  intros
  first | rfl | (simp only [evalE]; done) | (simp only [evalE] <;> rfl)
theorem e_split : ∀ r a own e, evalE T (.me .split r (.cons a .nil)) own e = (evalE T r false e).bind fun x e => if mxOk .split x then still x a.pure ((evalE T a false e).bind fun y e => lift (mxD .split x [y]) e) else .bad := by
  intros
  first | rfl | (simp only [evalE]; done) | (simp only [evalE] <;> rfl)
theorem e_mut : ∀ m i es own e, evalE T (.mut m i es) own e = if Mm.sup m = false then (if Mm.sd m = true then (match e[i]? with | some (.own (.dct false _)) => (evalBs T es e).bind fun xs e => sdO i xs e | _ => .bad) else .bad) else match e[i]? with | some (.own (.lst _)) => (evalEs T es e).bind fun ds e => (match e[i]? with | some (.own d) => (match mutD m d ds with | some (r, d') => .ok r (e.set i (.own d')) | none => .bad) | _ => .bad) | _ => .bad := by
  intros
  first | rfl | (simp only [evalE]; done) | (simp only [evalE] <;> rfl)
theorem a_cst : ∀ i e, argS T (.cst i) e = (evalE T (.cst i) true e).bind fun x e => .ok (Slot.own x, none) e := by
  intros
  rfl
theorem a_glob : ∀ i e, argS T (.glob i) e = (evalE T (.glob i) true e).bind fun x e => .ok (Slot.own x, none) e := by
  intros
  rfl
theorem a_tup : ∀ es e, argS T (.tup es) e = (evalE T (.tup es) true e).bind fun x e => .ok (Slot.own x, none) e := by
  intros
  rfl
theorem a_lst : ∀ es e, argS T (.lst es) e = (evalE T (.lst es) true e).bind fun x e => .ok (Slot.own x, none) e := by
  intros
  rfl
theorem a_bin : ∀ op a b e, argS T (.bin op a b) e = (evalE T (.bin op a b) true e).bind fun x e => .ok (Slot.own x, none) e := by
  intros
  rfl
theorem a_neg : ∀ a e, argS T (.neg a) e = (evalE T (.neg a) true e).bind fun x e => .ok (Slot.own x, none) e := by
  intros
  rfl
theorem a_ite : ∀ c a b e, argS T (.ite c a b) e = (evalE T (.ite c a b) true e).bind fun x e => .ok (Slot.own x, none) e := by
  intros
  rfl
theorem a_ix : ∀ a b e, argS T (.ix a b) e = (evalE T (.ix a b) true e).bind fun x e => .ok (Slot.own x, none) e := by
  intros
  rfl
theorem a_sl : ∀ a lo hi e, argS T (.sl a lo hi) e = (evalE T (.sl a lo hi) true e).bind fun x e => .ok (Slot.own x, none) e := by
  intros
  rfl
theorem a_rev : ∀ a e, argS T (.rev a) e = (evalE T (.rev a) true e).bind fun x e => .ok (Slot.own x, none) e := by
  intros
  rfl
theorem a_ixv : ∀ i b e, argS T (.ixv i b) e = (evalE T (.ixv i b) true e).bind fun x e => .ok (Slot.own x, none) e := by
  intros
  rfl
theorem a_slv : ∀ i a b e, argS T (.slv i a b) e = (evalE T (.slv i a b) true e).bind fun x e => .ok (Slot.own x, none) e := by
  intros
  rfl
theorem a_lrange : ∀ a e, argS T (.lrange a) e = (evalE T (.lrange a) true e).bind fun x e => .ok (Slot.own x, none) e := by
  intros
  rfl
theorem a_disp : ∀ a b e, argS T (.disp a b) e = (evalE T (.disp a b) true e).bind fun x e => .ok (Slot.own x, none) e := by
  intros
  rfl
theorem a_dispD : ∀ a b e, argS T (.dispD a b) e = (evalE T (.dispD a b) true e).bind fun x e => .ok (Slot.own x, none) e := by
  intros
  rfl
theorem a_gix : ∀ a b e, argS T (.gix a b) e = (evalE T (.gix a b) true e).bind fun x e => .ok (Slot.own x, none) e := by
  intros
  rfl
theorem a_gcd : ∀ a b e, argS T (.gcd a b) e = (evalE T (.gcd a b) true e).bind fun x e => .ok (Slot.own x, none) e := by
  intros
  rfl
theorem a_isin : ∀ a b e, argS T (.isin a b) e = (evalE T (.isin a b) true e).bind fun x e => .ok (Slot.own x, none) e := by
  intros
  rfl
theorem a_call : ∀ f es e, argS T (.call f es) e = (evalE T (.call f es) true e).bind fun x e => .ok (Slot.own x, none) e := by
  intros
  rfl
theorem a_bi : ∀ f es e, argS T (.bi f es) e = (evalE T (.bi f es) true e).bind fun x e => .ok (Slot.own x, none) e := by
  intros
  rfl
theorem a_me : ∀ m r es e, argS T (.me m r es) e = (evalE T (.me m r es) true e).bind fun x e => .ok (Slot.own x, none) e := by
  intros
  rfl
theorem a_cmp : ∀ op a b e, argS T (.cmp op a b) e = (evalE T (.cmp op a b) true e).bind fun x e => .ok (Slot.own x, none) e := by
  intros
  rfl
theorem a_mut : ∀ m i es e, argS T (.mut m i es) e = (evalE T (.mut m i es) true e).bind fun x e => .ok (Slot.own x, none) e := by
  intros
  rfl
theorem a_lc : ∀ w tg own c elt e, argS T (.lc w tg own c elt) e = (evalE T (.lc w tg own c elt) true e).bind fun x e => .ok (Slot.own x, none) e := by
  intros
  rfl
theorem a_and : ∀ a b e, argS T (.and a b) e = (evalE T (.and a b) true e).bind fun x e => .ok (Slot.own x, none) e := by
  intros
  rfl
theorem a_or : ∀ a b e, argS T (.or a b) e = (evalE T (.or a b) true e).bind fun x e => .ok (Slot.own x, none) e := by
  intros
  rfl
theorem a_not : ∀ a e, argS T (.not a) e = (evalE T (.not a) true e).bind fun x e => .ok (Slot.own x, none) e := by
  intros
  rfl
theorem a_one : ∀ a e, argS T (.one a) e = (evalE T (.one a) true e).bind fun x e => .ok (Slot.own x, none) e := by
  intros
  rfl
theorem a_chain : ∀ o1 o2 a b c e, argS T (.chain o1 o2 a b c) e = (evalE T (.chain o1 o2 a b c) true e).bind fun x e => .ok (Slot.own x, none) e := by
  intros
  rfl
theorem a_dnew : ∀ e, argS T .dnew e = (evalE T .dnew true e).bind fun x e => .ok (Slot.own x, none) e := by
  intros
  rfl
theorem es_nil : ∀ e, evalEs T .nil e = .ok [] e := by
  intros
  first | rfl | (simp only [evalEs, evalBs, evalAs, evalO, evalC, evalT, evalW, exec, execs]; done) | (simp only [evalEs, evalBs, evalAs, evalO, evalC, evalT, evalW, exec, execs] <;> rfl)
theorem es_cons : ∀ a r e, evalEs T (.cons a r) e = (evalE T a true e).bind fun x e => (evalEs T r e).bind fun xs e => .ok (x :: xs) e := by
  intros
  first | rfl | (simp only [evalEs, evalBs, evalAs, evalO, evalC, evalT, evalW, exec, execs]; done) | (simp only [evalEs, evalBs, evalAs, evalO, evalC, evalT, evalW, exec, execs] <;> rfl)
theorem bs_nil : ∀ e, evalBs T .nil e = .ok [] e := by
  intros
  first | rfl | (simp only [evalEs, evalBs, evalAs, evalO, evalC, evalT, evalW, exec, execs]; done) | (simp only [evalEs, evalBs, evalAs, evalO, evalC, evalT, evalW, exec, execs] <;> rfl)
theorem bs_cons : ∀ a r e, evalBs T (.cons a r) e = (evalE T a false e).bind fun d e => (asIm d e).bind fun x e => (evalBs T r e).bind fun xs e => .ok (x :: xs) e := by
  intros
  first | rfl | (simp only [evalEs, evalBs, evalAs, evalO, evalC, evalT, evalW, exec, execs]; done) | (simp only [evalEs, evalBs, evalAs, evalO, evalC, evalT, evalW, exec, execs] <;> rfl)
theorem as_nil : ∀ e, evalAs T .nil e = .ok [] e := by
  intros
  first | rfl | (simp only [evalEs, evalBs, evalAs, evalO, evalC, evalT, evalW, exec, execs]; done) | (simp only [evalEs, evalBs, evalAs, evalO, evalC, evalT, evalW, exec, execs] <;> rfl)
theorem as_cons : ∀ a r e, evalAs T (.cons a r) e = (argS T a e).bind fun s e => (evalAs T r e).bind fun ss e => .ok (s :: ss) e := by
  intro a r e
  cases a <;> (simp only [evalAs] <;> rfl)
theorem o_no : ∀ e, evalO T .no e = .ok none e := by
  intros
  first | rfl | (simp only [evalEs, evalBs, evalAs, evalO, evalC, evalT, evalW, exec, execs]; done) | (simp only [evalEs, evalBs, evalAs, evalO, evalC, evalT, evalW, exec, execs] <;> rfl)
theorem o_so : ∀ a e, evalO T (.so a) e = (evalE T a false e).bind fun x e => (asInt x e).bind fun i e => .ok (some i) e := by
  intros
  first | rfl | (simp only [evalEs, evalBs, evalAs, evalO, evalC, evalT, evalW, exec, execs]; done) | (simp only [evalEs, evalBs, evalAs, evalO, evalC, evalT, evalW, exec, execs] <;> rfl)
theorem c_no : ∀ e, evalC T .no e = .ok true e := by
  intros
  first | rfl | (simp only [evalEs, evalBs, evalAs, evalO, evalC, evalT, evalW, exec, execs]; done) | (simp only [evalEs, evalBs, evalAs, evalO, evalC, evalT, evalW, exec, execs] <;> rfl)
theorem c_so : ∀ a e, evalC T (.so a) e = evalT T a e := by
  intros
  first | rfl | (simp only [evalEs, evalBs, evalAs, evalO, evalC, evalT, evalW, exec, execs]; done) | (simp only [evalEs, evalBs, evalAs, evalO, evalC, evalT, evalW, exec, execs] <;> rfl)
theorem t_not : ∀ a e, evalT T (.not a) e = (evalT T a e).bind fun b e => .ok (!b) e := by
  intros
  first | rfl | (simp only [evalEs, evalBs, evalAs, evalO, evalC, evalT, evalW, exec, execs]; done) | (simp only [evalEs, evalBs, evalAs, evalO, evalC, evalT, evalW, exec, execs] <;> rfl)
theorem t_one : ∀ a e, evalT T (.one a) e = evalT T a e := by
  intros
  first | rfl | (simp only [evalEs, evalBs, evalAs, evalO, evalC, evalT, evalW, exec, execs]; done) | (simp only [evalEs, evalBs, evalAs, evalO, evalC, evalT, evalW, exec, execs] <;> rfl)
theorem t_and : ∀ a b e, evalT T (.and a b) e = (evalT T a e).bind fun k e => if k then evalT T b e else .ok false e := by
  intros
  first | rfl | (simp only [evalEs, evalBs, evalAs, evalO, evalC, evalT, evalW, exec, execs]; done) | (simp only [evalEs, evalBs, evalAs, evalO, evalC, evalT, evalW, exec, execs] <;> rfl)
theorem t_or : ∀ a b e, evalT T (.or a b) e = (evalT T a e).bind fun k e => if k then .ok true e else evalT T b e := by
  intros
  first | rfl | (simp only [evalEs, evalBs, evalAs, evalO, evalC, evalT, evalW, exec, execs]; done) | (simp only [evalEs, evalBs, evalAs, evalO, evalC, evalT, evalW, exec, execs] <;> rfl)
theorem t_cmp : ∀ op a b e, evalT T (.cmp op a b) e = (evalE T (.cmp op a b) false e).bind fun x e => asBool x e := by
  intros
  first | rfl | (simp only [evalEs, evalBs, evalAs, evalO, evalC, evalT, evalW, exec, execs]; done) | (simp only [evalEs, evalBs, evalAs, evalO, evalC, evalT, evalW, exec, execs] <;> rfl)
theorem t_chain : ∀ o1 o2 a b c e, evalT T (.chain o1 o2 a b c) e = (evalE T (.chain o1 o2 a b c) false e).bind fun x e => asBool x e := by
  intros
  first | rfl | (simp only [evalEs, evalBs, evalAs, evalO, evalC, evalT, evalW, exec, execs]; done) | (simp only [evalEs, evalBs, evalAs, evalO, evalC, evalT, evalW, exec, execs] <;> rfl)
theorem t_var : ∀ i e, evalT T (.var i) e = (evalE T (.var i) false e).bind fun x e => asBool x e := by
  intros
  first | rfl | (simp only [evalEs, evalBs, evalAs, evalO, evalC, evalT, evalW, exec, execs]; done) | (simp only [evalEs, evalBs, evalAs, evalO, evalC, evalT, evalW, exec, execs] <;> rfl)
theorem t_cst : ∀ i e, evalT T (.cst i) e = (evalE T (.cst i) false e).bind fun x e => asBool x e := by
  intros
  first | rfl | (simp only [evalEs, evalBs, evalAs, evalO, evalC, evalT, evalW, exec, execs]; done) | (simp only [evalEs, evalBs, evalAs, evalO, evalC, evalT, evalW, exec, execs] <;> rfl)
theorem t_call : ∀ f es e, evalT T (.call f es) e = (evalE T (.call f es) false e).bind fun x e => asBool x e := by
  intros
  first | rfl | (simp only [evalEs, evalBs, evalAs, evalO, evalC, evalT, evalW, exec, execs]; done) | (simp only [evalEs, evalBs, evalAs, evalO, evalC, evalT, evalW, exec, execs] <;> rfl)
theorem t_ixv : ∀ i b e, evalT T (.ixv i b) e = (evalE T (.ixv i b) false e).bind fun x e => asBool x e := by
  intros
  first | rfl | (simp only [evalEs, evalBs, evalAs, evalO, evalC, evalT, evalW, exec, execs]; done) | (simp only [evalEs, evalBs, evalAs, evalO, evalC, evalT, evalW, exec, execs] <;> rfl)
theorem t_me : ∀ m r es e, evalT T (.me m r es) e = (evalE T (.me m r es) false e).bind fun x e => asBool x e := by
  intros
  first | rfl | (simp only [evalEs, evalBs, evalAs, evalO, evalC, evalT, evalW, exec, execs]; done) | (simp only [evalEs, evalBs, evalAs, evalO, evalC, evalT, evalW, exec, execs] <;> rfl)
theorem t_ix : ∀ a b e, evalT T (.ix a b) e = (evalE T (.ix a b) false e).bind fun x e => asBool x e := by
  intros
  first | rfl | (simp only [evalEs, evalBs, evalAs, evalO, evalC, evalT, evalW, exec, execs]; done) | (simp only [evalEs, evalBs, evalAs, evalO, evalC, evalT, evalW, exec, execs] <;> rfl)
theorem t_bi : ∀ f es e, evalT T (.bi f es) e = (evalE T (.bi f es) false e).bind fun x e => asBool x e := by
  intros
  first | rfl | (simp only [evalEs, evalBs, evalAs, evalO, evalC, evalT, evalW, exec, execs]; done) | (simp only [evalEs, evalBs, evalAs, evalO, evalC, evalT, evalW, exec, execs] <;> rfl)
theorem t_isin : ∀ a b e, evalT T (.isin a b) e = (evalE T (.isin a b) false e).bind fun x e => asBool x e := by
  intros
  first | rfl | (simp only [evalEs, evalBs, evalAs, evalO, evalC, evalT, evalW, exec, execs]; done) | (simp only [evalEs, evalBs, evalAs, evalO, evalC, evalT, evalW, exec, execs] <;> rfl)
theorem t_gin : ∀ n a b e, evalT T (.gin n a b) e = (evalE T (.gin n a b) false e).bind fun x e => asBool x e := by
  intros
  first | rfl | (simp only [evalEs, evalBs, evalAs, evalO, evalC, evalT, evalW, exec, execs]; done) | (simp only [evalEs, evalBs, evalAs, evalO, evalC, evalT, evalW, exec, execs] <;> rfl)
theorem w_it : ∀ a e, evalW T (.it a) e = (evalE T a false e).bind fun x e => lift (wkD x) e := by
  intros
  first | rfl | (simp only [evalEs, evalBs, evalAs, evalO, evalC, evalT, evalW, exec, execs]; done) | (simp only [evalEs, evalBs, evalAs, evalO, evalC, evalT, evalW, exec, execs] <;> rfl)
theorem w_rev : ∀ a e, evalW T (.rev a) e = (evalE T a false e).bind fun x e => lift ((wkR x).map List.reverse) e := by
  intros
  first | rfl | (simp only [evalEs, evalBs, evalAs, evalO, evalC, evalT, evalW, exec, execs]; done) | (simp only [evalEs, evalBs, evalAs, evalO, evalC, evalT, evalW, exec, execs] <;> rfl)
theorem w_enum : ∀ a e, evalW T (.enum a) e = (evalE T a false e).bind fun x e => lift ((enumD x).map (enumL 0)) e := by
  intros
  first | rfl | (simp only [evalEs, evalBs, evalAs, evalO, evalC, evalT, evalW, exec, execs]; done) | (simp only [evalEs, evalBs, evalAs, evalO, evalC, evalT, evalW, exec, execs] <;> rfl)
theorem w_zip : ∀ a b e, evalW T (.zip a b) e = (evalE T a false e).bind fun x e => still x b.pure ((evalE T b false e).bind fun y e => lift ((zipD x y).map fun p => zipL p.1 p.2) e) := by
  intros
  first | rfl | (simp only [evalEs, evalBs, evalAs, evalO, evalC, evalT, evalW, exec, execs]; done) | (simp only [evalEs, evalBs, evalAs, evalO, evalC, evalT, evalW, exec, execs] <;> rfl)
theorem w_range : ∀ es e, evalW T (.range es) e = if es.len = 0 ∨ 3 < es.len then .bad else (evalEs T es e).bind fun ds e => (match ds with | [.im (.int j)] => if j ≤ 1000000 ∧ -1000000 ≤ j then .ok (rangeL 0 j.toNat) e else .bad | [.im (.int i), .im (.int j)] => if (j ≤ 1000000 ∧ -1000000 ≤ j) ∧ (i ≤ 1000000 ∧ -1000000 ≤ i) then .ok (rangeL i (j - i).toNat) e else .bad | [.im (.int i), .im (.int j), .im (.int c)] => if c = -1 ∧ (j ≤ 1000000 ∧ -1000000 ≤ j) ∧ (i ≤ 1000000 ∧ -1000000 ≤ i) then .ok (rangeS i (-1) (i - j).toNat) e else .bad | _ => .bad) := by
  intros
  first | rfl | (simp only [evalEs, evalBs, evalAs, evalO, evalC, evalT, evalW, exec, execs]; done) | (simp only [evalEs, evalBs, evalAs, evalO, evalC, evalT, evalW, exec, execs] <;> rfl)
theorem s_setv : ∀ i a e, exec T (.setv i a) e = (evalE T a true e).bind fun d e => if i < e.length then .ok .nx (e.set i (.own d)) else .bad := by
  intros
  first | rfl | (simp only [evalEs, evalBs, evalAs, evalO, evalC, evalT, evalW, exec, execs]; done) | (simp only [evalEs, evalBs, evalAs, evalO, evalC, evalT, evalW, exec, execs] <;> rfl)
theorem s_asg : ∀ t a e, exec T (.asg t a) e = (evalE T a true e).bind fun d e => (lift (bindT t d false e) e).bind fun e' _ => .ok .nx e' := by
  intros
  first | rfl | (simp only [evalEs, evalBs, evalAs, evalO, evalC, evalT, evalW, exec, execs]; done) | (simp only [evalEs, evalBs, evalAs, evalO, evalC, evalT, evalW, exec, execs] <;> rfl)
theorem s_unp : ∀ ts a e, exec T (.unp ts a) e = (evalE T a false e).bind fun d e => (lift ((itemsIm d).bind fun xs => bindTs ts (xs.map .im) false e) e).bind fun e' _ => .ok .nx e' := by
  intros
  first | rfl | (simp only [evalEs, evalBs, evalAs, evalO, evalC, evalT, evalW, exec, execs]; done) | (simp only [evalEs, evalBs, evalAs, evalO, evalC, evalT, evalW, exec, execs] <;> rfl)
theorem s_par : ∀ i j a b e, exec T (.par i j a b) e = (evalEs T (.cons a (.cons b .nil)) e).bind fun ds e => (match ds with | [x, y] => if i < e.length ∧ j < e.length then .ok .nx ((e.set i (.own x)).set j (.own y)) else .bad | _ => .bad) := by
  intros
  first | rfl | (simp only [evalEs, evalBs, evalAs, evalO, evalC, evalT, evalW, exec, execs]; done) | (simp only [evalEs, evalBs, evalAs, evalO, evalC, evalT, evalW, exec, execs] <;> rfl)
theorem s_ret : ∀ a e, exec T (.ret a) e = (evalE T a true e).bind fun d e => .ok (.rt d) e := by
  intros
  first | rfl | (simp only [evalEs, evalBs, evalAs, evalO, evalC, evalT, evalW, exec, execs]; done) | (simp only [evalEs, evalBs, evalAs, evalO, evalC, evalT, evalW, exec, execs] <;> rfl)
theorem s_retN : ∀ e, exec T .retN e = .ok (.rt (.im .non)) e := by
  intros
  first | rfl | (simp only [evalEs, evalBs, evalAs, evalO, evalC, evalT, evalW, exec, execs]; done) | (simp only [evalEs, evalBs, evalAs, evalO, evalC, evalT, evalW, exec, execs] <;> rfl)
theorem s_expr : ∀ a e, exec T (.expr a) e = (evalE T a false e).bind fun _ e => .ok .nx e := by
  intros
  first | rfl | (simp only [evalEs, evalBs, evalAs, evalO, evalC, evalT, evalW, exec, execs]; done) | (simp only [evalEs, evalBs, evalAs, evalO, evalC, evalT, evalW, exec, execs] <;> rfl)
theorem s_doc : ∀ e, exec T .doc e = .ok .nx e := by
  intros
  first | rfl | (simp only [evalEs, evalBs, evalAs, evalO, evalC, evalT, evalW, exec, execs]; done) | (simp only [evalEs, evalBs, evalAs, evalO, evalC, evalT, evalW, exec, execs] <;> rfl)
theorem s_pass : ∀ e, exec T .pass e = .ok .nx e := by
  intros
  first | rfl | (simp only [evalEs, evalBs, evalAs, evalO, evalC, evalT, evalW, exec, execs]; done) | (simp only [evalEs, evalBs, evalAs, evalO, evalC, evalT, evalW, exec, execs] <;> rfl)
theorem s_brk : ∀ e, exec T .brk e = .ok .bk e := by
  intros
  first | rfl | (simp only [evalEs, evalBs, evalAs, evalO, evalC, evalT, evalW, exec, execs]; done) | (simp only [evalEs, evalBs, evalAs, evalO, evalC, evalT, evalW, exec, execs] <;> rfl)
theorem s_cont : ∀ e, exec T .cont e = .ok .ct e := by
  intros
  first | rfl | (simp only [evalEs, evalBs, evalAs, evalO, evalC, evalT, evalW, exec, execs]; done) | (simp only [evalEs, evalBs, evalAs, evalO, evalC, evalT, evalW, exec, execs] <;> rfl)
theorem s_ifs : ∀ c a b e, exec T (.ifs c a b) e = (evalT T c e).bind fun k e => if k then execs T a e else execs T b e := by
  intros
  first | rfl | (simp only [evalEs, evalBs, evalAs, evalO, evalC, evalT, evalW, exec, execs]; done) | (simp only [evalEs, evalBs, evalAs, evalO, evalC, evalT, evalW, exec, execs] <;> rfl)
theorem s_raise : ∀ c es e, exec T (.raise c es) e = if T.ec.contains c then (evalEs T es e).bind fun ds e => (match ds with | [.im x] => .exc c x (.int 0) e | [.im x, .im y] => .exc c x y e | _ => .bad) else .bad := by
  intros
  first | rfl | (simp only [evalEs, evalBs, evalAs, evalO, evalC, evalT, evalW, exec, execs]; done) | (simp only [evalEs, evalBs, evalAs, evalO, evalC, evalT, evalW, exec, execs] <;> rfl)
theorem s_try : ∀ b c v h e, exec T (.tryx b c v h) e = if T.ec.contains c && vOk v e then (match execs T b e with | .exc cc x y e' => if cc == c then runH h x y (clearV v e') else .bad | o => o) else .bad := by
  intros
  first | rfl | (simp only [evalEs, evalBs, evalAs, evalO, evalC, evalT, evalW, exec, execs]; done) | (simp only [evalEs, evalBs, evalAs, evalO, evalC, evalT, evalW, exec, execs] <;> rfl)
theorem s_swap : ∀ i p q e, exec T (.swapix i p q) e = match e[i]? with | some (.own (.lst xs)) => (match evalE T q false (e.set i .no), evalE T p false (e.set i .no) with | .ok (.im (.int n)) _, .ok (.im (.int m)) _ => (match ixN xs.length m, ixN xs.length n with | some j, some k => if p.pure && q.pure then .ok .nx (e.set i (.own (.lst (swapL xs j k)))) else .bad | _, _ => .bad) | _, _ => .bad) | _ => .bad := by
  intros
  first | rfl | (simp only [evalEs, evalBs, evalAs, evalO, evalC, evalT, evalW, exec, execs]; done) | (simp only [evalEs, evalBs, evalAs, evalO, evalC, evalT, evalW, exec, execs] <;> rfl)
theorem s_setix : ∀ i p a e, exec T (.setix i (.cons p .nil) a) e = (evalE T a true e).bind fun v e => (match e[i]? with | some (.own (.im _)) => .bad | some (.own _) => (evalE T p false e).bind fun k e => (match e[i]? with | some (.own d) => (match setD d k v with | some d' => .ok .nx (e.set i (.own d')) | none => .bad) | _ => .bad) | _ => .bad) := by
  intros
  first | rfl | (simp only [evalEs, evalBs, evalAs, evalO, evalC, evalT, evalW, exec, execs]; done) | (simp only [evalEs, evalBs, evalAs, evalO, evalC, evalT, evalW, exec, execs] <;> rfl)
theorem ss_nil : ∀ e, execs T .nil e = .ok .nx e := by
  intros
  first | rfl | (simp only [evalEs, evalBs, evalAs, evalO, evalC, evalT, evalW, exec, execs]; done) | (simp only [evalEs, evalBs, evalAs, evalO, evalC, evalT, evalW, exec, execs] <;> rfl)
theorem ss_cons : ∀ s r e, execs T (.cons s r) e = match exec T s e with | .ok .nx e => execs T r e | o => o := by
  intros
  first | rfl | (simp only [evalEs, evalBs, evalAs, evalO, evalC, evalT, evalW, exec, execs]; done) | (simp only [evalEs, evalBs, evalAs, evalO, evalC, evalT, evalW, exec, execs] <;> rfl)
end Kh.Ro
namespace Kh
open PySem L2
abbrev argS := @Kh.Ro.argS
variable {T : Tab}
theorem lc_eq {w : Wk} {tg : Tg} {own : List (Str × Nat)} {c : Eo} {elt : E} {b : Bool} {e e1 e2 : En} {xs ys : List D} (hw : evalW T w e = .ok xs e1) (hl : xs.length ≤ big)
    (hg : lcGo (lcT T tg (own.map (·.2)) c elt) xs (clear (own.map (·.2)) (lockAll w.src e1)) = .ok ys e2) : evalE T (.lc w tg own c elt) b e = .ok (.lst ys) (settle e1 w.src (own.map (·.2)) (own.map (·.2)) e2) := by
  simp only [evalE, hw, Ro.b_ok, hl, if_true]
  show (lcGo (lcT T tg (own.map (·.2)) c elt) xs (clear (own.map (·.2)) (lockAll w.src e1))).bind _ = _
  rw [hg]
  rfl
theorem for_eq {w : Wk} {t : Tg} {dead : List Nat} {body : Ss} {e e1 : En} {xs : List D} (hw : evalW T w e = .ok xs e1) : exec T (.fors w t dead body) e = settleF e1 w.src (t.slots ++ body.stores) (forGo (forT T t dead body) xs (clear dead (lockAll w.src e1))) := by
  simp only [exec, hw, Ro.b_ok]
  rfl
theorem lc_to {w : Wk} {tg : Tg} {own : List (Str × Nat)} {c : Eo} {elt : E} {b : Bool} {e e0 e1 e2 e3 : En} {xs ys : List D} {vs : List Nat} (hv : own.map (·.2) = vs) (hw : evalW T w e = .ok xs e1) (hl : xs.length ≤ big) (h0 : clear vs (lockAll w.src e1) = e0)
    (hg : lcGo (lcT T tg vs c elt) xs e0 = .ok ys e2) (h3 : Kh.settle e1 w.src vs vs e2 = e3) : evalE T (.lc w tg own c elt) b e = .ok (.lst ys) e3 := by
  subst hv h0 h3
  exact lc_eq hw hl hg
theorem for_to {w : Wk} {t : Tg} {dead st : List Nat} {body : Ss} {e e0 e1 e2 e3 : En} {xs : List D} {f : Fl} (hs : t.slots ++ body.stores = st) (hw : evalW T w e = .ok xs e1) (h0 : clear dead (lockAll w.src e1) = e0) (hg : forGo (forT T t dead body) xs e0 = .ok f e2) (h3 : Kh.settle e1 w.src st [] e2 = e3) :
    exec T (.fors w t dead body) e = .ok f e3 := by
  subst hs h0 h3
  rw [for_eq hw, hg]
  rfl
theorem while_eq {a : E} {dead : List Nat} {body : Ss} {e : En} : exec T (.whiles a dead body) e = whileGo (evalT T a) (fun e => stepClear dead (execs T body e)) e := by
  simp only [exec]
end Kh

set_option Elab.async false
set_option linter.all false
set_option maxRecDepth 100000
set_option maxHeartbeats 2000000
/-! running a datum: steps, calls, loops -/
namespace Kh
open PySem L2
abbrev int (n : Int) : D := .im (.int n)
abbrev oI (n : Int) : Slot := .own (.im (.int n))
theorem seq_nx {T : Tab} {s : S} {r : Ss} {e e' : En} (h : exec T s e = .ok .nx e') : execs T (.cons s r) e = execs T r e' := by
  rw [Ro.ss_cons, h]
theorem seq_rt {T : Tab} {s : S} {r : Ss} {e e' : En} {d : D} (h : exec T s e = .ok (.rt d) e') : execs T (.cons s r) e = .ok (.rt d) e' := by
  rw [Ro.ss_cons, h]
theorem seq_exc {T : Tab} {s : S} {r : Ss} {e e' : En} {c : Str} {x y : I} (h : exec T s e = .exc c x y e') : execs T (.cons s r) e = .exc c x y e' := by
  rw [Ro.ss_cons, h]
theorem seq_bk {T : Tab} {s : S} {r : Ss} {e e' : En} (h : exec T s e = .ok .bk e') : execs T (.cons s r) e = .ok .bk e' := by
  rw [Ro.ss_cons, h]
theorem seq_ct {T : Tab} {s : S} {r : Ss} {e e' : En} (h : exec T s e = .ok .ct e') : execs T (.cons s r) e = .ok .ct e' := by
  rw [Ro.ss_cons, h]
theorem if_t {T : Tab} {c : E} {a b : Ss} {e e' : En} (h : evalT T c e = .ok true e') : exec T (.ifs c a b) e = execs T a e' := by
  rw [Ro.s_ifs, h]
  rfl
theorem if_f {T : Tab} {c : E} {a b : Ss} {e e' : En} (h : evalT T c e = .ok false e') : exec T (.ifs c a b) e = execs T b e' := by
  rw [Ro.s_ifs, h]
  rfl
theorem if_d {T : Tab} {c : E} {a b : Ss} {e e' : En} {k : Bool} (h : evalT T c e = .ok k e') : exec T (.ifs c a b) e = if k then execs T a e' else execs T b e' := by
  rw [Ro.s_ifs, h]
  rfl
theorem nil_nx {T : Tab} {e : En} : execs T .nil e = .ok .nx e := Ro.ss_nil e
/-- an if with nothing behind it, not taken -/
theorem if_nx {T : Tab} {c : E} {a : Ss} {e e' : En} (h : evalT T c e = .ok false e') : exec T (.ifs c a .nil) e = .ok .nx e' := (if_f h).trans nil_nx
theorem setv_nx {T : Tab} {i : Nat} {a : E} {e e' : En} {d : D} (h : evalE T a true e = .ok d e') (hi : i < e'.length) : exec T (.setv i a) e = .ok .nx (e'.set i (.own d)) := by
  rw [Ro.s_setv, h]
  simp only [Ro.b_ok, hi, if_true]
theorem ret_rt {T : Tab} {a : E} {e e' : En} {d : D} (h : evalE T a true e = .ok d e') : exec T (.ret a) e = .ok (.rt d) e' := by
  rw [Ro.s_ret, h]
  rfl
theorem sem_rt {T : Tab} {d : Fd} {as : List Slot} {v : D} {e : En} (hl : as.length = d.ps) (h : execs T d.body (as ++ List.replicate (d.n - d.ps) .no) = .ok (.rt v) e) : d.sem T as = .ok v ((Kh.clear d.body.stores e).take d.ps) := by
  simp only [Fd.sem, hl, if_true, h]
theorem sem_nx {T : Tab} {d : Fd} {as : List Slot} {e : En} (hl : as.length = d.ps) (h : execs T d.body (as ++ List.replicate (d.n - d.ps) .no) = .ok .nx e) : d.sem T as = .ok (.im .non) ((Kh.clear d.body.stores e).take d.ps) := by
  simp only [Fd.sem, hl, if_true, h]
theorem sem_exc {T : Tab} {d : Fd} {as : List Slot} {c : Str} {x y : I} {e : En} (hl : as.length = d.ps) (h : execs T d.body (as ++ List.replicate (d.n - d.ps) .no) = .exc c x y e) : d.sem T as = .exc c x y [] := by
  simp only [Fd.sem, hl, if_true, h]
/-! ### places -/
theorem set_no {e : En} {i : Nat} (h : e[i]? = some .no) : e.set i .no = e := by
  apply List.ext_getElem?
  intro j
  by_cases q : i = j
  · subst q
    obtain ⟨z, _⟩ := List.getElem?_eq_some_iff.mp h
    rw [List.getElem?_set_self z, h]
  · rw [List.getElem?_set_ne q]
theorem settle_id {e : En} {src own : List Nat} (h : ∀ i ∈ own, ∀ s, e[i]? = some s → s = .no) : Kh.settle e src own own e = e := by
  apply List.ext_getElem?
  intro i
  unfold Kh.settle
  rw [settleGo_get]
  cases q : e[i]? with
  | none => rfl
  | some s =>
    simp only [Nat.zero_add]
    congr 1
    split
    · rfl
    · split
      · rename_i m
        rw [h i (List.contains_iff_mem.mp m) s q]
        rfl
      · rename_i m
        cases s with
        | bor d => simp only [m, Bool.false_eq_true, if_false]; rfl
        | no => rfl
        | own d => rfl
/-! ### calls with data that never changes -/
abbrev ois (xs : List I) : List Slot := xs.map fun x => .own (.im x)
theorem giveBack_none : ∀ {n : Nat} {fin : List Slot} {e : En}, fin.length = n → giveBack (List.replicate n none) fin e = some e
  | 0, [], _, _ => rfl
  | n + 1, _ :: fs, e, h => by
    rw [List.replicate_succ]
    exact giveBack_none (n := n) (fin := fs) (by simpa using h)
theorem callF_im {f : Fn} {xs : List I} {e : En} {v : D} {fin : List Slot} (h : f (ois xs) = .ok v fin) (hl : fin.length = xs.length) : callF f (xs.map fun x => (Slot.own (.im x), none)) e = .ok v e := by
  have h1 : (xs.map fun x => (Slot.own (.im x), (none : Option Nat))).map (·.1) = ois xs := by simp [Function.comp_def]
  have h2 : (xs.map fun x => (Slot.own (.im x), (none : Option Nat))).map (·.2) = List.replicate xs.length none := by simp [Function.comp_def, List.map_const']
  simp only [callF, h1, h, h2, giveBack_none hl]
theorem callF_exc {f : Fn} {xs : List I} {e : En} {c : Str} {x y : I} {fin : List Slot} (h : f (ois xs) = .exc c x y fin) : callF f (xs.map fun x => (Slot.own (.im x), none)) e = .exc c x y e := by
  have h1 : (xs.map fun x => (Slot.own (.im x), (none : Option Nat))).map (·.1) = ois xs := by simp [Function.comp_def]
  simp only [callF, h1, h]
theorem call_im {T : Tab} {f : Str} {g : Fn} {es : Es} {w : Bool} {e e' : En} {xs : List I} {v : D} {fin : List Slot} (hf : T.fn f = some g) (ha : evalAs T es e = .ok (xs.map fun x => (Slot.own (.im x), none)) e') (h : g (ois xs) = .ok v fin) (hl : fin.length = xs.length) : evalE T (.call f es) w e = .ok v e' := by
  rw [Ro.e_call, hf]
  simp only [ha, Ro.b_ok, callF_im h hl]
theorem call_imx {T : Tab} {f : Str} {g : Fn} {es : Es} {w : Bool} {e e' : En} {xs : List I} {c : Str} {x y : I} {fin : List Slot} (hf : T.fn f = some g) (ha : evalAs T es e = .ok (xs.map fun x => (Slot.own (.im x), none)) e') (h : g (ois xs) = .exc c x y fin) : evalE T (.call f es) w e = .exc c x y e' := by
  rw [Ro.e_call, hf]
  simp only [ha, Ro.b_ok, callF_exc h]
/-! ### loops -/
/-- a loop that may break -/
def runB {σ : Type} (done : σ → Bool) (step : σ → σ) : Nat → σ → σ
  | 0, s => s
  | n + 1, s => if done s then s else runB done step n (step s)
theorem forGo_brk {σ : Type} {turn : D → En → Out Fl} (E : σ → En) (done : σ → Bool) (step : σ → σ) (Inv : σ → Prop) : ∀ (xs : List D) (s : σ), Inv s →
    (∀ d ∈ xs, ∀ s, Inv s → (done s = true → turn d (E s) = .ok .bk (E s)) ∧ (done s = false → turn d (E s) = .ok .nx (E (step s)) ∧ Inv (step s))) → forGo turn xs (E s) = .ok .nx (E (runB done step xs.length s))
  | [], s, _, _ => rfl
  | d :: ds, s, i, h => by
    obtain ⟨h1, h2⟩ := h d List.mem_cons_self s i
    unfold forGo
    rw [List.length_cons, runB]
    cases q : done s with
    | true =>
      rw [h1 q]
      simp
    | false =>
      obtain ⟨h3, h4⟩ := h2 q
      rw [h3]
      simp only [Bool.false_eq_true, if_false]
      exact forGo_brk E done step Inv ds (step s) h4 fun d m => h d (List.mem_cons_of_mem _ m)
/-- a loop's turns one by one, a state behind each; the items may be any -/
theorem forGo_run {σ : Type} {turn : D → En → Out Fl} (E : σ → En) (R : List D → σ → σ → Prop) (nil : ∀ s, R [] s s) (step : ∀ d ds s, ∃ s', (turn d (E s) = .ok .nx (E s') ∨ turn d (E s) = .ok .ct (E s')) ∧ ∀ s2, R ds s' s2 → R (d :: ds) s s2) : ∀ (xs : List D) (s : σ), ∃ s', forGo turn xs (E s) = .ok .nx (E s') ∧ R xs s s'
  | [], s => ⟨s, rfl, nil s⟩
  | d :: ds, s => by
    obtain ⟨s1, h1, h2⟩ := step d ds s
    obtain ⟨s2, h3, h4⟩ := forGo_run E R nil step ds s1
    refine ⟨s2, ?_, h2 s2 h4⟩
    unfold forGo
    rcases h1 with h1 | h1 <;> rw [h1] <;> exact h3
/-- a loop of n turns under an invariant that may give True early or return -/
theorem forGo_inv {turn : D → En → Out Fl} (Inv : List D → En → Prop) (Rt : D → En → Prop) : ∀ (xs : List D) (e : En), Inv xs e →
    (∀ d ds e, Inv (d :: ds) e → (∃ e', (turn d e = .ok .nx e' ∨ turn d e = .ok .ct e') ∧ Inv ds e') ∨ ∃ v e', turn d e = .ok (.rt v) e' ∧ Rt v e') → (∃ e', forGo turn xs e = .ok .nx e' ∧ Inv [] e') ∨ ∃ v e', forGo turn xs e = .ok (.rt v) e' ∧ Rt v e'
  | [], e, i, _ => .inl ⟨e, rfl, i⟩
  | d :: ds, e, i, h => by
    unfold forGo
    rcases h d ds e i with ⟨e1, h1, h2⟩ | ⟨v, e1, h1, h2⟩
    · rcases h1 with h1 | h1 <;> rw [h1] <;> exact forGo_inv Inv Rt ds e1 h2 h
    · rw [h1]
      exact .inr ⟨v, e1, rfl, h2⟩
theorem whileN_mono {test : En → Out Bool} {body : En → Out Fl} : ∀ {n m : Nat} {e : En}, whileN test body n e ≠ .bad → n ≤ m → whileN test body m e = whileN test body n e
  | 0, _, _, h, _ => absurd rfl h
  | n + 1, 0, _, _, l => absurd l (by omega)
  | n + 1, m + 1, e, h, l => by
    unfold whileN at h ⊢
    cases q : test e with
    | exc c x y e => rfl
    | bad => rfl
    | ok b e1 =>
      rw [q] at h
      cases b with
      | false => rfl
      | true =>
        simp only at h ⊢
        cases q2 : body e1 with
        | exc c x y e => rfl
        | bad => rfl
        | ok f e2 =>
          rw [q2] at h
          cases f with
          | nx => exact whileN_mono h (by omega)
          | ct => exact whileN_mono h (by omega)
          | bk => rfl
          | rt d => rfl
theorem whileGo_of {test : En → Out Bool} {body : En → Out Fl} {n : Nat} {e : En} {o : Out Fl} (h : whileN test body n e = o) (ho : o ≠ .bad) : whileGo test body e = o := by
  have hx : ∃ n, whileN test body n e ≠ .bad := ⟨n, h ▸ ho⟩
  unfold whileGo
  rw [dif_pos hx]
  have h1 := Classical.choose_spec hx
  rcases Nat.le_total (Classical.choose hx) n with l | l
  · rw [← whileN_mono h1 l, h]
  · rw [whileN_mono (h ▸ ho) l, h]
/-- a while loop by a state that steps n times -/
theorem whileN_st {σ : Type} {test : En → Out Bool} {body : En → Out Fl} (E : σ → En) (go : σ → Bool) (step : σ → σ) (Inv : σ → Prop) (h : ∀ s, Inv s → test (E s) = .ok (go s) (E s) ∧ (go s = true → body (E s) = .ok .nx (E (step s)) ∧ Inv (step s))) : ∀ (n : Nat) (s : σ), Inv s → go (runB (fun s => !go s) step n s) = false → whileN test body (n + 1) (E s) = .ok .nx (E (runB (fun s => !go s) step n s))
  | n, s, i, hd => by
    obtain ⟨h1, h2⟩ := h s i
    unfold whileN
    rw [h1]
    cases q : go s with
    | false =>
      cases n with
      | zero => rfl
      | succ n => simp [runB, q]
    | true =>
      obtain ⟨h3, h4⟩ := h2 q
      simp only [h3]
      cases n with
      | zero => simp [runB, q] at hd
      | succ n =>
        have e1 : runB (fun s => !go s) step (n + 1) s = runB (fun s => !go s) step n (step s) := by simp [runB, q]
        rw [e1] at hd ⊢
        exact whileN_st E go step Inv h n (step s) h4 hd
theorem while_st {T : Tab} {a : E} {dead : List Nat} {body : Ss} {σ : Type} (E : σ → En) (go : σ → Bool) (step : σ → σ) (Inv : σ → Prop) {n : Nat} {s : σ} (i : Inv s) (h : ∀ s, Inv s → evalT T a (E s) = .ok (go s) (E s) ∧ (go s = true → stepClear dead (execs T body (E s)) = .ok .nx (E (step s)) ∧ Inv (step s))) (hd : go (runB (fun s => !go s) step n s) = false) : exec T (.whiles a dead body) (E s) = .ok .nx (E (runB (fun s => !go s) step n s)) := by
  rw [while_eq]
  exact whileGo_of (whileN_st E go step Inv h n s i hd) fun z => nomatch z
/-! ### data -/
theorem ims_int (l : List Int) : ims (l.map fun n => D.im (.int n)) = some (l.map .int) := by
  induction l with
  | nil => rfl
  | cons a r ih => simp [ims, ih]
theorem intsOf_int (l : List Int) : intsOf (l.map .int) = some l := by
  induction l with
  | nil => rfl
  | cons a r ih => simp [intsOf, ih]
theorem ims_im (l : List I) : ims (l.map .im) = some l := by
  induction l with
  | nil => rfl
  | cons a r ih => simp [ims, ih]
theorem rangeL_map (n : Nat) : rangeL 0 n = (List.range n).map fun (i : Nat) => D.im (.int (i : Int)) := by
  simp [rangeL]
theorem log_lt {x b : Nat} (h : x < 2 ^ b) (hb : 0 < b) : x.log2 < b := by
  rcases Nat.eq_zero_or_pos x with rfl | hx
  · simpa using hb
  · exact (Nat.log2_lt (by omega)).mpr h
theorem log_le {x b : Nat} (h : x < 2 ^ b) : x.log2 ≤ b := by
  rcases Nat.eq_zero_or_pos b with rfl | hb
  · have : x = 0 := by omega
    subst this
    decide
  · exact Nat.le_of_lt (log_lt h hb)
end Kh

set_option Elab.async false
set_option linter.all false
set_option maxRecDepth 100000
set_option maxHeartbeats 4000000
namespace Kh
open PySem L2
/-! what every law draws: the same defs in all laws -/
/-! ### what the law draws -/
def fTake : Fd := ⟨2, 4,
  (.cons (.ifs (.and (.cmp .eq (.ix (.var 0) (.cst (.int 2))) (.cst (.int 0))) (.one (.cmp .lt (.ix (.var 0) (.cst (.int 1))) (.bi .len (.cons (.ix (.var 0) (.cst (.int 0))) .nil)))))
   (.cons (.setix 0 (.cons (.cst (.int 2)) .nil) (.bi .abs (.cons (.bi .int (.cons (.ix (.ix (.var 0) (.cst (.int 0))) (.ix (.var 0) (.cst (.int 1)))) .nil)) .nil)))
   (.cons (.setix 0 (.cons (.cst (.int 1)) .nil) (.bin .add (.ix (.var 0) (.cst (.int 1))) (.cst (.int 1))))
   (.cons (.ifs (.cmp .lt (.ix (.var 0) (.cst (.int 2))) (.bin .pow (.cst (.int 10)) (.cst (.int 18))))
    (.cons (.setv 2 (.bi .int (.cons (.ix (.var 0) (.cst (.int 2))) .nil)))
    (.cons (.setix 0 (.cons (.cst (.int 2)) .nil) (.cst (.int 0)))
    (.cons (.ret (.bin .mod (.var 2) (.var 1)))
    .nil)))
    .nil)
   .nil)))
   .nil)
  (.cons (.ifs (.cmp .gt (.ix (.var 0) (.cst (.int 2))) (.cst (.int 0)))
   (.cons (.setv 3 (.bin .mod (.bi .int (.cons (.ix (.var 0) (.cst (.int 2))) .nil)) (.var 1)))
   (.cons (.setix 0 (.cons (.cst (.int 2)) .nil) (.bin .fdiv (.bi .int (.cons (.ix (.var 0) (.cst (.int 2))) .nil)) (.var 1)))
   (.cons (.ret (.var 3))
   .nil)))
   .nil)
  (.cons (.setix 0 (.cons (.cst (.int 3)) .nil) (.bin .mod (.bi .int (.cons (.bin .add (.bin .mul (.ix (.var 0) (.cst (.int 3))) (.cst (.int 48271))) (.cst (.int 11))) .nil)) (.cst (.int 2147483647))))
  (.cons (.ret (.bin .mod (.bi .int (.cons (.bin .fdiv (.ix (.var 0) (.cst (.int 3))) (.cst (.int 3))) .nil)) (.var 1)))
  .nil))))⟩
def fBegin : Fd := ⟨1, 3,
  (.cons (.setv 1 (.cst (.int 1)))
  (.cons (.fors (.it (.var 0)) (.name 2) [2]
   (.cons (.setv 1 (.bin .mod (.bin .add (.bin .add (.bin .mul (.var 1) (.cst (.int 69621))) (.bin .mod (.bi .int (.cons (.var 2) .nil)) (.cst (.int 2147483629)))) (.cst (.int 7))) (.cst (.int 2147483647))))
   .nil))
  (.cons (.ret (.lst (.cons (.bi .list (.cons (.var 0) .nil)) (.cons (.cst (.int 0)) (.cons (.cst (.int 0)) (.cons (.var 1) .nil))))))
  .nil)))⟩
def fSign : Fd := ⟨1, 1,
  (.cons (.ret (.bin .sub (.cst (.int 1)) (.bin .mul (.cst (.int 2)) (.call "_law_take" (.cons (.var 0) (.cons (.cst (.int 2)) .nil))))))
  .nil)⟩
def fPick : Fd := ⟨2, 2,
  (.cons (.ret (.ixv 1 (.call "_law_take" (.cons (.var 0) (.cons (.bi .len (.cons (.var 1) .nil)) .nil)))))
  .nil)⟩
structure St where
  ns : List Int
  pos : Int
  rest : Int
  seed : Int
abbrev stD (s : St) : D := .lst [.lst (s.ns.map fun n => .im (.int n)), int s.pos, int s.rest, int s.seed]
structure StOk (s : St) : Prop where
  pos : 0 ≤ s.pos
  rest : 0 ≤ s.rest
  seed : 0 ≤ s.seed
  sb : s.seed < 2147483647
  len : s.ns.length ≤ 63
theorem at4 {α : Type} (a b c d : α) : atI [a, b, c, d] 0 = some a ∧ atI [a, b, c, d] 1 = some b ∧ atI [a, b, c, d] 2 = some c ∧ atI [a, b, c, d] 3 = some d := ⟨rfl, rfl, rfl, rfl⟩
theorem ix4 : ixN 4 0 = some 0 ∧ ixN 4 1 = some 1 ∧ ixN 4 2 = some 2 ∧ ixN 4 3 = some 3 := ⟨rfl, rfl, rfl, rfl⟩
/-- behind the first test: what is left is taken, or a number is made -/
theorem take_rest {T : Tab} {s : St} {m : Int} {x : Slot} (ok : StOk s) (hm : 0 < m) (hb : m.natAbs < 2 ^ 250) : ∃ v s' x' y', execs T (.cons (.ifs (.cmp .gt (.ix (.var 0) (.cst (.int 2))) (.cst (.int 0)))
   (.cons (.setv 3 (.bin .mod (.bi .int (.cons (.ix (.var 0) (.cst (.int 2))) .nil)) (.var 1)))
   (.cons (.setix 0 (.cons (.cst (.int 2)) .nil) (.bin .fdiv (.bi .int (.cons (.ix (.var 0) (.cst (.int 2))) .nil)) (.var 1)))
   (.cons (.ret (.var 3))
   .nil)))
   .nil)
  (.cons (.setix 0 (.cons (.cst (.int 3)) .nil) (.bin .mod (.bi .int (.cons (.bin .add (.bin .mul (.ix (.var 0) (.cst (.int 3))) (.cst (.int 48271))) (.cst (.int 11))) .nil)) (.cst (.int 2147483647))))
  (.cons (.ret (.bin .mod (.bi .int (.cons (.bin .fdiv (.ix (.var 0) (.cst (.int 3))) (.cst (.int 3))) .nil)) (.var 1)))
  .nil))) [.own (stD s), .own (int m), x, .no] = .ok (.rt (int v)) [.own (stD s'), .own (int m), x', y'] ∧ 0 ≤ v ∧ v < m ∧ StOk s' := by
  obtain ⟨ns, pos, rest, seed⟩ := s
  obtain ⟨h1, h2, h3, h4, h5⟩ := ok
  simp only at h1 h2 h3 h4 h5
  have hlog : m.natAbs.log2 < 9000 := Nat.lt_trans (log_lt hb (by decide)) (by decide)
  have hs : seed.natAbs.log2 + 15 < 1000000 := by
    have := log_lt (x := seed.natAbs) (b := 31) (by omega) (by decide)
    omega
  have hl : Nat.log2 48271 = 15 := by decide
  have hl3 : Nat.log2 3 = 1 := by decide
  by_cases c : 0 < rest
  · refine ⟨rest % m, ⟨ns, pos, rest / m, seed⟩, x, .own (int (rest % m)), ?_, Int.emod_nonneg _ (by omega), Int.emod_lt_of_pos _ hm, ⟨h1, Int.ediv_nonneg h2 (by omega), h3, h4, h5⟩⟩
    simp [at4, ix4, c, hm, hlog, Ro.b_ok, Ro.b_exc, Ro.b_bad, Ro.a_var, Ro.e_var, Ro.e_cst, Ro.e_glob, Ro.e_tup, Ro.e_lst, Ro.e_dnew, Ro.e_bin, Ro.e_neg, Ro.e_not, Ro.e_cmp, Ro.e_chain, Ro.e_one, Ro.e_and, Ro.e_or, Ro.e_ite, Ro.e_ix, Ro.e_sl, Ro.e_ixv, Ro.e_slv, Ro.e_rev, Ro.e_lrange, Ro.e_disp, Ro.e_dispD, Ro.e_gin, Ro.e_gix, Ro.e_gcd, Ro.e_isin, Ro.e_call, Ro.e_bi1, Ro.e_bi2, Ro.e_get, Ro.e_index, Ro.e_count, Ro.e_join, Ro.e_split, Ro.e_mut, Ro.a_cst, Ro.a_glob, Ro.a_tup, Ro.a_lst, Ro.a_bin, Ro.a_neg, Ro.a_ite, Ro.a_ix, Ro.a_sl, Ro.a_rev, Ro.a_ixv, Ro.a_slv, Ro.a_lrange, Ro.a_disp, Ro.a_dispD, Ro.a_gix, Ro.a_gcd, Ro.a_isin, Ro.a_call, Ro.a_bi, Ro.a_me, Ro.a_cmp, Ro.a_mut, Ro.a_lc, Ro.a_and, Ro.a_or, Ro.a_not, Ro.a_one, Ro.a_chain, Ro.a_dnew, Ro.es_nil, Ro.es_cons, Ro.bs_nil, Ro.bs_cons, Ro.as_nil, Ro.as_cons, Ro.o_no, Ro.o_so, Ro.c_no, Ro.c_so, Ro.t_not, Ro.t_one, Ro.t_and, Ro.t_or, Ro.t_cmp, Ro.t_chain, Ro.t_var, Ro.t_cst, Ro.t_call, Ro.t_ixv, Ro.t_me, Ro.t_ix, Ro.t_bi, Ro.t_isin, Ro.t_gin, Ro.w_it, Ro.w_rev, Ro.w_enum, Ro.w_zip, Ro.w_range, Ro.s_setv, Ro.s_asg, Ro.s_unp, Ro.s_par, Ro.s_ret, Ro.s_retN, Ro.s_expr, Ro.s_doc, Ro.s_pass, Ro.s_brk, Ro.s_cont, Ro.s_ifs, Ro.s_raise, Ro.s_try, Ro.s_swap, Ro.s_setix, Ro.ss_nil, Ro.ss_cons, lift, readS, lendS, still, needIm, asInt, asBool, asIm, binD, binI, cmpD, cmpI, ixD, slD, ixV, List.isEmpty, revD, biD, meD, meOk, mxD, mxOk, mutD, Mm.sup, Mm.sd, sdO, setD, wkD, wkR, mkTup, ims, D.isIm, E.pure, Es.pure, Eo.pure, E.src, Wk.src, keepS, bindT, bindTs, Kh.clear, lockAll, Kh.settle, settleGo, Slot.isOwnMut, Slot.imOf, Slot.borOf, giveBack, callF, stepClear, settleF, Out.nx, Ss.stores, Kh.S.stores, Tg.slots, Tgs.slots, Es.len, itemsIm, enumD, zipD, vOk, clearV, runH, evalH, imAt, eqI]
  · refine ⟨(seed * 48271 + 11) % 2147483647 / 3 % m, ⟨ns, pos, rest, (seed * 48271 + 11) % 2147483647⟩, x, .no, ?_, Int.emod_nonneg _ (by omega), Int.emod_lt_of_pos _ hm, ⟨h1, h2, Int.emod_nonneg _ (by omega), Int.emod_lt_of_pos _ (by omega), h5⟩⟩
    simp [at4, ix4, c, hm, hs, hl, hl3, Ro.b_ok, Ro.b_exc, Ro.b_bad, Ro.a_var, Ro.e_var, Ro.e_cst, Ro.e_glob, Ro.e_tup, Ro.e_lst, Ro.e_dnew, Ro.e_bin, Ro.e_neg, Ro.e_not, Ro.e_cmp, Ro.e_chain, Ro.e_one, Ro.e_and, Ro.e_or, Ro.e_ite, Ro.e_ix, Ro.e_sl, Ro.e_ixv, Ro.e_slv, Ro.e_rev, Ro.e_lrange, Ro.e_disp, Ro.e_dispD, Ro.e_gin, Ro.e_gix, Ro.e_gcd, Ro.e_isin, Ro.e_call, Ro.e_bi1, Ro.e_bi2, Ro.e_get, Ro.e_index, Ro.e_count, Ro.e_join, Ro.e_split, Ro.e_mut, Ro.a_cst, Ro.a_glob, Ro.a_tup, Ro.a_lst, Ro.a_bin, Ro.a_neg, Ro.a_ite, Ro.a_ix, Ro.a_sl, Ro.a_rev, Ro.a_ixv, Ro.a_slv, Ro.a_lrange, Ro.a_disp, Ro.a_dispD, Ro.a_gix, Ro.a_gcd, Ro.a_isin, Ro.a_call, Ro.a_bi, Ro.a_me, Ro.a_cmp, Ro.a_mut, Ro.a_lc, Ro.a_and, Ro.a_or, Ro.a_not, Ro.a_one, Ro.a_chain, Ro.a_dnew, Ro.es_nil, Ro.es_cons, Ro.bs_nil, Ro.bs_cons, Ro.as_nil, Ro.as_cons, Ro.o_no, Ro.o_so, Ro.c_no, Ro.c_so, Ro.t_not, Ro.t_one, Ro.t_and, Ro.t_or, Ro.t_cmp, Ro.t_chain, Ro.t_var, Ro.t_cst, Ro.t_call, Ro.t_ixv, Ro.t_me, Ro.t_ix, Ro.t_bi, Ro.t_isin, Ro.t_gin, Ro.w_it, Ro.w_rev, Ro.w_enum, Ro.w_zip, Ro.w_range, Ro.s_setv, Ro.s_asg, Ro.s_unp, Ro.s_par, Ro.s_ret, Ro.s_retN, Ro.s_expr, Ro.s_doc, Ro.s_pass, Ro.s_brk, Ro.s_cont, Ro.s_ifs, Ro.s_raise, Ro.s_try, Ro.s_swap, Ro.s_setix, Ro.ss_nil, Ro.ss_cons, lift, readS, lendS, still, needIm, asInt, asBool, asIm, binD, binI, cmpD, cmpI, ixD, slD, ixV, List.isEmpty, revD, biD, meD, meOk, mxD, mxOk, mutD, Mm.sup, Mm.sd, sdO, setD, wkD, wkR, mkTup, ims, D.isIm, E.pure, Es.pure, Eo.pure, E.src, Wk.src, keepS, bindT, bindTs, Kh.clear, lockAll, Kh.settle, settleGo, Slot.isOwnMut, Slot.imOf, Slot.borOf, giveBack, callF, stepClear, settleF, Out.nx, Ss.stores, Kh.S.stores, Tg.slots, Tgs.slots, Es.len, itemsIm, enumD, zipD, vOk, clearV, runH, evalH, imAt, eqI]
theorem pow18 {T : Tab} {e : En} {b : Bool} : evalE T (.bin .pow (.cst (.int 10)) (.cst (.int 18))) b e = .ok (int 1000000000000000000) e := by
  have h : binI .pow 10 18 = some 1000000000000000000 := by decide +kernel
  simp only [Ro.e_bin, Ro.e_cst, Ro.b_ok, E.pure, still, D.isIm, Bool.true_or, if_true, binD, h, Option.map_some, lift]
theorem first_test {T : Tab} {ns : List Int} {pos rest seed : Int} {tl : En} : evalT T (.and (.cmp .eq (.ix (.var 0) (.cst (.int 2))) (.cst (.int 0))) (.one (.cmp .lt (.ix (.var 0) (.cst (.int 1))) (.bi .len (.cons (.ix (.var 0) (.cst (.int 0))) .nil))))) (.own (stD ⟨ns, pos, rest, seed⟩) :: tl) =
    .ok (decide (rest = 0 ∧ pos < (ns.length : Int))) (.own (stD ⟨ns, pos, rest, seed⟩) :: tl) := by
  by_cases h : rest = 0
  · subst h
    simp [at4, ix4, I.shal, I.eq, Ro.b_ok, Ro.b_exc, Ro.b_bad, Ro.a_var, Ro.e_var, Ro.e_cst, Ro.e_glob, Ro.e_tup, Ro.e_lst, Ro.e_dnew, Ro.e_bin, Ro.e_neg, Ro.e_not, Ro.e_cmp, Ro.e_chain, Ro.e_one, Ro.e_and, Ro.e_or, Ro.e_ite, Ro.e_ix, Ro.e_sl, Ro.e_ixv, Ro.e_slv, Ro.e_rev, Ro.e_lrange, Ro.e_disp, Ro.e_dispD, Ro.e_gin, Ro.e_gix, Ro.e_gcd, Ro.e_isin, Ro.e_call, Ro.e_bi1, Ro.e_bi2, Ro.e_get, Ro.e_index, Ro.e_count, Ro.e_join, Ro.e_split, Ro.e_mut, Ro.a_cst, Ro.a_glob, Ro.a_tup, Ro.a_lst, Ro.a_bin, Ro.a_neg, Ro.a_ite, Ro.a_ix, Ro.a_sl, Ro.a_rev, Ro.a_ixv, Ro.a_slv, Ro.a_lrange, Ro.a_disp, Ro.a_dispD, Ro.a_gix, Ro.a_gcd, Ro.a_isin, Ro.a_call, Ro.a_bi, Ro.a_me, Ro.a_cmp, Ro.a_mut, Ro.a_lc, Ro.a_and, Ro.a_or, Ro.a_not, Ro.a_one, Ro.a_chain, Ro.a_dnew, Ro.es_nil, Ro.es_cons, Ro.bs_nil, Ro.bs_cons, Ro.as_nil, Ro.as_cons, Ro.o_no, Ro.o_so, Ro.c_no, Ro.c_so, Ro.t_not, Ro.t_one, Ro.t_and, Ro.t_or, Ro.t_cmp, Ro.t_chain, Ro.t_var, Ro.t_cst, Ro.t_call, Ro.t_ixv, Ro.t_me, Ro.t_ix, Ro.t_bi, Ro.t_isin, Ro.t_gin, Ro.w_it, Ro.w_rev, Ro.w_enum, Ro.w_zip, Ro.w_range, Ro.s_setv, Ro.s_asg, Ro.s_unp, Ro.s_par, Ro.s_ret, Ro.s_retN, Ro.s_expr, Ro.s_doc, Ro.s_pass, Ro.s_brk, Ro.s_cont, Ro.s_ifs, Ro.s_raise, Ro.s_try, Ro.s_swap, Ro.s_setix, Ro.ss_nil, Ro.ss_cons, lift, readS, lendS, still, needIm, asInt, asBool, asIm, binD, binI, cmpD, cmpI, ixD, slD, ixV, List.isEmpty, revD, biD, meD, meOk, mxD, mxOk, mutD, Mm.sup, Mm.sd, sdO, setD, wkD, wkR, mkTup, ims, D.isIm, E.pure, Es.pure, Eo.pure, E.src, Wk.src, keepS, bindT, bindTs, Kh.clear, lockAll, Kh.settle, settleGo, Slot.isOwnMut, Slot.imOf, Slot.borOf, giveBack, callF, stepClear, settleF, Out.nx, Ss.stores, Kh.S.stores, Tg.slots, Tgs.slots, Es.len, itemsIm, enumD, zipD, vOk, clearV, runH, evalH, imAt, eqI]
  · simp [at4, ix4, I.shal, I.eq, h, Ro.b_ok, Ro.b_exc, Ro.b_bad, Ro.a_var, Ro.e_var, Ro.e_cst, Ro.e_glob, Ro.e_tup, Ro.e_lst, Ro.e_dnew, Ro.e_bin, Ro.e_neg, Ro.e_not, Ro.e_cmp, Ro.e_chain, Ro.e_one, Ro.e_and, Ro.e_or, Ro.e_ite, Ro.e_ix, Ro.e_sl, Ro.e_ixv, Ro.e_slv, Ro.e_rev, Ro.e_lrange, Ro.e_disp, Ro.e_dispD, Ro.e_gin, Ro.e_gix, Ro.e_gcd, Ro.e_isin, Ro.e_call, Ro.e_bi1, Ro.e_bi2, Ro.e_get, Ro.e_index, Ro.e_count, Ro.e_join, Ro.e_split, Ro.e_mut, Ro.a_cst, Ro.a_glob, Ro.a_tup, Ro.a_lst, Ro.a_bin, Ro.a_neg, Ro.a_ite, Ro.a_ix, Ro.a_sl, Ro.a_rev, Ro.a_ixv, Ro.a_slv, Ro.a_lrange, Ro.a_disp, Ro.a_dispD, Ro.a_gix, Ro.a_gcd, Ro.a_isin, Ro.a_call, Ro.a_bi, Ro.a_me, Ro.a_cmp, Ro.a_mut, Ro.a_lc, Ro.a_and, Ro.a_or, Ro.a_not, Ro.a_one, Ro.a_chain, Ro.a_dnew, Ro.es_nil, Ro.es_cons, Ro.bs_nil, Ro.bs_cons, Ro.as_nil, Ro.as_cons, Ro.o_no, Ro.o_so, Ro.c_no, Ro.c_so, Ro.t_not, Ro.t_one, Ro.t_and, Ro.t_or, Ro.t_cmp, Ro.t_chain, Ro.t_var, Ro.t_cst, Ro.t_call, Ro.t_ixv, Ro.t_me, Ro.t_ix, Ro.t_bi, Ro.t_isin, Ro.t_gin, Ro.w_it, Ro.w_rev, Ro.w_enum, Ro.w_zip, Ro.w_range, Ro.s_setv, Ro.s_asg, Ro.s_unp, Ro.s_par, Ro.s_ret, Ro.s_retN, Ro.s_expr, Ro.s_doc, Ro.s_pass, Ro.s_brk, Ro.s_cont, Ro.s_ifs, Ro.s_raise, Ro.s_try, Ro.s_swap, Ro.s_setix, Ro.ss_nil, Ro.ss_cons, lift, readS, lendS, still, needIm, asInt, asBool, asIm, binD, binI, cmpD, cmpI, ixD, slD, ixV, List.isEmpty, revD, biD, meD, meOk, mxD, mxOk, mutD, Mm.sup, Mm.sd, sdO, setD, wkD, wkR, mkTup, ims, D.isIm, E.pure, Es.pure, Eo.pure, E.src, Wk.src, keepS, bindT, bindTs, Kh.clear, lockAll, Kh.settle, settleGo, Slot.isOwnMut, Slot.imOf, Slot.borOf, giveBack, callF, stepClear, settleF, Out.nx, Ss.stores, Kh.S.stores, Tg.slots, Tgs.slots, Es.len, itemsIm, enumD, zipD, vOk, clearV, runH, evalH, imAt, eqI]
theorem lt18 {T : Tab} {ns : List Int} {pos rest seed : Int} {tl : En} : evalT T (.cmp .lt (.ix (.var 0) (.cst (.int 2))) (.bin .pow (.cst (.int 10)) (.cst (.int 18)))) (.own (stD ⟨ns, pos, rest, seed⟩) :: tl) = .ok (decide (rest < 1000000000000000000)) (.own (stD ⟨ns, pos, rest, seed⟩) :: tl) := by
  rw [Ro.t_cmp, Ro.e_cmp]
  simp only [pow18]
  simp [at4, Ro.b_ok, Ro.b_exc, Ro.b_bad, Ro.a_var, Ro.e_var, Ro.e_cst, Ro.e_glob, Ro.e_tup, Ro.e_lst, Ro.e_dnew, Ro.e_bin, Ro.e_neg, Ro.e_not, Ro.e_cmp, Ro.e_chain, Ro.e_one, Ro.e_and, Ro.e_or, Ro.e_ite, Ro.e_ix, Ro.e_sl, Ro.e_ixv, Ro.e_slv, Ro.e_rev, Ro.e_lrange, Ro.e_disp, Ro.e_dispD, Ro.e_gin, Ro.e_gix, Ro.e_gcd, Ro.e_isin, Ro.e_call, Ro.e_bi1, Ro.e_bi2, Ro.e_get, Ro.e_index, Ro.e_count, Ro.e_join, Ro.e_split, Ro.e_mut, Ro.a_cst, Ro.a_glob, Ro.a_tup, Ro.a_lst, Ro.a_bin, Ro.a_neg, Ro.a_ite, Ro.a_ix, Ro.a_sl, Ro.a_rev, Ro.a_ixv, Ro.a_slv, Ro.a_lrange, Ro.a_disp, Ro.a_dispD, Ro.a_gix, Ro.a_gcd, Ro.a_isin, Ro.a_call, Ro.a_bi, Ro.a_me, Ro.a_cmp, Ro.a_mut, Ro.a_lc, Ro.a_and, Ro.a_or, Ro.a_not, Ro.a_one, Ro.a_chain, Ro.a_dnew, Ro.es_nil, Ro.es_cons, Ro.bs_nil, Ro.bs_cons, Ro.as_nil, Ro.as_cons, Ro.o_no, Ro.o_so, Ro.c_no, Ro.c_so, Ro.t_not, Ro.t_one, Ro.t_and, Ro.t_or, Ro.t_cmp, Ro.t_chain, Ro.t_var, Ro.t_cst, Ro.t_call, Ro.t_ixv, Ro.t_me, Ro.t_ix, Ro.t_bi, Ro.t_isin, Ro.t_gin, Ro.w_it, Ro.w_rev, Ro.w_enum, Ro.w_zip, Ro.w_range, Ro.s_setv, Ro.s_asg, Ro.s_unp, Ro.s_par, Ro.s_ret, Ro.s_retN, Ro.s_expr, Ro.s_doc, Ro.s_pass, Ro.s_brk, Ro.s_cont, Ro.s_ifs, Ro.s_raise, Ro.s_try, Ro.s_swap, Ro.s_setix, Ro.ss_nil, Ro.ss_cons, lift, readS, lendS, still, needIm, asInt, asBool, asIm, binD, binI, cmpD, cmpI, ixD, slD, ixV, List.isEmpty, revD, biD, meD, meOk, mxD, mxOk, mutD, Mm.sup, Mm.sd, sdO, setD, wkD, wkR, mkTup, ims, D.isIm, E.pure, Es.pure, Eo.pure, E.src, Wk.src, keepS, bindT, bindTs, Kh.clear, lockAll, Kh.settle, settleGo, Slot.isOwnMut, Slot.imOf, Slot.borOf, giveBack, callF, stepClear, settleF, Out.nx, Ss.stores, Kh.S.stores, Tg.slots, Tgs.slots, Es.len, itemsIm, enumD, zipD, vOk, clearV, runH, evalH, imAt, eqI]
theorem next_ok {T : Tab} {ns : List Int} {pos rest seed z : Int} {tl : En} (hz : atI (ns.map fun n => D.im (.int n)) pos = some (.im (.int z))) : exec T (.setix 0 (.cons (.cst (.int 2)) .nil) (.bi .abs (.cons (.bi .int (.cons (.ix (.ix (.var 0) (.cst (.int 0))) (.ix (.var 0) (.cst (.int 1)))) .nil)) .nil))) (.own (stD ⟨ns, pos, rest, seed⟩) :: tl) =
    .ok .nx (.own (stD ⟨ns, pos, z.natAbs, seed⟩) :: tl) := by
  simp [at4, ix4, hz, Ro.b_ok, Ro.b_exc, Ro.b_bad, Ro.a_var, Ro.e_var, Ro.e_cst, Ro.e_glob, Ro.e_tup, Ro.e_lst, Ro.e_dnew, Ro.e_bin, Ro.e_neg, Ro.e_not, Ro.e_cmp, Ro.e_chain, Ro.e_one, Ro.e_and, Ro.e_or, Ro.e_ite, Ro.e_ix, Ro.e_sl, Ro.e_ixv, Ro.e_slv, Ro.e_rev, Ro.e_lrange, Ro.e_disp, Ro.e_dispD, Ro.e_gin, Ro.e_gix, Ro.e_gcd, Ro.e_isin, Ro.e_call, Ro.e_bi1, Ro.e_bi2, Ro.e_get, Ro.e_index, Ro.e_count, Ro.e_join, Ro.e_split, Ro.e_mut, Ro.a_cst, Ro.a_glob, Ro.a_tup, Ro.a_lst, Ro.a_bin, Ro.a_neg, Ro.a_ite, Ro.a_ix, Ro.a_sl, Ro.a_rev, Ro.a_ixv, Ro.a_slv, Ro.a_lrange, Ro.a_disp, Ro.a_dispD, Ro.a_gix, Ro.a_gcd, Ro.a_isin, Ro.a_call, Ro.a_bi, Ro.a_me, Ro.a_cmp, Ro.a_mut, Ro.a_lc, Ro.a_and, Ro.a_or, Ro.a_not, Ro.a_one, Ro.a_chain, Ro.a_dnew, Ro.es_nil, Ro.es_cons, Ro.bs_nil, Ro.bs_cons, Ro.as_nil, Ro.as_cons, Ro.o_no, Ro.o_so, Ro.c_no, Ro.c_so, Ro.t_not, Ro.t_one, Ro.t_and, Ro.t_or, Ro.t_cmp, Ro.t_chain, Ro.t_var, Ro.t_cst, Ro.t_call, Ro.t_ixv, Ro.t_me, Ro.t_ix, Ro.t_bi, Ro.t_isin, Ro.t_gin, Ro.w_it, Ro.w_rev, Ro.w_enum, Ro.w_zip, Ro.w_range, Ro.s_setv, Ro.s_asg, Ro.s_unp, Ro.s_par, Ro.s_ret, Ro.s_retN, Ro.s_expr, Ro.s_doc, Ro.s_pass, Ro.s_brk, Ro.s_cont, Ro.s_ifs, Ro.s_raise, Ro.s_try, Ro.s_swap, Ro.s_setix, Ro.ss_nil, Ro.ss_cons, lift, readS, lendS, still, needIm, asInt, asBool, asIm, binD, binI, cmpD, cmpI, ixD, slD, ixV, List.isEmpty, revD, biD, meD, meOk, mxD, mxOk, mutD, Mm.sup, Mm.sd, sdO, setD, wkD, wkR, mkTup, ims, D.isIm, E.pure, Es.pure, Eo.pure, E.src, Wk.src, keepS, bindT, bindTs, Kh.clear, lockAll, Kh.settle, settleGo, Slot.isOwnMut, Slot.imOf, Slot.borOf, giveBack, callF, stepClear, settleF, Out.nx, Ss.stores, Kh.S.stores, Tg.slots, Tgs.slots, Es.len, itemsIm, enumD, zipD, vOk, clearV, runH, evalH, imAt, eqI]
theorem incr_ok {T : Tab} {ns : List Int} {pos rest seed : Int} {tl : En} : exec T (.setix 0 (.cons (.cst (.int 1)) .nil) (.bin .add (.ix (.var 0) (.cst (.int 1))) (.cst (.int 1)))) (.own (stD ⟨ns, pos, rest, seed⟩) :: tl) =
    .ok .nx (.own (stD ⟨ns, pos + 1, rest, seed⟩) :: tl) := by
  simp [at4, ix4, Ro.b_ok, Ro.b_exc, Ro.b_bad, Ro.a_var, Ro.e_var, Ro.e_cst, Ro.e_glob, Ro.e_tup, Ro.e_lst, Ro.e_dnew, Ro.e_bin, Ro.e_neg, Ro.e_not, Ro.e_cmp, Ro.e_chain, Ro.e_one, Ro.e_and, Ro.e_or, Ro.e_ite, Ro.e_ix, Ro.e_sl, Ro.e_ixv, Ro.e_slv, Ro.e_rev, Ro.e_lrange, Ro.e_disp, Ro.e_dispD, Ro.e_gin, Ro.e_gix, Ro.e_gcd, Ro.e_isin, Ro.e_call, Ro.e_bi1, Ro.e_bi2, Ro.e_get, Ro.e_index, Ro.e_count, Ro.e_join, Ro.e_split, Ro.e_mut, Ro.a_cst, Ro.a_glob, Ro.a_tup, Ro.a_lst, Ro.a_bin, Ro.a_neg, Ro.a_ite, Ro.a_ix, Ro.a_sl, Ro.a_rev, Ro.a_ixv, Ro.a_slv, Ro.a_lrange, Ro.a_disp, Ro.a_dispD, Ro.a_gix, Ro.a_gcd, Ro.a_isin, Ro.a_call, Ro.a_bi, Ro.a_me, Ro.a_cmp, Ro.a_mut, Ro.a_lc, Ro.a_and, Ro.a_or, Ro.a_not, Ro.a_one, Ro.a_chain, Ro.a_dnew, Ro.es_nil, Ro.es_cons, Ro.bs_nil, Ro.bs_cons, Ro.as_nil, Ro.as_cons, Ro.o_no, Ro.o_so, Ro.c_no, Ro.c_so, Ro.t_not, Ro.t_one, Ro.t_and, Ro.t_or, Ro.t_cmp, Ro.t_chain, Ro.t_var, Ro.t_cst, Ro.t_call, Ro.t_ixv, Ro.t_me, Ro.t_ix, Ro.t_bi, Ro.t_isin, Ro.t_gin, Ro.w_it, Ro.w_rev, Ro.w_enum, Ro.w_zip, Ro.w_range, Ro.s_setv, Ro.s_asg, Ro.s_unp, Ro.s_par, Ro.s_ret, Ro.s_retN, Ro.s_expr, Ro.s_doc, Ro.s_pass, Ro.s_brk, Ro.s_cont, Ro.s_ifs, Ro.s_raise, Ro.s_try, Ro.s_swap, Ro.s_setix, Ro.ss_nil, Ro.ss_cons, lift, readS, lendS, still, needIm, asInt, asBool, asIm, binD, binI, cmpD, cmpI, ixD, slD, ixV, List.isEmpty, revD, biD, meD, meOk, mxD, mxOk, mutD, Mm.sup, Mm.sd, sdO, setD, wkD, wkR, mkTup, ims, D.isIm, E.pure, Es.pure, Eo.pure, E.src, Wk.src, keepS, bindT, bindTs, Kh.clear, lockAll, Kh.settle, settleGo, Slot.isOwnMut, Slot.imOf, Slot.borOf, giveBack, callF, stepClear, settleF, Out.nx, Ss.stores, Kh.S.stores, Tg.slots, Tgs.slots, Es.len, itemsIm, enumD, zipD, vOk, clearV, runH, evalH, imAt, eqI]
theorem small_ok {T : Tab} {ns : List Int} {pos rest seed m : Int} {y : Slot} (hm : 0 < m) : execs T (.cons (.setv 2 (.bi .int (.cons (.ix (.var 0) (.cst (.int 2))) .nil)))
    (.cons (.setix 0 (.cons (.cst (.int 2)) .nil) (.cst (.int 0)))
    (.cons (.ret (.bin .mod (.var 2) (.var 1)))
    .nil))) [.own (stD ⟨ns, pos, rest, seed⟩), .own (int m), .no, y] = .ok (.rt (int (rest % m))) [.own (stD ⟨ns, pos, 0, seed⟩), .own (int m), .own (int rest), y] := by
  simp [at4, ix4, hm, Ro.b_ok, Ro.b_exc, Ro.b_bad, Ro.a_var, Ro.e_var, Ro.e_cst, Ro.e_glob, Ro.e_tup, Ro.e_lst, Ro.e_dnew, Ro.e_bin, Ro.e_neg, Ro.e_not, Ro.e_cmp, Ro.e_chain, Ro.e_one, Ro.e_and, Ro.e_or, Ro.e_ite, Ro.e_ix, Ro.e_sl, Ro.e_ixv, Ro.e_slv, Ro.e_rev, Ro.e_lrange, Ro.e_disp, Ro.e_dispD, Ro.e_gin, Ro.e_gix, Ro.e_gcd, Ro.e_isin, Ro.e_call, Ro.e_bi1, Ro.e_bi2, Ro.e_get, Ro.e_index, Ro.e_count, Ro.e_join, Ro.e_split, Ro.e_mut, Ro.a_cst, Ro.a_glob, Ro.a_tup, Ro.a_lst, Ro.a_bin, Ro.a_neg, Ro.a_ite, Ro.a_ix, Ro.a_sl, Ro.a_rev, Ro.a_ixv, Ro.a_slv, Ro.a_lrange, Ro.a_disp, Ro.a_dispD, Ro.a_gix, Ro.a_gcd, Ro.a_isin, Ro.a_call, Ro.a_bi, Ro.a_me, Ro.a_cmp, Ro.a_mut, Ro.a_lc, Ro.a_and, Ro.a_or, Ro.a_not, Ro.a_one, Ro.a_chain, Ro.a_dnew, Ro.es_nil, Ro.es_cons, Ro.bs_nil, Ro.bs_cons, Ro.as_nil, Ro.as_cons, Ro.o_no, Ro.o_so, Ro.c_no, Ro.c_so, Ro.t_not, Ro.t_one, Ro.t_and, Ro.t_or, Ro.t_cmp, Ro.t_chain, Ro.t_var, Ro.t_cst, Ro.t_call, Ro.t_ixv, Ro.t_me, Ro.t_ix, Ro.t_bi, Ro.t_isin, Ro.t_gin, Ro.w_it, Ro.w_rev, Ro.w_enum, Ro.w_zip, Ro.w_range, Ro.s_setv, Ro.s_asg, Ro.s_unp, Ro.s_par, Ro.s_ret, Ro.s_retN, Ro.s_expr, Ro.s_doc, Ro.s_pass, Ro.s_brk, Ro.s_cont, Ro.s_ifs, Ro.s_raise, Ro.s_try, Ro.s_swap, Ro.s_setix, Ro.ss_nil, Ro.ss_cons, lift, readS, lendS, still, needIm, asInt, asBool, asIm, binD, binI, cmpD, cmpI, ixD, slD, ixV, List.isEmpty, revD, biD, meD, meOk, mxD, mxOk, mutD, Mm.sup, Mm.sd, sdO, setD, wkD, wkR, mkTup, ims, D.isIm, E.pure, Es.pure, Eo.pure, E.src, Wk.src, keepS, bindT, bindTs, Kh.clear, lockAll, Kh.settle, settleGo, Slot.isOwnMut, Slot.imOf, Slot.borOf, giveBack, callF, stepClear, settleF, Out.nx, Ss.stores, Kh.S.stores, Tg.slots, Tgs.slots, Es.len, itemsIm, enumD, zipD, vOk, clearV, runH, evalH, imAt, eqI]
theorem take_ok {T : Tab} {s : St} {m : Int} (ok : StOk s) (hm : 0 < m) (hb : m.natAbs < 2 ^ 250) : ∃ v s', fTake.sem T [.own (stD s), .own (int m)] = .ok (int v) [.own (stD s'), .own (int m)] ∧ 0 ≤ v ∧ v < m ∧ StOk s' := by
  obtain ⟨ns, pos, rest, seed⟩ := s
  have ok' := ok
  obtain ⟨h1, h2, h3, h4, h5⟩ := ok
  simp only at h1 h2 h3 h4 h5
  by_cases c1 : rest = 0 ∧ pos < (ns.length : Int)
  · obtain ⟨z, hz⟩ : ∃ z, atI (ns.map fun n => D.im (.int n)) pos = some (.im (.int z)) := by
      rw [atI_map]
      unfold atI ixN
      rw [if_pos h1, if_pos c1.2]
      exact ⟨ns[pos.toNat]'(by omega), by simp⟩
    have t1 := @first_test T ns pos rest seed [.own (int m), .no, .no]
    rw [decide_eq_true c1] at t1
    have t2 := @lt18 T ns (pos + 1) z.natAbs seed [.own (int m), .no, .no]
    by_cases c3 : (z.natAbs : Int) < 1000000000000000000
    · rw [decide_eq_true c3] at t2
      refine ⟨(z.natAbs : Int) % m, ⟨ns, pos + 1, 0, seed⟩, ?_, Int.emod_nonneg _ (by omega), Int.emod_lt_of_pos _ hm, ⟨by show 0 ≤ pos + 1; omega, Int.le_refl _, h3, h4, h5⟩⟩
      refine sem_rt (e := [.own (stD ⟨ns, pos + 1, 0, seed⟩), .own (int m), .own (int z.natAbs), .no]) rfl ?_
      refine seq_rt ((if_t t1).trans ?_)
      refine (seq_nx (next_ok hz)).trans ((seq_nx incr_ok).trans (seq_rt ((if_t t2).trans ?_)))
      exact small_ok hm
    · rw [decide_eq_false c3] at t2
      obtain ⟨v, s', x', y', e, e2⟩ := take_rest (T := T) (s := ⟨ns, pos + 1, z.natAbs, seed⟩) (x := .no) (m := m) ⟨by show 0 ≤ pos + 1; omega, Int.natCast_nonneg _, h3, h4, h5⟩ hm hb
      refine ⟨v, s', ?_, e2⟩
      refine sem_rt (e := [.own (stD s'), .own (int m), x', y']) rfl ?_
      refine (seq_nx ((if_t t1).trans ?_)).trans e
      exact (seq_nx (next_ok hz)).trans ((seq_nx incr_ok).trans ((seq_nx ((if_f t2).trans nil_nx)).trans nil_nx))
  · have t1 := @first_test T ns pos rest seed [.own (int m), .no, .no]
    rw [decide_eq_false c1] at t1
    obtain ⟨v, s', x', y', e, e2⟩ := take_rest (T := T) (s := ⟨ns, pos, rest, seed⟩) (x := .no) (m := m) ok' hm hb
    refine ⟨v, s', ?_, e2⟩
    refine sem_rt (e := [.own (stD s'), .own (int m), x', y']) rfl ?_
    exact (seq_nx ((if_f t1).trans nil_nx)).trans e
def seedZ (s : Int) (n : Int) : Int := (s * 69621 + n % 2147483629 + 7) % 2147483647
theorem begin_ok {T : Tab} {ns : List Int} (hl : ns.length ≤ 63) : ∃ s, fBegin.sem T [.own (.scr ns)] = .ok (stD s) [.own (.scr ns)] ∧ StOk s := by
  have hlog : Nat.log2 69621 = 16 := by decide
  have h := forGo_st (turn := forT T (.name 2) [2] (.cons (.setv 1 (.bin .mod (.bin .add (.bin .add (.bin .mul (.var 1) (.cst (.int 69621))) (.bin .mod (.bi .int (.cons (.var 2) .nil)) (.cst (.int 2147483629)))) (.cst (.int 7))) (.cst (.int 2147483647)))) .nil)) (fun n => .im (.int n)) (fun s => [.bor (.scr ns), .own (int s), .no]) seedZ (fun r s => 0 ≤ s ∧ s < 2147483647) ns 1 (by decide) fun n r s hs => by
    have hz : s.natAbs.log2 + 16 < 1000000 := by
      have := log_lt (x := s.natAbs) (b := 31) (by omega) (by decide)
      omega
    refine ⟨?_, Int.emod_nonneg _ (by omega), Int.emod_lt_of_pos _ (by omega)⟩
    simp [forT, hlog, hz, seedZ, Ro.b_ok, Ro.b_exc, Ro.b_bad, Ro.a_var, Ro.e_var, Ro.e_cst, Ro.e_glob, Ro.e_tup, Ro.e_lst, Ro.e_dnew, Ro.e_bin, Ro.e_neg, Ro.e_not, Ro.e_cmp, Ro.e_chain, Ro.e_one, Ro.e_and, Ro.e_or, Ro.e_ite, Ro.e_ix, Ro.e_sl, Ro.e_ixv, Ro.e_slv, Ro.e_rev, Ro.e_lrange, Ro.e_disp, Ro.e_dispD, Ro.e_gin, Ro.e_gix, Ro.e_gcd, Ro.e_isin, Ro.e_call, Ro.e_bi1, Ro.e_bi2, Ro.e_get, Ro.e_index, Ro.e_count, Ro.e_join, Ro.e_split, Ro.e_mut, Ro.a_cst, Ro.a_glob, Ro.a_tup, Ro.a_lst, Ro.a_bin, Ro.a_neg, Ro.a_ite, Ro.a_ix, Ro.a_sl, Ro.a_rev, Ro.a_ixv, Ro.a_slv, Ro.a_lrange, Ro.a_disp, Ro.a_dispD, Ro.a_gix, Ro.a_gcd, Ro.a_isin, Ro.a_call, Ro.a_bi, Ro.a_me, Ro.a_cmp, Ro.a_mut, Ro.a_lc, Ro.a_and, Ro.a_or, Ro.a_not, Ro.a_one, Ro.a_chain, Ro.a_dnew, Ro.es_nil, Ro.es_cons, Ro.bs_nil, Ro.bs_cons, Ro.as_nil, Ro.as_cons, Ro.o_no, Ro.o_so, Ro.c_no, Ro.c_so, Ro.t_not, Ro.t_one, Ro.t_and, Ro.t_or, Ro.t_cmp, Ro.t_chain, Ro.t_var, Ro.t_cst, Ro.t_call, Ro.t_ixv, Ro.t_me, Ro.t_ix, Ro.t_bi, Ro.t_isin, Ro.t_gin, Ro.w_it, Ro.w_rev, Ro.w_enum, Ro.w_zip, Ro.w_range, Ro.s_setv, Ro.s_asg, Ro.s_unp, Ro.s_par, Ro.s_ret, Ro.s_retN, Ro.s_expr, Ro.s_doc, Ro.s_pass, Ro.s_brk, Ro.s_cont, Ro.s_ifs, Ro.s_raise, Ro.s_try, Ro.s_swap, Ro.s_setix, Ro.ss_nil, Ro.ss_cons, lift, readS, lendS, still, needIm, asInt, asBool, asIm, binD, binI, cmpD, cmpI, ixD, slD, ixV, List.isEmpty, revD, biD, meD, meOk, mxD, mxOk, mutD, Mm.sup, Mm.sd, sdO, setD, wkD, wkR, mkTup, ims, D.isIm, E.pure, Es.pure, Eo.pure, E.src, Wk.src, keepS, bindT, bindTs, Kh.clear, lockAll, Kh.settle, settleGo, Slot.isOwnMut, Slot.imOf, Slot.borOf, giveBack, callF, stepClear, settleF, Out.nx, Ss.stores, Kh.S.stores, Tg.slots, Tgs.slots, Es.len, itemsIm, enumD, zipD, vOk, clearV, runH, evalH, imAt, eqI]
  have h2 := for_to (T := T) (w := .it (.var 0)) (t := .name 2) (dead := [2]) (st := [2, 1]) (body := .cons (.setv 1 (.bin .mod (.bin .add (.bin .add (.bin .mul (.var 1) (.cst (.int 69621))) (.bin .mod (.bi .int (.cons (.var 2) .nil)) (.cst (.int 2147483629)))) (.cst (.int 7))) (.cst (.int 2147483647)))) .nil) (e := [.own (.scr ns), .own (int 1), .no]) (xs := ns.map fun n => .im (.int n)) rfl (by simp [Ro.b_ok, Ro.b_exc, Ro.b_bad, Ro.a_var, Ro.e_var, Ro.e_cst, Ro.e_glob, Ro.e_tup, Ro.e_lst, Ro.e_dnew, Ro.e_bin, Ro.e_neg, Ro.e_not, Ro.e_cmp, Ro.e_chain, Ro.e_one, Ro.e_and, Ro.e_or, Ro.e_ite, Ro.e_ix, Ro.e_sl, Ro.e_ixv, Ro.e_slv, Ro.e_rev, Ro.e_lrange, Ro.e_disp, Ro.e_dispD, Ro.e_gin, Ro.e_gix, Ro.e_gcd, Ro.e_isin, Ro.e_call, Ro.e_bi1, Ro.e_bi2, Ro.e_get, Ro.e_index, Ro.e_count, Ro.e_join, Ro.e_split, Ro.e_mut, Ro.a_cst, Ro.a_glob, Ro.a_tup, Ro.a_lst, Ro.a_bin, Ro.a_neg, Ro.a_ite, Ro.a_ix, Ro.a_sl, Ro.a_rev, Ro.a_ixv, Ro.a_slv, Ro.a_lrange, Ro.a_disp, Ro.a_dispD, Ro.a_gix, Ro.a_gcd, Ro.a_isin, Ro.a_call, Ro.a_bi, Ro.a_me, Ro.a_cmp, Ro.a_mut, Ro.a_lc, Ro.a_and, Ro.a_or, Ro.a_not, Ro.a_one, Ro.a_chain, Ro.a_dnew, Ro.es_nil, Ro.es_cons, Ro.bs_nil, Ro.bs_cons, Ro.as_nil, Ro.as_cons, Ro.o_no, Ro.o_so, Ro.c_no, Ro.c_so, Ro.t_not, Ro.t_one, Ro.t_and, Ro.t_or, Ro.t_cmp, Ro.t_chain, Ro.t_var, Ro.t_cst, Ro.t_call, Ro.t_ixv, Ro.t_me, Ro.t_ix, Ro.t_bi, Ro.t_isin, Ro.t_gin, Ro.w_it, Ro.w_rev, Ro.w_enum, Ro.w_zip, Ro.w_range, Ro.s_setv, Ro.s_asg, Ro.s_unp, Ro.s_par, Ro.s_ret, Ro.s_retN, Ro.s_expr, Ro.s_doc, Ro.s_pass, Ro.s_brk, Ro.s_cont, Ro.s_ifs, Ro.s_raise, Ro.s_try, Ro.s_swap, Ro.s_setix, Ro.ss_nil, Ro.ss_cons, lift, readS, lendS, still, needIm, asInt, asBool, asIm, binD, binI, cmpD, cmpI, ixD, slD, ixV, List.isEmpty, revD, biD, meD, meOk, mxD, mxOk, mutD, Mm.sup, Mm.sd, sdO, setD, wkD, wkR, mkTup, ims, D.isIm, E.pure, Es.pure, Eo.pure, E.src, Wk.src, keepS, bindT, bindTs, Kh.clear, lockAll, Kh.settle, settleGo, Slot.isOwnMut, Slot.imOf, Slot.borOf, giveBack, callF, stepClear, settleF, Out.nx, Ss.stores, Kh.S.stores, Tg.slots, Tgs.slots, Es.len, itemsIm, enumD, zipD, vOk, clearV, runH, evalH, imAt, eqI]; rfl) (by simp [Ro.b_ok, Ro.b_exc, Ro.b_bad, Ro.a_var, Ro.e_var, Ro.e_cst, Ro.e_glob, Ro.e_tup, Ro.e_lst, Ro.e_dnew, Ro.e_bin, Ro.e_neg, Ro.e_not, Ro.e_cmp, Ro.e_chain, Ro.e_one, Ro.e_and, Ro.e_or, Ro.e_ite, Ro.e_ix, Ro.e_sl, Ro.e_ixv, Ro.e_slv, Ro.e_rev, Ro.e_lrange, Ro.e_disp, Ro.e_dispD, Ro.e_gin, Ro.e_gix, Ro.e_gcd, Ro.e_isin, Ro.e_call, Ro.e_bi1, Ro.e_bi2, Ro.e_get, Ro.e_index, Ro.e_count, Ro.e_join, Ro.e_split, Ro.e_mut, Ro.a_cst, Ro.a_glob, Ro.a_tup, Ro.a_lst, Ro.a_bin, Ro.a_neg, Ro.a_ite, Ro.a_ix, Ro.a_sl, Ro.a_rev, Ro.a_ixv, Ro.a_slv, Ro.a_lrange, Ro.a_disp, Ro.a_dispD, Ro.a_gix, Ro.a_gcd, Ro.a_isin, Ro.a_call, Ro.a_bi, Ro.a_me, Ro.a_cmp, Ro.a_mut, Ro.a_lc, Ro.a_and, Ro.a_or, Ro.a_not, Ro.a_one, Ro.a_chain, Ro.a_dnew, Ro.es_nil, Ro.es_cons, Ro.bs_nil, Ro.bs_cons, Ro.as_nil, Ro.as_cons, Ro.o_no, Ro.o_so, Ro.c_no, Ro.c_so, Ro.t_not, Ro.t_one, Ro.t_and, Ro.t_or, Ro.t_cmp, Ro.t_chain, Ro.t_var, Ro.t_cst, Ro.t_call, Ro.t_ixv, Ro.t_me, Ro.t_ix, Ro.t_bi, Ro.t_isin, Ro.t_gin, Ro.w_it, Ro.w_rev, Ro.w_enum, Ro.w_zip, Ro.w_range, Ro.s_setv, Ro.s_asg, Ro.s_unp, Ro.s_par, Ro.s_ret, Ro.s_retN, Ro.s_expr, Ro.s_doc, Ro.s_pass, Ro.s_brk, Ro.s_cont, Ro.s_ifs, Ro.s_raise, Ro.s_try, Ro.s_swap, Ro.s_setix, Ro.ss_nil, Ro.ss_cons, lift, readS, lendS, still, needIm, asInt, asBool, asIm, binD, binI, cmpD, cmpI, ixD, slD, ixV, List.isEmpty, revD, biD, meD, meOk, mxD, mxOk, mutD, Mm.sup, Mm.sd, sdO, setD, wkD, wkR, mkTup, ims, D.isIm, E.pure, Es.pure, Eo.pure, E.src, Wk.src, keepS, bindT, bindTs, Kh.clear, lockAll, Kh.settle, settleGo, Slot.isOwnMut, Slot.imOf, Slot.borOf, giveBack, callF, stepClear, settleF, Out.nx, Ss.stores, Kh.S.stores, Tg.slots, Tgs.slots, Es.len, itemsIm, enumD, zipD, vOk, clearV, runH, evalH, imAt, eqI]) h.1 (e3 := [.own (.scr ns), .own (int (ns.foldl seedZ 1)), .no]) (by simp [Ro.b_ok, Ro.b_exc, Ro.b_bad, Ro.a_var, Ro.e_var, Ro.e_cst, Ro.e_glob, Ro.e_tup, Ro.e_lst, Ro.e_dnew, Ro.e_bin, Ro.e_neg, Ro.e_not, Ro.e_cmp, Ro.e_chain, Ro.e_one, Ro.e_and, Ro.e_or, Ro.e_ite, Ro.e_ix, Ro.e_sl, Ro.e_ixv, Ro.e_slv, Ro.e_rev, Ro.e_lrange, Ro.e_disp, Ro.e_dispD, Ro.e_gin, Ro.e_gix, Ro.e_gcd, Ro.e_isin, Ro.e_call, Ro.e_bi1, Ro.e_bi2, Ro.e_get, Ro.e_index, Ro.e_count, Ro.e_join, Ro.e_split, Ro.e_mut, Ro.a_cst, Ro.a_glob, Ro.a_tup, Ro.a_lst, Ro.a_bin, Ro.a_neg, Ro.a_ite, Ro.a_ix, Ro.a_sl, Ro.a_rev, Ro.a_ixv, Ro.a_slv, Ro.a_lrange, Ro.a_disp, Ro.a_dispD, Ro.a_gix, Ro.a_gcd, Ro.a_isin, Ro.a_call, Ro.a_bi, Ro.a_me, Ro.a_cmp, Ro.a_mut, Ro.a_lc, Ro.a_and, Ro.a_or, Ro.a_not, Ro.a_one, Ro.a_chain, Ro.a_dnew, Ro.es_nil, Ro.es_cons, Ro.bs_nil, Ro.bs_cons, Ro.as_nil, Ro.as_cons, Ro.o_no, Ro.o_so, Ro.c_no, Ro.c_so, Ro.t_not, Ro.t_one, Ro.t_and, Ro.t_or, Ro.t_cmp, Ro.t_chain, Ro.t_var, Ro.t_cst, Ro.t_call, Ro.t_ixv, Ro.t_me, Ro.t_ix, Ro.t_bi, Ro.t_isin, Ro.t_gin, Ro.w_it, Ro.w_rev, Ro.w_enum, Ro.w_zip, Ro.w_range, Ro.s_setv, Ro.s_asg, Ro.s_unp, Ro.s_par, Ro.s_ret, Ro.s_retN, Ro.s_expr, Ro.s_doc, Ro.s_pass, Ro.s_brk, Ro.s_cont, Ro.s_ifs, Ro.s_raise, Ro.s_try, Ro.s_swap, Ro.s_setix, Ro.ss_nil, Ro.ss_cons, lift, readS, lendS, still, needIm, asInt, asBool, asIm, binD, binI, cmpD, cmpI, ixD, slD, ixV, List.isEmpty, revD, biD, meD, meOk, mxD, mxOk, mutD, Mm.sup, Mm.sd, sdO, setD, wkD, wkR, mkTup, ims, D.isIm, E.pure, Es.pure, Eo.pure, E.src, Wk.src, keepS, bindT, bindTs, Kh.clear, lockAll, Kh.settle, settleGo, Slot.isOwnMut, Slot.imOf, Slot.borOf, giveBack, callF, stepClear, settleF, Out.nx, Ss.stores, Kh.S.stores, Tg.slots, Tgs.slots, Es.len, itemsIm, enumD, zipD, vOk, clearV, runH, evalH, imAt, eqI])
  refine ⟨⟨ns, 0, 0, ns.foldl seedZ 1⟩, ?_, ⟨Int.le_refl _, Int.le_refl _, h.2.1, h.2.2, hl⟩⟩
  simp only [Fd.sem, fBegin]
  simp [h2, Ro.b_ok, Ro.b_exc, Ro.b_bad, Ro.a_var, Ro.e_var, Ro.e_cst, Ro.e_glob, Ro.e_tup, Ro.e_lst, Ro.e_dnew, Ro.e_bin, Ro.e_neg, Ro.e_not, Ro.e_cmp, Ro.e_chain, Ro.e_one, Ro.e_and, Ro.e_or, Ro.e_ite, Ro.e_ix, Ro.e_sl, Ro.e_ixv, Ro.e_slv, Ro.e_rev, Ro.e_lrange, Ro.e_disp, Ro.e_dispD, Ro.e_gin, Ro.e_gix, Ro.e_gcd, Ro.e_isin, Ro.e_call, Ro.e_bi1, Ro.e_bi2, Ro.e_get, Ro.e_index, Ro.e_count, Ro.e_join, Ro.e_split, Ro.e_mut, Ro.a_cst, Ro.a_glob, Ro.a_tup, Ro.a_lst, Ro.a_bin, Ro.a_neg, Ro.a_ite, Ro.a_ix, Ro.a_sl, Ro.a_rev, Ro.a_ixv, Ro.a_slv, Ro.a_lrange, Ro.a_disp, Ro.a_dispD, Ro.a_gix, Ro.a_gcd, Ro.a_isin, Ro.a_call, Ro.a_bi, Ro.a_me, Ro.a_cmp, Ro.a_mut, Ro.a_lc, Ro.a_and, Ro.a_or, Ro.a_not, Ro.a_one, Ro.a_chain, Ro.a_dnew, Ro.es_nil, Ro.es_cons, Ro.bs_nil, Ro.bs_cons, Ro.as_nil, Ro.as_cons, Ro.o_no, Ro.o_so, Ro.c_no, Ro.c_so, Ro.t_not, Ro.t_one, Ro.t_and, Ro.t_or, Ro.t_cmp, Ro.t_chain, Ro.t_var, Ro.t_cst, Ro.t_call, Ro.t_ixv, Ro.t_me, Ro.t_ix, Ro.t_bi, Ro.t_isin, Ro.t_gin, Ro.w_it, Ro.w_rev, Ro.w_enum, Ro.w_zip, Ro.w_range, Ro.s_setv, Ro.s_asg, Ro.s_unp, Ro.s_par, Ro.s_ret, Ro.s_retN, Ro.s_expr, Ro.s_doc, Ro.s_pass, Ro.s_brk, Ro.s_cont, Ro.s_ifs, Ro.s_raise, Ro.s_try, Ro.s_swap, Ro.s_setix, Ro.ss_nil, Ro.ss_cons, lift, readS, lendS, still, needIm, asInt, asBool, asIm, binD, binI, cmpD, cmpI, ixD, slD, ixV, List.isEmpty, revD, biD, meD, meOk, mxD, mxOk, mutD, Mm.sup, Mm.sd, sdO, setD, wkD, wkR, mkTup, ims, D.isIm, E.pure, Es.pure, Eo.pure, E.src, Wk.src, keepS, bindT, bindTs, Kh.clear, lockAll, Kh.settle, settleGo, Slot.isOwnMut, Slot.imOf, Slot.borOf, giveBack, callF, stepClear, settleF, Out.nx, Ss.stores, Kh.S.stores, Tg.slots, Tgs.slots, Es.len, itemsIm, enumD, zipD, vOk, clearV, runH, evalH, imAt, eqI]
theorem sign_ok {T T2 : Tab} {s : St} (hp : T.fn "_law_take" = some (fTake.sem T2)) (ok : StOk s) : ∃ v s', fSign.sem T [.own (stD s)] = .ok (int v) [.own (stD s')] ∧ (v = 1 ∨ v = -1) ∧ StOk s' := by
  obtain ⟨v, s', e, h1, h2, h3⟩ := take_ok (T := T2) (m := 2) ok (by decide) (by decide)
  refine ⟨1 - 2 * v, s', ?_, by omega, h3⟩
  have hv : v.natAbs.log2 = 0 := by
    have : v = 0 ∨ v = 1 := by omega
    rcases this with rfl | rfl <;> decide
  have hl : Nat.log2 2 = 1 := by decide
  simp only [Fd.sem, fSign]
  simp [hp, e, hv, hl, Ro.b_ok, Ro.b_exc, Ro.b_bad, Ro.a_var, Ro.e_var, Ro.e_cst, Ro.e_glob, Ro.e_tup, Ro.e_lst, Ro.e_dnew, Ro.e_bin, Ro.e_neg, Ro.e_not, Ro.e_cmp, Ro.e_chain, Ro.e_one, Ro.e_and, Ro.e_or, Ro.e_ite, Ro.e_ix, Ro.e_sl, Ro.e_ixv, Ro.e_slv, Ro.e_rev, Ro.e_lrange, Ro.e_disp, Ro.e_dispD, Ro.e_gin, Ro.e_gix, Ro.e_gcd, Ro.e_isin, Ro.e_call, Ro.e_bi1, Ro.e_bi2, Ro.e_get, Ro.e_index, Ro.e_count, Ro.e_join, Ro.e_split, Ro.e_mut, Ro.a_cst, Ro.a_glob, Ro.a_tup, Ro.a_lst, Ro.a_bin, Ro.a_neg, Ro.a_ite, Ro.a_ix, Ro.a_sl, Ro.a_rev, Ro.a_ixv, Ro.a_slv, Ro.a_lrange, Ro.a_disp, Ro.a_dispD, Ro.a_gix, Ro.a_gcd, Ro.a_isin, Ro.a_call, Ro.a_bi, Ro.a_me, Ro.a_cmp, Ro.a_mut, Ro.a_lc, Ro.a_and, Ro.a_or, Ro.a_not, Ro.a_one, Ro.a_chain, Ro.a_dnew, Ro.es_nil, Ro.es_cons, Ro.bs_nil, Ro.bs_cons, Ro.as_nil, Ro.as_cons, Ro.o_no, Ro.o_so, Ro.c_no, Ro.c_so, Ro.t_not, Ro.t_one, Ro.t_and, Ro.t_or, Ro.t_cmp, Ro.t_chain, Ro.t_var, Ro.t_cst, Ro.t_call, Ro.t_ixv, Ro.t_me, Ro.t_ix, Ro.t_bi, Ro.t_isin, Ro.t_gin, Ro.w_it, Ro.w_rev, Ro.w_enum, Ro.w_zip, Ro.w_range, Ro.s_setv, Ro.s_asg, Ro.s_unp, Ro.s_par, Ro.s_ret, Ro.s_retN, Ro.s_expr, Ro.s_doc, Ro.s_pass, Ro.s_brk, Ro.s_cont, Ro.s_ifs, Ro.s_raise, Ro.s_try, Ro.s_swap, Ro.s_setix, Ro.ss_nil, Ro.ss_cons, lift, readS, lendS, still, needIm, asInt, asBool, asIm, binD, binI, cmpD, cmpI, ixD, slD, ixV, List.isEmpty, revD, biD, meD, meOk, mxD, mxOk, mutD, Mm.sup, Mm.sd, sdO, setD, wkD, wkR, mkTup, ims, D.isIm, E.pure, Es.pure, Eo.pure, E.src, Wk.src, keepS, bindT, bindTs, Kh.clear, lockAll, Kh.settle, settleGo, Slot.isOwnMut, Slot.imOf, Slot.borOf, giveBack, callF, stepClear, settleF, Out.nx, Ss.stores, Kh.S.stores, Tg.slots, Tgs.slots, Es.len, itemsIm, enumD, zipD, vOk, clearV, runH, evalH, imAt, eqI]
theorem pick_ok {T T2 : Tab} {s : St} {xs : List I} (hp : T.fn "_law_take" = some (fTake.sem T2)) (ok : StOk s) (h0 : xs ≠ []) (hb : xs.length ≤ big) : ∃ x s', fPick.sem T [.own (stD s), .own (.lst (xs.map .im))] = .ok (.im x) [.own (stD s'), .own (.lst (xs.map .im))] ∧ x ∈ xs ∧ StOk s' := by
  have hl : 0 < xs.length := List.length_pos_iff.mpr h0
  have hb2 : xs.length ≤ 1000000 := hb
  obtain ⟨v, s', e, h1, h2, h3⟩ := take_ok (T := T2) (m := xs.length) ok (by omega) (by
    have : (2 : Nat) ^ 250 = 2 ^ 20 * 2 ^ 230 := by decide
    have h3 : (0 : Nat) < 2 ^ 230 := Nat.two_pow_pos _
    have h4 : (2 : Nat) ^ 20 * 1 ≤ 2 ^ 20 * 2 ^ 230 := Nat.mul_le_mul_left _ h3
    have h5 : (2 : Nat) ^ 20 = 1048576 := by decide
    omega)
  have hv : v.toNat < xs.length := by omega
  refine ⟨xs[v.toNat], s', ?_, List.getElem_mem hv, h3⟩
  have ha : atI (xs.map D.im) v = some (.im xs[v.toNat]) := by
    rw [atI_map]
    unfold atI ixN
    rw [if_pos h1, if_pos (by omega)]
    simp [hv]
  simp only [Fd.sem, fPick]
  simp [hp, e, ha, Ro.b_ok, Ro.b_exc, Ro.b_bad, Ro.a_var, Ro.e_var, Ro.e_cst, Ro.e_glob, Ro.e_tup, Ro.e_lst, Ro.e_dnew, Ro.e_bin, Ro.e_neg, Ro.e_not, Ro.e_cmp, Ro.e_chain, Ro.e_one, Ro.e_and, Ro.e_or, Ro.e_ite, Ro.e_ix, Ro.e_sl, Ro.e_ixv, Ro.e_slv, Ro.e_rev, Ro.e_lrange, Ro.e_disp, Ro.e_dispD, Ro.e_gin, Ro.e_gix, Ro.e_gcd, Ro.e_isin, Ro.e_call, Ro.e_bi1, Ro.e_bi2, Ro.e_get, Ro.e_index, Ro.e_count, Ro.e_join, Ro.e_split, Ro.e_mut, Ro.a_cst, Ro.a_glob, Ro.a_tup, Ro.a_lst, Ro.a_bin, Ro.a_neg, Ro.a_ite, Ro.a_ix, Ro.a_sl, Ro.a_rev, Ro.a_ixv, Ro.a_slv, Ro.a_lrange, Ro.a_disp, Ro.a_dispD, Ro.a_gix, Ro.a_gcd, Ro.a_isin, Ro.a_call, Ro.a_bi, Ro.a_me, Ro.a_cmp, Ro.a_mut, Ro.a_lc, Ro.a_and, Ro.a_or, Ro.a_not, Ro.a_one, Ro.a_chain, Ro.a_dnew, Ro.es_nil, Ro.es_cons, Ro.bs_nil, Ro.bs_cons, Ro.as_nil, Ro.as_cons, Ro.o_no, Ro.o_so, Ro.c_no, Ro.c_so, Ro.t_not, Ro.t_one, Ro.t_and, Ro.t_or, Ro.t_cmp, Ro.t_chain, Ro.t_var, Ro.t_cst, Ro.t_call, Ro.t_ixv, Ro.t_me, Ro.t_ix, Ro.t_bi, Ro.t_isin, Ro.t_gin, Ro.w_it, Ro.w_rev, Ro.w_enum, Ro.w_zip, Ro.w_range, Ro.s_setv, Ro.s_asg, Ro.s_unp, Ro.s_par, Ro.s_ret, Ro.s_retN, Ro.s_expr, Ro.s_doc, Ro.s_pass, Ro.s_brk, Ro.s_cont, Ro.s_ifs, Ro.s_raise, Ro.s_try, Ro.s_swap, Ro.s_setix, Ro.ss_nil, Ro.ss_cons, lift, readS, lendS, still, needIm, asInt, asBool, asIm, binD, binI, cmpD, cmpI, ixD, slD, ixV, List.isEmpty, revD, biD, meD, meOk, mxD, mxOk, mutD, Mm.sup, Mm.sd, sdO, setD, wkD, wkR, mkTup, ims, D.isIm, E.pure, Es.pure, Eo.pure, E.src, Wk.src, keepS, bindT, bindTs, Kh.clear, lockAll, Kh.settle, settleGo, Slot.isOwnMut, Slot.imOf, Slot.borOf, giveBack, callF, stepClear, settleF, Out.nx, Ss.stores, Kh.S.stores, Tg.slots, Tgs.slots, Es.len, itemsIm, enumD, zipD, vOk, clearV, runH, evalH, imAt, eqI]
end Kh

set_option Elab.async false
set_option linter.all false
set_option maxRecDepth 100000
set_option maxHeartbeats 2000000
/-! draws as expressions; loops with draws -/
namespace Kh
open PySem L2
theorem set_same {e : En} {i : Nat} {s : Slot} (h : e[i]? = some s) : e.set i s = e := by
  apply List.ext_getElem?
  intro j
  by_cases q : i = j
  · subst q
    obtain ⟨z, _⟩ := List.getElem?_eq_some_iff.mp h
    rw [List.getElem?_set_self z, h]
  · rw [List.getElem?_set_ne q]
theorem lt_of_get {e : En} {i : Nat} {s : Slot} (h : e[i]? = some s) : i < e.length := (List.getElem?_eq_some_iff.mp h).1
/-- one thing lent, the others never change -/
theorem callF_lend1 {f : Fn} {i : Nat} {d d' : D} {e : En} {v : D} (hi : i < e.length) (h : f [.own d] = .ok v [.own d']) : callF f [(.own d, some i)] (e.set i .no) = .ok v (e.set i (.own d')) := by
  have h2 : (e.set i .no)[i]? = some .no := List.getElem?_set_self hi
  simp only [callF, List.map_cons, List.map_nil, h, giveBack, h2, List.set_set]
theorem callF_lend2 {f : Fn} {i : Nat} {d d' x y : D} {e : En} {v : D} (hi : i < e.length) (h : f [.own d, .own x] = .ok v [.own d', .own y]) : callF f [(.own d, some i), (.own x, none)] (e.set i .no) = .ok v (e.set i (.own d')) := by
  have h2 : (e.set i .no)[i]? = some .no := List.getElem?_set_self hi
  simp only [callF, List.map_cons, List.map_nil, h, giveBack, h2, List.set_set]
theorem lend_st {T : Tab} {i : Nat} {e : En} {s : St} (hi : e[i]? = some (.own (stD s))) : argS T (.var i) e = .ok (.own (stD s), some i) (e.set i .no) := by
  show lendS i e = _
  unfold lendS
  rw [hi]
theorem take_E {T T2 : Tab} {i : Nat} {e : En} {s : St} {a : E} {m : Int} (hp : T.fn "_law_take" = some (fTake.sem T2)) (hi : e[i]? = some (.own (stD s))) (ok : StOk s) (ha : argS T a (e.set i .no) = .ok (.own (int m), none) (e.set i .no)) (hm : 0 < m) (hb : m.natAbs < 2 ^ 250) :
    ∃ v s', (∀ w, evalE T (.call "_law_take" (.cons (.var i) (.cons a .nil))) w e = .ok (int v) (e.set i (.own (stD s')))) ∧ 0 ≤ v ∧ v < m ∧ StOk s' := by
  obtain ⟨v, s', h, h1, h2, h3⟩ := take_ok (T := T2) ok hm hb
  refine ⟨v, s', fun w => ?_, h1, h2, h3⟩
  rw [Ro.e_call, hp]
  have h0 : Ro.argS T (.var i) e = .ok (.own (stD s), some i) (e.set i .no) := lend_st hi
  simp only [Ro.as_cons, Ro.as_nil, h0, Ro.b_ok]
  have ha' : Ro.argS T a (e.set i .no) = .ok (.own (int m), none) (e.set i .no) := ha
  simp only [ha', Ro.b_ok]
  exact callF_lend2 (lt_of_get hi) h
theorem sign_E {T T2 T3 : Tab} {i : Nat} {e : En} {s : St} (hp : T.fn "_law_sign" = some (fSign.sem T2)) (hp2 : T2.fn "_law_take" = some (fTake.sem T3)) (hi : e[i]? = some (.own (stD s))) (ok : StOk s) :
    ∃ v s', (∀ w, evalE T (.call "_law_sign" (.cons (.var i) .nil)) w e = .ok (int v) (e.set i (.own (stD s')))) ∧ (v = 1 ∨ v = -1) ∧ StOk s' := by
  obtain ⟨v, s', h, h1, h3⟩ := sign_ok hp2 ok
  refine ⟨v, s', fun w => ?_, h1, h3⟩
  rw [Ro.e_call, hp]
  have h0 : Ro.argS T (.var i) e = .ok (.own (stD s), some i) (e.set i .no) := lend_st hi
  simp only [Ro.as_cons, Ro.as_nil, h0, Ro.b_ok]
  exact callF_lend1 (lt_of_get hi) h
theorem pick_E {T T2 T3 : Tab} {i : Nat} {e : En} {s : St} {a : E} {xs : List I} (hp : T.fn "_law_pick" = some (fPick.sem T2)) (hp2 : T2.fn "_law_take" = some (fTake.sem T3)) (hi : e[i]? = some (.own (stD s))) (ok : StOk s) (ha : argS T a (e.set i .no) = .ok (.own (.lst (xs.map .im)), none) (e.set i .no)) (h0 : xs ≠ []) (hb : xs.length ≤ big) :
    ∃ x s', (∀ w, evalE T (.call "_law_pick" (.cons (.var i) (.cons a .nil))) w e = .ok (.im x) (e.set i (.own (stD s')))) ∧ x ∈ xs ∧ StOk s' := by
  obtain ⟨v, s', h, h1, h3⟩ := pick_ok hp2 ok h0 hb
  refine ⟨v, s', fun w => ?_, h1, h3⟩
  rw [Ro.e_call, hp]
  have h0 : Ro.argS T (.var i) e = .ok (.own (stD s), some i) (e.set i .no) := lend_st hi
  simp only [Ro.as_cons, Ro.as_nil, h0, Ro.b_ok]
  have ha' : Ro.argS T a (e.set i .no) = .ok (.own (.lst (xs.map .im)), none) (e.set i .no) := ha
  simp only [ha', Ro.b_ok]
  exact callF_lend2 (lt_of_get hi) h
theorem begin_E {T T2 : Tab} {i : Nat} {e : En} {ns : List Int} (hp : T.fn "_law_begin" = some (fBegin.sem T2)) (hi : e[i]? = some (.own (.scr ns))) (hl : ns.length ≤ 63) :
    ∃ s, (∀ w, evalE T (.call "_law_begin" (.cons (.var i) .nil)) w e = .ok (stD s) e) ∧ StOk s := by
  obtain ⟨s, h, h1⟩ := begin_ok (T := T2) hl
  refine ⟨s, fun w => ?_, h1⟩
  rw [Ro.e_call, hp]
  have h0 : Ro.argS T (.var i) e = .ok (.own (.scr ns), some i) (e.set i .no) := by
    show lendS i e = _
    unfold lendS
    rw [hi]
  simp only [Ro.as_cons, Ro.as_nil, h0, Ro.b_ok]
  rw [callF_lend1 (lt_of_get hi) h, set_same hi]
/-- a loop of turns with draws -/
theorem forGo_ex {turn : D → En → Out Fl} (Inv : List D → En → Prop) : ∀ (xs : List D) (e : En), Inv xs e →
    (∀ d ds e, Inv (d :: ds) e → ∃ e', (turn d e = .ok .nx e' ∨ turn d e = .ok .ct e') ∧ Inv ds e') → ∃ e', forGo turn xs e = .ok .nx e' ∧ Inv [] e'
  | [], e, i, _ => ⟨e, rfl, i⟩
  | d :: ds, e, i, h => by
    obtain ⟨e1, h1, h2⟩ := h d ds e i
    obtain ⟨e2, h3, h4⟩ := forGo_ex Inv ds e1 h2 h
    refine ⟨e2, ?_, h4⟩
    unfold forGo
    rcases h1 with h1 | h1 <;> rw [h1] <;> exact h3
/-- a comprehension of turns with draws -/
theorem lcGo_ex {turn : D → En → Out (Option D)} (Inv : En → Prop) (Rel : D → Prop) : ∀ (xs : List D) (e : En), Inv e →
    (∀ d ∈ xs, ∀ e, Inv e → ∃ y e', turn d e = .ok (some y) e' ∧ Inv e' ∧ Rel y) → ∃ ys e', lcGo turn xs e = .ok ys e' ∧ Inv e' ∧ ys.length = xs.length ∧ ∀ y ∈ ys, Rel y
  | [], e, i, _ => ⟨[], e, rfl, i, rfl, fun _ m => absurd m List.not_mem_nil⟩
  | d :: ds, e, i, h => by
    obtain ⟨y, e1, h1, i1, r1⟩ := h d List.mem_cons_self e i
    obtain ⟨ys, e2, h2, i2, l2, r2⟩ := lcGo_ex Inv Rel ds e1 i1 fun b m => h b (List.mem_cons_of_mem _ m)
    refine ⟨y :: ys, e2, ?_, i2, by simp [l2], fun z m => ?_⟩
    · unfold lcGo
      rw [h1]
      simp only [Out.bind, h2]
    · rcases List.mem_cons.mp m with rfl | m
      · exact r1
      · exact r2 z m
/-- draws under 1 + .., - .. and the like -/
theorem bin_to {T : Tab} {op : Op} {a b : E} {e e1 e2 : En} {x y z : Int} {w : Bool} (ha : evalE T a false e = .ok (int x) e1) (hb : evalE T b false e1 = .ok (int y) e2) (hz : binI op x y = some z) : evalE T (.bin op a b) w e = .ok (int z) e2 := by
  rw [Ro.e_bin, ha]
  simp only [Ro.b_ok, still, D.isIm, Bool.true_or, if_true, hb, binD, hz, Option.map_some, lift]
theorem cst_to {T : Tab} {x : I} {w : Bool} {e : En} : evalE T (.cst x) w e = .ok (.im x) e := Ro.e_cst x w e
theorem var_to {T : Tab} {i : Nat} {x : I} {w : Bool} {e : En} (h : e[i]? = some (.own (.im x))) : evalE T (.var i) w e = .ok (.im x) e := by
  rw [Ro.e_var]
  unfold readS
  rw [h]
theorem cmp_to {T : Tab} {op : Cm} {a b : E} {e e1 e2 : En} {x y : I} {z : Bool} (ha : evalE T a false e = .ok (.im x) e1) (hb : evalE T b false e1 = .ok (.im y) e2) (hz : cmpD op (.im x) (.im y) = some z) : evalT T (.cmp op a b) e = .ok z e2 := by
  rw [Ro.t_cmp, Ro.e_cmp, ha]
  simp only [Ro.b_ok, still, D.isIm, Bool.true_or, if_true, hb, hz, Option.map_some, lift, asBool]
theorem mul_sgn {x y : Int} (hx : x.natAbs < 2 ^ 200) (hy : y.natAbs < 2 ^ 200) : binI .mul x y = some (x * y) := by
  unfold binI
  have h1 := log_le hx
  have h2 := log_le hy
  simp only
  rw [if_pos (by omega)]
end Kh

set_option Elab.async false
set_option linter.all false
set_option maxRecDepth 100000
set_option maxHeartbeats 2000000
/-! what is wanted of a run: predicates over the places behind -/
namespace Kh
open PySem L2
/-- keeps a proof by running from being taken for none -/
theorem nr {α : Sort _} {a b : α} (h : a = b) : a = b := h
/-- holds what follows fast: rewriting does not walk into it -/
inductive Tk {α : Type} (Q : α → En → Prop) (X : Str → I → I → En → Prop) : Type where | k
def WP {α : Type} (o : Out α) (Q : α → En → Prop) (X : Str → I → I → En → Prop) (_ : Tk Q X := .k) : Prop := match o with
  | .ok a e => Q a e
  | .exc c x y e => X c x y e
  | .bad => False
abbrev noX : Str → I → I → En → Prop := fun _ _ _ _ => False
section
variable {α β : Type} {o : Out α} {Q Q' : α → En → Prop} {X X' : Str → I → I → En → Prop} {T : Tab}
theorem WP.mono (h : WP o Q X) (hq : ∀ a e, Q a e → Q' a e) (hx : ∀ c x y e, X c x y e → X' c x y e) : WP o Q' X' := by
  cases o with
  | ok a e => exact hq a e h
  | exc c x y e => exact hx c x y e h
  | bad => exact h
theorem WP.mono' (h : WP o Q X) (hq : ∀ a e, Q a e → Q' a e) : WP o Q' X := h.mono hq fun _ _ _ _ h => h
/-- nothing raised -/
theorem WP.to (h : WP o Q noX) (hq : ∀ a e, Q a e → Q' a e) : WP o Q' X' := h.mono hq fun _ _ _ _ h => h.elim
theorem WP_Q (h : ∀ a e, Q a e = Q' a e) : WP o Q X = WP o Q' X := by
  cases o with
  | ok a e => exact h a e
  | exc c x y e => rfl
  | bad => rfl
theorem WP.ex (h : WP o Q noX) : ∃ a e, o = .ok a e ∧ Q a e := by
  cases o with
  | ok a e => exact ⟨a, e, rfl, h⟩
  | exc c x y e => exact h.elim
  | bad => exact h.elim
theorem WP.of_eq {a : α} {e : En} (h : o = .ok a e) (q : Q a e) : WP o Q X := by rw [h]; exact q
theorem WP_ok {a : α} {e : En} : WP (.ok a e) Q X = Q a e := nr rfl
theorem WP_exc {c : Str} {x y : I} {e : En} : WP (.exc c x y e : Out α) Q X = X c x y e := nr rfl
theorem WP_bad : WP (.bad : Out α) Q X = False := nr rfl
theorem WP_bind {o : Out β} {f : β → En → Out α} : WP (o.bind f) Q X = WP o (fun a e => WP (f a e) Q X) X := by
  cases o <;> rfl
theorem WP_ifbad {p : Prop} [Decidable p] : WP (if p then o else .bad) Q X = (p ∧ WP o Q X) := by
  by_cases h : p <;> simp [h, WP]
theorem WP_ite {p : Prop} [Decidable p] {o' : Out α} : WP (if p then o else o') Q X = ((p → WP o Q X) ∧ (¬ p → WP o' Q X)) := by
  by_cases h : p <;> simp [h]
theorem WP_lift {a : α} {e : En} : WP (lift (some a) e) Q X = Q a e := nr rfl
theorem WP_liftN {e : En} : WP (lift (none : Option α) e) Q X = False := nr rfl
theorem WP_liftI {p : Prop} [Decidable p] {a : Option α} {e : En} : WP (lift (if p then a else none) e) Q X = (p ∧ WP (lift a e) Q X) := by
  by_cases h : p <;> simp [h, WP, lift]
theorem WP_liftM {a : Option β} {f : β → α} {e : En} : WP (lift (a.map f) e) Q X = WP (lift a e) (fun b e => Q (f b) e) X := by
  cases a <;> rfl
theorem WP_liftB {a : Option β} {f : β → Option α} {e : En} : WP (lift (a.bind f) e) Q X = WP (lift a e) (fun b e => WP (lift (f b) e) Q X) X := by
  cases a <;> rfl
/-! ### statements -/
def SeqK (T : Tab) (r : Ss) (Q : Fl → En → Prop) (X : Str → I → I → En → Prop) : Fl → En → Prop
  | .nx, e => WP (execs T r e) Q X
  | .rt v, e => Q (.rt v) e
  | .bk, e => Q .bk e
  | .ct, e => Q .ct e
theorem SeqK_nx {r : Ss} {Q : Fl → En → Prop} {e : En} : SeqK T r Q X .nx e = WP (execs T r e) Q X := nr rfl
theorem SeqK_rt {r : Ss} {Q : Fl → En → Prop} {e : En} {v : D} : SeqK T r Q X (.rt v) e = Q (.rt v) e := nr rfl
theorem SeqK_bk {r : Ss} {Q : Fl → En → Prop} {e : En} : SeqK T r Q X .bk e = Q .bk e := nr rfl
theorem SeqK_ct {r : Ss} {Q : Fl → En → Prop} {e : En} : SeqK T r Q X .ct e = Q .ct e := nr rfl
theorem WP_cons {s : S} {r : Ss} {Q : Fl → En → Prop} {e : En} : WP (execs T (.cons s r) e) Q X = WP (exec T s e) (SeqK T r Q X) X := by
  rw [Ro.ss_cons]
  cases exec T s e with
  | ok f e => cases f <;> rfl
  | exc c x y e => rfl
  | bad => rfl
theorem WP_nil {Q : Fl → En → Prop} {e : En} : WP (execs T .nil e) Q X = Q .nx e := by rw [Ro.ss_nil]; rfl
def ClrK (dead : List Nat) (Q : Fl → En → Prop) : Fl → En → Prop
  | .rt v, e => Q (.rt v) e
  | .nx, e => Q .nx (Kh.clear dead e)
  | .bk, e => Q .bk (Kh.clear dead e)
  | .ct, e => Q .ct (Kh.clear dead e)
theorem ClrK_nx {d : List Nat} {Q : Fl → En → Prop} {e : En} : ClrK d Q .nx e = Q .nx (Kh.clear d e) := nr rfl
theorem ClrK_bk {d : List Nat} {Q : Fl → En → Prop} {e : En} : ClrK d Q .bk e = Q .bk (Kh.clear d e) := nr rfl
theorem ClrK_ct {d : List Nat} {Q : Fl → En → Prop} {e : En} : ClrK d Q .ct e = Q .ct (Kh.clear d e) := nr rfl
theorem ClrK_rt {d : List Nat} {Q : Fl → En → Prop} {e : En} {v : D} : ClrK d Q (.rt v) e = Q (.rt v) e := nr rfl
theorem WP_clr {o : Out Fl} {dead : List Nat} {Q : Fl → En → Prop} : WP (stepClear dead o) Q X = WP o (ClrK dead Q) X := by
  cases o with
  | ok f e => cases f <;> rfl
  | exc c x y e => rfl
  | bad => rfl
theorem WP_try {b : Ss} {c : Str} {v : Option Nat} {h : Hs} {e : En} {Q : Fl → En → Prop} : WP (exec T (.tryx b c v h) e) Q X = ((T.ec.contains c && vOk v e) = true ∧ WP (execs T b e) Q (fun cc x y e' => (cc == c) = true ∧ WP (runH h x y (clearV v e')) Q X)) := by
  rw [Ro.s_try]
  by_cases q : (T.ec.contains c && vOk v e) = true
  · rw [if_pos q]
    simp only [q, true_and]
    cases execs T b e with
    | ok f e => cases f <;> rfl
    | exc cc x y e =>
      show WP (if (cc == c) = true then _ else _) Q X = _
      rw [WP_ifbad]
      rfl
    | bad => rfl
  · rw [if_neg q]
    simp only [q, Bool.false_eq_true, false_and]
    rfl
/-! ### calls -/
def backO : Option En → D → Out D
  | some e, v => .ok v e
  | none, _ => .bad
theorem WP_callF {f : Fn} {as : List (Slot × Option Nat)} {e : En} {Q : D → En → Prop} : WP (callF f as e) Q X = WP (f (as.map (·.1))) (fun v fin => WP (backO (giveBack (as.map (·.2)) fin e) v) Q X) (fun c x y _ => X c x y e) := by
  unfold callF
  cases f (as.map (·.1)) with
  | ok d fin =>
    cases h : giveBack (as.map (·.2)) fin e with
    | none => simp [WP, h, backO]
    | some e' => simp [WP, h, backO]
  | exc c x y e => rfl
  | bad => rfl
def callT (T : Tab) (r : Option Fn) (es : Es) (e : En) : Out D := match r with
  | some g => (evalAs T es e).bind fun as e => callF g as e
  | none => .bad
theorem WP_callE {f : Str} {es : Es} {w : Bool} {e : En} {Q : D → En → Prop} : WP (evalE T (.call f es) w e) Q X = WP (callT T (T.fn f) es e) Q X := by
  rw [Ro.e_call]
  rfl
theorem WP_callT {g : Fn} {es : Es} {e : En} {Q : D → En → Prop} : WP (callT T (some g) es e) Q X = WP (evalAs T es e) (fun as e => WP (callF g as e) Q X) X := nr WP_bind
theorem WP_call {f : Str} {g : Fn} {es : Es} {w : Bool} {e : En} {Q : D → En → Prop} (hf : T.fn f = some g) : WP (evalE T (.call f es) w e) Q X = WP (evalAs T es e) (fun as e => WP (callF g as e) Q X) X := by
  rw [Ro.e_call, hf]
  exact WP_bind
def SemK (d : Fd) (Q : D → En → Prop) : Fl → En → Prop
  | .rt v, e => Q v ((Kh.clear d.body.stores e).take d.ps)
  | .nx, e => Q (.im .non) ((Kh.clear d.body.stores e).take d.ps)
  | _, _ => False
theorem SemK_rt {d : Fd} {Q : D → En → Prop} {v : D} {e : En} : SemK d Q (.rt v) e = Q v ((Kh.clear d.body.stores e).take d.ps) := nr rfl
theorem SemK_nx {d : Fd} {Q : D → En → Prop} {e : En} : SemK d Q .nx e = Q (.im .non) ((Kh.clear d.body.stores e).take d.ps) := nr rfl
theorem WP_sem {d : Fd} {as : List Slot} {Q : D → En → Prop} (hl : as.length = d.ps) (h : WP (execs T d.body (as ++ List.replicate (d.n - d.ps) .no)) (SemK d Q) (fun c x y _ => X c x y [])) : WP (d.sem T as) Q X := by
  simp only [Fd.sem, hl, if_true]
  cases q : execs T d.body (as ++ List.replicate (d.n - d.ps) .no) with
  | ok f e =>
    rw [q] at h
    cases f with
    | nx => exact h
    | rt v => exact h
    | bk => exact h.elim
    | ct => exact h.elim
  | exc c x y e =>
    rw [q] at h
    exact h
  | bad =>
    rw [q] at h
    exact h
/-- a run whose result is one alone -/
theorem WP.eq {a : α} {e : En} (h : WP o (fun b f => b = a ∧ f = e) noX) : o = .ok a e := by
  obtain ⟨b, f, h1, rfl, rfl⟩ := h.ex
  exact h1
def isOL (e : En) (i : Nat) : Bool := match e[i]? with
  | some (.own (.lst _)) => true
  | _ => false
def isOM (e : En) (i : Nat) : Bool := match e[i]? with
  | some (.own (.im _)) => false
  | some (.own _) => true
  | _ => false
def mutO (m : Mm) (i : Nat) (ds : List D) (e : En) : Out D := match e[i]? with
  | some (.own d) => (lift (mutD m d ds) e).bind fun rd e => .ok rd.1 (e.set i (.own rd.2))
  | _ => .bad
def setO (i : Nat) (k v : D) (e : En) : Out Fl := match e[i]? with
  | some (.own d) => (lift (setD d k v) e).bind fun d' e => .ok .nx (e.set i (.own d'))
  | _ => .bad
theorem WP_mut {m : Mm} {i : Nat} {es : Es} {w : Bool} {e : En} {Q : D → En → Prop} (hd : Mm.sd m = false) : WP (evalE T (.mut m i es) w e) Q X = (m.sup = true ∧ isOL e i = true ∧ WP (evalEs T es e) (fun ds e => WP (mutO m i ds e) Q X) X) := by
  rw [Ro.e_mut]
  cases hm : m.sup with
  | false => simp [WP, hd]
  | true =>
    simp only [Bool.true_eq_false, if_false, true_and]
    have rest : ∀ (o : Out (List D)), WP (o.bind fun ds e => (match e[i]? with
        | some (.own d) => (match mutD m d ds with
          | some (r, d') => .ok r (e.set i (.own d'))
          | none => .bad)
        | _ => .bad)) Q X = WP o (fun ds e => WP (mutO m i ds e) Q X) X := fun o => by
      rw [WP_bind]
      refine WP_Q fun ds e => ?_
      unfold mutO
      split
      · rename_i d h2
        rw [WP_bind]
        cases mutD m d ds <;> rfl
      · rfl
    unfold isOL
    cases h : e[i]? with
    | none => simp [WP]
    | some s =>
      cases s with
      | own d => cases d <;> first | (simp only [true_and]; exact rest _) | simp [WP]
      | _ => simp [WP]
theorem WP_mutA {i : Nat} {es : Es} {w : Bool} {e : En} {Q : D → En → Prop} : WP (evalE T (.mut .append i es) w e) Q X = (Mm.sup .append = true ∧ isOL e i = true ∧ WP (evalEs T es e) (fun ds e => WP (mutO .append i ds e) Q X) X) := WP_mut rfl
theorem WP_mutE {i : Nat} {es : Es} {w : Bool} {e : En} {Q : D → En → Prop} : WP (evalE T (.mut .extend i es) w e) Q X = (Mm.sup .extend = true ∧ isOL e i = true ∧ WP (evalEs T es e) (fun ds e => WP (mutO .extend i ds e) Q X) X) := WP_mut rfl
theorem WP_mutP {i : Nat} {es : Es} {w : Bool} {e : En} {Q : D → En → Prop} : WP (evalE T (.mut .pop i es) w e) Q X = (Mm.sup .pop = true ∧ isOL e i = true ∧ WP (evalEs T es e) (fun ds e => WP (mutO .pop i ds e) Q X) X) := WP_mut rfl
theorem WP_mutI {i : Nat} {es : Es} {w : Bool} {e : En} {Q : D → En → Prop} : WP (evalE T (.mut .insert i es) w e) Q X = (Mm.sup .insert = true ∧ isOL e i = true ∧ WP (evalEs T es e) (fun ds e => WP (mutO .insert i ds e) Q X) X) := WP_mut rfl
def isOD (e : En) (i : Nat) : Bool := match e[i]? with
  | some (.own (.dct false _)) => true
  | _ => false
theorem WP_sd {i : Nat} {es : Es} {w : Bool} {e : En} {Q : D → En → Prop} : WP (evalE T (.mut .setdefault i es) w e) Q X = (isOD e i = true ∧ WP (evalBs T es e) (fun xs e => WP (sdO i xs e) Q X) X) := by
  rw [Ro.e_mut]
  simp only [Mm.sup, Mm.sd, if_true]
  cases h : e[i]? with
  | none => simp [isOD, h, WP]
  | some s =>
    cases s with
    | own d =>
      cases d with
      | dct t kvs =>
        cases t with
        | false =>
          simp only [isOD, h, true_and]
          exact WP_bind
        | true => simp [isOD, h, WP]
      | _ => simp [isOD, h, WP]
    | _ => simp [isOD, h, WP]
theorem WP_setix {i : Nat} {p a : E} {e : En} {Q : Fl → En → Prop} : WP (exec T (.setix i (.cons p .nil) a) e) Q X = WP (evalE T a true e) (fun v e => isOM e i = true ∧ WP (evalE T p false e) (fun k e => WP (setO i k v e) Q X) X) X := by
  rw [Ro.s_setix, WP_bind]
  refine WP_Q fun v e => ?_
  have rest : WP ((evalE T p false e).bind fun k e => (match e[i]? with
      | some (.own d) => (match setD d k v with
        | some d' => .ok .nx (e.set i (.own d'))
        | none => .bad)
      | _ => .bad)) Q X = WP (evalE T p false e) (fun k e => WP (setO i k v e) Q X) X := by
    rw [WP_bind]
    refine WP_Q fun k e => ?_
    unfold setO
    split
    · rename_i d h2
      rw [WP_bind]
      cases setD d k v <;> rfl
    · rfl
  unfold isOM
  cases h : e[i]? with
  | none => simp [WP]
  | some s =>
    cases s with
    | own d => cases d <;> first | (simp only [true_and]; exact rest) | simp [WP]
    | _ => simp [WP]
/-! ### loops -/
def ForK (I : En → Prop) (Q : Fl → En → Prop) : Fl → En → Prop
  | .nx, e => I e
  | .ct, e => I e
  | .bk, e => Q .nx e
  | .rt v, e => Q (.rt v) e
theorem ForK_nx {I : En → Prop} {Q : Fl → En → Prop} {e : En} : ForK I Q .nx e = I e := nr rfl
theorem ForK_ct {I : En → Prop} {Q : Fl → En → Prop} {e : En} : ForK I Q .ct e = I e := nr rfl
theorem ForK_bk {I : En → Prop} {Q : Fl → En → Prop} {e : En} : ForK I Q .bk e = Q .nx e := nr rfl
theorem ForK_rt {I : En → Prop} {Q : Fl → En → Prop} {e : En} {v : D} : ForK I Q (.rt v) e = Q (.rt v) e := nr rfl
theorem WP_forGo {γ : Type} {turn : D → En → Out Fl} {Q : Fl → En → Prop} (enc : γ → D) (I : List γ → En → Prop) (done : ∀ e, I [] e → Q .nx e) (step : ∀ a r e, I (a :: r) e → WP (turn (enc a) e) (ForK (I r) Q) X) : ∀ (l : List γ) (e : En), I l e → WP (forGo turn (l.map enc) e) Q X
  | [], e, h => done e h
  | a :: r, e, h => by
    have s := step a r e h
    rw [List.map_cons]
    unfold forGo
    cases q : turn (enc a) e with
    | ok f e1 =>
      rw [q] at s
      cases f with
      | nx => exact WP_forGo enc I done step r e1 s
      | ct => exact WP_forGo enc I done step r e1 s
      | bk => exact s
      | rt v => exact s
    | exc c x y e1 =>
      rw [q] at s
      exact s
    | bad =>
      rw [q] at s
      exact s
theorem WP_fors {w : Wk} {t : Tg} {dead : List Nat} {body : Ss} {e : En} {Q : Fl → En → Prop} : WP (exec T (.fors w t dead body) e) Q X = WP (evalW T w e) (fun xs e1 => WP (forGo (forT T t dead body) xs (Kh.clear dead (lockAll w.src e1))) (fun f e => Q f (Kh.settle e1 w.src (t.slots ++ body.stores) [] e)) (fun c x y e => X c x y (Kh.settle e1 w.src (t.slots ++ body.stores) [] e))) X := by
  simp only [exec]
  rw [WP_bind]
  refine WP_Q fun xs e1 => ?_
  show WP (settleF e1 w.src (t.slots ++ body.stores) (forGo (forT T t dead body) xs (Kh.clear dead (lockAll w.src e1)))) Q X = _
  cases forGo (forT T t dead body) xs (Kh.clear dead (lockAll w.src e1)) <;> rfl
/-- a loop over typed items under an invariant -/
theorem WP_for {γ : Type} {w : Wk} {t : Tg} {dead : List Nat} {body : Ss} {e : En} {Q : Fl → En → Prop} (enc : γ → D) (I : List γ → En → Prop) (l : List γ) (e0 e1 : En) (hw : evalW T w e = .ok (l.map enc) e1) (h0 : Kh.clear dead (lockAll w.src e1) = e0) (i0 : I l e0)
    (step : ∀ a r e, I (a :: r) e → WP (forT T t dead body (enc a) e) (ForK (I r) fun f e => Q f (Kh.settle e1 w.src (t.slots ++ body.stores) [] e)) (fun c x y e => X c x y (Kh.settle e1 w.src (t.slots ++ body.stores) [] e))) (done : ∀ e, I [] e → Q .nx (Kh.settle e1 w.src (t.slots ++ body.stores) [] e)) : WP (exec T (.fors w t dead body) e) Q X := by
  subst h0
  rw [WP_fors, hw]
  exact WP_forGo enc I done step l _ i0
theorem forT_eq {t : Tg} {dead : List Nat} {body : Ss} {d : D} {e : En} : forT T t dead body d e = match bindT t d true e with
    | some e1 => stepClear dead (execs T body e1)
    | none => .bad := rfl
theorem WP_forT {t : Tg} {dead : List Nat} {body : Ss} {d : D} {e e1 : En} {Q : Fl → En → Prop} (h : bindT t d true e = some e1) (hb : WP (execs T body e1) (ClrK dead Q) X) : WP (forT T t dead body d e) Q X := by
  rw [forT_eq, h]
  show WP (stepClear dead (execs T body e1)) Q X
  rw [WP_clr]
  exact hb
/-- a while loop: at most n turns more -/
theorem WP_whileN {test : En → Out Bool} {body : En → Out Fl} {Q : Fl → En → Prop} (I : Nat → En → Prop) (step : ∀ n e, I n e → WP (test e) (fun b e1 => (b = true → ∃ m, n = m + 1 ∧ WP (body e1) (ForK (I m) Q) X) ∧ (b = false → Q .nx e1)) X) : ∀ (n : Nat) (e : En), I n e → WP (whileN test body (n + 1) e) Q X
  | n, e, h => by
    have s := step n e h
    unfold whileN
    cases q : test e with
    | exc c x y e1 => rw [q] at s; exact s
    | bad => rw [q] at s; exact s
    | ok b e1 =>
      rw [q] at s
      obtain ⟨s1, s2⟩ := s
      cases b with
      | false => exact s2 rfl
      | true =>
        obtain ⟨m, rfl, s3⟩ := s1 rfl
        simp only
        cases q2 : body e1 with
        | exc c x y e2 => rw [q2] at s3; exact s3
        | bad => rw [q2] at s3; exact s3
        | ok f e2 =>
          rw [q2] at s3
          cases f with
          | nx => exact WP_whileN I step m e2 s3
          | ct => exact WP_whileN I step m e2 s3
          | bk => exact s3
          | rt v => exact s3
theorem WP_while {a : E} {dead : List Nat} {body : Ss} {e : En} {Q : Fl → En → Prop} (I : Nat → En → Prop) (n : Nat) (i0 : I n e) (step : ∀ n e, I n e → WP (evalT T a e) (fun b e1 => (b = true → ∃ m, n = m + 1 ∧ WP (execs T body e1) (ClrK dead (ForK (I m) Q)) X) ∧ (b = false → Q .nx e1)) X) : WP (exec T (.whiles a dead body) e) Q X := by
  rw [while_eq]
  have h := WP_whileN (test := evalT T a) (body := fun e => stepClear dead (execs T body e)) (Q := Q) (X := X) I (fun n e i => (step n e i).mono' fun b e1 k => ⟨fun hb => by
    obtain ⟨m, h1, h2⟩ := k.1 hb
    exact ⟨m, h1, by rw [WP_clr]; exact h2⟩, k.2⟩) n e i0
  have hn : whileN (evalT T a) (fun e => stepClear dead (execs T body e)) (n + 1) e ≠ .bad := fun z => by rw [z] at h; exact h
  rw [whileGo_of rfl hn]
  exact h
/-! ### ranges -/
@[irreducible] def rgO : D → En → Out (List D)
  | .im (.int j), e => if j ≤ 1000000 ∧ -1000000 ≤ j then .ok (rangeL 0 j.toNat) e else .bad
  | _, _ => .bad
@[irreducible] def rgO2 : D → D → En → Out (List D)
  | .im (.int i), .im (.int j), e => if (j ≤ 1000000 ∧ -1000000 ≤ j) ∧ (i ≤ 1000000 ∧ -1000000 ≤ i) then .ok (rangeL i (j - i).toNat) e else .bad
  | _, _, _ => .bad
theorem WP_range1 {a : E} {e : En} {Q : List D → En → Prop} : WP (evalW T (.range (.cons a .nil)) e) Q X = WP (evalE T a true e) (fun v e => WP (rgO v e) Q X) X := by
  rw [Ro.w_range, if_neg (by simp [Es.len]), WP_bind, Ro.es_cons, WP_bind]
  refine WP_Q fun v e => ?_
  rw [WP_bind, Ro.es_nil]
  show WP (match [v] with
    | [.im (.int j)] => if j ≤ 1000000 ∧ -1000000 ≤ j then .ok (rangeL 0 j.toNat) e else .bad
    | [.im (.int i), .im (.int j)] => if (j ≤ 1000000 ∧ -1000000 ≤ j) ∧ (i ≤ 1000000 ∧ -1000000 ≤ i) then .ok (rangeL i (j - i).toNat) e else .bad
    | [.im (.int i), .im (.int j), .im (.int c)] => if c = -1 ∧ (j ≤ 1000000 ∧ -1000000 ≤ j) ∧ (i ≤ 1000000 ∧ -1000000 ≤ i) then .ok (rangeS i (-1) (i - j).toNat) e else .bad
    | _ => .bad) Q X = _
  unfold rgO
  cases v with
  | im x => cases x <;> rfl
  | _ => rfl
theorem WP_range2 {a b : E} {e : En} {Q : List D → En → Prop} : WP (evalW T (.range (.cons a (.cons b .nil))) e) Q X = WP (evalE T a true e) (fun u e => WP (evalE T b true e) (fun v e => WP (rgO2 u v e) Q X) X) X := by
  rw [Ro.w_range, if_neg (by simp [Es.len]), WP_bind, Ro.es_cons, WP_bind]
  refine WP_Q fun u e => ?_
  rw [WP_bind, Ro.es_cons, WP_bind]
  refine WP_Q fun v e => ?_
  rw [WP_bind, Ro.es_nil]
  show WP (match [u, v] with
    | [.im (.int j)] => if j ≤ 1000000 ∧ -1000000 ≤ j then .ok (rangeL 0 j.toNat) e else .bad
    | [.im (.int i), .im (.int j)] => if (j ≤ 1000000 ∧ -1000000 ≤ j) ∧ (i ≤ 1000000 ∧ -1000000 ≤ i) then .ok (rangeL i (j - i).toNat) e else .bad
    | [.im (.int i), .im (.int j), .im (.int c)] => if c = -1 ∧ (j ≤ 1000000 ∧ -1000000 ≤ j) ∧ (i ≤ 1000000 ∧ -1000000 ≤ i) then .ok (rangeS i (-1) (i - j).toNat) e else .bad
    | _ => .bad) Q X = _
  unfold rgO2
  cases u with
  | im x =>
    cases x with
    | int i => cases v with
      | im y => cases y <;> rfl
      | _ => rfl
    | _ => rfl
  | _ => rfl
theorem rg_wp {n : Nat} {j : Int} {e : En} {Q : List D → En → Prop} (hj : j = n) (hn : n ≤ 1000000) (h : Q ((List.range n).map fun (i : Nat) => int (i : Int)) e) : WP (rgO (int j) e) Q X := by
  subst hj
  unfold rgO
  show WP (if (n : Int) ≤ 1000000 ∧ -1000000 ≤ (n : Int) then Out.ok (rangeL 0 (n : Int).toNat) e else .bad) Q X
  rw [if_pos (by omega), Int.toNat_natCast, rangeL_map]
  exact h
theorem rg_wp2 {lo n : Nat} {i j : Int} {e : En} {Q : List D → En → Prop} (hi : i = lo) (hj : j = ((lo + n : Nat) : Int)) (hn : lo + n ≤ 1000000) (h : Q ((List.range n).map fun (k : Nat) => int ((lo + k : Nat) : Int)) e) : WP (rgO2 (int i) (int j) e) Q X := by
  subst hi hj
  unfold rgO2
  show WP (if (((lo + n : Nat) : Int) ≤ 1000000 ∧ -1000000 ≤ ((lo + n : Nat) : Int)) ∧ ((lo : Int) ≤ 1000000 ∧ -1000000 ≤ (lo : Int)) then Out.ok (rangeL (lo : Int) (((lo + n : Nat) : Int) - (lo : Int)).toNat) e else .bad) Q X
  have e1 : (((lo + n : Nat) : Int) - (lo : Int)).toNat = n := by omega
  rw [if_pos (by omega), e1]
  have e2 : rangeL (lo : Int) n = (List.range n).map fun (k : Nat) => int ((lo + k : Nat) : Int) := by
    unfold rangeL
    refine List.map_congr_left fun k _ => ?_
    show D.im (.int ((lo : Int) + (k : Int))) = D.im (.int ((lo + k : Nat) : Int))
    congr 2
  rw [e2]
  exact h
/-! ### comprehensions -/
theorem WP_lcGo {γ : Type} {turn : D → En → Out (Option D)} {Q : List D → En → Prop} (enc : γ → D) (I : List γ → List D → En → Prop) (done : ∀ acc e, I [] acc e → Q acc e) (step : ∀ a r acc e, I (a :: r) acc e → WP (turn (enc a) e) (fun o e' => I r (match o with | some y => acc ++ [y] | none => acc) e') X) : ∀ (l : List γ) (e : En), I l [] e → WP (lcGo turn (l.map enc) e) Q X := by
  have key : ∀ (l : List γ) (acc : List D) (e : En), I l acc e → WP (lcGo turn (l.map enc) e) (fun ys e' => Q (acc ++ ys) e') X := by
    intro l
    induction l with
    | nil =>
      intro acc e h
      show Q (acc ++ []) e
      rw [List.append_nil]
      exact done acc e h
    | cons a r ih =>
      intro acc e h
      have s := step a r acc e h
      rw [List.map_cons]
      unfold lcGo
      rw [WP_bind]
      refine s.mono' fun o e1 k => ?_
      rw [WP_bind]
      refine (ih _ e1 k).mono' fun ys e2 k2 => ?_
      cases o with
      | none => exact k2
      | some y =>
        show Q (acc ++ (y :: ys)) e2
        have k3 : Q (acc ++ [y] ++ ys) e2 := k2
        rwa [List.append_assoc] at k3
  intro l e h
  have := key l [] e h
  simpa using this
theorem WP_lc {w : Wk} {tg : Tg} {own : List (Str × Nat)} {c : Eo} {elt : E} {b : Bool} {e : En} {Q : D → En → Prop} : WP (evalE T (.lc w tg own c elt) b e) Q X = WP (evalW T w e) (fun xs e1 => xs.length ≤ big ∧ WP (lcGo (lcT T tg (own.map (·.2)) c elt) xs (Kh.clear (own.map (·.2)) (lockAll w.src e1))) (fun ys e => Q (.lst ys) (Kh.settle e1 w.src (own.map (·.2)) (own.map (·.2)) e)) X) X := by
  simp only [evalE]
  rw [WP_bind]
  refine WP_Q fun xs e1 => ?_
  rw [WP_ifbad, WP_bind]
  rfl
end
end Kh

set_option Elab.async false
set_option linter.all false
set_option maxRecDepth 100000
set_option maxHeartbeats 2000000
/-! the evaluator's rows as rules of what is wanted -/
namespace Kh.W
open PySem L2 Kh
variable {T : Tab} {Xx : Str → I → I → En → Prop}
theorem e_cst {Qq : D → En → Prop} : ∀ x own e, WP (evalE T (.cst x) own e) Qq Xx = WP (.ok (.im x) e) Qq Xx := by
  intros
  first | (rw [Ro.e_cst]; done) | (rw [Ro.e_cst]; rfl)
theorem e_glob {Qq : D → En → Prop} : ∀ x own e, WP (evalE T (.glob x) own e) Qq Xx = WP (lift ((T.gl x).map .im) e) Qq Xx := by
  intros
  first | (rw [Ro.e_glob]; done) | (rw [Ro.e_glob]; rfl)
theorem e_tup {Qq : D → En → Prop} : ∀ es own e, WP (evalE T (.tup es) own e) Qq Xx = WP ((evalEs T es e).bind fun ds e => .ok (mkTup ds) e) Qq Xx := by
  intros
  first | (rw [Ro.e_tup]; done) | (rw [Ro.e_tup]; rfl)
theorem e_lst {Qq : D → En → Prop} : ∀ es own e, WP (evalE T (.lst es) own e) Qq Xx = WP ((evalEs T es e).bind fun ds e => .ok (.lst ds) e) Qq Xx := by
  intros
  first | (rw [Ro.e_lst]; done) | (rw [Ro.e_lst]; rfl)
theorem e_dnew {Qq : D → En → Prop} : ∀ own e, WP (evalE T .dnew own e) Qq Xx = WP (.ok (.dct false []) e) Qq Xx := by
  intros
  first | (rw [Ro.e_dnew]; done) | (rw [Ro.e_dnew]; rfl)
theorem e_bin {Qq : D → En → Prop} : ∀ op a b own e, WP (evalE T (.bin op a b) own e) Qq Xx = WP ((evalE T a false e).bind fun x e => still x (b.pure || a.src.isEmpty) ((evalE T b false e).bind fun y e => lift (binD op x y) e)) Qq Xx := by
  intros
  first | (rw [Ro.e_bin]; done) | (rw [Ro.e_bin]; rfl)
theorem e_neg {Qq : D → En → Prop} : ∀ a own e, WP (evalE T (.neg a) own e) Qq Xx = WP ((evalE T a false e).bind fun x e => (asInt x e).bind fun i e => .ok (.im (.int (-i))) e) Qq Xx := by
  intros
  first | (rw [Ro.e_neg]; done) | (rw [Ro.e_neg]; rfl)
theorem e_not {Qq : D → En → Prop} : ∀ a own e, WP (evalE T (.not a) own e) Qq Xx = WP ((evalE T a false e).bind fun x e => (asBool x e).bind fun b e => .ok (.im (.bl (!b))) e) Qq Xx := by
  intros
  first | (rw [Ro.e_not]; done) | (rw [Ro.e_not]; rfl)
theorem e_cmp {Qq : D → En → Prop} : ∀ op a b own e, WP (evalE T (.cmp op a b) own e) Qq Xx = WP ((evalE T a false e).bind fun x e => still x b.pure ((evalE T b false e).bind fun y e => lift ((cmpD op x y).map fun b => .im (.bl b)) e)) Qq Xx := by
  intros
  first | (rw [Ro.e_cmp]; done) | (rw [Ro.e_cmp]; rfl)
theorem e_chain {Qq : D → En → Prop} : ∀ o1 o2 a b c own e, WP (evalE T (.chain o1 o2 a b c) own e) Qq Xx = WP ((evalE T a false e).bind fun x e => (asInt x e).bind fun i e => (evalE T b false e).bind fun y e => (asInt y e).bind fun j e => if cmpI o1 i j then (evalE T c false e).bind fun z e => (asInt z e).bind fun k e => .ok (.im (.bl (cmpI o2 j k))) e else .ok (.im (.bl false)) e) Qq Xx := by
  intros
  first | (rw [Ro.e_chain]; done) | (rw [Ro.e_chain]; rfl)
theorem e_one {Qq : D → En → Prop} : ∀ a own e, WP (evalE T (.one a) own e) Qq Xx = WP (evalE T a own e) Qq Xx := by
  intros
  first | (rw [Ro.e_one]; done) | (rw [Ro.e_one]; rfl)
theorem e_and {Qq : D → En → Prop} : ∀ a b own e, WP (evalE T (.and a b) own e) Qq Xx = WP ((evalE T a false e).bind fun x e => (asBool x e).bind fun k e => if k then evalE T b own e else .ok (.im (.bl false)) e) Qq Xx := by
  intros
  first | (rw [Ro.e_and]; done) | (rw [Ro.e_and]; rfl)
theorem e_or {Qq : D → En → Prop} : ∀ a b own e, WP (evalE T (.or a b) own e) Qq Xx = WP ((evalE T a false e).bind fun x e => (asBool x e).bind fun k e => if k then .ok (.im (.bl true)) e else evalE T b own e) Qq Xx := by
  intros
  first | (rw [Ro.e_or]; done) | (rw [Ro.e_or]; rfl)
theorem e_ite {Qq : D → En → Prop} : ∀ c a b own e, WP (evalE T (.ite c a b) own e) Qq Xx = WP ((evalT T c e).bind fun k e => if k then evalE T a own e else evalE T b own e) Qq Xx := by
  intros
  first | (rw [Ro.e_ite]; done) | (rw [Ro.e_ite]; rfl)
theorem e_ix {Qq : D → En → Prop} : ∀ a b own e, WP (evalE T (.ix a b) own e) Qq Xx = WP ((evalE T a false e).bind fun x e => (still x b.pure ((evalE T b false e).bind fun y e => lift (ixD x y) e)).bind fun d e => needIm own d e) Qq Xx := by
  intros
  first | (rw [Ro.e_ix]; done) | (rw [Ro.e_ix]; rfl)
theorem e_sl {Qq : D → En → Prop} : ∀ a lo hi own e, WP (evalE T (.sl a lo hi) own e) Qq Xx = WP ((evalE T a false e).bind fun x e => still x (lo.pure && hi.pure) ((evalO T lo e).bind fun l e => (evalO T hi e).bind fun h e => lift (slD x l h) e)) Qq Xx := by
  intros
  first | (rw [Ro.e_sl]; done) | (rw [Ro.e_sl]; rfl)
theorem e_ixv {Qq : D → En → Prop} : ∀ i b own e, WP (evalE T (.ixv i b) own e) Qq Xx = WP ((readS i false e).bind fun _ e => (evalE T b false e).bind fun y e => (readS i false e).bind fun x e => (lift (ixV x y) e).bind fun d e => if d.isIm then .ok d e else .bad) Qq Xx := by
  intros
  first | (rw [Ro.e_ixv]; done) | (rw [Ro.e_ixv]; rfl)
theorem e_slv {Qq : D → En → Prop} : ∀ i lo hi own e, WP (evalE T (.slv i lo hi) own e) Qq Xx = WP ((readS i false e).bind fun _ e => (evalO T lo e).bind fun l e => (evalO T hi e).bind fun h e => (readS i false e).bind fun x e => lift (slD x l h) e) Qq Xx := by
  intros
  first | (rw [Ro.e_slv]; done) | (rw [Ro.e_slv]; rfl)
theorem e_rev {Qq : D → En → Prop} : ∀ a own e, WP (evalE T (.rev a) own e) Qq Xx = WP ((evalE T a false e).bind fun x e => lift (revD x) e) Qq Xx := by
  intros
  first | (rw [Ro.e_rev]; done) | (rw [Ro.e_rev]; rfl)
theorem e_lrange {Qq : D → En → Prop} : ∀ es own e, WP (evalE T (.lrange es) own e) Qq Xx = WP (if es.len = 0 ∨ 2 < es.len then .bad else (evalBs T es e).bind fun ds e => (match ds with | [.int j] => if j ≤ 1000000 ∧ -1000000 ≤ j then .ok (.lst (rangeL 0 j.toNat)) e else .bad | [.int i, .int j] => if (j ≤ 1000000 ∧ -1000000 ≤ j) ∧ (i ≤ 1000000 ∧ -1000000 ≤ i) then .ok (.lst (rangeL i (j - i).toNat)) e else .bad | _ => .bad)) Qq Xx := by
  intros
  first | (rw [Ro.e_lrange]; done) | (rw [Ro.e_lrange]; rfl)
theorem e_disp {Qq : D → En → Prop} : ∀ ks vs own e, WP (evalE T (.disp ks vs) own e) Qq Xx = WP (if ks.length ≤ 15 ∧ ks.all isKey ∧ vs.all isKey ∧ distinct ks then .ok (.dct false (ks.zip (vs.map .im))) e else .bad) Qq Xx := by
  intros
  first | (rw [Ro.e_disp]; done) | (rw [Ro.e_disp]; rfl)
theorem e_dispD {Qq : D → En → Prop} : ∀ ks vs own e, WP (evalE T (.dispD ks vs) own e) Qq Xx = WP (if ks.length ≤ 15 ∧ ks.all isKey ∧ vs.all constD ∧ distinct ks then .ok (.dct false (ks.zip vs)) e else .bad) Qq Xx := by
  intros
  first | (rw [Ro.e_dispD]; done) | (rw [Ro.e_dispD]; rfl)
theorem e_gcd {Qq : D → En → Prop} : ∀ a b own e, WP (evalE T (.gcd a b) own e) Qq Xx = WP (if T.im then (evalE T a false e).bind fun x e => still x b.pure ((evalE T b false e).bind fun y e => lift (biD .gcd [x, y]) e) else .bad) Qq Xx := by
  intros
  first | (rw [Ro.e_gcd]; done) | (rw [Ro.e_gcd]; rfl)
theorem e_isin {Qq : D → En → Prop} : ∀ a t own e, WP (evalE T (.isin a t) own e) Qq Xx = WP ((evalE T a false e).bind fun x e => (asIm x e).bind fun x e => lift ((isinD t x).map fun b => .im (.bl b)) e) Qq Xx := by
  intros
  first | (rw [Ro.e_isin]; done) | (rw [Ro.e_isin]; rfl)
theorem e_bi1 {Qq : D → En → Prop} : ∀ f a own e, WP (evalE T (.bi f (.cons a .nil)) own e) Qq Xx = WP ((evalE T a false e).bind fun x e => lift (biD f [x]) e) Qq Xx := by
  intros
  first | (rw [Ro.e_bi1]; done) | (rw [Ro.e_bi1]; rfl)
theorem e_bi2 {Qq : D → En → Prop} : ∀ f a b own e, WP (evalE T (.bi f (.cons a (.cons b .nil))) own e) Qq Xx = WP ((evalE T a false e).bind fun x e => still x b.pure ((evalE T b false e).bind fun y e => lift (biD f [x, y]) e)) Qq Xx := by
  intros
  first | (rw [Ro.e_bi2]; done) | (rw [Ro.e_bi2]; rfl)
theorem e_get {Qq : D → En → Prop} : ∀ r es own e, WP (evalE T (.me .get r es) own e) Qq Xx = WP ((evalE T r false e).bind fun x e => if meOk .get x then still x es.pure ((evalBs T es e).bind fun xs e => lift (meD .get x xs) e) else .bad) Qq Xx := by
  intros
  first | (rw [Ro.e_get]; done) | (rw [Ro.e_get]; rfl)
theorem e_index {Qq : D → En → Prop} : ∀ r a own e, WP (evalE T (.me .index r (.cons a .nil)) own e) Qq Xx = WP ((evalE T r false e).bind fun x e => if mxOk .index x then still x a.pure ((evalE T a false e).bind fun y e => lift (mxD .index x [y]) e) else .bad) Qq Xx := by
  intros
  first | (rw [Ro.e_index]; done) | (rw [Ro.e_index]; rfl)
theorem e_count {Qq : D → En → Prop} : ∀ r a own e, WP (evalE T (.me .count r (.cons a .nil)) own e) Qq Xx = WP ((evalE T r false e).bind fun x e => if mxOk .count x then still x a.pure ((evalE T a false e).bind fun y e => lift (mxD .count x [y]) e) else .bad) Qq Xx := by
  intros
  first | (rw [Ro.e_count]; done) | (rw [Ro.e_count]; rfl)
theorem e_join {Qq : D → En → Prop} : ∀ r a own e, WP (evalE T (.me .join r (.cons a .nil)) own e) Qq Xx = WP ((evalE T r false e).bind fun x e => if mxOk .join x then still x a.pure ((evalE T a false e).bind fun y e => lift (mxD .join x [y]) e) else .bad) Qq Xx := by
  intros
  first | (rw [Ro.e_join]; done) | (rw [Ro.e_join]; rfl)
theorem e_split {Qq : D → En → Prop} : ∀ r a own e, WP (evalE T (.me .split r (.cons a .nil)) own e) Qq Xx = WP ((evalE T r false e).bind fun x e => if mxOk .split x then still x a.pure ((evalE T a false e).bind fun y e => lift (mxD .split x [y]) e) else .bad) Qq Xx := by
  intros
  first | (rw [Ro.e_split]; done) | (rw [Ro.e_split]; rfl)
theorem es_nil {Qq : (List D) → En → Prop} : ∀ e, WP (evalEs T .nil e) Qq Xx = WP (.ok [] e) Qq Xx := by
  intros
  first | (rw [Ro.es_nil]; done) | (rw [Ro.es_nil]; rfl)
theorem es_cons {Qq : (List D) → En → Prop} : ∀ a r e, WP (evalEs T (.cons a r) e) Qq Xx = WP ((evalE T a true e).bind fun x e => (evalEs T r e).bind fun xs e => .ok (x :: xs) e) Qq Xx := by
  intros
  first | (rw [Ro.es_cons]; done) | (rw [Ro.es_cons]; rfl)
theorem bs_nil {Qq : (List I) → En → Prop} : ∀ e, WP (evalBs T .nil e) Qq Xx = WP (.ok [] e) Qq Xx := by
  intros
  first | (rw [Ro.bs_nil]; done) | (rw [Ro.bs_nil]; rfl)
theorem bs_cons {Qq : (List I) → En → Prop} : ∀ a r e, WP (evalBs T (.cons a r) e) Qq Xx = WP ((evalE T a false e).bind fun d e => (asIm d e).bind fun x e => (evalBs T r e).bind fun xs e => .ok (x :: xs) e) Qq Xx := by
  intros
  first | (rw [Ro.bs_cons]; done) | (rw [Ro.bs_cons]; rfl)
theorem as_nil {Qq : (List (Slot × Option Nat)) → En → Prop} : ∀ e, WP (evalAs T .nil e) Qq Xx = WP (.ok [] e) Qq Xx := by
  intros
  first | (rw [Ro.as_nil]; done) | (rw [Ro.as_nil]; rfl)
theorem as_cons {Qq : (List (Slot × Option Nat)) → En → Prop} : ∀ a r e, WP (evalAs T (.cons a r) e) Qq Xx = WP ((Ro.argS T a e).bind fun s e => (evalAs T r e).bind fun ss e => .ok (s :: ss) e) Qq Xx := by
  intros
  first | (rw [Ro.as_cons]; done) | (rw [Ro.as_cons]; rfl)
theorem o_no {Qq : (Option Int) → En → Prop} : ∀ e, WP (evalO T .no e) Qq Xx = WP (.ok none e) Qq Xx := by
  intros
  first | (rw [Ro.o_no]; done) | (rw [Ro.o_no]; rfl)
theorem o_so {Qq : (Option Int) → En → Prop} : ∀ a e, WP (evalO T (.so a) e) Qq Xx = WP ((evalE T a false e).bind fun x e => (asInt x e).bind fun i e => .ok (some i) e) Qq Xx := by
  intros
  first | (rw [Ro.o_so]; done) | (rw [Ro.o_so]; rfl)
theorem c_no {Qq : Bool → En → Prop} : ∀ e, WP (evalC T .no e) Qq Xx = WP (.ok true e) Qq Xx := by
  intros
  first | (rw [Ro.c_no]; done) | (rw [Ro.c_no]; rfl)
theorem c_so {Qq : Bool → En → Prop} : ∀ a e, WP (evalC T (.so a) e) Qq Xx = WP (evalT T a e) Qq Xx := by
  intros
  first | (rw [Ro.c_so]; done) | (rw [Ro.c_so]; rfl)
theorem t_not {Qq : Bool → En → Prop} : ∀ a e, WP (evalT T (.not a) e) Qq Xx = WP ((evalT T a e).bind fun b e => .ok (!b) e) Qq Xx := by
  intros
  first | (rw [Ro.t_not]; done) | (rw [Ro.t_not]; rfl)
theorem t_one {Qq : Bool → En → Prop} : ∀ a e, WP (evalT T (.one a) e) Qq Xx = WP (evalT T a e) Qq Xx := by
  intros
  first | (rw [Ro.t_one]; done) | (rw [Ro.t_one]; rfl)
theorem t_and {Qq : Bool → En → Prop} : ∀ a b e, WP (evalT T (.and a b) e) Qq Xx = WP ((evalT T a e).bind fun k e => if k then evalT T b e else .ok false e) Qq Xx := by
  intros
  first | (rw [Ro.t_and]; done) | (rw [Ro.t_and]; rfl)
theorem t_or {Qq : Bool → En → Prop} : ∀ a b e, WP (evalT T (.or a b) e) Qq Xx = WP ((evalT T a e).bind fun k e => if k then .ok true e else evalT T b e) Qq Xx := by
  intros
  first | (rw [Ro.t_or]; done) | (rw [Ro.t_or]; rfl)
theorem t_cmp {Qq : Bool → En → Prop} : ∀ op a b e, WP (evalT T (.cmp op a b) e) Qq Xx = WP ((evalE T (.cmp op a b) false e).bind fun x e => asBool x e) Qq Xx := by
  intros
  first | (rw [Ro.t_cmp]; done) | (rw [Ro.t_cmp]; rfl)
theorem t_chain {Qq : Bool → En → Prop} : ∀ o1 o2 a b c e, WP (evalT T (.chain o1 o2 a b c) e) Qq Xx = WP ((evalE T (.chain o1 o2 a b c) false e).bind fun x e => asBool x e) Qq Xx := by
  intros
  first | (rw [Ro.t_chain]; done) | (rw [Ro.t_chain]; rfl)
theorem t_var {Qq : Bool → En → Prop} : ∀ i e, WP (evalT T (.var i) e) Qq Xx = WP ((evalE T (.var i) false e).bind fun x e => asBool x e) Qq Xx := by
  intros
  first | (rw [Ro.t_var]; done) | (rw [Ro.t_var]; rfl)
theorem t_cst {Qq : Bool → En → Prop} : ∀ i e, WP (evalT T (.cst i) e) Qq Xx = WP ((evalE T (.cst i) false e).bind fun x e => asBool x e) Qq Xx := by
  intros
  first | (rw [Ro.t_cst]; done) | (rw [Ro.t_cst]; rfl)
theorem t_call {Qq : Bool → En → Prop} : ∀ f es e, WP (evalT T (.call f es) e) Qq Xx = WP ((evalE T (.call f es) false e).bind fun x e => asBool x e) Qq Xx := by
  intros
  first | (rw [Ro.t_call]; done) | (rw [Ro.t_call]; rfl)
theorem t_ixv {Qq : Bool → En → Prop} : ∀ i b e, WP (evalT T (.ixv i b) e) Qq Xx = WP ((evalE T (.ixv i b) false e).bind fun x e => asBool x e) Qq Xx := by
  intros
  first | (rw [Ro.t_ixv]; done) | (rw [Ro.t_ixv]; rfl)
theorem t_me {Qq : Bool → En → Prop} : ∀ m r es e, WP (evalT T (.me m r es) e) Qq Xx = WP ((evalE T (.me m r es) false e).bind fun x e => asBool x e) Qq Xx := by
  intros
  first | (rw [Ro.t_me]; done) | (rw [Ro.t_me]; rfl)
theorem t_ix {Qq : Bool → En → Prop} : ∀ a b e, WP (evalT T (.ix a b) e) Qq Xx = WP ((evalE T (.ix a b) false e).bind fun x e => asBool x e) Qq Xx := by
  intros
  first | (rw [Ro.t_ix]; done) | (rw [Ro.t_ix]; rfl)
theorem t_bi {Qq : Bool → En → Prop} : ∀ f es e, WP (evalT T (.bi f es) e) Qq Xx = WP ((evalE T (.bi f es) false e).bind fun x e => asBool x e) Qq Xx := by
  intros
  first | (rw [Ro.t_bi]; done) | (rw [Ro.t_bi]; rfl)
theorem t_isin {Qq : Bool → En → Prop} : ∀ a b e, WP (evalT T (.isin a b) e) Qq Xx = WP ((evalE T (.isin a b) false e).bind fun x e => asBool x e) Qq Xx := by
  intros
  first | (rw [Ro.t_isin]; done) | (rw [Ro.t_isin]; rfl)
theorem t_gin {Qq : Bool → En → Prop} : ∀ n a b e, WP (evalT T (.gin n a b) e) Qq Xx = WP ((evalE T (.gin n a b) false e).bind fun x e => asBool x e) Qq Xx := by
  intros
  first | (rw [Ro.t_gin]; done) | (rw [Ro.t_gin]; rfl)
theorem w_it {Qq : (List D) → En → Prop} : ∀ a e, WP (evalW T (.it a) e) Qq Xx = WP ((evalE T a false e).bind fun x e => lift (wkD x) e) Qq Xx := by
  intros
  first | (rw [Ro.w_it]; done) | (rw [Ro.w_it]; rfl)
theorem w_rev {Qq : (List D) → En → Prop} : ∀ a e, WP (evalW T (.rev a) e) Qq Xx = WP ((evalE T a false e).bind fun x e => lift ((wkR x).map List.reverse) e) Qq Xx := by
  intros
  first | (rw [Ro.w_rev]; done) | (rw [Ro.w_rev]; rfl)
theorem w_enum {Qq : (List D) → En → Prop} : ∀ a e, WP (evalW T (.enum a) e) Qq Xx = WP ((evalE T a false e).bind fun x e => lift ((enumD x).map (enumL 0)) e) Qq Xx := by
  intros
  first | (rw [Ro.w_enum]; done) | (rw [Ro.w_enum]; rfl)
theorem w_zip {Qq : (List D) → En → Prop} : ∀ a b e, WP (evalW T (.zip a b) e) Qq Xx = WP ((evalE T a false e).bind fun x e => still x b.pure ((evalE T b false e).bind fun y e => lift ((zipD x y).map fun p => zipL p.1 p.2) e)) Qq Xx := by
  intros
  first | (rw [Ro.w_zip]; done) | (rw [Ro.w_zip]; rfl)
theorem s_setv {Qq : Fl → En → Prop} : ∀ i a e, WP (exec T (.setv i a) e) Qq Xx = WP ((evalE T a true e).bind fun d e => if i < e.length then .ok .nx (e.set i (.own d)) else .bad) Qq Xx := by
  intros
  first | (rw [Ro.s_setv]; done) | (rw [Ro.s_setv]; rfl)
theorem s_asg {Qq : Fl → En → Prop} : ∀ t a e, WP (exec T (.asg t a) e) Qq Xx = WP ((evalE T a true e).bind fun d e => (lift (bindT t d false e) e).bind fun e' _ => .ok .nx e') Qq Xx := by
  intros
  first | (rw [Ro.s_asg]; done) | (rw [Ro.s_asg]; rfl)
theorem s_unp {Qq : Fl → En → Prop} : ∀ ts a e, WP (exec T (.unp ts a) e) Qq Xx = WP ((evalE T a false e).bind fun d e => (lift ((itemsIm d).bind fun xs => bindTs ts (xs.map .im) false e) e).bind fun e' _ => .ok .nx e') Qq Xx := by
  intros
  first | (rw [Ro.s_unp]; done) | (rw [Ro.s_unp]; rfl)
theorem s_par {Qq : Fl → En → Prop} : ∀ i j a b e, WP (exec T (.par i j a b) e) Qq Xx = WP ((evalEs T (.cons a (.cons b .nil)) e).bind fun ds e => (match ds with | [x, y] => if i < e.length ∧ j < e.length then .ok .nx ((e.set i (.own x)).set j (.own y)) else .bad | _ => .bad)) Qq Xx := by
  intros
  first | (rw [Ro.s_par]; done) | (rw [Ro.s_par]; rfl)
theorem s_ret {Qq : Fl → En → Prop} : ∀ a e, WP (exec T (.ret a) e) Qq Xx = WP ((evalE T a true e).bind fun d e => .ok (.rt d) e) Qq Xx := by
  intros
  first | (rw [Ro.s_ret]; done) | (rw [Ro.s_ret]; rfl)
theorem s_retN {Qq : Fl → En → Prop} : ∀ e, WP (exec T .retN e) Qq Xx = WP (.ok (.rt (.im .non)) e) Qq Xx := by
  intros
  first | (rw [Ro.s_retN]; done) | (rw [Ro.s_retN]; rfl)
theorem s_expr {Qq : Fl → En → Prop} : ∀ a e, WP (exec T (.expr a) e) Qq Xx = WP ((evalE T a false e).bind fun _ e => .ok .nx e) Qq Xx := by
  intros
  first | (rw [Ro.s_expr]; done) | (rw [Ro.s_expr]; rfl)
theorem s_doc {Qq : Fl → En → Prop} : ∀ e, WP (exec T .doc e) Qq Xx = WP (.ok .nx e) Qq Xx := by
  intros
  first | (rw [Ro.s_doc]; done) | (rw [Ro.s_doc]; rfl)
theorem s_pass {Qq : Fl → En → Prop} : ∀ e, WP (exec T .pass e) Qq Xx = WP (.ok .nx e) Qq Xx := by
  intros
  first | (rw [Ro.s_pass]; done) | (rw [Ro.s_pass]; rfl)
theorem s_brk {Qq : Fl → En → Prop} : ∀ e, WP (exec T .brk e) Qq Xx = WP (.ok .bk e) Qq Xx := by
  intros
  first | (rw [Ro.s_brk]; done) | (rw [Ro.s_brk]; rfl)
theorem s_cont {Qq : Fl → En → Prop} : ∀ e, WP (exec T .cont e) Qq Xx = WP (.ok .ct e) Qq Xx := by
  intros
  first | (rw [Ro.s_cont]; done) | (rw [Ro.s_cont]; rfl)
theorem s_raise {Qq : Fl → En → Prop} : ∀ c es e, WP (exec T (.raise c es) e) Qq Xx = WP (if T.ec.contains c then (evalEs T es e).bind fun ds e => (match ds with | [.im x] => .exc c x (.int 0) e | [.im x, .im y] => .exc c x y e | _ => .bad) else .bad) Qq Xx := by
  intros
  first | (rw [Ro.s_raise]; done) | (rw [Ro.s_raise]; rfl)
theorem s_swap {Qq : Fl → En → Prop} : ∀ i p q e, WP (exec T (.swapix i p q) e) Qq Xx = WP (match e[i]? with | some (.own (.lst xs)) => (match evalE T q false (e.set i .no), evalE T p false (e.set i .no) with | .ok (.im (.int n)) _, .ok (.im (.int m)) _ => (match ixN xs.length m, ixN xs.length n with | some j, some k => if p.pure && q.pure then .ok .nx (e.set i (.own (.lst (swapL xs j k)))) else .bad | _, _ => .bad) | _, _ => .bad) | _ => .bad) Qq Xx := by
  intros
  first | (rw [Ro.s_swap]; done) | (rw [Ro.s_swap]; rfl)
theorem a_cst {Qq : (Slot × Option Nat) → En → Prop} : ∀ i e, WP (Ro.argS T (.cst i) e) Qq Xx = WP ((evalE T (.cst i) true e).bind fun x e => .ok (Slot.own x, none) e) Qq Xx := by
  intros
  first | (rw [Ro.a_cst]; done) | (rw [Ro.a_cst]; rfl)
theorem a_glob {Qq : (Slot × Option Nat) → En → Prop} : ∀ i e, WP (Ro.argS T (.glob i) e) Qq Xx = WP ((evalE T (.glob i) true e).bind fun x e => .ok (Slot.own x, none) e) Qq Xx := by
  intros
  first | (rw [Ro.a_glob]; done) | (rw [Ro.a_glob]; rfl)
theorem a_tup {Qq : (Slot × Option Nat) → En → Prop} : ∀ es e, WP (Ro.argS T (.tup es) e) Qq Xx = WP ((evalE T (.tup es) true e).bind fun x e => .ok (Slot.own x, none) e) Qq Xx := by
  intros
  first | (rw [Ro.a_tup]; done) | (rw [Ro.a_tup]; rfl)
theorem a_lst {Qq : (Slot × Option Nat) → En → Prop} : ∀ es e, WP (Ro.argS T (.lst es) e) Qq Xx = WP ((evalE T (.lst es) true e).bind fun x e => .ok (Slot.own x, none) e) Qq Xx := by
  intros
  first | (rw [Ro.a_lst]; done) | (rw [Ro.a_lst]; rfl)
theorem a_bin {Qq : (Slot × Option Nat) → En → Prop} : ∀ op a b e, WP (Ro.argS T (.bin op a b) e) Qq Xx = WP ((evalE T (.bin op a b) true e).bind fun x e => .ok (Slot.own x, none) e) Qq Xx := by
  intros
  first | (rw [Ro.a_bin]; done) | (rw [Ro.a_bin]; rfl)
theorem a_neg {Qq : (Slot × Option Nat) → En → Prop} : ∀ a e, WP (Ro.argS T (.neg a) e) Qq Xx = WP ((evalE T (.neg a) true e).bind fun x e => .ok (Slot.own x, none) e) Qq Xx := by
  intros
  first | (rw [Ro.a_neg]; done) | (rw [Ro.a_neg]; rfl)
theorem a_ite {Qq : (Slot × Option Nat) → En → Prop} : ∀ c a b e, WP (Ro.argS T (.ite c a b) e) Qq Xx = WP ((evalE T (.ite c a b) true e).bind fun x e => .ok (Slot.own x, none) e) Qq Xx := by
  intros
  first | (rw [Ro.a_ite]; done) | (rw [Ro.a_ite]; rfl)
theorem a_ix {Qq : (Slot × Option Nat) → En → Prop} : ∀ a b e, WP (Ro.argS T (.ix a b) e) Qq Xx = WP ((evalE T (.ix a b) true e).bind fun x e => .ok (Slot.own x, none) e) Qq Xx := by
  intros
  first | (rw [Ro.a_ix]; done) | (rw [Ro.a_ix]; rfl)
theorem a_sl {Qq : (Slot × Option Nat) → En → Prop} : ∀ a lo hi e, WP (Ro.argS T (.sl a lo hi) e) Qq Xx = WP ((evalE T (.sl a lo hi) true e).bind fun x e => .ok (Slot.own x, none) e) Qq Xx := by
  intros
  first | (rw [Ro.a_sl]; done) | (rw [Ro.a_sl]; rfl)
theorem a_rev {Qq : (Slot × Option Nat) → En → Prop} : ∀ a e, WP (Ro.argS T (.rev a) e) Qq Xx = WP ((evalE T (.rev a) true e).bind fun x e => .ok (Slot.own x, none) e) Qq Xx := by
  intros
  first | (rw [Ro.a_rev]; done) | (rw [Ro.a_rev]; rfl)
theorem a_ixv {Qq : (Slot × Option Nat) → En → Prop} : ∀ i b e, WP (Ro.argS T (.ixv i b) e) Qq Xx = WP ((evalE T (.ixv i b) true e).bind fun x e => .ok (Slot.own x, none) e) Qq Xx := by
  intros
  first | (rw [Ro.a_ixv]; done) | (rw [Ro.a_ixv]; rfl)
theorem a_slv {Qq : (Slot × Option Nat) → En → Prop} : ∀ i a b e, WP (Ro.argS T (.slv i a b) e) Qq Xx = WP ((evalE T (.slv i a b) true e).bind fun x e => .ok (Slot.own x, none) e) Qq Xx := by
  intros
  first | (rw [Ro.a_slv]; done) | (rw [Ro.a_slv]; rfl)
theorem a_lrange {Qq : (Slot × Option Nat) → En → Prop} : ∀ a e, WP (Ro.argS T (.lrange a) e) Qq Xx = WP ((evalE T (.lrange a) true e).bind fun x e => .ok (Slot.own x, none) e) Qq Xx := by
  intros
  first | (rw [Ro.a_lrange]; done) | (rw [Ro.a_lrange]; rfl)
theorem a_disp {Qq : (Slot × Option Nat) → En → Prop} : ∀ a b e, WP (Ro.argS T (.disp a b) e) Qq Xx = WP ((evalE T (.disp a b) true e).bind fun x e => .ok (Slot.own x, none) e) Qq Xx := by
  intros
  first | (rw [Ro.a_disp]; done) | (rw [Ro.a_disp]; rfl)
theorem a_dispD {Qq : (Slot × Option Nat) → En → Prop} : ∀ a b e, WP (Ro.argS T (.dispD a b) e) Qq Xx = WP ((evalE T (.dispD a b) true e).bind fun x e => .ok (Slot.own x, none) e) Qq Xx := by
  intros
  first | (rw [Ro.a_dispD]; done) | (rw [Ro.a_dispD]; rfl)
theorem a_gix {Qq : (Slot × Option Nat) → En → Prop} : ∀ a b e, WP (Ro.argS T (.gix a b) e) Qq Xx = WP ((evalE T (.gix a b) true e).bind fun x e => .ok (Slot.own x, none) e) Qq Xx := by
  intros
  first | (rw [Ro.a_gix]; done) | (rw [Ro.a_gix]; rfl)
theorem a_gcd {Qq : (Slot × Option Nat) → En → Prop} : ∀ a b e, WP (Ro.argS T (.gcd a b) e) Qq Xx = WP ((evalE T (.gcd a b) true e).bind fun x e => .ok (Slot.own x, none) e) Qq Xx := by
  intros
  first | (rw [Ro.a_gcd]; done) | (rw [Ro.a_gcd]; rfl)
theorem a_isin {Qq : (Slot × Option Nat) → En → Prop} : ∀ a b e, WP (Ro.argS T (.isin a b) e) Qq Xx = WP ((evalE T (.isin a b) true e).bind fun x e => .ok (Slot.own x, none) e) Qq Xx := by
  intros
  first | (rw [Ro.a_isin]; done) | (rw [Ro.a_isin]; rfl)
theorem a_call {Qq : (Slot × Option Nat) → En → Prop} : ∀ f es e, WP (Ro.argS T (.call f es) e) Qq Xx = WP ((evalE T (.call f es) true e).bind fun x e => .ok (Slot.own x, none) e) Qq Xx := by
  intros
  first | (rw [Ro.a_call]; done) | (rw [Ro.a_call]; rfl)
theorem a_bi {Qq : (Slot × Option Nat) → En → Prop} : ∀ f es e, WP (Ro.argS T (.bi f es) e) Qq Xx = WP ((evalE T (.bi f es) true e).bind fun x e => .ok (Slot.own x, none) e) Qq Xx := by
  intros
  first | (rw [Ro.a_bi]; done) | (rw [Ro.a_bi]; rfl)
theorem a_me {Qq : (Slot × Option Nat) → En → Prop} : ∀ m r es e, WP (Ro.argS T (.me m r es) e) Qq Xx = WP ((evalE T (.me m r es) true e).bind fun x e => .ok (Slot.own x, none) e) Qq Xx := by
  intros
  first | (rw [Ro.a_me]; done) | (rw [Ro.a_me]; rfl)
theorem a_cmp {Qq : (Slot × Option Nat) → En → Prop} : ∀ op a b e, WP (Ro.argS T (.cmp op a b) e) Qq Xx = WP ((evalE T (.cmp op a b) true e).bind fun x e => .ok (Slot.own x, none) e) Qq Xx := by
  intros
  first | (rw [Ro.a_cmp]; done) | (rw [Ro.a_cmp]; rfl)
theorem a_mut {Qq : (Slot × Option Nat) → En → Prop} : ∀ m i es e, WP (Ro.argS T (.mut m i es) e) Qq Xx = WP ((evalE T (.mut m i es) true e).bind fun x e => .ok (Slot.own x, none) e) Qq Xx := by
  intros
  first | (rw [Ro.a_mut]; done) | (rw [Ro.a_mut]; rfl)
theorem a_lc {Qq : (Slot × Option Nat) → En → Prop} : ∀ w tg own c elt e, WP (Ro.argS T (.lc w tg own c elt) e) Qq Xx = WP ((evalE T (.lc w tg own c elt) true e).bind fun x e => .ok (Slot.own x, none) e) Qq Xx := by
  intros
  first | (rw [Ro.a_lc]; done) | (rw [Ro.a_lc]; rfl)
theorem a_and {Qq : (Slot × Option Nat) → En → Prop} : ∀ a b e, WP (Ro.argS T (.and a b) e) Qq Xx = WP ((evalE T (.and a b) true e).bind fun x e => .ok (Slot.own x, none) e) Qq Xx := by
  intros
  first | (rw [Ro.a_and]; done) | (rw [Ro.a_and]; rfl)
theorem a_or {Qq : (Slot × Option Nat) → En → Prop} : ∀ a b e, WP (Ro.argS T (.or a b) e) Qq Xx = WP ((evalE T (.or a b) true e).bind fun x e => .ok (Slot.own x, none) e) Qq Xx := by
  intros
  first | (rw [Ro.a_or]; done) | (rw [Ro.a_or]; rfl)
theorem a_not {Qq : (Slot × Option Nat) → En → Prop} : ∀ a e, WP (Ro.argS T (.not a) e) Qq Xx = WP ((evalE T (.not a) true e).bind fun x e => .ok (Slot.own x, none) e) Qq Xx := by
  intros
  first | (rw [Ro.a_not]; done) | (rw [Ro.a_not]; rfl)
theorem a_one {Qq : (Slot × Option Nat) → En → Prop} : ∀ a e, WP (Ro.argS T (.one a) e) Qq Xx = WP ((evalE T (.one a) true e).bind fun x e => .ok (Slot.own x, none) e) Qq Xx := by
  intros
  first | (rw [Ro.a_one]; done) | (rw [Ro.a_one]; rfl)
theorem a_chain {Qq : (Slot × Option Nat) → En → Prop} : ∀ o1 o2 a b c e, WP (Ro.argS T (.chain o1 o2 a b c) e) Qq Xx = WP ((evalE T (.chain o1 o2 a b c) true e).bind fun x e => .ok (Slot.own x, none) e) Qq Xx := by
  intros
  first | (rw [Ro.a_chain]; done) | (rw [Ro.a_chain]; rfl)
theorem a_dnew {Qq : (Slot × Option Nat) → En → Prop} : ∀ e, WP (Ro.argS T .dnew e) Qq Xx = WP ((evalE T .dnew true e).bind fun x e => .ok (Slot.own x, none) e) Qq Xx := by
  intros
  first | (rw [Ro.a_dnew]; done) | (rw [Ro.a_dnew]; rfl)
theorem s_ifs {Qq : Fl → En → Prop} {c : E} {a b : Ss} {e : En} : WP (exec T (.ifs c a b) e) Qq Xx = WP (evalT T c e) (fun k e => WP (if k then execs T a e else execs T b e) Qq Xx) Xx := by
  rw [Ro.s_ifs, WP_bind]
theorem still_im {α : Type} {Qq : α → En → Prop} {x : I} {b : Bool} {o : Out α} : WP (still (.im x) b o) Qq Xx = WP o Qq Xx := nr rfl
theorem still_b {α : Type} {Qq : α → En → Prop} {d : D} {b : Bool} {o : Out α} : WP (still d b o) Qq Xx = ((d.isIm || b) = true ∧ WP o Qq Xx) := by
  unfold still
  rw [WP_ifbad]
def ginO (n : Bool) (r : Option (List (Str × I))) (y : I) (e : En) : Out D := match r, y with
  | some kvs, .str z => .ok (.im (.bl (n != (kvs.lookup z).isSome))) e
  | _, _ => .bad
def gixO (r : Option (List (Str × I))) (y : I) (e : En) : Out D := match r, y with
  | some kvs, .str z => lift ((kvs.lookup z).map .im) e
  | _, _ => .bad
theorem e_gin {Qq : D → En → Prop} {n : Bool} {x : Str} {a : E} {w : Bool} {e : En} {kvs : List (Str × I)} (h : T.gd x = some kvs) : WP (evalE T (.gin n x a) w e) Qq Xx = WP (evalE T a false e) (fun y e => WP ((asIm y e).bind fun y e => ginO n (some kvs) y e) Qq Xx) Xx := by
  rw [Ro.e_gin, h, WP_bind]
  refine WP_Q fun y e => ?_
  cases y with
  | im z => cases z <;> rfl
  | _ => rfl
theorem e_gix {Qq : D → En → Prop} {x : Str} {a : E} {w : Bool} {e : En} {kvs : List (Str × I)} (h : T.gd x = some kvs) : WP (evalE T (.gix x a) w e) Qq Xx = WP (evalE T a false e) (fun y e => WP ((asIm y e).bind fun y e => gixO (some kvs) y e) Qq Xx) Xx := by
  rw [Ro.e_gix, h, WP_bind]
  refine WP_Q fun y e => ?_
  cases y with
  | im z => cases z <;> rfl
  | _ => rfl
def rdV : Option Slot → En → Out D
  | some (.own d), e => .ok d e
  | some (.bor d), e => .ok d e
  | _, _ => .bad
def rdO (i : Nat) : Option Slot → En → Out D
  | some (.own d), e => .ok d (if d.isIm = true then e else e.set i .no)
  | some (.bor d), e => if d.isIm = true then .ok d e else .bad
  | _, _ => .bad
def ldO (i : Nat) : Option Slot → En → Out (Slot × Option Nat)
  | some (.own d), e => .ok (.own d, if d.isIm = true then none else some i) (if d.isIm = true then e else e.set i .no)
  | some (.bor d), e => .ok (keepS d true, none) e
  | _, _ => .bad
theorem e_varF {Qq : D → En → Prop} {i : Nat} {e : En} : WP (evalE T (.var i) false e) Qq Xx = WP (rdV e[i]? e) Qq Xx := by
  rw [Ro.e_var]
  unfold readS
  cases e[i]? with
  | none => rfl
  | some s => cases s with
    | no => rfl
    | own d => cases d <;> rfl
    | bor d => cases d <;> rfl
theorem e_varT {Qq : D → En → Prop} {i : Nat} {e : En} : WP (evalE T (.var i) true e) Qq Xx = WP (rdO i e[i]? e) Qq Xx := by
  rw [Ro.e_var]
  unfold readS
  cases e[i]? with
  | none => rfl
  | some s => cases s with
    | no => rfl
    | own d => cases d <;> rfl
    | bor d => cases d <;> rfl
theorem a_var {Qq : (Slot × Option Nat) → En → Prop} {i : Nat} {e : En} : WP (Ro.argS T (.var i) e) Qq Xx = WP (ldO i e[i]? e) Qq Xx := by
  show WP (lendS i e) Qq Xx = _
  unfold lendS
  cases e[i]? with
  | none => rfl
  | some s => cases s with
    | no => rfl
    | own d => cases d <;> rfl
    | bor d => cases d <;> rfl
end Kh.W

set_option Elab.async false
set_option linter.all false
set_option maxRecDepth 100000
set_option maxHeartbeats 2000000
/-! texts and lists as data -/
namespace Kh
open PySem L2
abbrev tx (l : List Nat) : I := .str (SX.S l)
abbrev tI (l : List Int) : I := .tup (l.map .int)
abbrev lI (l : List Int) : D := .lst (l.map fun n => .im (.int n))
abbrev oX (l : List Nat) : Slot := .own (.im (tx l))
abbrev oM (x : I) : Slot := .own (.im x)
theorem signs_S (l : List Nat) : signs (SX.S l) = l.map fun c => D.im (tx [c]) := by simp [signs]
theorem wkD_tx (l : List Nat) : wkD (.im (tx l)) = some (l.map fun c => D.im (tx [c])) := by
  show some (signs (SX.S l)) = _
  rw [signs_S]
theorem cutL_take {α : Type} (w : List α) (n : Nat) : cutL w none (some (n : Int)) = w.take n := by
  unfold cutL
  rw [HT.sIx_none, HT.sIx_nat, List.drop_zero, Nat.sub_zero]
  rcases Nat.le_total n w.length with h | h
  · rw [Nat.min_eq_left h]
  · rw [Nat.min_eq_right h, List.take_of_length_le (Nat.le_refl _), List.take_of_length_le h]
theorem cutL_drop {α : Type} (w : List α) (n : Nat) : cutL w (some (n : Int)) none = w.drop n := by
  unfold cutL
  rw [HT.sIx_none, HT.sIx_nat]
  rcases Nat.le_total n w.length with h | h
  · rw [Nat.min_eq_left h, List.take_of_length_le (by simp)]
  · rw [Nat.min_eq_right h, List.drop_of_length_le (Nat.le_refl _), List.drop_of_length_le h]
    simp
theorem cutL_mid {α : Type} (w : List α) (a b : Nat) : cutL w (some (a : Int)) (some (b : Int)) = (w.take b).drop a := by
  unfold cutL
  rw [HT.sIx_nat, HT.sIx_nat]
  rw [List.drop_take]
  rcases Nat.le_total a w.length with h | h
  · rw [Nat.min_eq_left h]
    rcases Nat.le_total b w.length with k | k
    · rw [Nat.min_eq_left k]
    · rw [Nat.min_eq_right k, List.take_of_length_le (by simp), List.take_of_length_le (by simp; omega)]
  · rw [Nat.min_eq_right h, List.drop_of_length_le (Nat.le_refl _), List.drop_of_length_le h]
    simp
theorem cutL_last {α : Type} (w : List α) : cutL w none (some (-1)) = w.dropLast := by
  unfold cutL
  have e : HT.sIx w.length w.length (some (-1)) = w.length - 1 := by
    simp only [HT.sIx]
    rw [if_pos (by decide)]
    omega
  rw [e, HT.sIx_none, List.drop_zero, Nat.sub_zero, List.dropLast_eq_take]
theorem cutS_S (w : List Nat) (lo hi : Option Int) : cutS (SX.S w) lo hi = SX.S (cutL w lo hi) := by
  unfold cutS cutL
  simp only [SX.S_len]
theorem slD_tx {w : List Nat} {lo hi : Option Int} : slD (.im (tx w)) lo hi = if w.length ≤ big then some (.im (tx (cutL w lo hi))) else none := by
  simp only [slD, SX.S_len, cutS_S]
theorem len_tx {w : List Nat} : biD .len [.im (tx w)] = if w.length ≤ big then some (int (w.length : Int)) else none := by
  simp only [biD, SX.S_len]
theorem add_tx {u v : List Nat} : binD .add (.im (tx u)) (.im (tx v)) = if u.length + v.length ≤ big then some (.im (tx (u ++ v))) else none := by
  simp only [binD, SX.S_len, SX.S_cat]
theorem S_eq {u v : List Nat} : (SX.S u = SX.S v) ↔ u = v := ⟨SX.S_inj, fun e => by rw [e]⟩
theorem eq_tx {u v : List Nat} : cmpD .eq (.im (tx u)) (.im (tx v)) = some (decide (u = v)) := by
  simp only [cmpD]
  congr 1
  exact decide_eq_decide.mpr S_eq
theorem ne_tx {u v : List Nat} : cmpD .ne (.im (tx u)) (.im (tx v)) = some (!decide (u = v)) := by
  simp only [cmpD]
  congr 2
  exact decide_eq_decide.mpr S_eq
theorem ixN_nat {n k : Nat} (h : k < n) : ixN n (k : Int) = some k := by
  unfold ixN
  rw [if_pos (by omega), if_pos (by omega)]
  rfl
theorem ixN_neg {n k : Nat} (h : k < n) : ixN n (-(k : Int) - 1) = some (n - 1 - k) := by
  unfold ixN
  rw [if_neg (by omega), if_pos (by omega)]
  congr 1
  omega
theorem atI_nat {α : Type} {l : List α} {k : Nat} (h : k < l.length) : atI l (k : Int) = some l[k] := by
  unfold atI
  rw [ixN_nat h]
  simp [h]
theorem atI_last {α : Type} (l : List α) (x : α) : atI (l ++ [x]) (-1) = some x := by
  unfold atI
  have : ixN (l ++ [x]).length (-1) = some l.length := by
    have := ixN_neg (n := (l ++ [x]).length) (k := 0) (by simp)
    simpa using this
  rw [this]
  simp
theorem ims_some {α : Type} {f : α → I} (l : List α) : ims (l.map fun a => D.im (f a)) = some (l.map f) := by
  induction l with
  | nil => rfl
  | cons a r ih => simp [ims, ih]
/-- lists of texts -/
abbrev lX (l : List (List Nat)) : D := .lst (l.map fun w => .im (tx w))
theorem strsOf_tx (l : List (List Nat)) : strsOf (l.map fun w => tx w) = some (l.map SX.S) := by
  induction l with
  | nil => rfl
  | cons a r ih => simp [strsOf, ih]
theorem boolsOf_bl {α : Type} {f : α → Bool} (l : List α) : boolsOf (l.map fun a => .bl (f a)) = some (l.map f) := by
  induction l with
  | nil => rfl
  | cons a r ih => simp [boolsOf, ih]
theorem any_bl {α : Type} {f : α → Bool} {l : List α} : biD .any [.lst (l.map fun a => .im (.bl (f a)))] = some (.im (.bl (l.any f))) := by
  simp only [biD, ims_some, Option.bind_some, boolsOf_bl, Option.map_some, List.any_map]
  rfl
theorem all_bl {α : Type} {f : α → Bool} {l : List α} : biD .all [.lst (l.map fun a => .im (.bl (f a)))] = some (.im (.bl (l.all f))) := by
  simp only [biD, ims_some, Option.bind_some, boolsOf_bl, Option.map_some, List.all_map]
  rfl
theorem tuple_lst {α : Type} {f : α → I} {l : List α} : biD .tuple [.lst (l.map fun a => .im (f a))] = some (.im (.tup (l.map f))) := by
  simp only [biD, ims_some, Option.map_some]
theorem sum_lst {l : List Int} : biD .sum [lI l] = some (int l.sum) := by
  simp only [biD, ims_int, Option.bind_some, intsOf_int, Option.map_some]
theorem join_lst {s : List Nat} {l : List (List Nat)} (h : ((l.map SX.S).map (·.length)).sum + (l.map SX.S).length * (SX.S s).length ≤ big) : mxD .join (.im (tx s)) [lX l] = some (.im (tx (TL.joinL s l))) := by
  simp only [mxD, ims_some, Option.bind_some, strsOf_tx, h, if_true, SX.join_S]
theorem shal_I {n : Nat} (l : List Int) : I.shals n (l.map .int) = true := by
  induction l with
  | nil => simp [I.shals]
  | cons a r ih => simp [I.shals, I.shal, ih]
theorem eqs_I : ∀ l m : List Int, I.eqs (l.map .int) (m.map .int) = some (decide (l = m))
  | [], [] => rfl
  | [], _ :: _ => rfl
  | _ :: _, [] => rfl
  | a :: r, b :: q => by
    simp only [List.map_cons, I.eqs, I.eq, Option.bind_some, eqs_I r q, Option.map_some, List.cons.injEq, Bool.decide_and]
    congr 2
theorem eq_tI {l m : List Int} : cmpD .eq (.im (tI l)) (.im (tI m)) = some (decide (l = m)) := by
  simp only [cmpD, I.shal, shal_I, Bool.and_self, if_true, I.eq, eqs_I]
theorem ne_tI {l m : List Int} : cmpD .ne (.im (tI l)) (.im (tI m)) = some (!decide (l = m)) := by
  simp only [cmpD, I.shal, shal_I, Bool.and_self, if_true, I.eq, eqs_I, Option.map_some]
/-- a loop whose turns go on to a state told beforehand -/
theorem WP_forF {T : Tab} {γ σ : Type} {w : Wk} {t : Tg} {dead : List Nat} {body : Ss} {e : En} {Q : Fl → En → Prop} {X : Str → I → I → En → Prop} (enc : γ → D) (E : σ → En) (step : σ → γ → σ) (I : List γ → σ → Prop) (l : List γ) (s : σ) (e1 : En) (hw : WP (evalW T w e) (fun xs e' => xs = l.map enc ∧ e' = e1) noX)
    (h0 : Kh.clear dead (lockAll w.src e1) = E s) (i0 : I l s) (turn : ∀ a r s, I (a :: r) s → WP (forT T t dead body (enc a) (E s)) (fun f e => (f = .nx ∨ f = .ct) ∧ e = E (step s a) ∧ I r (step s a)) noX) (done : I [] (l.foldl step s) → Q .nx (Kh.settle e1 w.src (t.slots ++ body.stores) [] (E (l.foldl step s)))) : WP (exec T (.fors w t dead body) e) Q X := by
  refine WP_for enc (fun r e => ∃ s', e = E s' ∧ I r s' ∧ r.foldl step s' = l.foldl step s) l (E s) e1 hw.eq h0 ⟨s, rfl, i0, rfl⟩ (fun a r e ⟨s', h1, h2, h3⟩ => ?_) fun e ⟨s', h1, h2, h3⟩ => ?_
  · subst h1
    refine (turn a r s' h2).to fun f e ⟨h4, h5, h6⟩ => ?_
    have : ∃ s2, e = E s2 ∧ I r s2 ∧ r.foldl step s2 = l.foldl step s := ⟨_, h5, h6, h3⟩
    rcases h4 with rfl | rfl <;> exact this
  · subst h1
    have h4 : s' = l.foldl step s := h3
    subst h4
    exact done h2
/-- a comprehension that changes nothing -/
theorem WP_lcP {T : Tab} {γ : Type} {w : Wk} {tg : Tg} {own : List (Str × Nat)} {c : Eo} {elt : E} {b : Bool} {e : En} {Q : D → En → Prop} {X : Str → I → I → En → Prop} (enc : γ → D) (l : List γ) (f : γ → Option D) (e0 e1 e3 : En) (vs : List Nat) (hv : own.map (·.2) = vs) (hw : WP (evalW T w e) (fun xs e' => xs = l.map enc ∧ e' = e1) noX) (hl : l.length ≤ big) (h0 : Kh.clear vs (lockAll w.src e1) = e0)
    (turn : ∀ a ∈ l, WP (lcT T tg vs c elt (enc a) e0) (fun o e => o = f a ∧ e = e0) noX) (h3 : Kh.settle e1 w.src vs vs e0 = e3) (q : Q (.lst (l.filterMap f)) e3) : WP (evalE T (.lc w tg own c elt) b e) Q X := by
  subst hv h0 h3
  rw [WP_lc, hw.eq, WP_ok]
  refine ⟨by rw [List.length_map]; exact hl, ?_⟩
  rw [lcGo_fm enc f _ l fun a m => (turn a m).eq]
  exact q
theorem WP_lcT {T : Tab} {tg : Tg} {vs : List Nat} {c : Eo} {elt : E} {d : D} {e e1 : En} {Q : Option D → En → Prop} {X : Str → I → I → En → Prop} (h : bindT tg d true e = some e1)
    (hb : WP (evalC T c e1) (fun k e2 => WP (if k = true then (evalE T elt true e2).bind fun y e3 => .ok (some y) (Kh.clear vs e3) else .ok none (Kh.clear vs e2)) Q noX) noX) : WP (lcT T tg vs c elt d e) Q X := by
  unfold lcT
  rw [h]
  have key : ∀ {o : Out (Option D)}, WP o Q noX → WP o.nx Q X := fun {o} h => by
    cases o with
    | ok a e => exact h
    | exc c x y e => exact h.elim
    | bad => exact h.elim
  refine key ?_
  rw [WP_bind]
  exact hb
end Kh

set_option Elab.async false
set_option linter.all false
set_option maxRecDepth 100000
set_option maxHeartbeats 2000000
/-! what operators give, kind by kind -/
namespace Kh.V
open PySem L2 Kh
theorem at_lit {α : Type} {l : List α} {k : Nat} {a : α} (h : k < l.length) (e : l[k]? = some a) : atI l (k : Int) = some a := by
  unfold atI
  rw [ixN_nat h]
  exact e
section
variable {op : Op} {i j k : Int} {b c : Bool} {s t : Str} {l : List Nat} {ns : List Int} {x y : I} {xs ys : List I} {d d' : D} {ds es : List D} {kvs : List (I × D)} {lo hi : Option Int} {e : En} {α : Type} {a a0 a1 a2 a3 a4 a5 : α} {r : List α}
theorem add_ii : binD .add (int i) (int j) = some (int (i + j)) := nr rfl
theorem sub_ii : binD .sub (int i) (int j) = some (int (i - j)) := nr rfl
theorem op_ii : binD op (int i) (int j) = (binI op i j).map fun k => int k := by cases op <;> rfl
theorem add_tt : binD .add (.im (.tup xs)) (.im (.tup ys)) = if xs.length + ys.length ≤ big then some (.im (.tup (xs ++ ys))) else none := nr rfl
theorem add_ll : binD .add (.lst ds) (.lst es) = if ds.length + es.length ≤ big then (match ims ds, ims es with | some _, some _ => some (.lst (ds ++ es)) | _, _ => none) else none := nr rfl
theorem mul_li : binD .mul (.lst ds) (int k) = if 0 ≤ k ∧ ds.length * k.toNat ≤ big ∧ k ≤ 1000000 then (match ims ds with | some _ => some (.lst (List.replicate k.toNat ds).flatten) | _ => none) else none := nr rfl
theorem mul_si : binD .mul (.im (.str s)) (int k) = if 0 ≤ k ∧ k ≤ 1000000 ∧ s.length * k.toNat ≤ big then some (.im (.str (Txt.mul s k))) else none := nr rfl
theorem eq_ss : cmpD .eq (.im (.str s)) (.im (.str t)) = some (decide (s = t)) := nr rfl
theorem ne_ss : cmpD .ne (.im (.str s)) (.im (.str t)) = some (!decide (s = t)) := nr rfl
theorem eq_ii : cmpD .eq (int i) (int j) = some (decide (i = j)) := by simp only [cmpD, I.shal, I.eq, Bool.and_self, if_true]; rfl
theorem ne_ii : cmpD .ne (int i) (int j) = some (!decide (i = j)) := by simp only [cmpD, I.shal, I.eq, Bool.and_self, if_true]; rfl
theorem eq_ll : cmpD .eq (.lst ds) (.lst es) = (ims ds).bind fun a => (ims es).bind fun b => if I.shals 59 a && I.shals 59 b then I.eqs a b else none := nr rfl
theorem ne_ll : cmpD .ne (.lst ds) (.lst es) = (ims ds).bind fun a => (ims es).bind fun b => if I.shals 59 a && I.shals 59 b then (I.eqs a b).map (!·) else none := nr rfl
theorem isN_n : cmpD .isN (.im .non) (.im .non) = some true := nr rfl
theorem notN_n : cmpD .notN (.im .non) (.im .non) = some false := nr rfl
theorem isN_b : cmpD .isN (.im (.bl b)) (.im .non) = some false := nr rfl
theorem notN_b : cmpD .notN (.im (.bl b)) (.im .non) = some true := nr rfl
theorem isN_i : cmpD .isN (.im (.int i)) (.im .non) = some false := nr rfl
theorem notN_i : cmpD .notN (.im (.int i)) (.im .non) = some true := nr rfl
theorem isN_s : cmpD .isN (.im (.str s)) (.im .non) = some false := nr rfl
theorem notN_s : cmpD .notN (.im (.str s)) (.im .non) = some true := nr rfl
theorem isN_t : cmpD .isN (.im (.tup xs)) (.im .non) = some false := nr rfl
theorem notN_t : cmpD .notN (.im (.tup xs)) (.im .non) = some true := nr rfl
theorem is_bb : cmpD .isN (.im (.bl b)) (.im (.bl c)) = some (decide (b = c)) := nr rfl
theorem not_bb : cmpD .notN (.im (.bl b)) (.im (.bl c)) = some (!decide (b = c)) := nr rfl
theorem eq_bb : cmpD .eq (.im (.bl b)) (.im (.bl c)) = some (b == c) := by simp [cmpD, I.shal, I.eq]
theorem ne_bb : cmpD .ne (.im (.bl b)) (.im (.bl c)) = some (!(b == c)) := by simp [cmpD, I.shal, I.eq]
theorem lt_ii : cmpD .lt (int i) (int j) = some (decide (i < j)) := nr rfl
theorem le_ii : cmpD .le (int i) (int j) = some (decide (i ≤ j)) := nr rfl
theorem gt_ii : cmpD .gt (int i) (int j) = some (decide (j < i)) := nr rfl
theorem ge_ii : cmpD .ge (int i) (int j) = some (decide (j ≤ i)) := nr rfl
theorem ix_t : ixD (.im (.tup xs)) (int i) = (atI xs i).map .im := nr rfl
theorem ix_T : ixD (.tup ds) (int i) = atI ds i := nr rfl
theorem ix_l : ixD (.lst ds) (int i) = atI ds i := nr rfl
theorem ix_s : ixD (.scr ns) (int i) = (atI ns i).map fun n => int n := nr rfl
theorem ix_d : ixD (.dct c kvs) (.im x) = if keyOk c x then (lkup x kvs).join else none := nr rfl
theorem ix_x : ixD (.im (tx l)) (int i) = if l.length ≤ big then (atI l i).map fun c => .im (tx [c]) else none := by simp [ixD, SX.S_len]
theorem ixV_l : ixV (.lst ds) (int i) = atI ds i := nr rfl
theorem ixV_t : ixV (.im (.tup xs)) (int i) = (atI xs i).map .im := nr rfl
theorem at_0 : atI (a0 :: r) 0 = some a0 := at_lit (k := 0) (by simp) (by simp)
theorem at_1 : atI (a0 :: a1 :: r) 1 = some a1 := at_lit (k := 1) (by simp) (by simp)
theorem at_2 : atI (a0 :: a1 :: a2 :: r) 2 = some a2 := at_lit (k := 2) (by simp) (by simp)
theorem at_3 : atI (a0 :: a1 :: a2 :: a3 :: r) 3 = some a3 := at_lit (k := 3) (by simp) (by simp)
theorem at_4 : atI (a0 :: a1 :: a2 :: a3 :: a4 :: r) 4 = some a4 := at_lit (k := 4) (by simp) (by simp)
theorem at_5 : atI (a0 :: a1 :: a2 :: a3 :: a4 :: a5 :: r) 5 = some a5 := at_lit (k := 5) (by simp) (by simp)
theorem at_m1 : atI [a0] (-1) = some a0 := by simp [atI, ixN]
theorem at_m2 : atI [a0, a1] (-1) = some a1 := by simp [atI, ixN]
theorem at_m3 : atI [a0, a1, a2] (-1) = some a2 := by simp [atI, ixN]
theorem at_m4 : atI [a0, a1, a2, a3] (-1) = some a3 := by simp [atI, ixN]
theorem sl_t : slD (.im (.tup xs)) lo hi = some (.im (.tup (cutL xs lo hi))) := nr rfl
theorem sl_l : slD (.lst ds) lo hi = (ims ds).map fun _ => .lst (cutL ds lo hi) := nr rfl
theorem len_t : biD .len [.im (.tup xs)] = some (int xs.length) := nr rfl
theorem len_T : biD .len [.tup ds] = some (int ds.length) := nr rfl
theorem len_l : biD .len [.lst ds] = some (int ds.length) := nr rfl
theorem len_s : biD .len [.scr ns] = some (int ns.length) := nr rfl
theorem len_d : biD .len [.dct false kvs] = some (int kvs.length) := nr rfl
theorem tuple_t : biD .tuple [.im (.tup xs)] = some (.im (.tup xs)) := nr rfl
theorem tuple_l : biD .tuple [.lst ds] = (ims ds).map fun ys => .im (.tup ys) := nr rfl
theorem list_t : biD .list [.im (.tup xs)] = some (.lst (xs.map .im)) := nr rfl
theorem list_l : biD .list [.lst ds] = (ims ds).map fun _ => .lst ds := nr rfl
theorem list_s : biD .list [.scr ns] = some (.lst (ns.map fun n => int n)) := nr rfl
theorem int_i : biD .int [int i] = some (int i) := nr rfl
theorem int_s : biD .int [.im (.str s)] = if s.length ≤ 640 then (PySem.intText? s).map fun n => int n else none := nr rfl
theorem abs_i : biD .abs [int i] = some (int i.natAbs) := nr rfl
theorem min_ii : biD .min [int i, int j] = some (int (min i j)) := nr rfl
theorem max_ii : biD .max [int i, int j] = some (int (max i j)) := nr rfl
theorem sum_l : biD .sum [.lst ds] = ((ims ds).bind intsOf).map fun ns => int ns.sum := nr rfl
theorem any_l : biD .any [.lst ds] = ((ims ds).bind boolsOf).map fun bs => .im (.bl (bs.any id)) := nr rfl
theorem all_l : biD .all [.lst ds] = ((ims ds).bind boolsOf).map fun bs => .im (.bl (bs.all id)) := nr rfl
theorem min_l : biD .min [.lst ds] = ((((ims ds).bind intsOf).bind minL).map fun n => int n).or (((ims ds).bind minZ).map fun z => D.im z) := nr rfl
theorem max_l : biD .max [.lst ds] = (((ims ds).bind intsOf).bind maxL).map fun n => int n := nr rfl
theorem str_i : biD .str [int i] = if i.natAbs.log2 < 1000 then some (.im (.str (toString i))) else none := nr rfl
theorem sorted_l : biD .sorted [.lst ds] = ((ims ds).bind intsOf).map fun ns => .lst ((ns.mergeSort (fun a b => decide (a ≤ b))).map fun n => int n) := nr rfl
theorem sorted_t : biD .sorted [.im (.tup xs)] = (intsOf xs).map fun ns => .lst ((ns.mergeSort (fun a b => decide (a ≤ b))).map fun n => int n) := nr rfl
theorem sorted_d : biD .sorted [.dct false kvs] = (intsOf (kvs.map (·.1))).map fun ns => .lst ((ns.mergeSort (fun a b => decide (a ≤ b))).map fun n => int n) := nr rfl
theorem get_d : meD .get (.dct c kvs) [x, y] = if keyOk c x then (lkup x kvs).bind (getIm y) else none := nr rfl
theorem app : mutD .append (.lst ds) [d] = if ds.length < big then some (.im .non, .lst (ds ++ [d])) else none := nr rfl
theorem ext : mutD .extend (.lst ds) [.lst es] = if ds.length + es.length ≤ big then some (.im .non, .lst (ds ++ es)) else none := nr rfl
theorem pop0 : mutD .pop (.lst ds) [] = (ds.getLast?).map fun d => (d, .lst ds.dropLast) := nr rfl
theorem pop1 : mutD .pop (.lst ds) [int i] = (if ds.length ≤ big then ixN ds.length i else none).bind fun k => (ims ds).bind fun ys => ys[k]?.map fun y => (.im y, .lst (ds.eraseIdx k)) := nr rfl
theorem ins : mutD .insert (.lst ds) [int i, .im y] = if ds.length < big ∧ 0 ≤ i ∧ i ≤ big then (ims ds).map fun _ => (.im .non, .lst (ds.take i.toNat ++ [.im y] ++ ds.drop i.toNat)) else none := nr rfl
theorem set_l : setD (.lst ds) (int i) d = (ixN ds.length i).map fun j => .lst (ds.set j d) := nr rfl
theorem set_d : setD (.dct c kvs) (.im x) d = if keyOk c x && decide (kvs.length < big) then (dput x d kvs).map (.dct c ·) else none := nr rfl
theorem wk_t : wkD (.im (.tup xs)) = some (xs.map .im) := nr rfl
theorem wk_l : wkD (.lst ds) = some ds := nr rfl
theorem wk_s : wkD (.scr ns) = some (ns.map fun n => int n) := nr rfl
theorem wk_x : wkD (.im (tx l)) = some (l.map fun c => D.im (tx [c])) := wkD_tx l
theorem wkr_t : wkR (.im (.tup xs)) = some (xs.map .im) := nr rfl
theorem wkr_l : wkR (.lst ds) = some ds := nr rfl
theorem rev_l : revD (.lst ds) = (ims ds).map fun _ => .lst ds.reverse := nr rfl
theorem rev_t : revD (.im (.tup xs)) = if xs.length ≤ big then some (.im (.tup xs.reverse)) else none := nr rfl
theorem it_t : itemsIm (.im (.tup xs)) = some xs := nr rfl
theorem it_l : itemsIm (.lst ds) = ims ds := nr rfl
theorem en_t : enumD (.im (.tup xs)) = some (xs.map .im) := nr rfl
theorem en_l : enumD (.lst ds) = some ds := nr rfl
theorem en_x : enumD (.im (tx l)) = some (l.map fun c => D.im (tx [c])) := wkD_tx l
theorem zp_t : zipD (.im (.tup xs)) (.im (.tup ys)) = some (xs.map .im, ys.map .im) := nr rfl
theorem zp_l : zipD (.lst ds) (.lst es) = some (ds, es) := nr rfl
theorem need_f : needIm false d e = .ok d e := nr rfl
theorem need_i : needIm b (.im x) e = .ok (.im x) e := by cases b <;> rfl
theorem asI : asInt (int i) e = .ok i e := nr rfl
theorem asB : asBool (.im (.bl b)) e = .ok b e := nr rfl
theorem asIm : asIm (.im x) e = .ok x e := nr rfl
theorem lift_s : lift (some a) e = .ok a e := nr rfl
theorem lift_n : lift (none : Option α) e = .bad := nr rfl
theorem keep_i : keepS (.im x) b = .own (.im x) := by cases b <;> rfl
theorem keep_f : keepS d false = .own d := by cases d <;> rfl
theorem keep_l : keepS (.lst ds) true = .bor (.lst ds) := nr rfl
theorem keep_T : keepS (.tup ds) true = .bor (.tup ds) := nr rfl
theorem keep_d : keepS (.dct c kvs) true = .bor (.dct c kvs) := nr rfl
theorem im_i : D.isIm (.im x) = true := nr rfl
theorem im_l : D.isIm (.lst ds) = false := nr rfl
theorem im_T : D.isIm (.tup ds) = false := nr rfl
theorem im_d : D.isIm (.dct c kvs) = false := nr rfl
theorem im_s : D.isIm (.scr ns) = false := nr rfl
theorem mx_index : mxD .index (.lst ds) [.im x] = (ims ds).bind fun ys => if isKey x && ys.all isKey then (findI x ys).join.map fun (j : Nat) => int (j : Int) else none := nr rfl
theorem mx_count : mxD .count (.lst ds) [int i] = ((ims ds).bind intsOf).map fun ns => int (ns.count i : Nat) := nr rfl
theorem mx_counts : mxD .count (.im (.str s)) [.im (.str t)] = some (int (Txt.count s t)) := nr rfl
theorem mx_join : mxD .join (.im (.str s)) [.lst ds] = ((ims ds).bind strsOf).bind fun ys => if (ys.map (·.length)).sum + ys.length * s.length ≤ big then some (.im (.str (Txt.join s ys))) else none := nr rfl
theorem mx_split : mxD .split (.im (.str s)) [.im (.str t)] = if t.length ≠ 0 ∧ s.length ≤ big then some (.lst ((Txt.split s t).map fun x => .im (.str x))) else none := nr rfl
theorem isin_s : isinD t (.str s) = if t == "str" then some true else if t == "tuple" ∨ t == "int" then some false else none := nr rfl
theorem isin_t : isinD t (.tup xs) = if t == "tuple" then some true else if t == "str" ∨ t == "int" then some false else none := nr rfl
theorem isin_i : isinD t (.int i) = if t == "int" then some true else if t == "str" ∨ t == "tuple" then some false else none := nr rfl
theorem gcd_ii : biD .gcd [int i, int j] = some (int ((Nat.gcd i.natAbs j.natAbs : Nat) : Int)) := nr rfl
theorem eqI_ii : eqI (.int i) (.int j) = some (decide (i = j)) := by simp only [eqI, I.shal, I.eq, Bool.and_self, if_true]; rfl
theorem big_ : big = 1000000 := nr rfl
end
end Kh.V

set_option Elab.async false
set_option linter.all false
set_option maxRecDepth 100000
set_option maxHeartbeats 2000000
/-! draws, as what is wanted -/
namespace Kh
open PySem L2
variable {T T2 : Tab} {X : Str → I → I → En → Prop} {Q : D → En → Prop}
/-- the state of the draws, kept shut --/
def dS (s : St) : D := stD s
theorem dS_im {s : St} : (dS s).isIm = false := rfl
theorem take_wp {s : St} {m : Int} (ok : StOk s) (hm : 0 < m) (hb : m.natAbs < 2 ^ 250) (h : ∀ (n : Nat) (s' : St), (n : Int) < m → StOk s' → Q (int n) [.own (dS s'), oI m]) : WP (fTake.sem T [.own (dS s), oI m]) Q X := by
  obtain ⟨v, s', h1, h2, h3, h4⟩ := take_ok (T := T) ok hm hb
  obtain ⟨n, rfl⟩ : ∃ n : Nat, v = n := ⟨v.toNat, by omega⟩
  exact WP.of_eq h1 (h n s' h3 h4)
theorem sign_wp {s : St} (hp : T.fn "_law_take" = some (fTake.sem T2)) (ok : StOk s) (h : ∀ (v : Int) (s' : St), (v = 1 ∨ v = -1) → StOk s' → Q (int v) [.own (dS s')]) : WP (fSign.sem T [.own (dS s)]) Q X := by
  obtain ⟨v, s', h1, h2, h3⟩ := sign_ok hp ok
  exact WP.of_eq h1 (h v s' h2 h3)
theorem ims_inv' : ∀ {ds : List D} {xs : List I}, ims ds = some xs → ds = xs.map .im := fun h => ims_inv h
theorem pick_wp {s : St} {ds : List D} {xs : List I} (hp : T.fn "_law_take" = some (fTake.sem T2)) (ok : StOk s) (hd : ims ds = some xs) (h0 : xs ≠ []) (hb : xs.length ≤ big) (h : ∀ (x : I) (s' : St), x ∈ xs → StOk s' → Q (.im x) [.own (dS s'), .own (.lst ds)]) : WP (fPick.sem T [.own (dS s), .own (.lst ds)]) Q X := by
  have e := ims_inv hd
  subst e
  obtain ⟨x, s', h1, h2, h3⟩ := pick_ok hp ok h0 hb
  exact WP.of_eq h1 (h x s' h2 h3)
theorem begin_wp {ns : List Int} (hl : ns.length ≤ 63) (h : ∀ (s : St), StOk s → Q (dS s) [.own (.scr ns)]) : WP (fBegin.sem T [.own (.scr ns)]) Q X := by
  obtain ⟨s, h1, h2⟩ := begin_ok (T := T) hl
  exact WP.of_eq h1 (h s h2)
end Kh
namespace Kh
open PySem L2
theorem WP.eqx {α : Type} {o : Out α} {c : Str} {x y : I} {e : En} (h : WP o (fun _ _ => False) (fun c' x' y' e' => (c' = c ∧ x' = x ∧ y' = y) ∧ e' = e)) : o = .exc c x y e := by
  cases o with
  | ok a e => exact h.elim
  | exc c x y e =>
    obtain ⟨⟨rfl, rfl, rfl⟩, rfl⟩ := h
    rfl
  | bad => exact h.elim
theorem WP_goN {turn : D → En → Out Fl} {e : En} {Q : Fl → En → Prop} {X : Str → I → I → En → Prop} : WP (forGo turn [] e) Q X = Q .nx e := nr rfl
theorem WP_goC {turn : D → En → Out Fl} {d : D} {r : List D} {e : En} {Q : Fl → En → Prop} {X : Str → I → I → En → Prop} (h : WP (turn d e) (ForK (fun e => WP (forGo turn r e) Q X) Q) X) : WP (forGo turn (d :: r) e) Q X := by
  unfold forGo
  cases q : turn d e with
  | ok f e' =>
    rw [q] at h
    cases f <;> exact h
  | exc c x y e' =>
    rw [q] at h
    exact h
  | bad =>
    rw [q] at h
    exact h
end Kh

set_option Elab.async false
set_option linter.all false
set_option maxRecDepth 100000
set_option maxHeartbeats 0
/-! the law's text as data; its head -/
namespace Kw
open PySem PySem.Spec PyProof.Rows L2 Kh
abbrev rw : PySem.W.OpenLaw := PySem.Challenge.rw_knothouse_k12_canonical_words
def topS (i : Nat) : Stmt := PySem.Challenge.pw_knothouse_k12_canonical_words.main.body.getD i (.Pass ⟨0, 0, 0, 0⟩)
def f_check_word : Fd := ⟨1, 1,
  (.cons (.ifs (.cmp .gt (.bi .len (.cons (.var 0) .nil)) (.bin .mul (.cst (.int 2)) (.glob "MOST")))
   (.cons (.raise "CurveError" (.cons (.cst (.str "many")) .nil))
   .nil)
   .nil)
  (.cons (.ifs (.cmp .ne (.bi .sorted (.cons (.var 0) .nil)) (.bi .sorted (.cons (.bin .mul (.lrange (.cons (.cst (.int 1)) (.cons (.bin .add (.bin .fdiv (.bi .len (.cons (.var 0) .nil)) (.cst (.int 2))) (.cst (.int 1))) .nil))) (.cst (.int 2))) .nil)))
   (.cons (.raise "CurveError" (.cons (.cst (.str "letters")) .nil))
   .nil)
   .nil)
  .nil))⟩
def d_check_word : DD := ⟨"check_word", defArgs (topS 5), defBody (topS 5), defScope (topS 5), f_check_word, ["word"], ["word"]⟩
theorem z_check_word {a0 : Kh.Slot} : (Kh.clear f_check_word.body.stores [a0]).take f_check_word.ps = [a0] := rfl
theorem o_check_word : d_check_word.okB = true ∧ d_check_word.Bnd := ⟨by decide +kernel, fun _ _ _ _ _ _ us hl => match us, hl with | [_], _ => rfl⟩
def s_renamed_1 : Ss := (.cons (.expr (.mut .setdefault 1 (.cons (.var 2) (.cons (.bin .add (.bi .len (.cons (.var 1) .nil)) (.cst (.int 1))) .nil))))
  .nil)
def s_renamed_2 : Kh.S := .fors (.it (.var 0)) (.name 2) [2] s_renamed_1
def e_renamed_1 : Kh.E := .lc (.it (.var 0)) (.name 2) [("letter", 2)] .no (.ix (.var 1) (.var 2))
theorem e_renamed_1_p : e_renamed_1.pure = false := rfl
theorem e_renamed_1_s : e_renamed_1.src = [] := rfl
theorem e_renamed_1_a {T : Kh.Tab} {e : En} : argS T e_renamed_1 e = (evalE T e_renamed_1 true e).bind fun x e => .ok (Slot.own x, none) e := rfl
def f_renamed : Fd := ⟨1, 3,
  (.cons (.setv 1 .dnew)
  (.cons s_renamed_2
  (.cons (.ret (.bi .tuple (.cons e_renamed_1 .nil)))
  .nil)))⟩
def d_renamed : DD := ⟨"renamed", defArgs (topS 6), defBody (topS 6), defScope (topS 6), f_renamed, ["word", "names", "letter"], ["word"]⟩
theorem z_renamed {a0 a1 a2 : Kh.Slot} : (Kh.clear f_renamed.body.stores [a0, a1, a2]).take f_renamed.ps = [a0] := rfl
theorem o_renamed : d_renamed.okB = true ∧ d_renamed.Bnd := ⟨by decide +kernel, fun _ _ _ _ _ _ us hl => match us, hl with | [_], _ => rfl⟩
def s_canonical_word_1 : Ss := (.cons (.expr (.mut .append 1 (.cons (.call "renamed" (.cons (.bin .add (.sl (.var 2) (.so (.var 3)) .no) (.sl (.var 2) .no (.so (.var 3)))) .nil)) .nil)))
  .nil)
def s_canonical_word_2 : Kh.S := .fors (.range (.cons (.bi .len (.cons (.var 0) .nil)) .nil)) (.name 3) [3] s_canonical_word_1
def s_canonical_word_3 : Ss := (.cons s_canonical_word_2
  .nil)
def s_canonical_word_4 : Kh.S := .fors (.it (.tup (.cons (.var 0) (.cons (.rev (.var 0)) .nil)))) (.name 2) [2, 3] s_canonical_word_3
def t_canonical_word_4 : Ss := .nil
def t_canonical_word_3 : Ss := .cons (.ret (.bi .min (.cons (.var 1) .nil))) t_canonical_word_4
def t_canonical_word_2 : Ss := .cons s_canonical_word_4 t_canonical_word_3
def t_canonical_word_1 : Ss := .cons (.setv 1 (.ite (.cmp .eq (.bi .len (.cons (.var 0) .nil)) (.cst (.int 0))) (.lst (.cons (.tup .nil) .nil)) (.lst .nil))) t_canonical_word_2
def t_canonical_word_0 : Ss := .cons (.expr (.call "check_word" (.cons (.var 0) .nil))) t_canonical_word_1
def f_canonical_word : Fd := ⟨1, 4, t_canonical_word_0⟩
def d_canonical_word : DD := ⟨"canonical_word", defArgs (topS 7), defBody (topS 7), defScope (topS 7), f_canonical_word, ["word", "found", "row", "at"], ["word"]⟩
theorem z_canonical_word {a0 a1 a2 a3 : Kh.Slot} : (Kh.clear f_canonical_word.body.stores [a0, a1, a2, a3]).take f_canonical_word.ps = [a0] := rfl
theorem o_canonical_word : d_canonical_word.okB = true ∧ d_canonical_word.Bnd := ⟨by decide +kernel, fun _ _ _ _ _ _ us hl => match us, hl with | [_], _ => rfl⟩
def s_l_begin_1 : Ss := (.cons (.setv 1 (.bin .mod (.bin .add (.bin .add (.bin .mul (.var 1) (.cst (.int 69621))) (.bin .mod (.bi .int (.cons (.var 2) .nil)) (.cst (.int 2147483629)))) (.cst (.int 7))) (.cst (.int 2147483647))))
  .nil)
def s_l_begin_2 : Kh.S := .fors (.it (.var 0)) (.name 2) [2] s_l_begin_1
def f_l_begin : Fd := ⟨1, 3,
  (.cons (.setv 1 (.cst (.int 1)))
  (.cons s_l_begin_2
  (.cons (.ret (.lst (.cons (.bi .list (.cons (.var 0) .nil)) (.cons (.cst (.int 0)) (.cons (.cst (.int 0)) (.cons (.var 1) .nil))))))
  .nil)))⟩
def d_l_begin : DD := ⟨"_law_begin", defArgs (topS 9), defBody (topS 9), defScope (topS 9), f_l_begin, ["script", "seed", "cell"], ["script"]⟩
theorem z_l_begin {a0 a1 a2 : Kh.Slot} : (Kh.clear f_l_begin.body.stores [a0, a1, a2]).take f_l_begin.ps = [a0] := rfl
theorem o_l_begin : d_l_begin.okB = true ∧ d_l_begin.Bnd := ⟨by decide +kernel, fun _ _ _ _ _ _ us hl => match us, hl with | [_], _ => rfl⟩
def t_l_take_4 : Ss := .nil
def t_l_take_3 : Ss := .cons (.ret (.bin .mod (.bi .int (.cons (.bin .fdiv (.ix (.var 0) (.cst (.int 3))) (.cst (.int 3))) .nil)) (.var 1))) t_l_take_4
def t_l_take_2 : Ss := .cons (.setix 0 (.cons (.cst (.int 3)) .nil) (.bin .mod (.bi .int (.cons (.bin .add (.bin .mul (.ix (.var 0) (.cst (.int 3))) (.cst (.int 48271))) (.cst (.int 11))) .nil)) (.cst (.int 2147483647)))) t_l_take_3
def t_l_take_1 : Ss := .cons (.ifs (.cmp .gt (.ix (.var 0) (.cst (.int 2))) (.cst (.int 0)))
   (.cons (.setv 3 (.bin .mod (.bi .int (.cons (.ix (.var 0) (.cst (.int 2))) .nil)) (.var 1)))
   (.cons (.setix 0 (.cons (.cst (.int 2)) .nil) (.bin .fdiv (.bi .int (.cons (.ix (.var 0) (.cst (.int 2))) .nil)) (.var 1)))
   (.cons (.ret (.var 3))
   .nil)))
   .nil) t_l_take_2
def t_l_take_0 : Ss := .cons (.ifs (.and (.cmp .eq (.ix (.var 0) (.cst (.int 2))) (.cst (.int 0))) (.one (.cmp .lt (.ix (.var 0) (.cst (.int 1))) (.bi .len (.cons (.ix (.var 0) (.cst (.int 0))) .nil)))))
   (.cons (.setix 0 (.cons (.cst (.int 2)) .nil) (.bi .abs (.cons (.bi .int (.cons (.ix (.ix (.var 0) (.cst (.int 0))) (.ix (.var 0) (.cst (.int 1)))) .nil)) .nil)))
   (.cons (.setix 0 (.cons (.cst (.int 1)) .nil) (.bin .add (.ix (.var 0) (.cst (.int 1))) (.cst (.int 1))))
   (.cons (.ifs (.cmp .lt (.ix (.var 0) (.cst (.int 2))) (.bin .pow (.cst (.int 10)) (.cst (.int 18))))
    (.cons (.setv 2 (.bi .int (.cons (.ix (.var 0) (.cst (.int 2))) .nil)))
    (.cons (.setix 0 (.cons (.cst (.int 2)) .nil) (.cst (.int 0)))
    (.cons (.ret (.bin .mod (.var 2) (.var 1)))
    .nil)))
    .nil)
   .nil)))
   .nil) t_l_take_1
def f_l_take : Fd := ⟨2, 4, t_l_take_0⟩
def d_l_take : DD := ⟨"_law_take", defArgs (topS 10), defBody (topS 10), defScope (topS 10), f_l_take, ["d", "many", "small", "digit"], ["d", "many"]⟩
theorem z_l_take {a0 a1 a2 a3 : Kh.Slot} : (Kh.clear f_l_take.body.stores [a0, a1, a2, a3]).take f_l_take.ps = [a0, a1] := rfl
theorem o_l_take : d_l_take.okB = true ∧ d_l_take.Bnd := ⟨by decide +kernel, fun _ _ _ _ _ _ us hl => match us, hl with | [_, _], _ => rfl⟩
def s_l_gauss_1 : Ss := (.cons (.expr (.mut .insert 2 (.cons (.call "_law_take" (.cons (.var 0) (.cons (.bin .add (.bi .len (.cons (.var 2) .nil)) (.cst (.int 1))) .nil))) (.cons (.bin .add (.var 3) (.cst (.int 1))) .nil))))
  (.cons (.expr (.mut .insert 2 (.cons (.call "_law_take" (.cons (.var 0) (.cons (.bin .add (.bi .len (.cons (.var 2) .nil)) (.cst (.int 1))) .nil))) (.cons (.bin .add (.var 3) (.cst (.int 1))) .nil))))
  .nil))
def s_l_gauss_2 : Kh.S := .fors (.range (.cons (.var 1) .nil)) (.name 3) [3] s_l_gauss_1
def f_l_gauss : Fd := ⟨2, 4,
  (.cons (.setv 2 (.lst .nil))
  (.cons s_l_gauss_2
  (.cons (.ret (.bi .tuple (.cons (.var 2) .nil)))
  .nil)))⟩
def d_l_gauss : DD := ⟨"_law_gauss", defArgs (topS 11), defBody (topS 11), defScope (topS 11), f_l_gauss, ["d", "many", "row", "k"], ["d", "many"]⟩
theorem z_l_gauss {a0 a1 a2 a3 : Kh.Slot} : (Kh.clear f_l_gauss.body.stores [a0, a1, a2, a3]).take f_l_gauss.ps = [a0, a1] := rfl
theorem o_l_gauss : d_l_gauss.okB = true ∧ d_l_gauss.Bnd := ⟨by decide +kernel, fun _ _ _ _ _ _ us hl => match us, hl with | [_, _], _ => rfl⟩
def s_l_named_1 : Ss := (.cons (.ifs (.cmp .nin (.var 3) (.var 1))
   (.cons (.setix 1 (.cons (.var 3) .nil) (.bin .add (.bi .len (.cons (.var 1) .nil)) (.cst (.int 1))))
   .nil)
   .nil)
  (.cons (.expr (.mut .append 2 (.cons (.ix (.var 1) (.var 3)) .nil)))
  .nil))
def s_l_named_2 : Kh.S := .fors (.it (.var 0)) (.name 3) [3] s_l_named_1
def t_l_named_4 : Ss := .nil
def t_l_named_3 : Ss := .cons (.ret (.bi .tuple (.cons (.var 2) .nil))) t_l_named_4
def t_l_named_2 : Ss := .cons s_l_named_2 t_l_named_3
def t_l_named_1 : Ss := .cons (.setv 2 (.lst .nil)) t_l_named_2
def t_l_named_0 : Ss := .cons (.setv 1 .dnew) t_l_named_1
def f_l_named : Fd := ⟨1, 4, t_l_named_0⟩
def d_l_named : DD := ⟨"_law_named", defArgs (topS 12), defBody (topS 12), defScope (topS 12), f_l_named, ["row", "names", "told", "letter"], ["row"]⟩
theorem z_l_named {a0 a1 a2 a3 : Kh.Slot} : (Kh.clear f_l_named.body.stores [a0, a1, a2, a3]).take f_l_named.ps = [a0] := rfl
theorem o_l_named : d_l_named.okB = true ∧ d_l_named.Bnd := ⟨by decide +kernel, fun _ _ _ _ _ _ us hl => match us, hl with | [_], _ => rfl⟩
def s_l_all_1 : Ss := (.cons (.setv 3 (.bin .add (.sl (.var 0) (.so (.var 2)) .no) (.sl (.var 0) .no (.so (.var 2)))))
  (.cons (.expr (.mut .append 1 (.cons (.call "_law_named" (.cons (.var 3) .nil)) .nil)))
  (.cons (.expr (.mut .append 1 (.cons (.call "_law_named" (.cons (.rev (.var 3)) .nil)) .nil)))
  .nil)))
def s_l_all_2 : Kh.S := .fors (.range (.cons (.bi .len (.cons (.var 0) .nil)) .nil)) (.name 2) [2, 3] s_l_all_1
def f_l_all : Fd := ⟨1, 4,
  (.cons (.setv 1 (.ite (.cmp .eq (.bi .len (.cons (.var 0) .nil)) (.cst (.int 0))) (.lst (.cons (.tup .nil) .nil)) (.lst .nil)))
  (.cons s_l_all_2
  (.cons (.ret (.var 1))
  .nil)))⟩
def d_l_all : DD := ⟨"_law_all", defArgs (topS 13), defBody (topS 13), defScope (topS 13), f_l_all, ["word", "rows", "at", "turned"], ["word"]⟩
theorem z_l_all {a0 a1 a2 a3 : Kh.Slot} : (Kh.clear f_l_all.body.stores [a0, a1, a2, a3]).take f_l_all.ps = [a0] := rfl
theorem o_l_all : d_l_all.okB = true ∧ d_l_all.Bnd := ⟨by decide +kernel, fun _ _ _ _ _ _ us hl => match us, hl with | [_], _ => rfl⟩
def s_law_1 : Ss := (.cons (.setix 8 (.cons (.var 9) .nil) (.mut .pop 7 (.cons (.call "_law_take" (.cons (.var 1) (.cons (.bi .len (.cons (.var 7) .nil)) .nil))) .nil)))
  .nil)
def s_law_2 : Kh.S := .fors (.range (.cons (.cst (.int 1)) (.cons (.bin .add (.var 2) (.cst (.int 1))) .nil))) (.name 9) [9] s_law_1
def e_law_1 : Kh.E := .lc (.it (.var 6)) (.name 10) [("letter", 10)] .no (.ix (.var 8) (.var 10))
theorem e_law_1_p : e_law_1.pure = false := rfl
theorem e_law_1_s : e_law_1.src = [] := rfl
theorem e_law_1_a {T : Kh.Tab} {e : En} : argS T e_law_1 e = (evalE T e_law_1 true e).bind fun x e => .ok (Slot.own x, none) e := rfl
def t_law_14 : Ss := .nil
def t_law_13 : Ss := .cons (.ret (.cmp .eq (.cmp .eq (.call "canonical_word" (.cons (.var 11) .nil)) (.call "canonical_word" (.cons (.var 3) .nil))) (.cmp .inn (.call "_law_named" (.cons (.var 11) .nil)) (.var 4)))) t_law_14
def t_law_12 : Ss := .cons (.setv 11 (.call "_law_gauss" (.cons (.var 1) (.cons (.var 2) .nil)))) t_law_13
def t_law_11 : Ss := .cons (.ifs (.cmp .ne (.call "canonical_word" (.cons (.bi .tuple (.cons e_law_1 .nil)) .nil)) (.bi .min (.cons (.var 4) .nil)))
   (.cons (.ret (.cst (.bl false)))
   .nil)
   .nil) t_law_12
def t_law_10 : Ss := .cons s_law_2 t_law_11
def t_law_9 : Ss := .cons (.setv 8 .dnew) t_law_10
def t_law_8 : Ss := .cons (.setv 7 (.lrange (.cons (.cst (.int 1)) (.cons (.bin .add (.var 2) (.cst (.int 1))) .nil)))) t_law_9
def t_law_7 : Ss := .cons (.ifs (.cmp .eq (.call "_law_take" (.cons (.var 1) (.cons (.cst (.int 2)) .nil))) (.cst (.int 0)))
   (.cons (.setv 6 (.rev (.var 6)))
   .nil)
   .nil) t_law_8
def t_law_6 : Ss := .cons (.setv 6 (.bin .add (.sl (.var 3) (.so (.var 5)) .no) (.sl (.var 3) .no (.so (.var 5))))) t_law_7
def t_law_5 : Ss := .cons (.setv 5 (.call "_law_take" (.cons (.var 1) (.cons (.bin .add (.bi .len (.cons (.var 3) .nil)) (.cst (.int 1))) .nil)))) t_law_6
def t_law_4 : Ss := .cons (.ifs (.cmp .ne (.call "canonical_word" (.cons (.var 3) .nil)) (.bi .min (.cons (.var 4) .nil)))
   (.cons (.ret (.cst (.bl false)))
   .nil)
   .nil) t_law_5
def t_law_3 : Ss := .cons (.setv 4 (.call "_law_all" (.cons (.var 3) .nil))) t_law_4
def t_law_2 : Ss := .cons (.setv 3 (.call "_law_gauss" (.cons (.var 1) (.cons (.var 2) .nil)))) t_law_3
def t_law_1 : Ss := .cons (.setv 2 (.ite (.cmp .eq (.call "_law_take" (.cons (.var 1) (.cons (.cst (.int 3)) .nil))) (.cst (.int 0))) (.call "_law_take" (.cons (.var 1) (.cons (.cst (.int 4)) .nil))) (.call "_law_take" (.cons (.var 1) (.cons (.cst (.int 15)) .nil))))) t_law_2
def t_law_0 : Ss := .cons (.setv 1 (.call "_law_begin" (.cons (.var 0) .nil))) t_law_1
def f_law : Fd := ⟨1, 12, t_law_0⟩
def d_law : DD := ⟨"law", defArgs (topS 14), defBody (topS 14), defScope (topS 14), f_law, ["script", "d", "many", "word", "due", "at", "turned", "rest", "names", "k", "letter", "other"], ["script"]⟩
theorem z_law {a0 a1 a2 a3 a4 a5 a6 a7 a8 a9 a10 a11 : Kh.Slot} : (Kh.clear f_law.body.stores [a0, a1, a2, a3, a4, a5, a6, a7, a8, a9, a10, a11]).take f_law.ps = [a0] := rfl
theorem o_law : d_law.okB = true ∧ d_law.Bnd := ⟨by decide +kernel, fun _ _ _ _ _ _ us hl => match us, hl with | [_], _ => rfl⟩
def defs : List DD := [d_check_word, d_renamed, d_canonical_word, d_l_begin, d_l_take, d_l_gauss, d_l_named, d_l_all, d_law]
theorem defs_ok : AllD defs := ⟨o_check_word, o_renamed, o_canonical_word, o_l_begin, o_l_take, o_l_gauss, o_l_named, o_l_all, o_law, trivial⟩
def gls : List (Str × I) := [("MOST", .int 14)]
def gds : List (Str × List (Str × I)) := []
def loose : List PySem.Str := (["KnotError", "CurveError", "MOST", "check_word", "renamed", "canonical_word", "_law_begin", "_law_take", "_law_gauss", "_law_named", "_law_all"] : List PySem.Str)
def iLaw : Nat := 14
def gcdIn : Bool := false
def ecs : List Str := ["CurveError"]
def iErr : Nat := 1

def ind : InD := inD "KnotError" "KnotError.__init__" (clsIni (topS iErr))
theorem ind_b1 : ind.B1 := fun _ _ _ _ _ _ _ us its h h' => match us, its, h, h' with | [_, _], [_], _, _ => ⟨_, rfl, rfl⟩
theorem ind_b2 : ind.B2 := fun _ _ _ _ _ _ _ us its h h' => match us, its, h, h' with | [_, _, _], [_], _, _ => ⟨_, rfl, rfl⟩
theorem ind_s : scD ["self", "code", "place"] ["self", "code", "place"] ind.scope = true := by decide +kernel
theorem ind_l1 : ind.scope.names.lookup ("self" : Str) = some .local := by decide +kernel
theorem ind_l2 : ind.scope.names.lookup ("code" : Str) = some .local := by decide +kernel
theorem ind_l3 : ind.scope.names.lookup ("place" : Str) = some .local := by decide +kernel

/-! ### the head -/
abbrev R : PySem.W.OpenRow := PySem.W.OpenLaw.row rw
def ex (K : PySem.W.Frag) : Bool := exB gls ecs ind.b gcdIn gds K
abbrev hk : PySem.W.Hook := He.hookX 5 (factsOf defs) (defs.map DD.dd ++ [ind.dd]) (tabsOf gds) [] ex
def ob (s : PySem.W.SharedT) : He.AlX := He.obsX 5 (factsOf defs) (defs.map DD.dd ++ [ind.dd]) (tabsOf gds) [] ex (HandSHeadRun.getT s)
theorem ob_eq (s : PySem.W.SharedT) : ob s = hk.obs s.abs := He.obsX_eq (HandSHeadRun.getT_eq s)
theorem run (w : World) : HandSHeadRun.RunEq R (PySem.W.view R.prog [iLaw]) hk ob 20000 loose w := by
  intro os
  kernel_rfl
noncomputable abbrev tab (k : Nat) : Kh.Tab := tabL (fdsOf defs) (fun x => gls.lookup x) ecs gcdIn (fun x => gds.lookup x) k
theorem facts {w : World} {K : PySem.W.Frag} {h : Heap} {mg : Str → Option Value} (X : K.In h) (G : h.Ns mainGlobals mg) (c : He.SaysX (factsOf defs) (defs.map DD.dd ++ [ind.dd]) (tabsOf gds) [] ex w h K) : Hd (fdsOf defs) (fun x => gls.lookup x) ecs gcdIn (fun x => gds.lookup x) w K mg := hd_all X G defs_ok c.t c.more ind_s ind_l1 ind_l2 ind_l3 ind_b1 ind_b2
end Kw

set_option Elab.async false
set_option linter.all false
set_option maxRecDepth 100000
set_option maxHeartbeats 2000000
/-! words, told from another place, backwards, with other names -/
namespace Km
abbrev Wd := List Int
/-! ### names in the order of first places -/
def dedS (acc : Wd) (x : Int) : Wd := if x ∈ acc then acc else acc ++ [x]
def ded (w : Wd) : Wd := w.foldl dedS []
def nameIn (acc : Wd) (x : Int) : Int := (acc.idxOf x : Int) + 1
def named (w : Wd) : Wd := w.map (nameIn (ded w))
theorem ded_app (u v : Wd) : (u ++ v).foldl dedS [] = v.foldl dedS (ded u) := List.foldl_append
theorem dedS_mono {acc : Wd} {x : Int} : ∃ r, dedS acc x = acc ++ r := by
  unfold dedS
  split
  · exact ⟨[], by simp⟩
  · exact ⟨[x], rfl⟩
theorem fold_mono : ∀ (v : Wd) (acc : Wd), ∃ r, v.foldl dedS acc = acc ++ r
  | [], acc => ⟨[], by simp⟩
  | x :: v, acc => by
    obtain ⟨r, h⟩ := dedS_mono (acc := acc) (x := x)
    obtain ⟨q, k⟩ := fold_mono v (dedS acc x)
    exact ⟨r ++ q, by rw [List.foldl_cons, k, h, List.append_assoc]⟩
theorem mem_dedS {acc : Wd} {x : Int} : x ∈ dedS acc x := by
  unfold dedS
  split
  · assumption
  · simp
theorem mem_fold : ∀ (v : Wd) (acc : Wd) (x : Int), x ∈ v.foldl dedS acc ↔ x ∈ acc ∨ x ∈ v
  | [], acc, x => by simp
  | y :: v, acc, x => by
    rw [List.foldl_cons, mem_fold v]
    have : x ∈ dedS acc y ↔ x ∈ acc ∨ x = y := by
      unfold dedS
      split
      · rename_i h
        exact ⟨.inl, fun h' => h'.elim id fun e => e ▸ h⟩
      · simp
    rw [this, List.mem_cons, or_assoc]
theorem mem_ded {w : Wd} {x : Int} : x ∈ ded w ↔ x ∈ w := by
  unfold ded
  rw [mem_fold]
  simp
theorem name_app {acc r : Wd} {x : Int} (h : x ∈ acc) : nameIn (acc ++ r) x = nameIn acc x := by
  unfold nameIn
  rw [List.idxOf_append, if_pos h]
/-- an injective renaming changes no names -/
theorem fold_map {σ : Int → Int} : ∀ (v : Wd) (acc : Wd), (∀ x ∈ acc ++ v, ∀ y ∈ acc ++ v, σ x = σ y → x = y) → (v.map σ).foldl dedS (acc.map σ) = (v.foldl dedS acc).map σ
  | [], acc, _ => rfl
  | y :: v, acc, h => by
    have e : dedS (acc.map σ) (σ y) = (dedS acc y).map σ := by
      unfold dedS
      by_cases m : y ∈ acc
      · rw [if_pos m, if_pos (List.mem_map_of_mem m)]
      · rw [if_neg m, if_neg, List.map_append]
        · rfl
        · intro z
          obtain ⟨x, hx, hxy⟩ := List.mem_map.mp z
          exact m (h x (by simp [hx]) y (by simp) hxy ▸ hx)
    rw [List.map_cons, List.foldl_cons, List.foldl_cons, e]
    have sub : ∀ x, x ∈ dedS acc y ++ v → x ∈ acc ++ y :: v := fun x hx => by
      rcases List.mem_append.mp hx with q | q
      · have := (mem_fold [y] acc x).mp q
        simp at this ⊢
        rcases this with a | a <;> simp [a]
      · simp [q]
    exact fold_map v (dedS acc y) fun x hx z hz => h x (sub x hx) z (sub z hz)
theorem idx_map {σ : Int → Int} {x : Int} : ∀ {l : Wd}, (∀ y ∈ l, σ y = σ x → y = x) → (l.map σ).idxOf (σ x) = l.idxOf x
  | [], _ => rfl
  | y :: l, h => by
    have ih := idx_map (σ := σ) (x := x) (l := l) fun z hz => h z (List.mem_cons_of_mem _ hz)
    rw [List.map_cons, List.idxOf_cons, List.idxOf_cons]
    by_cases e : y = x
    · subst e
      simp
    · have e2 : ¬ σ y = σ x := fun q => e (h y List.mem_cons_self q)
      rw [beq_eq_false_iff_ne.mpr e, beq_eq_false_iff_ne.mpr e2, ih]
theorem named_map {σ : Int → Int} {w : Wd} (h : ∀ x ∈ w, ∀ y ∈ w, σ x = σ y → x = y) : named (w.map σ) = named w := by
  have e : ded (w.map σ) = (ded w).map σ := fold_map w [] (by simpa using h)
  unfold named
  rw [e, List.map_map]
  refine List.map_congr_left fun x hx => ?_
  show nameIn ((ded w).map σ) (σ x) = nameIn (ded w) x
  unfold nameIn
  rw [idx_map fun y hy q => h y (mem_ded.mp hy) x hx q]
theorem name_inj {w : Wd} : ∀ x ∈ w, ∀ y ∈ w, nameIn (ded w) x = nameIn (ded w) y → x = y := fun x hx y hy h => by
  unfold nameIn at h
  have h1 : (ded w).idxOf x = (ded w).idxOf y := by omega
  have a := List.idxOf_lt_length_of_mem (mem_ded.mpr hx)
  have b := List.idxOf_lt_length_of_mem (mem_ded.mpr hy)
  have c : (ded w)[(ded w).idxOf x] = x := List.getElem_idxOf a
  have d : (ded w)[(ded w).idxOf y] = y := List.getElem_idxOf b
  rw [← c, ← d]
  congr 1
/-! ### turned words -/
inductive Dih (w : Wd) : Wd → Prop
  | refl : Dih w w
  | rot {x : Int} {r : Wd} : Dih w (x :: r) → Dih w (r ++ [x])
  | rev {v : Wd} : Dih w v → Dih w v.reverse
theorem Dih.trans {u v w : Wd} (h : Dih u v) (k : Dih v w) : Dih u w := by
  induction k with
  | refl => exact h
  | rot _ ih => exact .rot ih
  | rev _ ih => exact .rev ih
theorem Dih.back {r : Wd} {x : Int} : Dih (r ++ [x]) (x :: r) := by
  have h1 : Dih (r ++ [x]) (x :: r.reverse) := by
    have := Dih.rev (Dih.refl (w := r ++ [x]))
    simpa using this
  have h2 := Dih.rev (Dih.rot h1)
  simpa using h2
theorem Dih.symm {u v : Wd} (h : Dih u v) : Dih v u := by
  induction h with
  | refl => exact .refl
  | rot _ ih => exact Dih.back.trans ih
  | rev h ih =>
    rename_i v
    have : Dih v.reverse v := by
      have := Dih.rev (Dih.refl (w := v.reverse))
      simpa using this
    exact this.trans ih
theorem Dih.map {u v : Wd} {σ : Int → Int} (h : Dih u v) : Dih (u.map σ) (v.map σ) := by
  induction h with
  | refl => exact .refl
  | rot _ ih =>
    rw [List.map_append]
    rw [List.map_cons] at ih
    exact .rot ih
  | rev _ ih =>
    rw [List.map_reverse]
    exact .rev ih
theorem Dih.mem {u v : Wd} (h : Dih u v) : ∀ x, x ∈ u ↔ x ∈ v := by
  induction h with
  | refl => exact fun _ => Iff.rfl
  | rot _ ih => exact fun x => (ih x).trans (by simp [or_comm])
  | rev _ ih => exact fun x => (ih x).trans (by simp)
theorem Dih.len {u v : Wd} (h : Dih u v) : u.length = v.length := by
  induction h with
  | refl => rfl
  | rot _ ih => rw [ih]; simp
  | rev _ ih => rw [ih]; simp
/-- what a word is told as -/
def Told (w m : Wd) : Prop := ∃ v, Dih w v ∧ m = named v
theorem told_map {w m : Wd} {σ : Int → Int} (h : ∀ x ∈ w, ∀ y ∈ w, σ x = σ y → x = y) : Told (w.map σ) m → Told w m := fun ⟨v, d, e⟩ => by
  -- v is a map of a turned w
  have : ∀ {a : Wd}, Dih (w.map σ) a → ∃ b, Dih w b ∧ a = b.map σ := fun {a} d => by
    induction d with
    | refl => exact ⟨w, .refl, rfl⟩
    | rot _ ih =>
      obtain ⟨b, d, e⟩ := ih
      cases b with
      | nil => cases e
      | cons y b =>
        rw [List.map_cons] at e
        cases e
        exact ⟨b ++ [y], .rot d, by simp⟩
    | rev _ ih =>
      obtain ⟨b, d, rfl⟩ := ih
      exact ⟨b.reverse, .rev d, by simp⟩
  obtain ⟨b, db, rfl⟩ := this d
  refine ⟨b, db, ?_⟩
  rw [e, named_map fun x hx y hy => h x ((db.mem x).mpr hx) y ((db.mem y).mpr hy)]
theorem told_map' {w m : Wd} {σ : Int → Int} (h : ∀ x ∈ w, ∀ y ∈ w, σ x = σ y → x = y) (k : Told w m) : Told (w.map σ) m := by
  obtain ⟨v, d, e⟩ := k
  exact ⟨v.map σ, d.map, by rw [named_map fun x hx y hy => h x ((d.mem x).mpr hx) y ((d.mem y).mpr hy)]; exact e⟩
theorem told_dih {u w m : Wd} (h : Dih u w) : Told u m ↔ Told w m := ⟨fun ⟨v, d, e⟩ => ⟨v, h.symm.trans d, e⟩, fun ⟨v, d, e⟩ => ⟨v, h.trans d, e⟩⟩
theorem told_named {w m : Wd} : Told (named w) m ↔ Told w m := ⟨told_map name_inj, told_map' name_inj⟩
/-- one common telling: all are common -/
theorem told_all {u w m : Wd} (a : Told u m) (b : Told w m) : ∀ n, Told u n ↔ Told w n := fun n => by
  obtain ⟨v, d, e⟩ := a
  obtain ⟨v', d', e'⟩ := b
  rw [told_dih d, told_dih d', ← told_named (w := v), ← told_named (w := v'), ← e, ← e']
theorem told_self (w : Wd) : Told w (named w) := ⟨w, .refl, rfl⟩
/-! ### the rows that are looked at -/
def rotN (i : Nat) (w : Wd) : Wd := w.drop i ++ w.take i
theorem rot_step {i : Nat} {w : Wd} (h : i < w.length) : rotN i w = w[i] :: (w.drop (i + 1) ++ w.take i) ∧ rotN (i + 1) w = (w.drop (i + 1) ++ w.take i) ++ [w[i]] := by
  unfold rotN
  refine ⟨?_, ?_⟩
  · rw [List.drop_eq_getElem_cons h, List.cons_append]
  · rw [List.take_succ_eq_append_getElem h, List.append_assoc]
theorem rot_full (w : Wd) : rotN w.length w = w := by simp [rotN]
theorem rot_zero (w : Wd) : rotN 0 w = w := by simp [rotN]
theorem dih_rot (w : Wd) : ∀ i : Nat, i ≤ w.length → Dih w (rotN i w)
  | 0, _ => by rw [rot_zero]; exact .refl
  | i + 1, h => by
    have ih := dih_rot w i (by omega)
    obtain ⟨e1, e2⟩ := rot_step (w := w) (i := i) (by omega)
    rw [e2]
    rw [e1] at ih
    exact .rot ih
theorem dih_all {w v : Wd} (h : Dih w v) : (w = [] ∧ v = []) ∨ ∃ i, i < w.length ∧ (v = rotN i w ∨ v = (rotN i w).reverse) := by
  induction h with
  | refl =>
    cases w with
    | nil => exact .inl ⟨rfl, rfl⟩
    | cons x r => exact .inr ⟨0, by simp, .inl (rot_zero _).symm⟩
  | rot _ ih =>
    rename_i x r _
    rcases ih with ⟨_, e⟩ | ⟨i, hi, e | e⟩
    · cases e
    · obtain ⟨e1, e2⟩ := rot_step hi
      rw [e1] at e
      cases e
      rcases Nat.lt_or_ge (i + 1) w.length with k | k
      · exact .inr ⟨i + 1, k, .inl e2.symm⟩
      · have : i + 1 = w.length := by omega
        rw [this, rot_full] at e2
        exact .inr ⟨0, by omega, .inl (by rw [rot_zero, this]; exact e2.symm)⟩
    · -- the place before
      obtain ⟨j, hj, ej⟩ : ∃ j, j < w.length ∧ rotN i w = rotN (j + 1) w := by
        cases i with
        | zero => exact ⟨w.length - 1, by omega, by rw [rot_zero, show w.length - 1 + 1 = w.length by omega, rot_full]⟩
        | succ j => exact ⟨j, by omega, rfl⟩
      obtain ⟨e1, e2⟩ := rot_step hj
      rw [ej, e2, List.reverse_append, List.reverse_singleton, List.singleton_append] at e
      injection e with ex er
      refine .inr ⟨j, hj, .inr ?_⟩
      rw [e1, ex, er]
      simp
  | rev _ ih =>
    rcases ih with ⟨e1, e2⟩ | ⟨i, hi, e | e⟩
    · exact .inl ⟨e1, by rw [e2]; rfl⟩
    · exact .inr ⟨i, hi, .inr (by rw [e])⟩
    · exact .inr ⟨i, hi, .inl (by rw [e, List.reverse_reverse])⟩
theorem rot_rev {i : Nat} {w : Wd} : rotN i w.reverse = (rotN (w.length - i) w).reverse := by
  unfold rotN
  rw [List.drop_reverse, List.take_reverse, List.reverse_append]
def canL (w : Wd) : List Wd := (if w.length = 0 then [[]] else []) ++ (((List.range w.length).map fun i => named (rotN i w)) ++ ((List.range w.length).map fun i => named (rotN i w.reverse)))
def allL (w : Wd) : List Wd := (if w.length = 0 then [[]] else []) ++ (List.range w.length).flatMap fun i => [named (rotN i w), named (rotN i w).reverse]
theorem mem_all {w m : Wd} : m ∈ allL w ↔ Told w m := by
  unfold allL
  rw [List.mem_append, List.mem_flatMap]
  refine ⟨fun h => ?_, fun ⟨v, d, e⟩ => ?_⟩
  · rcases h with h | ⟨i, hi, h⟩
    · split at h
      · rename_i h0
        have : w = [] := List.length_eq_zero_iff.mp h0
        subst this
        simp at h
        subst h
        exact ⟨[], .refl, rfl⟩
      · cases h
    · have hi := List.mem_range.mp hi
      simp only [List.mem_cons, List.not_mem_nil, or_false] at h
      rcases h with rfl | rfl
      · exact ⟨_, dih_rot w i (by omega), rfl⟩
      · exact ⟨_, (dih_rot w i (by omega)).rev, rfl⟩
  · rcases dih_all d with ⟨e1, e2⟩ | ⟨i, hi, q | q⟩
    · subst e1 e2
      exact .inl (by simp [e]; rfl)
    · exact .inr ⟨i, List.mem_range.mpr hi, by simp [e, q]⟩
    · exact .inr ⟨i, List.mem_range.mpr hi, by simp [e, q]⟩
theorem mem_can {w m : Wd} : m ∈ canL w ↔ Told w m := by
  unfold canL
  rw [List.mem_append, List.mem_append, List.mem_map, List.mem_map]
  refine ⟨fun h => ?_, fun ⟨v, d, e⟩ => ?_⟩
  · rcases h with h | ⟨i, hi, h⟩ | ⟨i, hi, h⟩
    · split at h
      · rename_i h0
        have : w = [] := List.length_eq_zero_iff.mp h0
        subst this
        simp at h
        subst h
        exact ⟨[], .refl, rfl⟩
      · cases h
    · have hi := List.mem_range.mp hi
      exact ⟨_, dih_rot w i (by omega), h.symm⟩
    · have hi := List.mem_range.mp hi
      rw [rot_rev] at h
      exact ⟨_, (dih_rot w _ (by omega)).rev, h.symm⟩
  · rcases dih_all d with ⟨e1, e2⟩ | ⟨i, hi, q | q⟩
    · subst e1 e2
      exact .inl (by simp [e]; rfl)
    · exact .inr (.inl ⟨i, List.mem_range.mpr hi, by rw [e, q]⟩)
    · rcases Nat.eq_zero_or_pos i with z | z
      · subst z
        refine .inr (.inr ⟨0, List.mem_range.mpr hi, ?_⟩)
        rw [rot_rev, e, q, Nat.sub_zero, rot_full, rot_zero]
      · refine .inr (.inr ⟨w.length - i, List.mem_range.mpr (by omega), ?_⟩)
        rw [rot_rev, e, q, show w.length - (w.length - i) = i by omega]
/-! ### the least -/
open PySem.W in
def ltW : Wd → Wd → Bool := listLt
theorem ltW_cons {x y : Int} {a b : Wd} : ltW (x :: a) (y :: b) = if x = y then ltW a b else decide (x < y) := rfl
theorem ltW_irr : ∀ a : Wd, ltW a a = false
  | [] => rfl
  | x :: a => by rw [ltW_cons, if_pos rfl, ltW_irr a]
theorem ltW_trans : ∀ {a b c : Wd}, ltW a b = true → ltW b c = true → ltW a c = true
  | [], [], _, h, _ => by cases h
  | [], _ :: _, [], _, k => by cases k
  | [], _ :: _, _ :: _, _, _ => rfl
  | _ :: _, [], _, h, _ => by cases h
  | _ :: _, _ :: _, [], _, k => by cases k
  | x :: a, y :: b, z :: c, h, k => by
    rw [ltW_cons] at h k ⊢
    by_cases e1 : x = y <;> by_cases e2 : y = z
    · rw [if_pos e1] at h
      rw [if_pos e2] at k
      rw [if_pos (e1.trans e2), ltW_trans h k]
    · rw [if_neg e2, decide_eq_true_eq] at k
      rw [if_neg (by omega), decide_eq_true_eq]
      omega
    · rw [if_neg e1, decide_eq_true_eq] at h
      rw [if_neg (by omega), decide_eq_true_eq]
      omega
    · rw [if_neg e1, decide_eq_true_eq] at h
      rw [if_neg e2, decide_eq_true_eq] at k
      rw [if_neg (by omega), decide_eq_true_eq]
      omega
theorem ltW_tri : ∀ {a b : Wd}, ltW a b = false → ltW b a = false → a = b
  | [], [], _, _ => rfl
  | [], _ :: _, h, _ => by cases h
  | _ :: _, [], _, k => by cases k
  | x :: a, y :: b, h, k => by
    rw [ltW_cons] at h k
    by_cases e1 : x = y
    · subst e1
      rw [if_pos rfl] at h k
      rw [ltW_tri h k]
    · rw [if_neg e1, decide_eq_false_iff_not] at h
      rw [if_neg (fun z => e1 z.symm), decide_eq_false_iff_not] at k
      omega
def minW (y : Wd) (ys : List Wd) : Wd := ys.foldl (fun a z => if ltW z a then z else a) y
theorem minW_ok : ∀ (ys : List Wd) (y : Wd), minW y ys ∈ y :: ys ∧ ∀ z ∈ y :: ys, ltW z (minW y ys) = false
  | [], y => ⟨List.mem_cons_self, fun z m => by
      rw [List.mem_singleton] at m
      subst m
      exact ltW_irr z⟩
  | u :: ys, y => by
    obtain ⟨h1, h2⟩ := minW_ok ys (if ltW u y then u else y)
    have e : minW y (u :: ys) = minW (if ltW u y then u else y) ys := rfl
    rw [e]
    generalize hm : minW (if ltW u y then u else y) ys = m at h1 h2
    have hy : ltW (if ltW u y then u else y) m = false := h2 _ List.mem_cons_self
    have hr : ∀ z ∈ ys, ltW z m = false := fun z k => h2 z (List.mem_cons_of_mem _ k)
    have two : ltW y m = false ∧ ltW u m = false := by
      cases q : ltW u y with
      | true =>
        rw [q] at hy
        simp only [if_true] at hy
        refine ⟨?_, hy⟩
        cases k : ltW y m with
        | false => rfl
        | true => rw [ltW_trans q k] at hy; exact hy
      | false =>
        rw [q] at hy
        simp only [Bool.false_eq_true, if_false] at hy
        refine ⟨hy, ?_⟩
        cases k : ltW u m with
        | false => rfl
        | true =>
          cases k2 : ltW m y with
          | false =>
            rw [ltW_tri hy k2, k] at q
            cases q
          | true => rw [ltW_trans k k2] at q; cases q
    refine ⟨?_, fun z k => ?_⟩
    · rcases List.mem_cons.mp h1 with h | h
      · rw [h]
        split <;> simp
      · simp [h]
    · rcases List.mem_cons.mp k with rfl | k
      · exact two.1
      · rcases List.mem_cons.mp k with rfl | k
        · exact two.2
        · exact hr z k
def minS : List Wd → Option Wd
  | [] => none
  | y :: ys => some (minW y ys)
theorem minS_eq {a b : List Wd} (h : ∀ z, z ∈ a ↔ z ∈ b) : minS a = minS b := by
  cases a with
  | nil =>
    cases b with
    | nil => rfl
    | cons y ys => exact absurd ((h y).mpr List.mem_cons_self) List.not_mem_nil
  | cons x xs =>
    cases b with
    | nil => exact absurd ((h x).mp List.mem_cons_self) List.not_mem_nil
    | cons y ys =>
      obtain ⟨a1, a2⟩ := minW_ok xs x
      obtain ⟨b1, b2⟩ := minW_ok ys y
      exact congrArg some (ltW_tri (b2 _ ((h _).mp a1)) (a2 _ ((h _).mpr b1)))
theorem minS_mem {a : List Wd} {m : Wd} (h : minS a = some m) : m ∈ a := by
  cases a with
  | nil => cases h
  | cons x xs =>
    cases h
    exact (minW_ok xs x).1
theorem can_ne (w : Wd) : ∃ m, minS (canL w) = some m := by
  have : named w ∈ canL w := mem_can.mpr (told_self w)
  cases e : canL w with
  | nil => rw [e] at this; cases this
  | cons y ys => exact ⟨_, rfl⟩
/-- the law's last row -/
theorem same_iff {u w : Wd} : minS (canL u) = minS (canL w) ↔ Told w (named u) := by
  refine ⟨fun h => ?_, fun h => ?_⟩
  · obtain ⟨m, e⟩ := can_ne u
    have a := mem_can.mp (minS_mem e)
    have b := mem_can.mp (minS_mem (h ▸ e))
    exact (told_all a b _).mp (told_self u)
  · have t := told_all (told_self u) h
    exact minS_eq fun z => mem_can.trans ((t z).trans mem_can.symm)
theorem can_all (w : Wd) : minS (canL w) = minS (allL w) := minS_eq fun z => mem_can.trans mem_all.symm
theorem can_dih {u w : Wd} (h : Dih w u) : minS (canL u) = minS (canL w) := minS_eq fun z => mem_can.trans ((told_dih h.symm).trans mem_can.symm)
theorem can_map {w : Wd} {σ : Int → Int} (h : ∀ x ∈ w, ∀ y ∈ w, σ x = σ y → x = y) : minS (canL (w.map σ)) = minS (canL w) := minS_eq fun z => mem_can.trans (Iff.trans ⟨told_map h, told_map' h⟩ mem_can.symm)
end Km

set_option Elab.async false
set_option linter.all false
set_option maxRecDepth 100000
set_option maxHeartbeats 2000000
namespace Kh
open PySem L2 Km
/-! ### rows of tuples of numbers -/
theorem pys_int : ∀ l : List Int, I.pys (l.map .int) = l.map PyData.int
  | [] => by rw [List.map_nil, I.pys]; rfl
  | x :: l => by rw [List.map_cons, I.pys, pys_int l, I.py]; rfl
theorem py_tI (l : List Int) : I.py (tI l) = PySem.W.Datum.toD (⟨l⟩ : PySem.W.Tup Int) := by
  show I.py (.tup (l.map .int)) = _
  rw [I.py, pys_int]
  rfl
theorem lt_tI (a b : List Int) : PySem.W.dataLt (I.py (tI a)) (I.py (tI b)) = ltW a b := by
  rw [py_tI, py_tI]
  exact PySem.W.DatumOrd.lt_eq (⟨a⟩ : PySem.W.Tup Int) ⟨b⟩
theorem alk_tI (l : List (List Int)) : alkI (l.map tI) = true := by
  unfold alkI
  rw [List.all_eq_true]
  intro x m
  obtain ⟨a, _, rfl⟩ := List.mem_map.mp m
  rw [Bool.and_eq_true]
  refine ⟨List.all_eq_true.mpr fun y k => ?_, rfl⟩
  obtain ⟨b, _, rfl⟩ := List.mem_map.mp k
  rw [py_tI, py_tI]
  exact PySem.W.DatumOrd.alike (⟨a⟩ : PySem.W.Tup Int) ⟨b⟩
theorem shal_tI (n : Nat) (a : List Int) : I.shal (n + 1) (tI a) = true := by
  show I.shal (n + 1) (.tup (a.map .int)) = true
  rw [I.shal]
  exact shal_I a
theorem shals_tI (n : Nat) : ∀ l : List (List Int), I.shals (n + 1) (l.map tI) = true
  | [] => by rw [List.map_nil, I.shals]
  | x :: l => by rw [List.map_cons, I.shals, shal_tI, shals_tI n l]; rfl
theorem minI_tI : ∀ (ys : List (List Int)) (y : List Int), minI (tI y) (ys.map tI) = tI (minW y ys)
  | [], y => rfl
  | z :: ys, y => by
    have ih := minI_tI ys (if ltW z y then z else y)
    unfold minI minW at ih ⊢
    rw [List.map_cons, List.foldl_cons, List.foldl_cons, ← ih, lt_tI]
    congr 1
    split <;> rfl
theorem min_T {l : List (List Int)} {m : List Int} (h : minS l = some m) : biD .min [.lst (l.map fun a => .im (tI a))] = some (.im (tI m)) := by
  cases l with
  | nil => cases h
  | cons y ys =>
    cases h
    simp only [biD, ims_some, Option.bind_some]
    have e : intsOf ((y :: ys).map tI) = none := rfl
    rw [e]
    simp only [Option.bind_none, Option.map_none, Option.none_or]
    have e2 : minZ ((y :: ys).map tI) = some (tI (minW y ys)) := by
      show (if alkI ((y :: ys).map tI) && I.shals 59 ((y :: ys).map tI) then some (minI (tI y) (ys.map tI)) else none) = _
      rw [alk_tI, shals_tI, minI_tI]
      rfl
    rw [e2]
    rfl
theorem eqI_tI (a b : List Int) : I.eq (tI a) (tI b) = some (decide (a = b)) := by
  show I.eq (.tup (a.map .int)) (.tup (b.map .int)) = _
  rw [I.eq]
  exact eqs_I a b
theorem memI_tI (x : List Int) : ∀ l : List (List Int), memI (tI x) (l.map tI) = some (decide (x ∈ l))
  | [] => by simp [memI]
  | y :: l => by
    rw [List.map_cons, memI, eqI_tI, Option.bind_some, memI_tI x l, Option.map_some]
    by_cases h : y = x
    · subst h
      simp
    · have h2 : ¬ x = y := fun e => h e.symm
      simp [h, h2]
theorem in_T {x : List Int} {l : List (List Int)} : cmpD .inn (.im (tI x)) (.lst (l.map fun a => .im (tI a))) = some (decide (x ∈ l)) := by
  have e : cmpD .inn (.im (tI x)) (.lst (l.map fun a => .im (tI a))) = (ims (l.map fun a => D.im (tI a))).bind fun b => if isKey (tI x) && b.all isKey then memI (tI x) b else if I.shal 60 (tI x) && I.shals 59 b then memI (tI x) b else none := rfl
  rw [e, ims_some, Option.bind_some, shal_tI, shals_tI, memI_tI]
  rfl
/-! ### a dict of names -/
def dkN (n : Nat) (acc : List Int) : List (I × D) := (acc.zipIdx n).map fun p => (.int p.1, .im (.int ((p.2 : Int) + 1)))
def dk (acc : List Int) : List (I × D) := dkN 0 acc
theorem dk_nil : dk [] = [] := rfl
theorem dk_len {acc : List Int} : (dk acc).length = acc.length := by simp [dk, dkN]
theorem lkup_dkN (x : Int) : ∀ (acc : List Int) (n : Nat), lkup (.int x) (dkN n acc) = some (if x ∈ acc then some (.im (.int (((n + acc.idxOf x : Nat) : Int) + 1))) else none)
  | [], n => rfl
  | y :: acc, n => by
    have ih := lkup_dkN x acc (n + 1)
    have e : dkN n (y :: acc) = (.int y, .im (.int ((n : Int) + 1))) :: dkN (n + 1) acc := by simp [dkN]
    rw [e, lkup]
    have e2 : I.eq (.int y) (.int x) = some (y == x) := by rw [I.eq]
    rw [e2]
    by_cases h : y = x
    · subst h
      simp
    · have h2 : ¬ x = y := fun e => h e.symm
      simp only [beq_eq_false_iff_ne.mpr h, Bool.false_eq_true, if_false, Option.bind_some]
      rw [ih]
      simp only [List.mem_cons, h2, false_or]
      rw [List.idxOf_cons, beq_eq_false_iff_ne.mpr h]
      simp only [cond_false]
      rw [show n + 1 + acc.idxOf x = n + (acc.idxOf x + 1) by omega]
theorem lkup_dk {x : Int} {acc : List Int} : lkup (.int x) (dk acc) = some (if x ∈ acc then some (.im (.int (nameIn acc x))) else none) := by
  unfold dk nameIn
  rw [lkup_dkN]
  simp
theorem dput_dkN (x v : Int) : ∀ (acc : List Int) (n : Nat), x ∉ acc → dput (.int x) (.im (.int v)) (dkN n acc) = some (dkN n acc ++ [(.int x, .im (.int v))])
  | [], n, _ => rfl
  | y :: acc, n, h => by
    have ih := dput_dkN x v acc (n + 1) (fun m => h (List.mem_cons_of_mem _ m))
    have e : dkN n (y :: acc) = (.int y, .im (.int ((n : Int) + 1))) :: dkN (n + 1) acc := by simp [dkN]
    rw [e, dput]
    have e2 : I.eq (.int y) (.int x) = some (y == x) := by rw [I.eq]
    have h2 : ¬ y = x := fun z => h (by rw [z]; exact List.mem_cons_self)
    rw [e2, beq_eq_false_iff_ne.mpr h2]
    simp [ih]
theorem dput_dk {x : Int} {acc : List Int} (h : x ∉ acc) : dput (.int x) (.im (.int ((acc.length : Int) + 1))) (dk acc) = some (dk (acc ++ [x])) := by
  unfold dk
  rw [dput_dkN _ _ _ _ h]
  simp [dkN, List.zipIdx_append]
end Kh

set_option Elab.async false
set_option linter.all false
set_option maxRecDepth 100000
set_option maxHeartbeats 4000000
namespace Kw
open PySem L2 Kh Km
abbrev oT (w : List Int) : Kh.Slot := .own (.im (tI w))
abbrev oK (acc : List Int) : Kh.Slot := .own (.dct false (dk acc))
theorem key_i {x : Int} : keyOk false (.int x) = true := rfl
theorem renamed_ok {T : Kh.Tab} {w : List Int} (hl : w.length ≤ 100) : f_renamed.sem T [oT w] = .ok (.im (tI (named w))) [oT w] := by
  refine WP.eq (WP_sem rfl ?_)
  simp -dsimp [f_renamed, ↓WP_ok, ↓WP_exc, ↓WP_bad, ↓WP_bind, ↓WP_cons, ↓WP_nil, ↓WP_callF, ↓WP_callE, ↓WP_clr, ↓WP_try, ↓WP_range1, ↓WP_range2, ↓WP_mutA, ↓WP_mutE, ↓WP_mutP, ↓WP_mutI, ↓WP_sd, ↓WP_setix, ↓SeqK_nx, ↓SeqK_rt, ↓SeqK_bk, ↓SeqK_ct, ↓ClrK_nx, ↓ClrK_rt, ↓ClrK_bk, ↓ClrK_ct, ↓SemK_rt, ↓SemK_nx, ↓ForK_nx, ↓ForK_ct, ↓ForK_bk, ↓ForK_rt, ↓W.s_ifs, ↓W.e_varF, ↓W.e_varT, ↓W.a_var, ↓W.still_im, ↓W.still_b, ↓W.e_cst, ↓W.e_glob, ↓W.e_tup, ↓W.e_lst, ↓W.e_dnew, ↓W.e_bin, ↓W.e_neg, ↓W.e_not, ↓W.e_cmp, ↓W.e_chain, ↓W.e_one, ↓W.e_and, ↓W.e_or, ↓W.e_ite, ↓W.e_ix, ↓W.e_sl, ↓W.e_ixv, ↓W.e_slv, ↓W.e_rev, ↓W.e_lrange, ↓W.e_disp, ↓W.e_dispD, ↓W.e_gcd, ↓W.e_isin, ↓W.e_bi1, ↓W.e_bi2, ↓W.e_get, ↓W.e_index, ↓W.e_count, ↓W.e_join, ↓W.e_split, ↓W.es_nil, ↓W.es_cons, ↓W.bs_nil, ↓W.bs_cons, ↓W.as_nil, ↓W.as_cons, ↓W.o_no, ↓W.o_so, ↓W.c_no, ↓W.c_so, ↓W.t_not, ↓W.t_one, ↓W.t_and, ↓W.t_or, ↓W.t_cmp, ↓W.t_chain, ↓W.t_var, ↓W.t_cst, ↓W.t_call, ↓W.t_ixv, ↓W.t_me, ↓W.t_ix, ↓W.t_bi, ↓W.t_isin, ↓W.t_gin, ↓W.w_it, ↓W.w_rev, ↓W.w_enum, ↓W.w_zip, ↓W.s_setv, ↓W.s_asg, ↓W.s_unp, ↓W.s_par, ↓W.s_ret, ↓W.s_retN, ↓W.s_expr, ↓W.s_doc, ↓W.s_pass, ↓W.s_brk, ↓W.s_cont, ↓W.s_raise, ↓W.s_swap, ↓W.a_cst, ↓W.a_glob, ↓W.a_tup, ↓W.a_lst, ↓W.a_bin, ↓W.a_neg, ↓W.a_ite, ↓W.a_ix, ↓W.a_sl, ↓W.a_rev, ↓W.a_ixv, ↓W.a_slv, ↓W.a_lrange, ↓W.a_disp, ↓W.a_dispD, ↓W.a_gix, ↓W.a_gcd, ↓W.a_isin, ↓W.a_call, ↓W.a_bi, ↓W.a_me, ↓W.a_cmp, ↓W.a_mut, ↓W.a_lc, ↓W.a_and, ↓W.a_or, ↓W.a_not, ↓W.a_one, ↓W.a_chain, ↓W.a_dnew, WP_ok, WP_exc, WP_bad, WP_bind, WP_ifbad, WP_ite, WP_lift, WP_liftN, WP_liftI, WP_callT, W.rdV, W.rdO, W.ldO, backO, mutO, setO, isOL, isOM, isOD, sdO, Mm.sd, readS, lendS, binI, cmpI, List.isEmpty, meOk, mxOk, Mm.sup, mkTup, ims, E.pure, Es.pure, Eo.pure, E.src, Wk.src, bindT, bindTs, Kh.clear, lockAll, Kh.settle, settleGo, Slot.isOwnMut, Slot.imOf, Slot.borOf, giveBack, Out.nx, Ss.stores, Kh.S.stores, Tg.slots, Tgs.slots, Es.len, vOk, clearV, runH, evalH, imAt, V.add_ii, V.sub_ii, V.add_tt, V.add_ll, V.mul_li, V.mul_si, V.eq_ss, V.ne_ss, V.eq_ii, V.ne_ii, V.eq_ll, V.ne_ll, V.isN_n, V.notN_n, V.isN_b, V.notN_b, V.isN_i, V.notN_i, V.isN_s, V.notN_s, V.isN_t, V.notN_t, V.is_bb, V.not_bb, V.eq_bb, V.ne_bb, V.lt_ii, V.le_ii, V.gt_ii, V.ge_ii, V.ix_t, V.ix_T, V.ix_l, V.ix_s, V.ix_d, V.ix_x, V.ixV_l, V.ixV_t, V.at_0, V.at_1, V.at_2, V.at_3, V.at_4, V.at_5, V.at_m1, V.at_m2, V.at_m3, V.at_m4, V.sl_t, V.sl_l, V.len_t, V.len_T, V.len_l, V.len_s, V.len_d, V.tuple_t, V.tuple_l, V.list_t, V.list_l, V.list_s, V.int_i, V.int_s, V.abs_i, V.min_ii, V.max_ii, V.sum_l, V.any_l, V.all_l, V.min_l, V.max_l, V.str_i, V.sorted_l, V.sorted_t, V.sorted_d, V.get_d, V.app, V.ext, V.pop0, V.pop1, V.ins, V.set_l, V.set_d, V.wk_t, V.wk_l, V.wk_s, V.wk_x, V.wkr_t, V.wkr_l, V.rev_l, V.rev_t, V.it_t, V.it_l, V.en_t, V.en_l, V.en_x, V.zp_t, V.zp_l, V.need_f, V.need_i, V.asI, V.asB, V.asIm, V.lift_s, V.lift_n, V.keep_i, V.keep_f, V.keep_l, V.keep_T, V.keep_d, V.im_i, V.im_l, V.im_T, V.im_d, V.im_s, V.mx_index, V.mx_count, V.mx_counts, V.mx_join, V.mx_split, V.isin_s, V.isin_t, V.isin_i, V.gcd_ii, V.eqI_ii, V.big_, V.op_ii, slD_tx, len_tx, add_tx, S_eq, atI_map, cutL_take, cutL_drop, cutL_mid, cutL_last, ims_some, ims_int, intsOf_int, boolsOf_bl, -List.map_map]
  unfold s_renamed_2
  refine WP_forF (enc := fun x => int x) (E := fun acc => [oT w, oK acc, .no]) dedS (fun r acc => acc.length + r.length ≤ 100) w [] [oT w, .own (.dct false []), .no] ?_ ?_ (by simpa using hl) (fun x r acc i => ?_) fun i => ?_
  · simp -dsimp [↓WP_ok, ↓WP_exc, ↓WP_bad, ↓WP_bind, ↓WP_cons, ↓WP_nil, ↓WP_callF, ↓WP_callE, ↓WP_clr, ↓WP_try, ↓WP_range1, ↓WP_range2, ↓WP_mutA, ↓WP_mutE, ↓WP_mutP, ↓WP_mutI, ↓WP_sd, ↓WP_setix, ↓SeqK_nx, ↓SeqK_rt, ↓SeqK_bk, ↓SeqK_ct, ↓ClrK_nx, ↓ClrK_rt, ↓ClrK_bk, ↓ClrK_ct, ↓SemK_rt, ↓SemK_nx, ↓ForK_nx, ↓ForK_ct, ↓ForK_bk, ↓ForK_rt, ↓W.s_ifs, ↓W.e_varF, ↓W.e_varT, ↓W.a_var, ↓W.still_im, ↓W.still_b, ↓W.e_cst, ↓W.e_glob, ↓W.e_tup, ↓W.e_lst, ↓W.e_dnew, ↓W.e_bin, ↓W.e_neg, ↓W.e_not, ↓W.e_cmp, ↓W.e_chain, ↓W.e_one, ↓W.e_and, ↓W.e_or, ↓W.e_ite, ↓W.e_ix, ↓W.e_sl, ↓W.e_ixv, ↓W.e_slv, ↓W.e_rev, ↓W.e_lrange, ↓W.e_disp, ↓W.e_dispD, ↓W.e_gcd, ↓W.e_isin, ↓W.e_bi1, ↓W.e_bi2, ↓W.e_get, ↓W.e_index, ↓W.e_count, ↓W.e_join, ↓W.e_split, ↓W.es_nil, ↓W.es_cons, ↓W.bs_nil, ↓W.bs_cons, ↓W.as_nil, ↓W.as_cons, ↓W.o_no, ↓W.o_so, ↓W.c_no, ↓W.c_so, ↓W.t_not, ↓W.t_one, ↓W.t_and, ↓W.t_or, ↓W.t_cmp, ↓W.t_chain, ↓W.t_var, ↓W.t_cst, ↓W.t_call, ↓W.t_ixv, ↓W.t_me, ↓W.t_ix, ↓W.t_bi, ↓W.t_isin, ↓W.t_gin, ↓W.w_it, ↓W.w_rev, ↓W.w_enum, ↓W.w_zip, ↓W.s_setv, ↓W.s_asg, ↓W.s_unp, ↓W.s_par, ↓W.s_ret, ↓W.s_retN, ↓W.s_expr, ↓W.s_doc, ↓W.s_pass, ↓W.s_brk, ↓W.s_cont, ↓W.s_raise, ↓W.s_swap, ↓W.a_cst, ↓W.a_glob, ↓W.a_tup, ↓W.a_lst, ↓W.a_bin, ↓W.a_neg, ↓W.a_ite, ↓W.a_ix, ↓W.a_sl, ↓W.a_rev, ↓W.a_ixv, ↓W.a_slv, ↓W.a_lrange, ↓W.a_disp, ↓W.a_dispD, ↓W.a_gix, ↓W.a_gcd, ↓W.a_isin, ↓W.a_call, ↓W.a_bi, ↓W.a_me, ↓W.a_cmp, ↓W.a_mut, ↓W.a_lc, ↓W.a_and, ↓W.a_or, ↓W.a_not, ↓W.a_one, ↓W.a_chain, ↓W.a_dnew, WP_ok, WP_exc, WP_bad, WP_bind, WP_ifbad, WP_ite, WP_lift, WP_liftN, WP_liftI, WP_callT, W.rdV, W.rdO, W.ldO, backO, mutO, setO, isOL, isOM, isOD, sdO, Mm.sd, readS, lendS, binI, cmpI, List.isEmpty, meOk, mxOk, Mm.sup, mkTup, ims, E.pure, Es.pure, Eo.pure, E.src, Wk.src, bindT, bindTs, Kh.clear, lockAll, Kh.settle, settleGo, Slot.isOwnMut, Slot.imOf, Slot.borOf, giveBack, Out.nx, Ss.stores, Kh.S.stores, Tg.slots, Tgs.slots, Es.len, vOk, clearV, runH, evalH, imAt, V.add_ii, V.sub_ii, V.add_tt, V.add_ll, V.mul_li, V.mul_si, V.eq_ss, V.ne_ss, V.eq_ii, V.ne_ii, V.eq_ll, V.ne_ll, V.isN_n, V.notN_n, V.isN_b, V.notN_b, V.isN_i, V.notN_i, V.isN_s, V.notN_s, V.isN_t, V.notN_t, V.is_bb, V.not_bb, V.eq_bb, V.ne_bb, V.lt_ii, V.le_ii, V.gt_ii, V.ge_ii, V.ix_t, V.ix_T, V.ix_l, V.ix_s, V.ix_d, V.ix_x, V.ixV_l, V.ixV_t, V.at_0, V.at_1, V.at_2, V.at_3, V.at_4, V.at_5, V.at_m1, V.at_m2, V.at_m3, V.at_m4, V.sl_t, V.sl_l, V.len_t, V.len_T, V.len_l, V.len_s, V.len_d, V.tuple_t, V.tuple_l, V.list_t, V.list_l, V.list_s, V.int_i, V.int_s, V.abs_i, V.min_ii, V.max_ii, V.sum_l, V.any_l, V.all_l, V.min_l, V.max_l, V.str_i, V.sorted_l, V.sorted_t, V.sorted_d, V.get_d, V.app, V.ext, V.pop0, V.pop1, V.ins, V.set_l, V.set_d, V.wk_t, V.wk_l, V.wk_s, V.wk_x, V.wkr_t, V.wkr_l, V.rev_l, V.rev_t, V.it_t, V.it_l, V.en_t, V.en_l, V.en_x, V.zp_t, V.zp_l, V.need_f, V.need_i, V.asI, V.asB, V.asIm, V.lift_s, V.lift_n, V.keep_i, V.keep_f, V.keep_l, V.keep_T, V.keep_d, V.im_i, V.im_l, V.im_T, V.im_d, V.im_s, V.mx_index, V.mx_count, V.mx_counts, V.mx_join, V.mx_split, V.isin_s, V.isin_t, V.isin_i, V.gcd_ii, V.eqI_ii, V.big_, V.op_ii, slD_tx, len_tx, add_tx, S_eq, atI_map, cutL_take, cutL_drop, cutL_mid, cutL_last, ims_some, ims_int, intsOf_int, boolsOf_bl, -List.map_map]
    simp [Function.comp_def]
  · simp [dk_nil, Ro.b_ok, Ro.b_exc, Ro.b_bad, Ro.a_var, Ro.e_var, Ro.e_cst, Ro.e_glob, Ro.e_tup, Ro.e_lst, Ro.e_dnew, Ro.e_bin, Ro.e_neg, Ro.e_not, Ro.e_cmp, Ro.e_chain, Ro.e_one, Ro.e_and, Ro.e_or, Ro.e_ite, Ro.e_ix, Ro.e_sl, Ro.e_ixv, Ro.e_slv, Ro.e_rev, Ro.e_lrange, Ro.e_disp, Ro.e_dispD, Ro.e_gin, Ro.e_gix, Ro.e_gcd, Ro.e_isin, Ro.e_call, Ro.e_bi1, Ro.e_bi2, Ro.e_get, Ro.e_index, Ro.e_count, Ro.e_join, Ro.e_split, Ro.e_mut, Ro.a_cst, Ro.a_glob, Ro.a_tup, Ro.a_lst, Ro.a_bin, Ro.a_neg, Ro.a_ite, Ro.a_ix, Ro.a_sl, Ro.a_rev, Ro.a_ixv, Ro.a_slv, Ro.a_lrange, Ro.a_disp, Ro.a_dispD, Ro.a_gix, Ro.a_gcd, Ro.a_isin, Ro.a_call, Ro.a_bi, Ro.a_me, Ro.a_cmp, Ro.a_mut, Ro.a_lc, Ro.a_and, Ro.a_or, Ro.a_not, Ro.a_one, Ro.a_chain, Ro.a_dnew, Ro.es_nil, Ro.es_cons, Ro.bs_nil, Ro.bs_cons, Ro.as_nil, Ro.as_cons, Ro.o_no, Ro.o_so, Ro.c_no, Ro.c_so, Ro.t_not, Ro.t_one, Ro.t_and, Ro.t_or, Ro.t_cmp, Ro.t_chain, Ro.t_var, Ro.t_cst, Ro.t_call, Ro.t_ixv, Ro.t_me, Ro.t_ix, Ro.t_bi, Ro.t_isin, Ro.t_gin, Ro.w_it, Ro.w_rev, Ro.w_enum, Ro.w_zip, Ro.w_range, Ro.s_setv, Ro.s_asg, Ro.s_unp, Ro.s_par, Ro.s_ret, Ro.s_retN, Ro.s_expr, Ro.s_doc, Ro.s_pass, Ro.s_brk, Ro.s_cont, Ro.s_ifs, Ro.s_raise, Ro.s_try, Ro.s_swap, Ro.s_setix, Ro.ss_nil, Ro.ss_cons, lift, readS, lendS, still, needIm, asInt, asBool, asIm, binD, binI, cmpD, cmpI, ixD, slD, ixV, List.isEmpty, revD, biD, meD, meOk, mxD, mxOk, mutD, Mm.sup, Mm.sd, sdO, setD, wkD, wkR, mkTup, ims, D.isIm, E.pure, Es.pure, Eo.pure, E.src, Wk.src, keepS, bindT, bindTs, Kh.clear, lockAll, Kh.settle, settleGo, Slot.isOwnMut, Slot.imOf, Slot.borOf, giveBack, callF, stepClear, settleF, Out.nx, Ss.stores, Kh.S.stores, Tg.slots, Tgs.slots, Es.len, itemsIm, enumD, zipD, vOk, clearV, runH, evalH, imAt, eqI]
  · refine WP_forT rfl ?_
    rw [List.length_cons] at i
    have hk : acc.length < 1000000 := by omega
    have hk2 : acc.length ≤ 1000000 := by omega
    by_cases m : x ∈ acc
    · have h1 : lkup (.int x) (dk acc) = some (some (.im (.int (nameIn acc x)))) := by rw [lkup_dk, if_pos m]
      simp -dsimp [s_renamed_1, dk_len, hk, hk2, h1, key_i, ↓WP_ok, ↓WP_exc, ↓WP_bad, ↓WP_bind, ↓WP_cons, ↓WP_nil, ↓WP_callF, ↓WP_callE, ↓WP_clr, ↓WP_try, ↓WP_range1, ↓WP_range2, ↓WP_mutA, ↓WP_mutE, ↓WP_mutP, ↓WP_mutI, ↓WP_sd, ↓WP_setix, ↓SeqK_nx, ↓SeqK_rt, ↓SeqK_bk, ↓SeqK_ct, ↓ClrK_nx, ↓ClrK_rt, ↓ClrK_bk, ↓ClrK_ct, ↓SemK_rt, ↓SemK_nx, ↓ForK_nx, ↓ForK_ct, ↓ForK_bk, ↓ForK_rt, ↓W.s_ifs, ↓W.e_varF, ↓W.e_varT, ↓W.a_var, ↓W.still_im, ↓W.still_b, ↓W.e_cst, ↓W.e_glob, ↓W.e_tup, ↓W.e_lst, ↓W.e_dnew, ↓W.e_bin, ↓W.e_neg, ↓W.e_not, ↓W.e_cmp, ↓W.e_chain, ↓W.e_one, ↓W.e_and, ↓W.e_or, ↓W.e_ite, ↓W.e_ix, ↓W.e_sl, ↓W.e_ixv, ↓W.e_slv, ↓W.e_rev, ↓W.e_lrange, ↓W.e_disp, ↓W.e_dispD, ↓W.e_gcd, ↓W.e_isin, ↓W.e_bi1, ↓W.e_bi2, ↓W.e_get, ↓W.e_index, ↓W.e_count, ↓W.e_join, ↓W.e_split, ↓W.es_nil, ↓W.es_cons, ↓W.bs_nil, ↓W.bs_cons, ↓W.as_nil, ↓W.as_cons, ↓W.o_no, ↓W.o_so, ↓W.c_no, ↓W.c_so, ↓W.t_not, ↓W.t_one, ↓W.t_and, ↓W.t_or, ↓W.t_cmp, ↓W.t_chain, ↓W.t_var, ↓W.t_cst, ↓W.t_call, ↓W.t_ixv, ↓W.t_me, ↓W.t_ix, ↓W.t_bi, ↓W.t_isin, ↓W.t_gin, ↓W.w_it, ↓W.w_rev, ↓W.w_enum, ↓W.w_zip, ↓W.s_setv, ↓W.s_asg, ↓W.s_unp, ↓W.s_par, ↓W.s_ret, ↓W.s_retN, ↓W.s_expr, ↓W.s_doc, ↓W.s_pass, ↓W.s_brk, ↓W.s_cont, ↓W.s_raise, ↓W.s_swap, ↓W.a_cst, ↓W.a_glob, ↓W.a_tup, ↓W.a_lst, ↓W.a_bin, ↓W.a_neg, ↓W.a_ite, ↓W.a_ix, ↓W.a_sl, ↓W.a_rev, ↓W.a_ixv, ↓W.a_slv, ↓W.a_lrange, ↓W.a_disp, ↓W.a_dispD, ↓W.a_gix, ↓W.a_gcd, ↓W.a_isin, ↓W.a_call, ↓W.a_bi, ↓W.a_me, ↓W.a_cmp, ↓W.a_mut, ↓W.a_lc, ↓W.a_and, ↓W.a_or, ↓W.a_not, ↓W.a_one, ↓W.a_chain, ↓W.a_dnew, WP_ok, WP_exc, WP_bad, WP_bind, WP_ifbad, WP_ite, WP_lift, WP_liftN, WP_liftI, WP_callT, W.rdV, W.rdO, W.ldO, backO, mutO, setO, isOL, isOM, isOD, sdO, Mm.sd, readS, lendS, binI, cmpI, List.isEmpty, meOk, mxOk, Mm.sup, mkTup, ims, E.pure, Es.pure, Eo.pure, E.src, Wk.src, bindT, bindTs, Kh.clear, lockAll, Kh.settle, settleGo, Slot.isOwnMut, Slot.imOf, Slot.borOf, giveBack, Out.nx, Ss.stores, Kh.S.stores, Tg.slots, Tgs.slots, Es.len, vOk, clearV, runH, evalH, imAt, V.add_ii, V.sub_ii, V.add_tt, V.add_ll, V.mul_li, V.mul_si, V.eq_ss, V.ne_ss, V.eq_ii, V.ne_ii, V.eq_ll, V.ne_ll, V.isN_n, V.notN_n, V.isN_b, V.notN_b, V.isN_i, V.notN_i, V.isN_s, V.notN_s, V.isN_t, V.notN_t, V.is_bb, V.not_bb, V.eq_bb, V.ne_bb, V.lt_ii, V.le_ii, V.gt_ii, V.ge_ii, V.ix_t, V.ix_T, V.ix_l, V.ix_s, V.ix_d, V.ix_x, V.ixV_l, V.ixV_t, V.at_0, V.at_1, V.at_2, V.at_3, V.at_4, V.at_5, V.at_m1, V.at_m2, V.at_m3, V.at_m4, V.sl_t, V.sl_l, V.len_t, V.len_T, V.len_l, V.len_s, V.len_d, V.tuple_t, V.tuple_l, V.list_t, V.list_l, V.list_s, V.int_i, V.int_s, V.abs_i, V.min_ii, V.max_ii, V.sum_l, V.any_l, V.all_l, V.min_l, V.max_l, V.str_i, V.sorted_l, V.sorted_t, V.sorted_d, V.get_d, V.app, V.ext, V.pop0, V.pop1, V.ins, V.set_l, V.set_d, V.wk_t, V.wk_l, V.wk_s, V.wk_x, V.wkr_t, V.wkr_l, V.rev_l, V.rev_t, V.it_t, V.it_l, V.en_t, V.en_l, V.en_x, V.zp_t, V.zp_l, V.need_f, V.need_i, V.asI, V.asB, V.asIm, V.lift_s, V.lift_n, V.keep_i, V.keep_f, V.keep_l, V.keep_T, V.keep_d, V.im_i, V.im_l, V.im_T, V.im_d, V.im_s, V.mx_index, V.mx_count, V.mx_counts, V.mx_join, V.mx_split, V.isin_s, V.isin_t, V.isin_i, V.gcd_ii, V.eqI_ii, V.big_, V.op_ii, slD_tx, len_tx, add_tx, S_eq, atI_map, cutL_take, cutL_drop, cutL_mid, cutL_last, ims_some, ims_int, intsOf_int, boolsOf_bl, -List.map_map]
      have e : dedS acc x = acc := if_pos m
      rw [e]
      exact ⟨rfl, by omega⟩
    · have h1 : lkup (.int x) (dk acc) = some none := by rw [lkup_dk, if_neg m]
      have h2 := dput_dk m
      simp -dsimp [s_renamed_1, dk_len, hk, hk2, h1, h2, key_i, ↓WP_ok, ↓WP_exc, ↓WP_bad, ↓WP_bind, ↓WP_cons, ↓WP_nil, ↓WP_callF, ↓WP_callE, ↓WP_clr, ↓WP_try, ↓WP_range1, ↓WP_range2, ↓WP_mutA, ↓WP_mutE, ↓WP_mutP, ↓WP_mutI, ↓WP_sd, ↓WP_setix, ↓SeqK_nx, ↓SeqK_rt, ↓SeqK_bk, ↓SeqK_ct, ↓ClrK_nx, ↓ClrK_rt, ↓ClrK_bk, ↓ClrK_ct, ↓SemK_rt, ↓SemK_nx, ↓ForK_nx, ↓ForK_ct, ↓ForK_bk, ↓ForK_rt, ↓W.s_ifs, ↓W.e_varF, ↓W.e_varT, ↓W.a_var, ↓W.still_im, ↓W.still_b, ↓W.e_cst, ↓W.e_glob, ↓W.e_tup, ↓W.e_lst, ↓W.e_dnew, ↓W.e_bin, ↓W.e_neg, ↓W.e_not, ↓W.e_cmp, ↓W.e_chain, ↓W.e_one, ↓W.e_and, ↓W.e_or, ↓W.e_ite, ↓W.e_ix, ↓W.e_sl, ↓W.e_ixv, ↓W.e_slv, ↓W.e_rev, ↓W.e_lrange, ↓W.e_disp, ↓W.e_dispD, ↓W.e_gcd, ↓W.e_isin, ↓W.e_bi1, ↓W.e_bi2, ↓W.e_get, ↓W.e_index, ↓W.e_count, ↓W.e_join, ↓W.e_split, ↓W.es_nil, ↓W.es_cons, ↓W.bs_nil, ↓W.bs_cons, ↓W.as_nil, ↓W.as_cons, ↓W.o_no, ↓W.o_so, ↓W.c_no, ↓W.c_so, ↓W.t_not, ↓W.t_one, ↓W.t_and, ↓W.t_or, ↓W.t_cmp, ↓W.t_chain, ↓W.t_var, ↓W.t_cst, ↓W.t_call, ↓W.t_ixv, ↓W.t_me, ↓W.t_ix, ↓W.t_bi, ↓W.t_isin, ↓W.t_gin, ↓W.w_it, ↓W.w_rev, ↓W.w_enum, ↓W.w_zip, ↓W.s_setv, ↓W.s_asg, ↓W.s_unp, ↓W.s_par, ↓W.s_ret, ↓W.s_retN, ↓W.s_expr, ↓W.s_doc, ↓W.s_pass, ↓W.s_brk, ↓W.s_cont, ↓W.s_raise, ↓W.s_swap, ↓W.a_cst, ↓W.a_glob, ↓W.a_tup, ↓W.a_lst, ↓W.a_bin, ↓W.a_neg, ↓W.a_ite, ↓W.a_ix, ↓W.a_sl, ↓W.a_rev, ↓W.a_ixv, ↓W.a_slv, ↓W.a_lrange, ↓W.a_disp, ↓W.a_dispD, ↓W.a_gix, ↓W.a_gcd, ↓W.a_isin, ↓W.a_call, ↓W.a_bi, ↓W.a_me, ↓W.a_cmp, ↓W.a_mut, ↓W.a_lc, ↓W.a_and, ↓W.a_or, ↓W.a_not, ↓W.a_one, ↓W.a_chain, ↓W.a_dnew, WP_ok, WP_exc, WP_bad, WP_bind, WP_ifbad, WP_ite, WP_lift, WP_liftN, WP_liftI, WP_callT, W.rdV, W.rdO, W.ldO, backO, mutO, setO, isOL, isOM, isOD, sdO, Mm.sd, readS, lendS, binI, cmpI, List.isEmpty, meOk, mxOk, Mm.sup, mkTup, ims, E.pure, Es.pure, Eo.pure, E.src, Wk.src, bindT, bindTs, Kh.clear, lockAll, Kh.settle, settleGo, Slot.isOwnMut, Slot.imOf, Slot.borOf, giveBack, Out.nx, Ss.stores, Kh.S.stores, Tg.slots, Tgs.slots, Es.len, vOk, clearV, runH, evalH, imAt, V.add_ii, V.sub_ii, V.add_tt, V.add_ll, V.mul_li, V.mul_si, V.eq_ss, V.ne_ss, V.eq_ii, V.ne_ii, V.eq_ll, V.ne_ll, V.isN_n, V.notN_n, V.isN_b, V.notN_b, V.isN_i, V.notN_i, V.isN_s, V.notN_s, V.isN_t, V.notN_t, V.is_bb, V.not_bb, V.eq_bb, V.ne_bb, V.lt_ii, V.le_ii, V.gt_ii, V.ge_ii, V.ix_t, V.ix_T, V.ix_l, V.ix_s, V.ix_d, V.ix_x, V.ixV_l, V.ixV_t, V.at_0, V.at_1, V.at_2, V.at_3, V.at_4, V.at_5, V.at_m1, V.at_m2, V.at_m3, V.at_m4, V.sl_t, V.sl_l, V.len_t, V.len_T, V.len_l, V.len_s, V.len_d, V.tuple_t, V.tuple_l, V.list_t, V.list_l, V.list_s, V.int_i, V.int_s, V.abs_i, V.min_ii, V.max_ii, V.sum_l, V.any_l, V.all_l, V.min_l, V.max_l, V.str_i, V.sorted_l, V.sorted_t, V.sorted_d, V.get_d, V.app, V.ext, V.pop0, V.pop1, V.ins, V.set_l, V.set_d, V.wk_t, V.wk_l, V.wk_s, V.wk_x, V.wkr_t, V.wkr_l, V.rev_l, V.rev_t, V.it_t, V.it_l, V.en_t, V.en_l, V.en_x, V.zp_t, V.zp_l, V.need_f, V.need_i, V.asI, V.asB, V.asIm, V.lift_s, V.lift_n, V.keep_i, V.keep_f, V.keep_l, V.keep_T, V.keep_d, V.im_i, V.im_l, V.im_T, V.im_d, V.im_s, V.mx_index, V.mx_count, V.mx_counts, V.mx_join, V.mx_split, V.isin_s, V.isin_t, V.isin_i, V.gcd_ii, V.eqI_ii, V.big_, V.op_ii, slD_tx, len_tx, add_tx, S_eq, atI_map, cutL_take, cutL_drop, cutL_mid, cutL_last, ims_some, ims_int, intsOf_int, boolsOf_bl, -List.map_map]
      have e : dedS acc x = acc ++ [x] := if_neg m
      rw [e]
      exact ⟨rfl, by simp; omega⟩
  · have e : w.foldl dedS [] = ded w := rfl
    rw [e]
    simp -dsimp [s_renamed_1, ↓WP_ok, ↓WP_exc, ↓WP_bad, ↓WP_bind, ↓WP_cons, ↓WP_nil, ↓WP_callF, ↓WP_callE, ↓WP_clr, ↓WP_try, ↓WP_range1, ↓WP_range2, ↓WP_mutA, ↓WP_mutE, ↓WP_mutP, ↓WP_mutI, ↓WP_sd, ↓WP_setix, ↓SeqK_nx, ↓SeqK_rt, ↓SeqK_bk, ↓SeqK_ct, ↓ClrK_nx, ↓ClrK_rt, ↓ClrK_bk, ↓ClrK_ct, ↓SemK_rt, ↓SemK_nx, ↓ForK_nx, ↓ForK_ct, ↓ForK_bk, ↓ForK_rt, ↓W.s_ifs, ↓W.e_varF, ↓W.e_varT, ↓W.a_var, ↓W.still_im, ↓W.still_b, ↓W.e_cst, ↓W.e_glob, ↓W.e_tup, ↓W.e_lst, ↓W.e_dnew, ↓W.e_bin, ↓W.e_neg, ↓W.e_not, ↓W.e_cmp, ↓W.e_chain, ↓W.e_one, ↓W.e_and, ↓W.e_or, ↓W.e_ite, ↓W.e_ix, ↓W.e_sl, ↓W.e_ixv, ↓W.e_slv, ↓W.e_rev, ↓W.e_lrange, ↓W.e_disp, ↓W.e_dispD, ↓W.e_gcd, ↓W.e_isin, ↓W.e_bi1, ↓W.e_bi2, ↓W.e_get, ↓W.e_index, ↓W.e_count, ↓W.e_join, ↓W.e_split, ↓W.es_nil, ↓W.es_cons, ↓W.bs_nil, ↓W.bs_cons, ↓W.as_nil, ↓W.as_cons, ↓W.o_no, ↓W.o_so, ↓W.c_no, ↓W.c_so, ↓W.t_not, ↓W.t_one, ↓W.t_and, ↓W.t_or, ↓W.t_cmp, ↓W.t_chain, ↓W.t_var, ↓W.t_cst, ↓W.t_call, ↓W.t_ixv, ↓W.t_me, ↓W.t_ix, ↓W.t_bi, ↓W.t_isin, ↓W.t_gin, ↓W.w_it, ↓W.w_rev, ↓W.w_enum, ↓W.w_zip, ↓W.s_setv, ↓W.s_asg, ↓W.s_unp, ↓W.s_par, ↓W.s_ret, ↓W.s_retN, ↓W.s_expr, ↓W.s_doc, ↓W.s_pass, ↓W.s_brk, ↓W.s_cont, ↓W.s_raise, ↓W.s_swap, ↓W.a_cst, ↓W.a_glob, ↓W.a_tup, ↓W.a_lst, ↓W.a_bin, ↓W.a_neg, ↓W.a_ite, ↓W.a_ix, ↓W.a_sl, ↓W.a_rev, ↓W.a_ixv, ↓W.a_slv, ↓W.a_lrange, ↓W.a_disp, ↓W.a_dispD, ↓W.a_gix, ↓W.a_gcd, ↓W.a_isin, ↓W.a_call, ↓W.a_bi, ↓W.a_me, ↓W.a_cmp, ↓W.a_mut, ↓W.a_lc, ↓W.a_and, ↓W.a_or, ↓W.a_not, ↓W.a_one, ↓W.a_chain, ↓W.a_dnew, WP_ok, WP_exc, WP_bad, WP_bind, WP_ifbad, WP_ite, WP_lift, WP_liftN, WP_liftI, WP_callT, W.rdV, W.rdO, W.ldO, backO, mutO, setO, isOL, isOM, isOD, sdO, Mm.sd, readS, lendS, binI, cmpI, List.isEmpty, meOk, mxOk, Mm.sup, mkTup, ims, E.pure, Es.pure, Eo.pure, E.src, Wk.src, bindT, bindTs, Kh.clear, lockAll, Kh.settle, settleGo, Slot.isOwnMut, Slot.imOf, Slot.borOf, giveBack, Out.nx, Ss.stores, Kh.S.stores, Tg.slots, Tgs.slots, Es.len, vOk, clearV, runH, evalH, imAt, V.add_ii, V.sub_ii, V.add_tt, V.add_ll, V.mul_li, V.mul_si, V.eq_ss, V.ne_ss, V.eq_ii, V.ne_ii, V.eq_ll, V.ne_ll, V.isN_n, V.notN_n, V.isN_b, V.notN_b, V.isN_i, V.notN_i, V.isN_s, V.notN_s, V.isN_t, V.notN_t, V.is_bb, V.not_bb, V.eq_bb, V.ne_bb, V.lt_ii, V.le_ii, V.gt_ii, V.ge_ii, V.ix_t, V.ix_T, V.ix_l, V.ix_s, V.ix_d, V.ix_x, V.ixV_l, V.ixV_t, V.at_0, V.at_1, V.at_2, V.at_3, V.at_4, V.at_5, V.at_m1, V.at_m2, V.at_m3, V.at_m4, V.sl_t, V.sl_l, V.len_t, V.len_T, V.len_l, V.len_s, V.len_d, V.tuple_t, V.tuple_l, V.list_t, V.list_l, V.list_s, V.int_i, V.int_s, V.abs_i, V.min_ii, V.max_ii, V.sum_l, V.any_l, V.all_l, V.min_l, V.max_l, V.str_i, V.sorted_l, V.sorted_t, V.sorted_d, V.get_d, V.app, V.ext, V.pop0, V.pop1, V.ins, V.set_l, V.set_d, V.wk_t, V.wk_l, V.wk_s, V.wk_x, V.wkr_t, V.wkr_l, V.rev_l, V.rev_t, V.it_t, V.it_l, V.en_t, V.en_l, V.en_x, V.zp_t, V.zp_l, V.need_f, V.need_i, V.asI, V.asB, V.asIm, V.lift_s, V.lift_n, V.keep_i, V.keep_f, V.keep_l, V.keep_T, V.keep_d, V.im_i, V.im_l, V.im_T, V.im_d, V.im_s, V.mx_index, V.mx_count, V.mx_counts, V.mx_join, V.mx_split, V.isin_s, V.isin_t, V.isin_i, V.gcd_ii, V.eqI_ii, V.big_, V.op_ii, slD_tx, len_tx, add_tx, S_eq, atI_map, cutL_take, cutL_drop, cutL_mid, cutL_last, ims_some, ims_int, intsOf_int, boolsOf_bl, -List.map_map]
    unfold e_renamed_1
    refine WP_lcP (fun x => int x) w (fun x => some (int (nameIn (ded w) x))) [oT w, oK (ded w), .no] [oT w, oK (ded w), .no] [oT w, oK (ded w), .no] [2] rfl ?_ (Nat.le_trans hl (by decide)) ?_ (fun x hx => ?_) ?_ ?_
    · simp -dsimp [↓WP_ok, ↓WP_exc, ↓WP_bad, ↓WP_bind, ↓WP_cons, ↓WP_nil, ↓WP_callF, ↓WP_callE, ↓WP_clr, ↓WP_try, ↓WP_range1, ↓WP_range2, ↓WP_mutA, ↓WP_mutE, ↓WP_mutP, ↓WP_mutI, ↓WP_sd, ↓WP_setix, ↓SeqK_nx, ↓SeqK_rt, ↓SeqK_bk, ↓SeqK_ct, ↓ClrK_nx, ↓ClrK_rt, ↓ClrK_bk, ↓ClrK_ct, ↓SemK_rt, ↓SemK_nx, ↓ForK_nx, ↓ForK_ct, ↓ForK_bk, ↓ForK_rt, ↓W.s_ifs, ↓W.e_varF, ↓W.e_varT, ↓W.a_var, ↓W.still_im, ↓W.still_b, ↓W.e_cst, ↓W.e_glob, ↓W.e_tup, ↓W.e_lst, ↓W.e_dnew, ↓W.e_bin, ↓W.e_neg, ↓W.e_not, ↓W.e_cmp, ↓W.e_chain, ↓W.e_one, ↓W.e_and, ↓W.e_or, ↓W.e_ite, ↓W.e_ix, ↓W.e_sl, ↓W.e_ixv, ↓W.e_slv, ↓W.e_rev, ↓W.e_lrange, ↓W.e_disp, ↓W.e_dispD, ↓W.e_gcd, ↓W.e_isin, ↓W.e_bi1, ↓W.e_bi2, ↓W.e_get, ↓W.e_index, ↓W.e_count, ↓W.e_join, ↓W.e_split, ↓W.es_nil, ↓W.es_cons, ↓W.bs_nil, ↓W.bs_cons, ↓W.as_nil, ↓W.as_cons, ↓W.o_no, ↓W.o_so, ↓W.c_no, ↓W.c_so, ↓W.t_not, ↓W.t_one, ↓W.t_and, ↓W.t_or, ↓W.t_cmp, ↓W.t_chain, ↓W.t_var, ↓W.t_cst, ↓W.t_call, ↓W.t_ixv, ↓W.t_me, ↓W.t_ix, ↓W.t_bi, ↓W.t_isin, ↓W.t_gin, ↓W.w_it, ↓W.w_rev, ↓W.w_enum, ↓W.w_zip, ↓W.s_setv, ↓W.s_asg, ↓W.s_unp, ↓W.s_par, ↓W.s_ret, ↓W.s_retN, ↓W.s_expr, ↓W.s_doc, ↓W.s_pass, ↓W.s_brk, ↓W.s_cont, ↓W.s_raise, ↓W.s_swap, ↓W.a_cst, ↓W.a_glob, ↓W.a_tup, ↓W.a_lst, ↓W.a_bin, ↓W.a_neg, ↓W.a_ite, ↓W.a_ix, ↓W.a_sl, ↓W.a_rev, ↓W.a_ixv, ↓W.a_slv, ↓W.a_lrange, ↓W.a_disp, ↓W.a_dispD, ↓W.a_gix, ↓W.a_gcd, ↓W.a_isin, ↓W.a_call, ↓W.a_bi, ↓W.a_me, ↓W.a_cmp, ↓W.a_mut, ↓W.a_lc, ↓W.a_and, ↓W.a_or, ↓W.a_not, ↓W.a_one, ↓W.a_chain, ↓W.a_dnew, WP_ok, WP_exc, WP_bad, WP_bind, WP_ifbad, WP_ite, WP_lift, WP_liftN, WP_liftI, WP_callT, W.rdV, W.rdO, W.ldO, backO, mutO, setO, isOL, isOM, isOD, sdO, Mm.sd, readS, lendS, binI, cmpI, List.isEmpty, meOk, mxOk, Mm.sup, mkTup, ims, E.pure, Es.pure, Eo.pure, E.src, Wk.src, bindT, bindTs, Kh.clear, lockAll, Kh.settle, settleGo, Slot.isOwnMut, Slot.imOf, Slot.borOf, giveBack, Out.nx, Ss.stores, Kh.S.stores, Tg.slots, Tgs.slots, Es.len, vOk, clearV, runH, evalH, imAt, V.add_ii, V.sub_ii, V.add_tt, V.add_ll, V.mul_li, V.mul_si, V.eq_ss, V.ne_ss, V.eq_ii, V.ne_ii, V.eq_ll, V.ne_ll, V.isN_n, V.notN_n, V.isN_b, V.notN_b, V.isN_i, V.notN_i, V.isN_s, V.notN_s, V.isN_t, V.notN_t, V.is_bb, V.not_bb, V.eq_bb, V.ne_bb, V.lt_ii, V.le_ii, V.gt_ii, V.ge_ii, V.ix_t, V.ix_T, V.ix_l, V.ix_s, V.ix_d, V.ix_x, V.ixV_l, V.ixV_t, V.at_0, V.at_1, V.at_2, V.at_3, V.at_4, V.at_5, V.at_m1, V.at_m2, V.at_m3, V.at_m4, V.sl_t, V.sl_l, V.len_t, V.len_T, V.len_l, V.len_s, V.len_d, V.tuple_t, V.tuple_l, V.list_t, V.list_l, V.list_s, V.int_i, V.int_s, V.abs_i, V.min_ii, V.max_ii, V.sum_l, V.any_l, V.all_l, V.min_l, V.max_l, V.str_i, V.sorted_l, V.sorted_t, V.sorted_d, V.get_d, V.app, V.ext, V.pop0, V.pop1, V.ins, V.set_l, V.set_d, V.wk_t, V.wk_l, V.wk_s, V.wk_x, V.wkr_t, V.wkr_l, V.rev_l, V.rev_t, V.it_t, V.it_l, V.en_t, V.en_l, V.en_x, V.zp_t, V.zp_l, V.need_f, V.need_i, V.asI, V.asB, V.asIm, V.lift_s, V.lift_n, V.keep_i, V.keep_f, V.keep_l, V.keep_T, V.keep_d, V.im_i, V.im_l, V.im_T, V.im_d, V.im_s, V.mx_index, V.mx_count, V.mx_counts, V.mx_join, V.mx_split, V.isin_s, V.isin_t, V.isin_i, V.gcd_ii, V.eqI_ii, V.big_, V.op_ii, slD_tx, len_tx, add_tx, S_eq, atI_map, cutL_take, cutL_drop, cutL_mid, cutL_last, ims_some, ims_int, intsOf_int, boolsOf_bl, -List.map_map]
      simp [Function.comp_def]
    · simp [Ro.b_ok, Ro.b_exc, Ro.b_bad, Ro.a_var, Ro.e_var, Ro.e_cst, Ro.e_glob, Ro.e_tup, Ro.e_lst, Ro.e_dnew, Ro.e_bin, Ro.e_neg, Ro.e_not, Ro.e_cmp, Ro.e_chain, Ro.e_one, Ro.e_and, Ro.e_or, Ro.e_ite, Ro.e_ix, Ro.e_sl, Ro.e_ixv, Ro.e_slv, Ro.e_rev, Ro.e_lrange, Ro.e_disp, Ro.e_dispD, Ro.e_gin, Ro.e_gix, Ro.e_gcd, Ro.e_isin, Ro.e_call, Ro.e_bi1, Ro.e_bi2, Ro.e_get, Ro.e_index, Ro.e_count, Ro.e_join, Ro.e_split, Ro.e_mut, Ro.a_cst, Ro.a_glob, Ro.a_tup, Ro.a_lst, Ro.a_bin, Ro.a_neg, Ro.a_ite, Ro.a_ix, Ro.a_sl, Ro.a_rev, Ro.a_ixv, Ro.a_slv, Ro.a_lrange, Ro.a_disp, Ro.a_dispD, Ro.a_gix, Ro.a_gcd, Ro.a_isin, Ro.a_call, Ro.a_bi, Ro.a_me, Ro.a_cmp, Ro.a_mut, Ro.a_lc, Ro.a_and, Ro.a_or, Ro.a_not, Ro.a_one, Ro.a_chain, Ro.a_dnew, Ro.es_nil, Ro.es_cons, Ro.bs_nil, Ro.bs_cons, Ro.as_nil, Ro.as_cons, Ro.o_no, Ro.o_so, Ro.c_no, Ro.c_so, Ro.t_not, Ro.t_one, Ro.t_and, Ro.t_or, Ro.t_cmp, Ro.t_chain, Ro.t_var, Ro.t_cst, Ro.t_call, Ro.t_ixv, Ro.t_me, Ro.t_ix, Ro.t_bi, Ro.t_isin, Ro.t_gin, Ro.w_it, Ro.w_rev, Ro.w_enum, Ro.w_zip, Ro.w_range, Ro.s_setv, Ro.s_asg, Ro.s_unp, Ro.s_par, Ro.s_ret, Ro.s_retN, Ro.s_expr, Ro.s_doc, Ro.s_pass, Ro.s_brk, Ro.s_cont, Ro.s_ifs, Ro.s_raise, Ro.s_try, Ro.s_swap, Ro.s_setix, Ro.ss_nil, Ro.ss_cons, lift, readS, lendS, still, needIm, asInt, asBool, asIm, binD, binI, cmpD, cmpI, ixD, slD, ixV, List.isEmpty, revD, biD, meD, meOk, mxD, mxOk, mutD, Mm.sup, Mm.sd, sdO, setD, wkD, wkR, mkTup, ims, D.isIm, E.pure, Es.pure, Eo.pure, E.src, Wk.src, keepS, bindT, bindTs, Kh.clear, lockAll, Kh.settle, settleGo, Slot.isOwnMut, Slot.imOf, Slot.borOf, giveBack, callF, stepClear, settleF, Out.nx, Ss.stores, Kh.S.stores, Tg.slots, Tgs.slots, Es.len, itemsIm, enumD, zipD, vOk, clearV, runH, evalH, imAt, eqI]
    · refine WP_lcT rfl ?_
      have h1 : lkup (.int x) (dk (ded w)) = some (some (.im (.int (nameIn (ded w) x)))) := by rw [lkup_dk, if_pos (mem_ded.mpr hx)]
      simp -dsimp [h1, key_i, ↓WP_ok, ↓WP_exc, ↓WP_bad, ↓WP_bind, ↓WP_cons, ↓WP_nil, ↓WP_callF, ↓WP_callE, ↓WP_clr, ↓WP_try, ↓WP_range1, ↓WP_range2, ↓WP_mutA, ↓WP_mutE, ↓WP_mutP, ↓WP_mutI, ↓WP_sd, ↓WP_setix, ↓SeqK_nx, ↓SeqK_rt, ↓SeqK_bk, ↓SeqK_ct, ↓ClrK_nx, ↓ClrK_rt, ↓ClrK_bk, ↓ClrK_ct, ↓SemK_rt, ↓SemK_nx, ↓ForK_nx, ↓ForK_ct, ↓ForK_bk, ↓ForK_rt, ↓W.s_ifs, ↓W.e_varF, ↓W.e_varT, ↓W.a_var, ↓W.still_im, ↓W.still_b, ↓W.e_cst, ↓W.e_glob, ↓W.e_tup, ↓W.e_lst, ↓W.e_dnew, ↓W.e_bin, ↓W.e_neg, ↓W.e_not, ↓W.e_cmp, ↓W.e_chain, ↓W.e_one, ↓W.e_and, ↓W.e_or, ↓W.e_ite, ↓W.e_ix, ↓W.e_sl, ↓W.e_ixv, ↓W.e_slv, ↓W.e_rev, ↓W.e_lrange, ↓W.e_disp, ↓W.e_dispD, ↓W.e_gcd, ↓W.e_isin, ↓W.e_bi1, ↓W.e_bi2, ↓W.e_get, ↓W.e_index, ↓W.e_count, ↓W.e_join, ↓W.e_split, ↓W.es_nil, ↓W.es_cons, ↓W.bs_nil, ↓W.bs_cons, ↓W.as_nil, ↓W.as_cons, ↓W.o_no, ↓W.o_so, ↓W.c_no, ↓W.c_so, ↓W.t_not, ↓W.t_one, ↓W.t_and, ↓W.t_or, ↓W.t_cmp, ↓W.t_chain, ↓W.t_var, ↓W.t_cst, ↓W.t_call, ↓W.t_ixv, ↓W.t_me, ↓W.t_ix, ↓W.t_bi, ↓W.t_isin, ↓W.t_gin, ↓W.w_it, ↓W.w_rev, ↓W.w_enum, ↓W.w_zip, ↓W.s_setv, ↓W.s_asg, ↓W.s_unp, ↓W.s_par, ↓W.s_ret, ↓W.s_retN, ↓W.s_expr, ↓W.s_doc, ↓W.s_pass, ↓W.s_brk, ↓W.s_cont, ↓W.s_raise, ↓W.s_swap, ↓W.a_cst, ↓W.a_glob, ↓W.a_tup, ↓W.a_lst, ↓W.a_bin, ↓W.a_neg, ↓W.a_ite, ↓W.a_ix, ↓W.a_sl, ↓W.a_rev, ↓W.a_ixv, ↓W.a_slv, ↓W.a_lrange, ↓W.a_disp, ↓W.a_dispD, ↓W.a_gix, ↓W.a_gcd, ↓W.a_isin, ↓W.a_call, ↓W.a_bi, ↓W.a_me, ↓W.a_cmp, ↓W.a_mut, ↓W.a_lc, ↓W.a_and, ↓W.a_or, ↓W.a_not, ↓W.a_one, ↓W.a_chain, ↓W.a_dnew, WP_ok, WP_exc, WP_bad, WP_bind, WP_ifbad, WP_ite, WP_lift, WP_liftN, WP_liftI, WP_callT, W.rdV, W.rdO, W.ldO, backO, mutO, setO, isOL, isOM, isOD, sdO, Mm.sd, readS, lendS, binI, cmpI, List.isEmpty, meOk, mxOk, Mm.sup, mkTup, ims, E.pure, Es.pure, Eo.pure, E.src, Wk.src, bindT, bindTs, Kh.clear, lockAll, Kh.settle, settleGo, Slot.isOwnMut, Slot.imOf, Slot.borOf, giveBack, Out.nx, Ss.stores, Kh.S.stores, Tg.slots, Tgs.slots, Es.len, vOk, clearV, runH, evalH, imAt, V.add_ii, V.sub_ii, V.add_tt, V.add_ll, V.mul_li, V.mul_si, V.eq_ss, V.ne_ss, V.eq_ii, V.ne_ii, V.eq_ll, V.ne_ll, V.isN_n, V.notN_n, V.isN_b, V.notN_b, V.isN_i, V.notN_i, V.isN_s, V.notN_s, V.isN_t, V.notN_t, V.is_bb, V.not_bb, V.eq_bb, V.ne_bb, V.lt_ii, V.le_ii, V.gt_ii, V.ge_ii, V.ix_t, V.ix_T, V.ix_l, V.ix_s, V.ix_d, V.ix_x, V.ixV_l, V.ixV_t, V.at_0, V.at_1, V.at_2, V.at_3, V.at_4, V.at_5, V.at_m1, V.at_m2, V.at_m3, V.at_m4, V.sl_t, V.sl_l, V.len_t, V.len_T, V.len_l, V.len_s, V.len_d, V.tuple_t, V.tuple_l, V.list_t, V.list_l, V.list_s, V.int_i, V.int_s, V.abs_i, V.min_ii, V.max_ii, V.sum_l, V.any_l, V.all_l, V.min_l, V.max_l, V.str_i, V.sorted_l, V.sorted_t, V.sorted_d, V.get_d, V.app, V.ext, V.pop0, V.pop1, V.ins, V.set_l, V.set_d, V.wk_t, V.wk_l, V.wk_s, V.wk_x, V.wkr_t, V.wkr_l, V.rev_l, V.rev_t, V.it_t, V.it_l, V.en_t, V.en_l, V.en_x, V.zp_t, V.zp_l, V.need_f, V.need_i, V.asI, V.asB, V.asIm, V.lift_s, V.lift_n, V.keep_i, V.keep_f, V.keep_l, V.keep_T, V.keep_d, V.im_i, V.im_l, V.im_T, V.im_d, V.im_s, V.mx_index, V.mx_count, V.mx_counts, V.mx_join, V.mx_split, V.isin_s, V.isin_t, V.isin_i, V.gcd_ii, V.eqI_ii, V.big_, V.op_ii, slD_tx, len_tx, add_tx, S_eq, atI_map, cutL_take, cutL_drop, cutL_mid, cutL_last, ims_some, ims_int, intsOf_int, boolsOf_bl, -List.map_map]
    · simp [Ro.b_ok, Ro.b_exc, Ro.b_bad, Ro.a_var, Ro.e_var, Ro.e_cst, Ro.e_glob, Ro.e_tup, Ro.e_lst, Ro.e_dnew, Ro.e_bin, Ro.e_neg, Ro.e_not, Ro.e_cmp, Ro.e_chain, Ro.e_one, Ro.e_and, Ro.e_or, Ro.e_ite, Ro.e_ix, Ro.e_sl, Ro.e_ixv, Ro.e_slv, Ro.e_rev, Ro.e_lrange, Ro.e_disp, Ro.e_dispD, Ro.e_gin, Ro.e_gix, Ro.e_gcd, Ro.e_isin, Ro.e_call, Ro.e_bi1, Ro.e_bi2, Ro.e_get, Ro.e_index, Ro.e_count, Ro.e_join, Ro.e_split, Ro.e_mut, Ro.a_cst, Ro.a_glob, Ro.a_tup, Ro.a_lst, Ro.a_bin, Ro.a_neg, Ro.a_ite, Ro.a_ix, Ro.a_sl, Ro.a_rev, Ro.a_ixv, Ro.a_slv, Ro.a_lrange, Ro.a_disp, Ro.a_dispD, Ro.a_gix, Ro.a_gcd, Ro.a_isin, Ro.a_call, Ro.a_bi, Ro.a_me, Ro.a_cmp, Ro.a_mut, Ro.a_lc, Ro.a_and, Ro.a_or, Ro.a_not, Ro.a_one, Ro.a_chain, Ro.a_dnew, Ro.es_nil, Ro.es_cons, Ro.bs_nil, Ro.bs_cons, Ro.as_nil, Ro.as_cons, Ro.o_no, Ro.o_so, Ro.c_no, Ro.c_so, Ro.t_not, Ro.t_one, Ro.t_and, Ro.t_or, Ro.t_cmp, Ro.t_chain, Ro.t_var, Ro.t_cst, Ro.t_call, Ro.t_ixv, Ro.t_me, Ro.t_ix, Ro.t_bi, Ro.t_isin, Ro.t_gin, Ro.w_it, Ro.w_rev, Ro.w_enum, Ro.w_zip, Ro.w_range, Ro.s_setv, Ro.s_asg, Ro.s_unp, Ro.s_par, Ro.s_ret, Ro.s_retN, Ro.s_expr, Ro.s_doc, Ro.s_pass, Ro.s_brk, Ro.s_cont, Ro.s_ifs, Ro.s_raise, Ro.s_try, Ro.s_swap, Ro.s_setix, Ro.ss_nil, Ro.ss_cons, lift, readS, lendS, still, needIm, asInt, asBool, asIm, binD, binI, cmpD, cmpI, ixD, slD, ixV, List.isEmpty, revD, biD, meD, meOk, mxD, mxOk, mutD, Mm.sup, Mm.sd, sdO, setD, wkD, wkR, mkTup, ims, D.isIm, E.pure, Es.pure, Eo.pure, E.src, Wk.src, keepS, bindT, bindTs, Kh.clear, lockAll, Kh.settle, settleGo, Slot.isOwnMut, Slot.imOf, Slot.borOf, giveBack, callF, stepClear, settleF, Out.nx, Ss.stores, Kh.S.stores, Tg.slots, Tgs.slots, Es.len, itemsIm, enumD, zipD, vOk, clearV, runH, evalH, imAt, eqI]
    · rw [List.filterMap_eq_map']
      simp -dsimp [z_renamed, named, ↓WP_ok, ↓WP_exc, ↓WP_bad, ↓WP_bind, ↓WP_cons, ↓WP_nil, ↓WP_callF, ↓WP_callE, ↓WP_clr, ↓WP_try, ↓WP_range1, ↓WP_range2, ↓WP_mutA, ↓WP_mutE, ↓WP_mutP, ↓WP_mutI, ↓WP_sd, ↓WP_setix, ↓SeqK_nx, ↓SeqK_rt, ↓SeqK_bk, ↓SeqK_ct, ↓ClrK_nx, ↓ClrK_rt, ↓ClrK_bk, ↓ClrK_ct, ↓SemK_rt, ↓SemK_nx, ↓ForK_nx, ↓ForK_ct, ↓ForK_bk, ↓ForK_rt, ↓W.s_ifs, ↓W.e_varF, ↓W.e_varT, ↓W.a_var, ↓W.still_im, ↓W.still_b, ↓W.e_cst, ↓W.e_glob, ↓W.e_tup, ↓W.e_lst, ↓W.e_dnew, ↓W.e_bin, ↓W.e_neg, ↓W.e_not, ↓W.e_cmp, ↓W.e_chain, ↓W.e_one, ↓W.e_and, ↓W.e_or, ↓W.e_ite, ↓W.e_ix, ↓W.e_sl, ↓W.e_ixv, ↓W.e_slv, ↓W.e_rev, ↓W.e_lrange, ↓W.e_disp, ↓W.e_dispD, ↓W.e_gcd, ↓W.e_isin, ↓W.e_bi1, ↓W.e_bi2, ↓W.e_get, ↓W.e_index, ↓W.e_count, ↓W.e_join, ↓W.e_split, ↓W.es_nil, ↓W.es_cons, ↓W.bs_nil, ↓W.bs_cons, ↓W.as_nil, ↓W.as_cons, ↓W.o_no, ↓W.o_so, ↓W.c_no, ↓W.c_so, ↓W.t_not, ↓W.t_one, ↓W.t_and, ↓W.t_or, ↓W.t_cmp, ↓W.t_chain, ↓W.t_var, ↓W.t_cst, ↓W.t_call, ↓W.t_ixv, ↓W.t_me, ↓W.t_ix, ↓W.t_bi, ↓W.t_isin, ↓W.t_gin, ↓W.w_it, ↓W.w_rev, ↓W.w_enum, ↓W.w_zip, ↓W.s_setv, ↓W.s_asg, ↓W.s_unp, ↓W.s_par, ↓W.s_ret, ↓W.s_retN, ↓W.s_expr, ↓W.s_doc, ↓W.s_pass, ↓W.s_brk, ↓W.s_cont, ↓W.s_raise, ↓W.s_swap, ↓W.a_cst, ↓W.a_glob, ↓W.a_tup, ↓W.a_lst, ↓W.a_bin, ↓W.a_neg, ↓W.a_ite, ↓W.a_ix, ↓W.a_sl, ↓W.a_rev, ↓W.a_ixv, ↓W.a_slv, ↓W.a_lrange, ↓W.a_disp, ↓W.a_dispD, ↓W.a_gix, ↓W.a_gcd, ↓W.a_isin, ↓W.a_call, ↓W.a_bi, ↓W.a_me, ↓W.a_cmp, ↓W.a_mut, ↓W.a_lc, ↓W.a_and, ↓W.a_or, ↓W.a_not, ↓W.a_one, ↓W.a_chain, ↓W.a_dnew, WP_ok, WP_exc, WP_bad, WP_bind, WP_ifbad, WP_ite, WP_lift, WP_liftN, WP_liftI, WP_callT, W.rdV, W.rdO, W.ldO, backO, mutO, setO, isOL, isOM, isOD, sdO, Mm.sd, readS, lendS, binI, cmpI, List.isEmpty, meOk, mxOk, Mm.sup, mkTup, ims, E.pure, Es.pure, Eo.pure, E.src, Wk.src, bindT, bindTs, Kh.clear, lockAll, Kh.settle, settleGo, Slot.isOwnMut, Slot.imOf, Slot.borOf, giveBack, Out.nx, Ss.stores, Kh.S.stores, Tg.slots, Tgs.slots, Es.len, vOk, clearV, runH, evalH, imAt, V.add_ii, V.sub_ii, V.add_tt, V.add_ll, V.mul_li, V.mul_si, V.eq_ss, V.ne_ss, V.eq_ii, V.ne_ii, V.eq_ll, V.ne_ll, V.isN_n, V.notN_n, V.isN_b, V.notN_b, V.isN_i, V.notN_i, V.isN_s, V.notN_s, V.isN_t, V.notN_t, V.is_bb, V.not_bb, V.eq_bb, V.ne_bb, V.lt_ii, V.le_ii, V.gt_ii, V.ge_ii, V.ix_t, V.ix_T, V.ix_l, V.ix_s, V.ix_d, V.ix_x, V.ixV_l, V.ixV_t, V.at_0, V.at_1, V.at_2, V.at_3, V.at_4, V.at_5, V.at_m1, V.at_m2, V.at_m3, V.at_m4, V.sl_t, V.sl_l, V.len_t, V.len_T, V.len_l, V.len_s, V.len_d, V.tuple_t, V.tuple_l, V.list_t, V.list_l, V.list_s, V.int_i, V.int_s, V.abs_i, V.min_ii, V.max_ii, V.sum_l, V.any_l, V.all_l, V.min_l, V.max_l, V.str_i, V.sorted_l, V.sorted_t, V.sorted_d, V.get_d, V.app, V.ext, V.pop0, V.pop1, V.ins, V.set_l, V.set_d, V.wk_t, V.wk_l, V.wk_s, V.wk_x, V.wkr_t, V.wkr_l, V.rev_l, V.rev_t, V.it_t, V.it_l, V.en_t, V.en_l, V.en_x, V.zp_t, V.zp_l, V.need_f, V.need_i, V.asI, V.asB, V.asIm, V.lift_s, V.lift_n, V.keep_i, V.keep_f, V.keep_l, V.keep_T, V.keep_d, V.im_i, V.im_l, V.im_T, V.im_d, V.im_s, V.mx_index, V.mx_count, V.mx_counts, V.mx_join, V.mx_split, V.isin_s, V.isin_t, V.isin_i, V.gcd_ii, V.eqI_ii, V.big_, V.op_ii, slD_tx, len_tx, add_tx, S_eq, atI_map, cutL_take, cutL_drop, cutL_mid, cutL_last, ims_some, ims_int, intsOf_int, boolsOf_bl, -List.map_map]
      simp [Function.comp_def]
def nStp (p : List Int × List Int) (x : Int) : List Int × List Int := (dedS p.1 x, p.2 ++ [nameIn (dedS p.1 x) x])
theorem nStp_ok : ∀ (w acc t : List Int), w.foldl nStp (acc, t) = (w.foldl dedS acc, t ++ w.map (nameIn (w.foldl dedS acc)))
  | [], acc, t => by simp
  | x :: w, acc, t => by
    rw [List.foldl_cons, nStp, nStp_ok w, List.foldl_cons, List.map_cons]
    obtain ⟨r, hr⟩ := fold_mono w (dedS acc x)
    have e : nameIn (w.foldl dedS (dedS acc x)) x = nameIn (dedS acc x) x := by rw [hr, name_app mem_dedS]
    rw [e]
    simp
theorem named_ok {T : Kh.Tab} {w : List Int} (hl : w.length ≤ 100) : f_l_named.sem T [oT w] = .ok (.im (tI (named w))) [oT w] := by
  refine WP.eq (WP_sem rfl ?_)
  simp -dsimp [f_l_named, t_l_named_0, t_l_named_1, t_l_named_2, ↓WP_ok, ↓WP_exc, ↓WP_bad, ↓WP_bind, ↓WP_cons, ↓WP_nil, ↓WP_callF, ↓WP_callE, ↓WP_clr, ↓WP_try, ↓WP_range1, ↓WP_range2, ↓WP_mutA, ↓WP_mutE, ↓WP_mutP, ↓WP_mutI, ↓WP_sd, ↓WP_setix, ↓SeqK_nx, ↓SeqK_rt, ↓SeqK_bk, ↓SeqK_ct, ↓ClrK_nx, ↓ClrK_rt, ↓ClrK_bk, ↓ClrK_ct, ↓SemK_rt, ↓SemK_nx, ↓ForK_nx, ↓ForK_ct, ↓ForK_bk, ↓ForK_rt, ↓W.s_ifs, ↓W.e_varF, ↓W.e_varT, ↓W.a_var, ↓W.still_im, ↓W.still_b, ↓W.e_cst, ↓W.e_glob, ↓W.e_tup, ↓W.e_lst, ↓W.e_dnew, ↓W.e_bin, ↓W.e_neg, ↓W.e_not, ↓W.e_cmp, ↓W.e_chain, ↓W.e_one, ↓W.e_and, ↓W.e_or, ↓W.e_ite, ↓W.e_ix, ↓W.e_sl, ↓W.e_ixv, ↓W.e_slv, ↓W.e_rev, ↓W.e_lrange, ↓W.e_disp, ↓W.e_dispD, ↓W.e_gcd, ↓W.e_isin, ↓W.e_bi1, ↓W.e_bi2, ↓W.e_get, ↓W.e_index, ↓W.e_count, ↓W.e_join, ↓W.e_split, ↓W.es_nil, ↓W.es_cons, ↓W.bs_nil, ↓W.bs_cons, ↓W.as_nil, ↓W.as_cons, ↓W.o_no, ↓W.o_so, ↓W.c_no, ↓W.c_so, ↓W.t_not, ↓W.t_one, ↓W.t_and, ↓W.t_or, ↓W.t_cmp, ↓W.t_chain, ↓W.t_var, ↓W.t_cst, ↓W.t_call, ↓W.t_ixv, ↓W.t_me, ↓W.t_ix, ↓W.t_bi, ↓W.t_isin, ↓W.t_gin, ↓W.w_it, ↓W.w_rev, ↓W.w_enum, ↓W.w_zip, ↓W.s_setv, ↓W.s_asg, ↓W.s_unp, ↓W.s_par, ↓W.s_ret, ↓W.s_retN, ↓W.s_expr, ↓W.s_doc, ↓W.s_pass, ↓W.s_brk, ↓W.s_cont, ↓W.s_raise, ↓W.s_swap, ↓W.a_cst, ↓W.a_glob, ↓W.a_tup, ↓W.a_lst, ↓W.a_bin, ↓W.a_neg, ↓W.a_ite, ↓W.a_ix, ↓W.a_sl, ↓W.a_rev, ↓W.a_ixv, ↓W.a_slv, ↓W.a_lrange, ↓W.a_disp, ↓W.a_dispD, ↓W.a_gix, ↓W.a_gcd, ↓W.a_isin, ↓W.a_call, ↓W.a_bi, ↓W.a_me, ↓W.a_cmp, ↓W.a_mut, ↓W.a_lc, ↓W.a_and, ↓W.a_or, ↓W.a_not, ↓W.a_one, ↓W.a_chain, ↓W.a_dnew, WP_ok, WP_exc, WP_bad, WP_bind, WP_ifbad, WP_ite, WP_lift, WP_liftN, WP_liftI, WP_callT, W.rdV, W.rdO, W.ldO, backO, mutO, setO, isOL, isOM, isOD, sdO, Mm.sd, readS, lendS, binI, cmpI, List.isEmpty, meOk, mxOk, Mm.sup, mkTup, ims, E.pure, Es.pure, Eo.pure, E.src, Wk.src, bindT, bindTs, Kh.clear, lockAll, Kh.settle, settleGo, Slot.isOwnMut, Slot.imOf, Slot.borOf, giveBack, Out.nx, Ss.stores, Kh.S.stores, Tg.slots, Tgs.slots, Es.len, vOk, clearV, runH, evalH, imAt, V.add_ii, V.sub_ii, V.add_tt, V.add_ll, V.mul_li, V.mul_si, V.eq_ss, V.ne_ss, V.eq_ii, V.ne_ii, V.eq_ll, V.ne_ll, V.isN_n, V.notN_n, V.isN_b, V.notN_b, V.isN_i, V.notN_i, V.isN_s, V.notN_s, V.isN_t, V.notN_t, V.is_bb, V.not_bb, V.eq_bb, V.ne_bb, V.lt_ii, V.le_ii, V.gt_ii, V.ge_ii, V.ix_t, V.ix_T, V.ix_l, V.ix_s, V.ix_d, V.ix_x, V.ixV_l, V.ixV_t, V.at_0, V.at_1, V.at_2, V.at_3, V.at_4, V.at_5, V.at_m1, V.at_m2, V.at_m3, V.at_m4, V.sl_t, V.sl_l, V.len_t, V.len_T, V.len_l, V.len_s, V.len_d, V.tuple_t, V.tuple_l, V.list_t, V.list_l, V.list_s, V.int_i, V.int_s, V.abs_i, V.min_ii, V.max_ii, V.sum_l, V.any_l, V.all_l, V.min_l, V.max_l, V.str_i, V.sorted_l, V.sorted_t, V.sorted_d, V.get_d, V.app, V.ext, V.pop0, V.pop1, V.ins, V.set_l, V.set_d, V.wk_t, V.wk_l, V.wk_s, V.wk_x, V.wkr_t, V.wkr_l, V.rev_l, V.rev_t, V.it_t, V.it_l, V.en_t, V.en_l, V.en_x, V.zp_t, V.zp_l, V.need_f, V.need_i, V.asI, V.asB, V.asIm, V.lift_s, V.lift_n, V.keep_i, V.keep_f, V.keep_l, V.keep_T, V.keep_d, V.im_i, V.im_l, V.im_T, V.im_d, V.im_s, V.mx_index, V.mx_count, V.mx_counts, V.mx_join, V.mx_split, V.isin_s, V.isin_t, V.isin_i, V.gcd_ii, V.eqI_ii, V.big_, V.op_ii, slD_tx, len_tx, add_tx, S_eq, atI_map, cutL_take, cutL_drop, cutL_mid, cutL_last, ims_some, ims_int, intsOf_int, boolsOf_bl, -List.map_map]
  unfold s_l_named_2
  refine WP_forF (enc := fun x => int x) (E := fun p : List Int × List Int => [oT w, oK p.1, .own (lI p.2), .no]) nStp (fun r p => p.1.length + r.length ≤ 100 ∧ p.2.length + r.length ≤ 100) w ([], []) [oT w, .own (.dct false []), .own (.lst []), .no] ?_ ?_ ⟨by simpa using hl, by simpa using hl⟩ (fun x r p i => ?_) fun i => ?_
  · simp -dsimp [↓WP_ok, ↓WP_exc, ↓WP_bad, ↓WP_bind, ↓WP_cons, ↓WP_nil, ↓WP_callF, ↓WP_callE, ↓WP_clr, ↓WP_try, ↓WP_range1, ↓WP_range2, ↓WP_mutA, ↓WP_mutE, ↓WP_mutP, ↓WP_mutI, ↓WP_sd, ↓WP_setix, ↓SeqK_nx, ↓SeqK_rt, ↓SeqK_bk, ↓SeqK_ct, ↓ClrK_nx, ↓ClrK_rt, ↓ClrK_bk, ↓ClrK_ct, ↓SemK_rt, ↓SemK_nx, ↓ForK_nx, ↓ForK_ct, ↓ForK_bk, ↓ForK_rt, ↓W.s_ifs, ↓W.e_varF, ↓W.e_varT, ↓W.a_var, ↓W.still_im, ↓W.still_b, ↓W.e_cst, ↓W.e_glob, ↓W.e_tup, ↓W.e_lst, ↓W.e_dnew, ↓W.e_bin, ↓W.e_neg, ↓W.e_not, ↓W.e_cmp, ↓W.e_chain, ↓W.e_one, ↓W.e_and, ↓W.e_or, ↓W.e_ite, ↓W.e_ix, ↓W.e_sl, ↓W.e_ixv, ↓W.e_slv, ↓W.e_rev, ↓W.e_lrange, ↓W.e_disp, ↓W.e_dispD, ↓W.e_gcd, ↓W.e_isin, ↓W.e_bi1, ↓W.e_bi2, ↓W.e_get, ↓W.e_index, ↓W.e_count, ↓W.e_join, ↓W.e_split, ↓W.es_nil, ↓W.es_cons, ↓W.bs_nil, ↓W.bs_cons, ↓W.as_nil, ↓W.as_cons, ↓W.o_no, ↓W.o_so, ↓W.c_no, ↓W.c_so, ↓W.t_not, ↓W.t_one, ↓W.t_and, ↓W.t_or, ↓W.t_cmp, ↓W.t_chain, ↓W.t_var, ↓W.t_cst, ↓W.t_call, ↓W.t_ixv, ↓W.t_me, ↓W.t_ix, ↓W.t_bi, ↓W.t_isin, ↓W.t_gin, ↓W.w_it, ↓W.w_rev, ↓W.w_enum, ↓W.w_zip, ↓W.s_setv, ↓W.s_asg, ↓W.s_unp, ↓W.s_par, ↓W.s_ret, ↓W.s_retN, ↓W.s_expr, ↓W.s_doc, ↓W.s_pass, ↓W.s_brk, ↓W.s_cont, ↓W.s_raise, ↓W.s_swap, ↓W.a_cst, ↓W.a_glob, ↓W.a_tup, ↓W.a_lst, ↓W.a_bin, ↓W.a_neg, ↓W.a_ite, ↓W.a_ix, ↓W.a_sl, ↓W.a_rev, ↓W.a_ixv, ↓W.a_slv, ↓W.a_lrange, ↓W.a_disp, ↓W.a_dispD, ↓W.a_gix, ↓W.a_gcd, ↓W.a_isin, ↓W.a_call, ↓W.a_bi, ↓W.a_me, ↓W.a_cmp, ↓W.a_mut, ↓W.a_lc, ↓W.a_and, ↓W.a_or, ↓W.a_not, ↓W.a_one, ↓W.a_chain, ↓W.a_dnew, WP_ok, WP_exc, WP_bad, WP_bind, WP_ifbad, WP_ite, WP_lift, WP_liftN, WP_liftI, WP_callT, W.rdV, W.rdO, W.ldO, backO, mutO, setO, isOL, isOM, isOD, sdO, Mm.sd, readS, lendS, binI, cmpI, List.isEmpty, meOk, mxOk, Mm.sup, mkTup, ims, E.pure, Es.pure, Eo.pure, E.src, Wk.src, bindT, bindTs, Kh.clear, lockAll, Kh.settle, settleGo, Slot.isOwnMut, Slot.imOf, Slot.borOf, giveBack, Out.nx, Ss.stores, Kh.S.stores, Tg.slots, Tgs.slots, Es.len, vOk, clearV, runH, evalH, imAt, V.add_ii, V.sub_ii, V.add_tt, V.add_ll, V.mul_li, V.mul_si, V.eq_ss, V.ne_ss, V.eq_ii, V.ne_ii, V.eq_ll, V.ne_ll, V.isN_n, V.notN_n, V.isN_b, V.notN_b, V.isN_i, V.notN_i, V.isN_s, V.notN_s, V.isN_t, V.notN_t, V.is_bb, V.not_bb, V.eq_bb, V.ne_bb, V.lt_ii, V.le_ii, V.gt_ii, V.ge_ii, V.ix_t, V.ix_T, V.ix_l, V.ix_s, V.ix_d, V.ix_x, V.ixV_l, V.ixV_t, V.at_0, V.at_1, V.at_2, V.at_3, V.at_4, V.at_5, V.at_m1, V.at_m2, V.at_m3, V.at_m4, V.sl_t, V.sl_l, V.len_t, V.len_T, V.len_l, V.len_s, V.len_d, V.tuple_t, V.tuple_l, V.list_t, V.list_l, V.list_s, V.int_i, V.int_s, V.abs_i, V.min_ii, V.max_ii, V.sum_l, V.any_l, V.all_l, V.min_l, V.max_l, V.str_i, V.sorted_l, V.sorted_t, V.sorted_d, V.get_d, V.app, V.ext, V.pop0, V.pop1, V.ins, V.set_l, V.set_d, V.wk_t, V.wk_l, V.wk_s, V.wk_x, V.wkr_t, V.wkr_l, V.rev_l, V.rev_t, V.it_t, V.it_l, V.en_t, V.en_l, V.en_x, V.zp_t, V.zp_l, V.need_f, V.need_i, V.asI, V.asB, V.asIm, V.lift_s, V.lift_n, V.keep_i, V.keep_f, V.keep_l, V.keep_T, V.keep_d, V.im_i, V.im_l, V.im_T, V.im_d, V.im_s, V.mx_index, V.mx_count, V.mx_counts, V.mx_join, V.mx_split, V.isin_s, V.isin_t, V.isin_i, V.gcd_ii, V.eqI_ii, V.big_, V.op_ii, slD_tx, len_tx, add_tx, S_eq, atI_map, cutL_take, cutL_drop, cutL_mid, cutL_last, ims_some, ims_int, intsOf_int, boolsOf_bl, -List.map_map]
    simp [Function.comp_def]
  · simp [dk_nil, Ro.b_ok, Ro.b_exc, Ro.b_bad, Ro.a_var, Ro.e_var, Ro.e_cst, Ro.e_glob, Ro.e_tup, Ro.e_lst, Ro.e_dnew, Ro.e_bin, Ro.e_neg, Ro.e_not, Ro.e_cmp, Ro.e_chain, Ro.e_one, Ro.e_and, Ro.e_or, Ro.e_ite, Ro.e_ix, Ro.e_sl, Ro.e_ixv, Ro.e_slv, Ro.e_rev, Ro.e_lrange, Ro.e_disp, Ro.e_dispD, Ro.e_gin, Ro.e_gix, Ro.e_gcd, Ro.e_isin, Ro.e_call, Ro.e_bi1, Ro.e_bi2, Ro.e_get, Ro.e_index, Ro.e_count, Ro.e_join, Ro.e_split, Ro.e_mut, Ro.a_cst, Ro.a_glob, Ro.a_tup, Ro.a_lst, Ro.a_bin, Ro.a_neg, Ro.a_ite, Ro.a_ix, Ro.a_sl, Ro.a_rev, Ro.a_ixv, Ro.a_slv, Ro.a_lrange, Ro.a_disp, Ro.a_dispD, Ro.a_gix, Ro.a_gcd, Ro.a_isin, Ro.a_call, Ro.a_bi, Ro.a_me, Ro.a_cmp, Ro.a_mut, Ro.a_lc, Ro.a_and, Ro.a_or, Ro.a_not, Ro.a_one, Ro.a_chain, Ro.a_dnew, Ro.es_nil, Ro.es_cons, Ro.bs_nil, Ro.bs_cons, Ro.as_nil, Ro.as_cons, Ro.o_no, Ro.o_so, Ro.c_no, Ro.c_so, Ro.t_not, Ro.t_one, Ro.t_and, Ro.t_or, Ro.t_cmp, Ro.t_chain, Ro.t_var, Ro.t_cst, Ro.t_call, Ro.t_ixv, Ro.t_me, Ro.t_ix, Ro.t_bi, Ro.t_isin, Ro.t_gin, Ro.w_it, Ro.w_rev, Ro.w_enum, Ro.w_zip, Ro.w_range, Ro.s_setv, Ro.s_asg, Ro.s_unp, Ro.s_par, Ro.s_ret, Ro.s_retN, Ro.s_expr, Ro.s_doc, Ro.s_pass, Ro.s_brk, Ro.s_cont, Ro.s_ifs, Ro.s_raise, Ro.s_try, Ro.s_swap, Ro.s_setix, Ro.ss_nil, Ro.ss_cons, lift, readS, lendS, still, needIm, asInt, asBool, asIm, binD, binI, cmpD, cmpI, ixD, slD, ixV, List.isEmpty, revD, biD, meD, meOk, mxD, mxOk, mutD, Mm.sup, Mm.sd, sdO, setD, wkD, wkR, mkTup, ims, D.isIm, E.pure, Es.pure, Eo.pure, E.src, Wk.src, keepS, bindT, bindTs, Kh.clear, lockAll, Kh.settle, settleGo, Slot.isOwnMut, Slot.imOf, Slot.borOf, giveBack, callF, stepClear, settleF, Out.nx, Ss.stores, Kh.S.stores, Tg.slots, Tgs.slots, Es.len, itemsIm, enumD, zipD, vOk, clearV, runH, evalH, imAt, eqI]
  · obtain ⟨acc, t⟩ := p
    obtain ⟨i1, i2⟩ := i
    refine WP_forT rfl ?_
    rw [List.length_cons] at i1 i2
    simp only at i1 i2
    have hk : acc.length < 1000000 := by omega
    have hk2 : acc.length ≤ 1000000 := by omega
    have ht : t.length < 1000000 := by omega
    by_cases m : x ∈ acc
    · have h1 : lkup (.int x) (dk acc) = some (some (.im (.int (nameIn acc x)))) := by rw [lkup_dk, if_pos m]
      have h0 : cmpD .nin (.im (.int x)) (.dct false (dk acc)) = some false := by
        simp only [cmpD, key_i, if_true, h1, Option.map_some]
        rfl
      simp -dsimp [s_l_named_1, dk_len, hk, hk2, ht, h0, h1, key_i, ↓WP_ok, ↓WP_exc, ↓WP_bad, ↓WP_bind, ↓WP_cons, ↓WP_nil, ↓WP_callF, ↓WP_callE, ↓WP_clr, ↓WP_try, ↓WP_range1, ↓WP_range2, ↓WP_mutA, ↓WP_mutE, ↓WP_mutP, ↓WP_mutI, ↓WP_sd, ↓WP_setix, ↓SeqK_nx, ↓SeqK_rt, ↓SeqK_bk, ↓SeqK_ct, ↓ClrK_nx, ↓ClrK_rt, ↓ClrK_bk, ↓ClrK_ct, ↓SemK_rt, ↓SemK_nx, ↓ForK_nx, ↓ForK_ct, ↓ForK_bk, ↓ForK_rt, ↓W.s_ifs, ↓W.e_varF, ↓W.e_varT, ↓W.a_var, ↓W.still_im, ↓W.still_b, ↓W.e_cst, ↓W.e_glob, ↓W.e_tup, ↓W.e_lst, ↓W.e_dnew, ↓W.e_bin, ↓W.e_neg, ↓W.e_not, ↓W.e_cmp, ↓W.e_chain, ↓W.e_one, ↓W.e_and, ↓W.e_or, ↓W.e_ite, ↓W.e_ix, ↓W.e_sl, ↓W.e_ixv, ↓W.e_slv, ↓W.e_rev, ↓W.e_lrange, ↓W.e_disp, ↓W.e_dispD, ↓W.e_gcd, ↓W.e_isin, ↓W.e_bi1, ↓W.e_bi2, ↓W.e_get, ↓W.e_index, ↓W.e_count, ↓W.e_join, ↓W.e_split, ↓W.es_nil, ↓W.es_cons, ↓W.bs_nil, ↓W.bs_cons, ↓W.as_nil, ↓W.as_cons, ↓W.o_no, ↓W.o_so, ↓W.c_no, ↓W.c_so, ↓W.t_not, ↓W.t_one, ↓W.t_and, ↓W.t_or, ↓W.t_cmp, ↓W.t_chain, ↓W.t_var, ↓W.t_cst, ↓W.t_call, ↓W.t_ixv, ↓W.t_me, ↓W.t_ix, ↓W.t_bi, ↓W.t_isin, ↓W.t_gin, ↓W.w_it, ↓W.w_rev, ↓W.w_enum, ↓W.w_zip, ↓W.s_setv, ↓W.s_asg, ↓W.s_unp, ↓W.s_par, ↓W.s_ret, ↓W.s_retN, ↓W.s_expr, ↓W.s_doc, ↓W.s_pass, ↓W.s_brk, ↓W.s_cont, ↓W.s_raise, ↓W.s_swap, ↓W.a_cst, ↓W.a_glob, ↓W.a_tup, ↓W.a_lst, ↓W.a_bin, ↓W.a_neg, ↓W.a_ite, ↓W.a_ix, ↓W.a_sl, ↓W.a_rev, ↓W.a_ixv, ↓W.a_slv, ↓W.a_lrange, ↓W.a_disp, ↓W.a_dispD, ↓W.a_gix, ↓W.a_gcd, ↓W.a_isin, ↓W.a_call, ↓W.a_bi, ↓W.a_me, ↓W.a_cmp, ↓W.a_mut, ↓W.a_lc, ↓W.a_and, ↓W.a_or, ↓W.a_not, ↓W.a_one, ↓W.a_chain, ↓W.a_dnew, WP_ok, WP_exc, WP_bad, WP_bind, WP_ifbad, WP_ite, WP_lift, WP_liftN, WP_liftI, WP_callT, W.rdV, W.rdO, W.ldO, backO, mutO, setO, isOL, isOM, isOD, sdO, Mm.sd, readS, lendS, binI, cmpI, List.isEmpty, meOk, mxOk, Mm.sup, mkTup, ims, E.pure, Es.pure, Eo.pure, E.src, Wk.src, bindT, bindTs, Kh.clear, lockAll, Kh.settle, settleGo, Slot.isOwnMut, Slot.imOf, Slot.borOf, giveBack, Out.nx, Ss.stores, Kh.S.stores, Tg.slots, Tgs.slots, Es.len, vOk, clearV, runH, evalH, imAt, V.add_ii, V.sub_ii, V.add_tt, V.add_ll, V.mul_li, V.mul_si, V.eq_ss, V.ne_ss, V.eq_ii, V.ne_ii, V.eq_ll, V.ne_ll, V.isN_n, V.notN_n, V.isN_b, V.notN_b, V.isN_i, V.notN_i, V.isN_s, V.notN_s, V.isN_t, V.notN_t, V.is_bb, V.not_bb, V.eq_bb, V.ne_bb, V.lt_ii, V.le_ii, V.gt_ii, V.ge_ii, V.ix_t, V.ix_T, V.ix_l, V.ix_s, V.ix_d, V.ix_x, V.ixV_l, V.ixV_t, V.at_0, V.at_1, V.at_2, V.at_3, V.at_4, V.at_5, V.at_m1, V.at_m2, V.at_m3, V.at_m4, V.sl_t, V.sl_l, V.len_t, V.len_T, V.len_l, V.len_s, V.len_d, V.tuple_t, V.tuple_l, V.list_t, V.list_l, V.list_s, V.int_i, V.int_s, V.abs_i, V.min_ii, V.max_ii, V.sum_l, V.any_l, V.all_l, V.min_l, V.max_l, V.str_i, V.sorted_l, V.sorted_t, V.sorted_d, V.get_d, V.app, V.ext, V.pop0, V.pop1, V.ins, V.set_l, V.set_d, V.wk_t, V.wk_l, V.wk_s, V.wk_x, V.wkr_t, V.wkr_l, V.rev_l, V.rev_t, V.it_t, V.it_l, V.en_t, V.en_l, V.en_x, V.zp_t, V.zp_l, V.need_f, V.need_i, V.asI, V.asB, V.asIm, V.lift_s, V.lift_n, V.keep_i, V.keep_f, V.keep_l, V.keep_T, V.keep_d, V.im_i, V.im_l, V.im_T, V.im_d, V.im_s, V.mx_index, V.mx_count, V.mx_counts, V.mx_join, V.mx_split, V.isin_s, V.isin_t, V.isin_i, V.gcd_ii, V.eqI_ii, V.big_, V.op_ii, slD_tx, len_tx, add_tx, S_eq, atI_map, cutL_take, cutL_drop, cutL_mid, cutL_last, ims_some, ims_int, intsOf_int, boolsOf_bl, -List.map_map]
      have e : dedS acc x = acc := if_pos m
      simp only [nStp, e]
      exact ⟨⟨trivial, by simp⟩, by omega, by simp; omega⟩
    · have h1 : lkup (.int x) (dk acc) = some none := by rw [lkup_dk, if_neg m]
      have h3 : lkup (.int x) (dk (acc ++ [x])) = some (some (.im (.int (nameIn (acc ++ [x]) x)))) := by rw [lkup_dk, if_pos (by simp)]
      have h0 : cmpD .nin (.im (.int x)) (.dct false (dk acc)) = some true := by
        simp only [cmpD, key_i, if_true, h1, Option.map_some]
        rfl
      have h2 := dput_dk m
      simp -dsimp [s_l_named_1, dk_len, hk, hk2, ht, h0, h1, h2, h3, key_i, ↓WP_ok, ↓WP_exc, ↓WP_bad, ↓WP_bind, ↓WP_cons, ↓WP_nil, ↓WP_callF, ↓WP_callE, ↓WP_clr, ↓WP_try, ↓WP_range1, ↓WP_range2, ↓WP_mutA, ↓WP_mutE, ↓WP_mutP, ↓WP_mutI, ↓WP_sd, ↓WP_setix, ↓SeqK_nx, ↓SeqK_rt, ↓SeqK_bk, ↓SeqK_ct, ↓ClrK_nx, ↓ClrK_rt, ↓ClrK_bk, ↓ClrK_ct, ↓SemK_rt, ↓SemK_nx, ↓ForK_nx, ↓ForK_ct, ↓ForK_bk, ↓ForK_rt, ↓W.s_ifs, ↓W.e_varF, ↓W.e_varT, ↓W.a_var, ↓W.still_im, ↓W.still_b, ↓W.e_cst, ↓W.e_glob, ↓W.e_tup, ↓W.e_lst, ↓W.e_dnew, ↓W.e_bin, ↓W.e_neg, ↓W.e_not, ↓W.e_cmp, ↓W.e_chain, ↓W.e_one, ↓W.e_and, ↓W.e_or, ↓W.e_ite, ↓W.e_ix, ↓W.e_sl, ↓W.e_ixv, ↓W.e_slv, ↓W.e_rev, ↓W.e_lrange, ↓W.e_disp, ↓W.e_dispD, ↓W.e_gcd, ↓W.e_isin, ↓W.e_bi1, ↓W.e_bi2, ↓W.e_get, ↓W.e_index, ↓W.e_count, ↓W.e_join, ↓W.e_split, ↓W.es_nil, ↓W.es_cons, ↓W.bs_nil, ↓W.bs_cons, ↓W.as_nil, ↓W.as_cons, ↓W.o_no, ↓W.o_so, ↓W.c_no, ↓W.c_so, ↓W.t_not, ↓W.t_one, ↓W.t_and, ↓W.t_or, ↓W.t_cmp, ↓W.t_chain, ↓W.t_var, ↓W.t_cst, ↓W.t_call, ↓W.t_ixv, ↓W.t_me, ↓W.t_ix, ↓W.t_bi, ↓W.t_isin, ↓W.t_gin, ↓W.w_it, ↓W.w_rev, ↓W.w_enum, ↓W.w_zip, ↓W.s_setv, ↓W.s_asg, ↓W.s_unp, ↓W.s_par, ↓W.s_ret, ↓W.s_retN, ↓W.s_expr, ↓W.s_doc, ↓W.s_pass, ↓W.s_brk, ↓W.s_cont, ↓W.s_raise, ↓W.s_swap, ↓W.a_cst, ↓W.a_glob, ↓W.a_tup, ↓W.a_lst, ↓W.a_bin, ↓W.a_neg, ↓W.a_ite, ↓W.a_ix, ↓W.a_sl, ↓W.a_rev, ↓W.a_ixv, ↓W.a_slv, ↓W.a_lrange, ↓W.a_disp, ↓W.a_dispD, ↓W.a_gix, ↓W.a_gcd, ↓W.a_isin, ↓W.a_call, ↓W.a_bi, ↓W.a_me, ↓W.a_cmp, ↓W.a_mut, ↓W.a_lc, ↓W.a_and, ↓W.a_or, ↓W.a_not, ↓W.a_one, ↓W.a_chain, ↓W.a_dnew, WP_ok, WP_exc, WP_bad, WP_bind, WP_ifbad, WP_ite, WP_lift, WP_liftN, WP_liftI, WP_callT, W.rdV, W.rdO, W.ldO, backO, mutO, setO, isOL, isOM, isOD, sdO, Mm.sd, readS, lendS, binI, cmpI, List.isEmpty, meOk, mxOk, Mm.sup, mkTup, ims, E.pure, Es.pure, Eo.pure, E.src, Wk.src, bindT, bindTs, Kh.clear, lockAll, Kh.settle, settleGo, Slot.isOwnMut, Slot.imOf, Slot.borOf, giveBack, Out.nx, Ss.stores, Kh.S.stores, Tg.slots, Tgs.slots, Es.len, vOk, clearV, runH, evalH, imAt, V.add_ii, V.sub_ii, V.add_tt, V.add_ll, V.mul_li, V.mul_si, V.eq_ss, V.ne_ss, V.eq_ii, V.ne_ii, V.eq_ll, V.ne_ll, V.isN_n, V.notN_n, V.isN_b, V.notN_b, V.isN_i, V.notN_i, V.isN_s, V.notN_s, V.isN_t, V.notN_t, V.is_bb, V.not_bb, V.eq_bb, V.ne_bb, V.lt_ii, V.le_ii, V.gt_ii, V.ge_ii, V.ix_t, V.ix_T, V.ix_l, V.ix_s, V.ix_d, V.ix_x, V.ixV_l, V.ixV_t, V.at_0, V.at_1, V.at_2, V.at_3, V.at_4, V.at_5, V.at_m1, V.at_m2, V.at_m3, V.at_m4, V.sl_t, V.sl_l, V.len_t, V.len_T, V.len_l, V.len_s, V.len_d, V.tuple_t, V.tuple_l, V.list_t, V.list_l, V.list_s, V.int_i, V.int_s, V.abs_i, V.min_ii, V.max_ii, V.sum_l, V.any_l, V.all_l, V.min_l, V.max_l, V.str_i, V.sorted_l, V.sorted_t, V.sorted_d, V.get_d, V.app, V.ext, V.pop0, V.pop1, V.ins, V.set_l, V.set_d, V.wk_t, V.wk_l, V.wk_s, V.wk_x, V.wkr_t, V.wkr_l, V.rev_l, V.rev_t, V.it_t, V.it_l, V.en_t, V.en_l, V.en_x, V.zp_t, V.zp_l, V.need_f, V.need_i, V.asI, V.asB, V.asIm, V.lift_s, V.lift_n, V.keep_i, V.keep_f, V.keep_l, V.keep_T, V.keep_d, V.im_i, V.im_l, V.im_T, V.im_d, V.im_s, V.mx_index, V.mx_count, V.mx_counts, V.mx_join, V.mx_split, V.isin_s, V.isin_t, V.isin_i, V.gcd_ii, V.eqI_ii, V.big_, V.op_ii, slD_tx, len_tx, add_tx, S_eq, atI_map, cutL_take, cutL_drop, cutL_mid, cutL_last, ims_some, ims_int, intsOf_int, boolsOf_bl, -List.map_map]
      have e : dedS acc x = acc ++ [x] := if_neg m
      simp only [nStp, e]
      exact ⟨⟨trivial, by simp⟩, by simp; omega, by simp; omega⟩
  · rw [nStp_ok]
    simp -dsimp [t_l_named_3, t_l_named_4, s_l_named_1, z_l_named, named, ↓WP_ok, ↓WP_exc, ↓WP_bad, ↓WP_bind, ↓WP_cons, ↓WP_nil, ↓WP_callF, ↓WP_callE, ↓WP_clr, ↓WP_try, ↓WP_range1, ↓WP_range2, ↓WP_mutA, ↓WP_mutE, ↓WP_mutP, ↓WP_mutI, ↓WP_sd, ↓WP_setix, ↓SeqK_nx, ↓SeqK_rt, ↓SeqK_bk, ↓SeqK_ct, ↓ClrK_nx, ↓ClrK_rt, ↓ClrK_bk, ↓ClrK_ct, ↓SemK_rt, ↓SemK_nx, ↓ForK_nx, ↓ForK_ct, ↓ForK_bk, ↓ForK_rt, ↓W.s_ifs, ↓W.e_varF, ↓W.e_varT, ↓W.a_var, ↓W.still_im, ↓W.still_b, ↓W.e_cst, ↓W.e_glob, ↓W.e_tup, ↓W.e_lst, ↓W.e_dnew, ↓W.e_bin, ↓W.e_neg, ↓W.e_not, ↓W.e_cmp, ↓W.e_chain, ↓W.e_one, ↓W.e_and, ↓W.e_or, ↓W.e_ite, ↓W.e_ix, ↓W.e_sl, ↓W.e_ixv, ↓W.e_slv, ↓W.e_rev, ↓W.e_lrange, ↓W.e_disp, ↓W.e_dispD, ↓W.e_gcd, ↓W.e_isin, ↓W.e_bi1, ↓W.e_bi2, ↓W.e_get, ↓W.e_index, ↓W.e_count, ↓W.e_join, ↓W.e_split, ↓W.es_nil, ↓W.es_cons, ↓W.bs_nil, ↓W.bs_cons, ↓W.as_nil, ↓W.as_cons, ↓W.o_no, ↓W.o_so, ↓W.c_no, ↓W.c_so, ↓W.t_not, ↓W.t_one, ↓W.t_and, ↓W.t_or, ↓W.t_cmp, ↓W.t_chain, ↓W.t_var, ↓W.t_cst, ↓W.t_call, ↓W.t_ixv, ↓W.t_me, ↓W.t_ix, ↓W.t_bi, ↓W.t_isin, ↓W.t_gin, ↓W.w_it, ↓W.w_rev, ↓W.w_enum, ↓W.w_zip, ↓W.s_setv, ↓W.s_asg, ↓W.s_unp, ↓W.s_par, ↓W.s_ret, ↓W.s_retN, ↓W.s_expr, ↓W.s_doc, ↓W.s_pass, ↓W.s_brk, ↓W.s_cont, ↓W.s_raise, ↓W.s_swap, ↓W.a_cst, ↓W.a_glob, ↓W.a_tup, ↓W.a_lst, ↓W.a_bin, ↓W.a_neg, ↓W.a_ite, ↓W.a_ix, ↓W.a_sl, ↓W.a_rev, ↓W.a_ixv, ↓W.a_slv, ↓W.a_lrange, ↓W.a_disp, ↓W.a_dispD, ↓W.a_gix, ↓W.a_gcd, ↓W.a_isin, ↓W.a_call, ↓W.a_bi, ↓W.a_me, ↓W.a_cmp, ↓W.a_mut, ↓W.a_lc, ↓W.a_and, ↓W.a_or, ↓W.a_not, ↓W.a_one, ↓W.a_chain, ↓W.a_dnew, WP_ok, WP_exc, WP_bad, WP_bind, WP_ifbad, WP_ite, WP_lift, WP_liftN, WP_liftI, WP_callT, W.rdV, W.rdO, W.ldO, backO, mutO, setO, isOL, isOM, isOD, sdO, Mm.sd, readS, lendS, binI, cmpI, List.isEmpty, meOk, mxOk, Mm.sup, mkTup, ims, E.pure, Es.pure, Eo.pure, E.src, Wk.src, bindT, bindTs, Kh.clear, lockAll, Kh.settle, settleGo, Slot.isOwnMut, Slot.imOf, Slot.borOf, giveBack, Out.nx, Ss.stores, Kh.S.stores, Tg.slots, Tgs.slots, Es.len, vOk, clearV, runH, evalH, imAt, V.add_ii, V.sub_ii, V.add_tt, V.add_ll, V.mul_li, V.mul_si, V.eq_ss, V.ne_ss, V.eq_ii, V.ne_ii, V.eq_ll, V.ne_ll, V.isN_n, V.notN_n, V.isN_b, V.notN_b, V.isN_i, V.notN_i, V.isN_s, V.notN_s, V.isN_t, V.notN_t, V.is_bb, V.not_bb, V.eq_bb, V.ne_bb, V.lt_ii, V.le_ii, V.gt_ii, V.ge_ii, V.ix_t, V.ix_T, V.ix_l, V.ix_s, V.ix_d, V.ix_x, V.ixV_l, V.ixV_t, V.at_0, V.at_1, V.at_2, V.at_3, V.at_4, V.at_5, V.at_m1, V.at_m2, V.at_m3, V.at_m4, V.sl_t, V.sl_l, V.len_t, V.len_T, V.len_l, V.len_s, V.len_d, V.tuple_t, V.tuple_l, V.list_t, V.list_l, V.list_s, V.int_i, V.int_s, V.abs_i, V.min_ii, V.max_ii, V.sum_l, V.any_l, V.all_l, V.min_l, V.max_l, V.str_i, V.sorted_l, V.sorted_t, V.sorted_d, V.get_d, V.app, V.ext, V.pop0, V.pop1, V.ins, V.set_l, V.set_d, V.wk_t, V.wk_l, V.wk_s, V.wk_x, V.wkr_t, V.wkr_l, V.rev_l, V.rev_t, V.it_t, V.it_l, V.en_t, V.en_l, V.en_x, V.zp_t, V.zp_l, V.need_f, V.need_i, V.asI, V.asB, V.asIm, V.lift_s, V.lift_n, V.keep_i, V.keep_f, V.keep_l, V.keep_T, V.keep_d, V.im_i, V.im_l, V.im_T, V.im_d, V.im_s, V.mx_index, V.mx_count, V.mx_counts, V.mx_join, V.mx_split, V.isin_s, V.isin_t, V.isin_i, V.gcd_ii, V.eqI_ii, V.big_, V.op_ii, slD_tx, len_tx, add_tx, S_eq, atI_map, cutL_take, cutL_drop, cutL_mid, cutL_last, ims_some, ims_int, intsOf_int, boolsOf_bl, -List.map_map]
    rfl
theorem fn_renamed {k : Nat} : (tab (k + 1)).fn (Str.ofString "renamed") = some (f_renamed.sem (tab k)) := rfl
theorem fn_named {k : Nat} : (tab (k + 1)).fn (Str.ofString "_law_named") = some (f_l_named.sem (tab k)) := rfl
theorem cut0 {α : Type} (w : List α) (n : Nat) : cutL w (some (n : Int)) none ++ cutL w none (some (n : Int)) = w.drop n ++ w.take n := by rw [cutL_drop, cutL_take]
theorem rot_map (w : List Int) (n : Nat) : (w.map I.int).drop n ++ (w.map I.int).take n = (rotN n w).map I.int := by
  unfold rotN
  rw [List.map_append, List.map_drop, List.map_take]
abbrev lT (l : List (List Int)) : D := .lst (l.map fun a => .im (tI a))
theorem fold_app {α β : Type} (g : α → List β) : ∀ (l : List α) (u : List β), l.foldl (fun a i => a ++ g i) u = u ++ l.flatMap g
  | [], u => by simp
  | x :: l, u => by rw [List.foldl_cons, fold_app g l, List.flatMap_cons, List.append_assoc]
theorem all_ok {j : Nat} {w : List Int} (hl : w.length ≤ 30) : f_l_all.sem (tab (j + 1)) [oT w] = .ok (lT (allL w)) [oT w] := by
  refine WP.eq (WP_sem rfl ?_)
  have h1 : w.length ≤ 1000000 := by omega
  simp -dsimp [f_l_all, h1, ↓WP_ok, ↓WP_exc, ↓WP_bad, ↓WP_bind, ↓WP_cons, ↓WP_nil, ↓WP_callF, ↓WP_callE, ↓WP_clr, ↓WP_try, ↓WP_range1, ↓WP_range2, ↓WP_mutA, ↓WP_mutE, ↓WP_mutP, ↓WP_mutI, ↓WP_sd, ↓WP_setix, ↓SeqK_nx, ↓SeqK_rt, ↓SeqK_bk, ↓SeqK_ct, ↓ClrK_nx, ↓ClrK_rt, ↓ClrK_bk, ↓ClrK_ct, ↓SemK_rt, ↓SemK_nx, ↓ForK_nx, ↓ForK_ct, ↓ForK_bk, ↓ForK_rt, ↓W.s_ifs, ↓W.e_varF, ↓W.e_varT, ↓W.a_var, ↓W.still_im, ↓W.still_b, ↓W.e_cst, ↓W.e_glob, ↓W.e_tup, ↓W.e_lst, ↓W.e_dnew, ↓W.e_bin, ↓W.e_neg, ↓W.e_not, ↓W.e_cmp, ↓W.e_chain, ↓W.e_one, ↓W.e_and, ↓W.e_or, ↓W.e_ite, ↓W.e_ix, ↓W.e_sl, ↓W.e_ixv, ↓W.e_slv, ↓W.e_rev, ↓W.e_lrange, ↓W.e_disp, ↓W.e_dispD, ↓W.e_gcd, ↓W.e_isin, ↓W.e_bi1, ↓W.e_bi2, ↓W.e_get, ↓W.e_index, ↓W.e_count, ↓W.e_join, ↓W.e_split, ↓W.es_nil, ↓W.es_cons, ↓W.bs_nil, ↓W.bs_cons, ↓W.as_nil, ↓W.as_cons, ↓W.o_no, ↓W.o_so, ↓W.c_no, ↓W.c_so, ↓W.t_not, ↓W.t_one, ↓W.t_and, ↓W.t_or, ↓W.t_cmp, ↓W.t_chain, ↓W.t_var, ↓W.t_cst, ↓W.t_call, ↓W.t_ixv, ↓W.t_me, ↓W.t_ix, ↓W.t_bi, ↓W.t_isin, ↓W.t_gin, ↓W.w_it, ↓W.w_rev, ↓W.w_enum, ↓W.w_zip, ↓W.s_setv, ↓W.s_asg, ↓W.s_unp, ↓W.s_par, ↓W.s_ret, ↓W.s_retN, ↓W.s_expr, ↓W.s_doc, ↓W.s_pass, ↓W.s_brk, ↓W.s_cont, ↓W.s_raise, ↓W.s_swap, ↓W.a_cst, ↓W.a_glob, ↓W.a_tup, ↓W.a_lst, ↓W.a_bin, ↓W.a_neg, ↓W.a_ite, ↓W.a_ix, ↓W.a_sl, ↓W.a_rev, ↓W.a_ixv, ↓W.a_slv, ↓W.a_lrange, ↓W.a_disp, ↓W.a_dispD, ↓W.a_gix, ↓W.a_gcd, ↓W.a_isin, ↓W.a_call, ↓W.a_bi, ↓W.a_me, ↓W.a_cmp, ↓W.a_mut, ↓W.a_lc, ↓W.a_and, ↓W.a_or, ↓W.a_not, ↓W.a_one, ↓W.a_chain, ↓W.a_dnew, WP_ok, WP_exc, WP_bad, WP_bind, WP_ifbad, WP_ite, WP_lift, WP_liftN, WP_liftI, WP_callT, W.rdV, W.rdO, W.ldO, backO, mutO, setO, isOL, isOM, isOD, sdO, Mm.sd, readS, lendS, binI, cmpI, List.isEmpty, meOk, mxOk, Mm.sup, mkTup, ims, E.pure, Es.pure, Eo.pure, E.src, Wk.src, bindT, bindTs, Kh.clear, lockAll, Kh.settle, settleGo, Slot.isOwnMut, Slot.imOf, Slot.borOf, giveBack, Out.nx, Ss.stores, Kh.S.stores, Tg.slots, Tgs.slots, Es.len, vOk, clearV, runH, evalH, imAt, V.add_ii, V.sub_ii, V.add_tt, V.add_ll, V.mul_li, V.mul_si, V.eq_ss, V.ne_ss, V.eq_ii, V.ne_ii, V.eq_ll, V.ne_ll, V.isN_n, V.notN_n, V.isN_b, V.notN_b, V.isN_i, V.notN_i, V.isN_s, V.notN_s, V.isN_t, V.notN_t, V.is_bb, V.not_bb, V.eq_bb, V.ne_bb, V.lt_ii, V.le_ii, V.gt_ii, V.ge_ii, V.ix_t, V.ix_T, V.ix_l, V.ix_s, V.ix_d, V.ix_x, V.ixV_l, V.ixV_t, V.at_0, V.at_1, V.at_2, V.at_3, V.at_4, V.at_5, V.at_m1, V.at_m2, V.at_m3, V.at_m4, V.sl_t, V.sl_l, V.len_t, V.len_T, V.len_l, V.len_s, V.len_d, V.tuple_t, V.tuple_l, V.list_t, V.list_l, V.list_s, V.int_i, V.int_s, V.abs_i, V.min_ii, V.max_ii, V.sum_l, V.any_l, V.all_l, V.min_l, V.max_l, V.str_i, V.sorted_l, V.sorted_t, V.sorted_d, V.get_d, V.app, V.ext, V.pop0, V.pop1, V.ins, V.set_l, V.set_d, V.wk_t, V.wk_l, V.wk_s, V.wk_x, V.wkr_t, V.wkr_l, V.rev_l, V.rev_t, V.it_t, V.it_l, V.en_t, V.en_l, V.en_x, V.zp_t, V.zp_l, V.need_f, V.need_i, V.asI, V.asB, V.asIm, V.lift_s, V.lift_n, V.keep_i, V.keep_f, V.keep_l, V.keep_T, V.keep_d, V.im_i, V.im_l, V.im_T, V.im_d, V.im_s, V.mx_index, V.mx_count, V.mx_counts, V.mx_join, V.mx_split, V.isin_s, V.isin_t, V.isin_i, V.gcd_ii, V.eqI_ii, V.big_, V.op_ii, slD_tx, len_tx, add_tx, S_eq, atI_map, cutL_take, cutL_drop, cutL_mid, cutL_last, ims_some, ims_int, intsOf_int, boolsOf_bl, -List.map_map]
  have key : ∀ l0 : List (List Int), (allL w = l0 ++ (List.range w.length).flatMap fun i => [named (rotN i w), named (rotN i w).reverse]) → l0.length ≤ 1 → WP (exec (tab (j + 1)) s_l_all_2 [oT w, .own (lT l0), .no, .no]) (fun f e => f = .nx ∧ e = [oT w, .own (lT (allL w)), .no, .no]) noX := by
    intro l0 hall h0
    unfold s_l_all_2
    refine WP_forF (enc := fun (i : Nat) => int (i : Int)) (E := fun l => [oT w, .own (lT l), .no, .no]) (fun l i => l ++ [named (rotN i w), named (rotN i w).reverse]) (fun r l => l.length + 2 * r.length ≤ 61) (List.range w.length) l0 [oT w, .own (lT l0), .no, .no] ?_ ?_ (by simp; omega) (fun i r l hi => ?_) fun _ => ?_
    · simp -dsimp [h1, ↓WP_ok, ↓WP_exc, ↓WP_bad, ↓WP_bind, ↓WP_cons, ↓WP_nil, ↓WP_callF, ↓WP_callE, ↓WP_clr, ↓WP_try, ↓WP_range1, ↓WP_range2, ↓WP_mutA, ↓WP_mutE, ↓WP_mutP, ↓WP_mutI, ↓WP_sd, ↓WP_setix, ↓SeqK_nx, ↓SeqK_rt, ↓SeqK_bk, ↓SeqK_ct, ↓ClrK_nx, ↓ClrK_rt, ↓ClrK_bk, ↓ClrK_ct, ↓SemK_rt, ↓SemK_nx, ↓ForK_nx, ↓ForK_ct, ↓ForK_bk, ↓ForK_rt, ↓W.s_ifs, ↓W.e_varF, ↓W.e_varT, ↓W.a_var, ↓W.still_im, ↓W.still_b, ↓W.e_cst, ↓W.e_glob, ↓W.e_tup, ↓W.e_lst, ↓W.e_dnew, ↓W.e_bin, ↓W.e_neg, ↓W.e_not, ↓W.e_cmp, ↓W.e_chain, ↓W.e_one, ↓W.e_and, ↓W.e_or, ↓W.e_ite, ↓W.e_ix, ↓W.e_sl, ↓W.e_ixv, ↓W.e_slv, ↓W.e_rev, ↓W.e_lrange, ↓W.e_disp, ↓W.e_dispD, ↓W.e_gcd, ↓W.e_isin, ↓W.e_bi1, ↓W.e_bi2, ↓W.e_get, ↓W.e_index, ↓W.e_count, ↓W.e_join, ↓W.e_split, ↓W.es_nil, ↓W.es_cons, ↓W.bs_nil, ↓W.bs_cons, ↓W.as_nil, ↓W.as_cons, ↓W.o_no, ↓W.o_so, ↓W.c_no, ↓W.c_so, ↓W.t_not, ↓W.t_one, ↓W.t_and, ↓W.t_or, ↓W.t_cmp, ↓W.t_chain, ↓W.t_var, ↓W.t_cst, ↓W.t_call, ↓W.t_ixv, ↓W.t_me, ↓W.t_ix, ↓W.t_bi, ↓W.t_isin, ↓W.t_gin, ↓W.w_it, ↓W.w_rev, ↓W.w_enum, ↓W.w_zip, ↓W.s_setv, ↓W.s_asg, ↓W.s_unp, ↓W.s_par, ↓W.s_ret, ↓W.s_retN, ↓W.s_expr, ↓W.s_doc, ↓W.s_pass, ↓W.s_brk, ↓W.s_cont, ↓W.s_raise, ↓W.s_swap, ↓W.a_cst, ↓W.a_glob, ↓W.a_tup, ↓W.a_lst, ↓W.a_bin, ↓W.a_neg, ↓W.a_ite, ↓W.a_ix, ↓W.a_sl, ↓W.a_rev, ↓W.a_ixv, ↓W.a_slv, ↓W.a_lrange, ↓W.a_disp, ↓W.a_dispD, ↓W.a_gix, ↓W.a_gcd, ↓W.a_isin, ↓W.a_call, ↓W.a_bi, ↓W.a_me, ↓W.a_cmp, ↓W.a_mut, ↓W.a_lc, ↓W.a_and, ↓W.a_or, ↓W.a_not, ↓W.a_one, ↓W.a_chain, ↓W.a_dnew, WP_ok, WP_exc, WP_bad, WP_bind, WP_ifbad, WP_ite, WP_lift, WP_liftN, WP_liftI, WP_callT, W.rdV, W.rdO, W.ldO, backO, mutO, setO, isOL, isOM, isOD, sdO, Mm.sd, readS, lendS, binI, cmpI, List.isEmpty, meOk, mxOk, Mm.sup, mkTup, ims, E.pure, Es.pure, Eo.pure, E.src, Wk.src, bindT, bindTs, Kh.clear, lockAll, Kh.settle, settleGo, Slot.isOwnMut, Slot.imOf, Slot.borOf, giveBack, Out.nx, Ss.stores, Kh.S.stores, Tg.slots, Tgs.slots, Es.len, vOk, clearV, runH, evalH, imAt, V.add_ii, V.sub_ii, V.add_tt, V.add_ll, V.mul_li, V.mul_si, V.eq_ss, V.ne_ss, V.eq_ii, V.ne_ii, V.eq_ll, V.ne_ll, V.isN_n, V.notN_n, V.isN_b, V.notN_b, V.isN_i, V.notN_i, V.isN_s, V.notN_s, V.isN_t, V.notN_t, V.is_bb, V.not_bb, V.eq_bb, V.ne_bb, V.lt_ii, V.le_ii, V.gt_ii, V.ge_ii, V.ix_t, V.ix_T, V.ix_l, V.ix_s, V.ix_d, V.ix_x, V.ixV_l, V.ixV_t, V.at_0, V.at_1, V.at_2, V.at_3, V.at_4, V.at_5, V.at_m1, V.at_m2, V.at_m3, V.at_m4, V.sl_t, V.sl_l, V.len_t, V.len_T, V.len_l, V.len_s, V.len_d, V.tuple_t, V.tuple_l, V.list_t, V.list_l, V.list_s, V.int_i, V.int_s, V.abs_i, V.min_ii, V.max_ii, V.sum_l, V.any_l, V.all_l, V.min_l, V.max_l, V.str_i, V.sorted_l, V.sorted_t, V.sorted_d, V.get_d, V.app, V.ext, V.pop0, V.pop1, V.ins, V.set_l, V.set_d, V.wk_t, V.wk_l, V.wk_s, V.wk_x, V.wkr_t, V.wkr_l, V.rev_l, V.rev_t, V.it_t, V.it_l, V.en_t, V.en_l, V.en_x, V.zp_t, V.zp_l, V.need_f, V.need_i, V.asI, V.asB, V.asIm, V.lift_s, V.lift_n, V.keep_i, V.keep_f, V.keep_l, V.keep_T, V.keep_d, V.im_i, V.im_l, V.im_T, V.im_d, V.im_s, V.mx_index, V.mx_count, V.mx_counts, V.mx_join, V.mx_split, V.isin_s, V.isin_t, V.isin_i, V.gcd_ii, V.eqI_ii, V.big_, V.op_ii, slD_tx, len_tx, add_tx, S_eq, atI_map, cutL_take, cutL_drop, cutL_mid, cutL_last, ims_some, ims_int, intsOf_int, boolsOf_bl, -List.map_map]
      exact rg_wp rfl (by omega) ⟨rfl, rfl⟩
    · simp [Ro.b_ok, Ro.b_exc, Ro.b_bad, Ro.a_var, Ro.e_var, Ro.e_cst, Ro.e_glob, Ro.e_tup, Ro.e_lst, Ro.e_dnew, Ro.e_bin, Ro.e_neg, Ro.e_not, Ro.e_cmp, Ro.e_chain, Ro.e_one, Ro.e_and, Ro.e_or, Ro.e_ite, Ro.e_ix, Ro.e_sl, Ro.e_ixv, Ro.e_slv, Ro.e_rev, Ro.e_lrange, Ro.e_disp, Ro.e_dispD, Ro.e_gin, Ro.e_gix, Ro.e_gcd, Ro.e_isin, Ro.e_call, Ro.e_bi1, Ro.e_bi2, Ro.e_get, Ro.e_index, Ro.e_count, Ro.e_join, Ro.e_split, Ro.e_mut, Ro.a_cst, Ro.a_glob, Ro.a_tup, Ro.a_lst, Ro.a_bin, Ro.a_neg, Ro.a_ite, Ro.a_ix, Ro.a_sl, Ro.a_rev, Ro.a_ixv, Ro.a_slv, Ro.a_lrange, Ro.a_disp, Ro.a_dispD, Ro.a_gix, Ro.a_gcd, Ro.a_isin, Ro.a_call, Ro.a_bi, Ro.a_me, Ro.a_cmp, Ro.a_mut, Ro.a_lc, Ro.a_and, Ro.a_or, Ro.a_not, Ro.a_one, Ro.a_chain, Ro.a_dnew, Ro.es_nil, Ro.es_cons, Ro.bs_nil, Ro.bs_cons, Ro.as_nil, Ro.as_cons, Ro.o_no, Ro.o_so, Ro.c_no, Ro.c_so, Ro.t_not, Ro.t_one, Ro.t_and, Ro.t_or, Ro.t_cmp, Ro.t_chain, Ro.t_var, Ro.t_cst, Ro.t_call, Ro.t_ixv, Ro.t_me, Ro.t_ix, Ro.t_bi, Ro.t_isin, Ro.t_gin, Ro.w_it, Ro.w_rev, Ro.w_enum, Ro.w_zip, Ro.w_range, Ro.s_setv, Ro.s_asg, Ro.s_unp, Ro.s_par, Ro.s_ret, Ro.s_retN, Ro.s_expr, Ro.s_doc, Ro.s_pass, Ro.s_brk, Ro.s_cont, Ro.s_ifs, Ro.s_raise, Ro.s_try, Ro.s_swap, Ro.s_setix, Ro.ss_nil, Ro.ss_cons, lift, readS, lendS, still, needIm, asInt, asBool, asIm, binD, binI, cmpD, cmpI, ixD, slD, ixV, List.isEmpty, revD, biD, meD, meOk, mxD, mxOk, mutD, Mm.sup, Mm.sd, sdO, setD, wkD, wkR, mkTup, ims, D.isIm, E.pure, Es.pure, Eo.pure, E.src, Wk.src, keepS, bindT, bindTs, Kh.clear, lockAll, Kh.settle, settleGo, Slot.isOwnMut, Slot.imOf, Slot.borOf, giveBack, callF, stepClear, settleF, Out.nx, Ss.stores, Kh.S.stores, Tg.slots, Tgs.slots, Es.len, itemsIm, enumD, zipD, vOk, clearV, runH, evalH, imAt, eqI]
    · refine WP_forT rfl ?_
      rw [List.length_cons] at hi
      have lr : (rotN i w).length ≤ 100 := by simp [rotN]; omega
      have n1 := named_ok (T := tab j) lr
      have n2 : f_l_named.sem (tab j) [.own (.im (.tup ((rotN i w).map I.int).reverse))] = .ok (.im (tI (named (rotN i w).reverse))) [.own (.im (.tup ((rotN i w).map I.int).reverse))] := by
        have := named_ok (T := tab j) (w := (rotN i w).reverse) (by simpa using lr)
        have e : ((rotN i w).map I.int).reverse = (rotN i w).reverse.map I.int := by simp
        rw [e]
        exact this
      have b0 : (rotN i w).length ≤ 1000000 := by omega
      have b1 : w.length - i + min i w.length ≤ 1000000 := by omega
      have b2 : l.length < 1000000 := by omega
      have b3 : l.length + 1 < 1000000 := by omega
      simp -dsimp [s_l_all_1, rot_map, fn_named, n1, n2, b0, b1, b2, b3, h1, ↓WP_ok, ↓WP_exc, ↓WP_bad, ↓WP_bind, ↓WP_cons, ↓WP_nil, ↓WP_callF, ↓WP_callE, ↓WP_clr, ↓WP_try, ↓WP_range1, ↓WP_range2, ↓WP_mutA, ↓WP_mutE, ↓WP_mutP, ↓WP_mutI, ↓WP_sd, ↓WP_setix, ↓SeqK_nx, ↓SeqK_rt, ↓SeqK_bk, ↓SeqK_ct, ↓ClrK_nx, ↓ClrK_rt, ↓ClrK_bk, ↓ClrK_ct, ↓SemK_rt, ↓SemK_nx, ↓ForK_nx, ↓ForK_ct, ↓ForK_bk, ↓ForK_rt, ↓W.s_ifs, ↓W.e_varF, ↓W.e_varT, ↓W.a_var, ↓W.still_im, ↓W.still_b, ↓W.e_cst, ↓W.e_glob, ↓W.e_tup, ↓W.e_lst, ↓W.e_dnew, ↓W.e_bin, ↓W.e_neg, ↓W.e_not, ↓W.e_cmp, ↓W.e_chain, ↓W.e_one, ↓W.e_and, ↓W.e_or, ↓W.e_ite, ↓W.e_ix, ↓W.e_sl, ↓W.e_ixv, ↓W.e_slv, ↓W.e_rev, ↓W.e_lrange, ↓W.e_disp, ↓W.e_dispD, ↓W.e_gcd, ↓W.e_isin, ↓W.e_bi1, ↓W.e_bi2, ↓W.e_get, ↓W.e_index, ↓W.e_count, ↓W.e_join, ↓W.e_split, ↓W.es_nil, ↓W.es_cons, ↓W.bs_nil, ↓W.bs_cons, ↓W.as_nil, ↓W.as_cons, ↓W.o_no, ↓W.o_so, ↓W.c_no, ↓W.c_so, ↓W.t_not, ↓W.t_one, ↓W.t_and, ↓W.t_or, ↓W.t_cmp, ↓W.t_chain, ↓W.t_var, ↓W.t_cst, ↓W.t_call, ↓W.t_ixv, ↓W.t_me, ↓W.t_ix, ↓W.t_bi, ↓W.t_isin, ↓W.t_gin, ↓W.w_it, ↓W.w_rev, ↓W.w_enum, ↓W.w_zip, ↓W.s_setv, ↓W.s_asg, ↓W.s_unp, ↓W.s_par, ↓W.s_ret, ↓W.s_retN, ↓W.s_expr, ↓W.s_doc, ↓W.s_pass, ↓W.s_brk, ↓W.s_cont, ↓W.s_raise, ↓W.s_swap, ↓W.a_cst, ↓W.a_glob, ↓W.a_tup, ↓W.a_lst, ↓W.a_bin, ↓W.a_neg, ↓W.a_ite, ↓W.a_ix, ↓W.a_sl, ↓W.a_rev, ↓W.a_ixv, ↓W.a_slv, ↓W.a_lrange, ↓W.a_disp, ↓W.a_dispD, ↓W.a_gix, ↓W.a_gcd, ↓W.a_isin, ↓W.a_call, ↓W.a_bi, ↓W.a_me, ↓W.a_cmp, ↓W.a_mut, ↓W.a_lc, ↓W.a_and, ↓W.a_or, ↓W.a_not, ↓W.a_one, ↓W.a_chain, ↓W.a_dnew, WP_ok, WP_exc, WP_bad, WP_bind, WP_ifbad, WP_ite, WP_lift, WP_liftN, WP_liftI, WP_callT, W.rdV, W.rdO, W.ldO, backO, mutO, setO, isOL, isOM, isOD, sdO, Mm.sd, readS, lendS, binI, cmpI, List.isEmpty, meOk, mxOk, Mm.sup, mkTup, ims, E.pure, Es.pure, Eo.pure, E.src, Wk.src, bindT, bindTs, Kh.clear, lockAll, Kh.settle, settleGo, Slot.isOwnMut, Slot.imOf, Slot.borOf, giveBack, Out.nx, Ss.stores, Kh.S.stores, Tg.slots, Tgs.slots, Es.len, vOk, clearV, runH, evalH, imAt, V.add_ii, V.sub_ii, V.add_tt, V.add_ll, V.mul_li, V.mul_si, V.eq_ss, V.ne_ss, V.eq_ii, V.ne_ii, V.eq_ll, V.ne_ll, V.isN_n, V.notN_n, V.isN_b, V.notN_b, V.isN_i, V.notN_i, V.isN_s, V.notN_s, V.isN_t, V.notN_t, V.is_bb, V.not_bb, V.eq_bb, V.ne_bb, V.lt_ii, V.le_ii, V.gt_ii, V.ge_ii, V.ix_t, V.ix_T, V.ix_l, V.ix_s, V.ix_d, V.ix_x, V.ixV_l, V.ixV_t, V.at_0, V.at_1, V.at_2, V.at_3, V.at_4, V.at_5, V.at_m1, V.at_m2, V.at_m3, V.at_m4, V.sl_t, V.sl_l, V.len_t, V.len_T, V.len_l, V.len_s, V.len_d, V.tuple_t, V.tuple_l, V.list_t, V.list_l, V.list_s, V.int_i, V.int_s, V.abs_i, V.min_ii, V.max_ii, V.sum_l, V.any_l, V.all_l, V.min_l, V.max_l, V.str_i, V.sorted_l, V.sorted_t, V.sorted_d, V.get_d, V.app, V.ext, V.pop0, V.pop1, V.ins, V.set_l, V.set_d, V.wk_t, V.wk_l, V.wk_s, V.wk_x, V.wkr_t, V.wkr_l, V.rev_l, V.rev_t, V.it_t, V.it_l, V.en_t, V.en_l, V.en_x, V.zp_t, V.zp_l, V.need_f, V.need_i, V.asI, V.asB, V.asIm, V.lift_s, V.lift_n, V.keep_i, V.keep_f, V.keep_l, V.keep_T, V.keep_d, V.im_i, V.im_l, V.im_T, V.im_d, V.im_s, V.mx_index, V.mx_count, V.mx_counts, V.mx_join, V.mx_split, V.isin_s, V.isin_t, V.isin_i, V.gcd_ii, V.eqI_ii, V.big_, V.op_ii, slD_tx, len_tx, add_tx, S_eq, atI_map, cutL_take, cutL_drop, cutL_mid, cutL_last, ims_some, ims_int, intsOf_int, boolsOf_bl, -List.map_map]
      omega
    · rw [fold_app, ← hall]
      simp -dsimp [s_l_all_1, ↓WP_ok, ↓WP_exc, ↓WP_bad, ↓WP_bind, ↓WP_cons, ↓WP_nil, ↓WP_callF, ↓WP_callE, ↓WP_clr, ↓WP_try, ↓WP_range1, ↓WP_range2, ↓WP_mutA, ↓WP_mutE, ↓WP_mutP, ↓WP_mutI, ↓WP_sd, ↓WP_setix, ↓SeqK_nx, ↓SeqK_rt, ↓SeqK_bk, ↓SeqK_ct, ↓ClrK_nx, ↓ClrK_rt, ↓ClrK_bk, ↓ClrK_ct, ↓SemK_rt, ↓SemK_nx, ↓ForK_nx, ↓ForK_ct, ↓ForK_bk, ↓ForK_rt, ↓W.s_ifs, ↓W.e_varF, ↓W.e_varT, ↓W.a_var, ↓W.still_im, ↓W.still_b, ↓W.e_cst, ↓W.e_glob, ↓W.e_tup, ↓W.e_lst, ↓W.e_dnew, ↓W.e_bin, ↓W.e_neg, ↓W.e_not, ↓W.e_cmp, ↓W.e_chain, ↓W.e_one, ↓W.e_and, ↓W.e_or, ↓W.e_ite, ↓W.e_ix, ↓W.e_sl, ↓W.e_ixv, ↓W.e_slv, ↓W.e_rev, ↓W.e_lrange, ↓W.e_disp, ↓W.e_dispD, ↓W.e_gcd, ↓W.e_isin, ↓W.e_bi1, ↓W.e_bi2, ↓W.e_get, ↓W.e_index, ↓W.e_count, ↓W.e_join, ↓W.e_split, ↓W.es_nil, ↓W.es_cons, ↓W.bs_nil, ↓W.bs_cons, ↓W.as_nil, ↓W.as_cons, ↓W.o_no, ↓W.o_so, ↓W.c_no, ↓W.c_so, ↓W.t_not, ↓W.t_one, ↓W.t_and, ↓W.t_or, ↓W.t_cmp, ↓W.t_chain, ↓W.t_var, ↓W.t_cst, ↓W.t_call, ↓W.t_ixv, ↓W.t_me, ↓W.t_ix, ↓W.t_bi, ↓W.t_isin, ↓W.t_gin, ↓W.w_it, ↓W.w_rev, ↓W.w_enum, ↓W.w_zip, ↓W.s_setv, ↓W.s_asg, ↓W.s_unp, ↓W.s_par, ↓W.s_ret, ↓W.s_retN, ↓W.s_expr, ↓W.s_doc, ↓W.s_pass, ↓W.s_brk, ↓W.s_cont, ↓W.s_raise, ↓W.s_swap, ↓W.a_cst, ↓W.a_glob, ↓W.a_tup, ↓W.a_lst, ↓W.a_bin, ↓W.a_neg, ↓W.a_ite, ↓W.a_ix, ↓W.a_sl, ↓W.a_rev, ↓W.a_ixv, ↓W.a_slv, ↓W.a_lrange, ↓W.a_disp, ↓W.a_dispD, ↓W.a_gix, ↓W.a_gcd, ↓W.a_isin, ↓W.a_call, ↓W.a_bi, ↓W.a_me, ↓W.a_cmp, ↓W.a_mut, ↓W.a_lc, ↓W.a_and, ↓W.a_or, ↓W.a_not, ↓W.a_one, ↓W.a_chain, ↓W.a_dnew, WP_ok, WP_exc, WP_bad, WP_bind, WP_ifbad, WP_ite, WP_lift, WP_liftN, WP_liftI, WP_callT, W.rdV, W.rdO, W.ldO, backO, mutO, setO, isOL, isOM, isOD, sdO, Mm.sd, readS, lendS, binI, cmpI, List.isEmpty, meOk, mxOk, Mm.sup, mkTup, ims, E.pure, Es.pure, Eo.pure, E.src, Wk.src, bindT, bindTs, Kh.clear, lockAll, Kh.settle, settleGo, Slot.isOwnMut, Slot.imOf, Slot.borOf, giveBack, Out.nx, Ss.stores, Kh.S.stores, Tg.slots, Tgs.slots, Es.len, vOk, clearV, runH, evalH, imAt, V.add_ii, V.sub_ii, V.add_tt, V.add_ll, V.mul_li, V.mul_si, V.eq_ss, V.ne_ss, V.eq_ii, V.ne_ii, V.eq_ll, V.ne_ll, V.isN_n, V.notN_n, V.isN_b, V.notN_b, V.isN_i, V.notN_i, V.isN_s, V.notN_s, V.isN_t, V.notN_t, V.is_bb, V.not_bb, V.eq_bb, V.ne_bb, V.lt_ii, V.le_ii, V.gt_ii, V.ge_ii, V.ix_t, V.ix_T, V.ix_l, V.ix_s, V.ix_d, V.ix_x, V.ixV_l, V.ixV_t, V.at_0, V.at_1, V.at_2, V.at_3, V.at_4, V.at_5, V.at_m1, V.at_m2, V.at_m3, V.at_m4, V.sl_t, V.sl_l, V.len_t, V.len_T, V.len_l, V.len_s, V.len_d, V.tuple_t, V.tuple_l, V.list_t, V.list_l, V.list_s, V.int_i, V.int_s, V.abs_i, V.min_ii, V.max_ii, V.sum_l, V.any_l, V.all_l, V.min_l, V.max_l, V.str_i, V.sorted_l, V.sorted_t, V.sorted_d, V.get_d, V.app, V.ext, V.pop0, V.pop1, V.ins, V.set_l, V.set_d, V.wk_t, V.wk_l, V.wk_s, V.wk_x, V.wkr_t, V.wkr_l, V.rev_l, V.rev_t, V.it_t, V.it_l, V.en_t, V.en_l, V.en_x, V.zp_t, V.zp_l, V.need_f, V.need_i, V.asI, V.asB, V.asIm, V.lift_s, V.lift_n, V.keep_i, V.keep_f, V.keep_l, V.keep_T, V.keep_d, V.im_i, V.im_l, V.im_T, V.im_d, V.im_s, V.mx_index, V.mx_count, V.mx_counts, V.mx_join, V.mx_split, V.isin_s, V.isin_t, V.isin_i, V.gcd_ii, V.eqI_ii, V.big_, V.op_ii, slD_tx, len_tx, add_tx, S_eq, atI_map, cutL_take, cutL_drop, cutL_mid, cutL_last, ims_some, ims_int, intsOf_int, boolsOf_bl, -List.map_map]
  refine ⟨fun h0 => ?_, fun h0 => ?_⟩
  · refine (key [[]] (by subst h0; rfl) (by simp)).to fun f e ⟨e1, e2⟩ => ?_
    subst e1 e2
    simp -dsimp [z_l_all, s_l_all_1, ↓WP_ok, ↓WP_exc, ↓WP_bad, ↓WP_bind, ↓WP_cons, ↓WP_nil, ↓WP_callF, ↓WP_callE, ↓WP_clr, ↓WP_try, ↓WP_range1, ↓WP_range2, ↓WP_mutA, ↓WP_mutE, ↓WP_mutP, ↓WP_mutI, ↓WP_sd, ↓WP_setix, ↓SeqK_nx, ↓SeqK_rt, ↓SeqK_bk, ↓SeqK_ct, ↓ClrK_nx, ↓ClrK_rt, ↓ClrK_bk, ↓ClrK_ct, ↓SemK_rt, ↓SemK_nx, ↓ForK_nx, ↓ForK_ct, ↓ForK_bk, ↓ForK_rt, ↓W.s_ifs, ↓W.e_varF, ↓W.e_varT, ↓W.a_var, ↓W.still_im, ↓W.still_b, ↓W.e_cst, ↓W.e_glob, ↓W.e_tup, ↓W.e_lst, ↓W.e_dnew, ↓W.e_bin, ↓W.e_neg, ↓W.e_not, ↓W.e_cmp, ↓W.e_chain, ↓W.e_one, ↓W.e_and, ↓W.e_or, ↓W.e_ite, ↓W.e_ix, ↓W.e_sl, ↓W.e_ixv, ↓W.e_slv, ↓W.e_rev, ↓W.e_lrange, ↓W.e_disp, ↓W.e_dispD, ↓W.e_gcd, ↓W.e_isin, ↓W.e_bi1, ↓W.e_bi2, ↓W.e_get, ↓W.e_index, ↓W.e_count, ↓W.e_join, ↓W.e_split, ↓W.es_nil, ↓W.es_cons, ↓W.bs_nil, ↓W.bs_cons, ↓W.as_nil, ↓W.as_cons, ↓W.o_no, ↓W.o_so, ↓W.c_no, ↓W.c_so, ↓W.t_not, ↓W.t_one, ↓W.t_and, ↓W.t_or, ↓W.t_cmp, ↓W.t_chain, ↓W.t_var, ↓W.t_cst, ↓W.t_call, ↓W.t_ixv, ↓W.t_me, ↓W.t_ix, ↓W.t_bi, ↓W.t_isin, ↓W.t_gin, ↓W.w_it, ↓W.w_rev, ↓W.w_enum, ↓W.w_zip, ↓W.s_setv, ↓W.s_asg, ↓W.s_unp, ↓W.s_par, ↓W.s_ret, ↓W.s_retN, ↓W.s_expr, ↓W.s_doc, ↓W.s_pass, ↓W.s_brk, ↓W.s_cont, ↓W.s_raise, ↓W.s_swap, ↓W.a_cst, ↓W.a_glob, ↓W.a_tup, ↓W.a_lst, ↓W.a_bin, ↓W.a_neg, ↓W.a_ite, ↓W.a_ix, ↓W.a_sl, ↓W.a_rev, ↓W.a_ixv, ↓W.a_slv, ↓W.a_lrange, ↓W.a_disp, ↓W.a_dispD, ↓W.a_gix, ↓W.a_gcd, ↓W.a_isin, ↓W.a_call, ↓W.a_bi, ↓W.a_me, ↓W.a_cmp, ↓W.a_mut, ↓W.a_lc, ↓W.a_and, ↓W.a_or, ↓W.a_not, ↓W.a_one, ↓W.a_chain, ↓W.a_dnew, WP_ok, WP_exc, WP_bad, WP_bind, WP_ifbad, WP_ite, WP_lift, WP_liftN, WP_liftI, WP_callT, W.rdV, W.rdO, W.ldO, backO, mutO, setO, isOL, isOM, isOD, sdO, Mm.sd, readS, lendS, binI, cmpI, List.isEmpty, meOk, mxOk, Mm.sup, mkTup, ims, E.pure, Es.pure, Eo.pure, E.src, Wk.src, bindT, bindTs, Kh.clear, lockAll, Kh.settle, settleGo, Slot.isOwnMut, Slot.imOf, Slot.borOf, giveBack, Out.nx, Ss.stores, Kh.S.stores, Tg.slots, Tgs.slots, Es.len, vOk, clearV, runH, evalH, imAt, V.add_ii, V.sub_ii, V.add_tt, V.add_ll, V.mul_li, V.mul_si, V.eq_ss, V.ne_ss, V.eq_ii, V.ne_ii, V.eq_ll, V.ne_ll, V.isN_n, V.notN_n, V.isN_b, V.notN_b, V.isN_i, V.notN_i, V.isN_s, V.notN_s, V.isN_t, V.notN_t, V.is_bb, V.not_bb, V.eq_bb, V.ne_bb, V.lt_ii, V.le_ii, V.gt_ii, V.ge_ii, V.ix_t, V.ix_T, V.ix_l, V.ix_s, V.ix_d, V.ix_x, V.ixV_l, V.ixV_t, V.at_0, V.at_1, V.at_2, V.at_3, V.at_4, V.at_5, V.at_m1, V.at_m2, V.at_m3, V.at_m4, V.sl_t, V.sl_l, V.len_t, V.len_T, V.len_l, V.len_s, V.len_d, V.tuple_t, V.tuple_l, V.list_t, V.list_l, V.list_s, V.int_i, V.int_s, V.abs_i, V.min_ii, V.max_ii, V.sum_l, V.any_l, V.all_l, V.min_l, V.max_l, V.str_i, V.sorted_l, V.sorted_t, V.sorted_d, V.get_d, V.app, V.ext, V.pop0, V.pop1, V.ins, V.set_l, V.set_d, V.wk_t, V.wk_l, V.wk_s, V.wk_x, V.wkr_t, V.wkr_l, V.rev_l, V.rev_t, V.it_t, V.it_l, V.en_t, V.en_l, V.en_x, V.zp_t, V.zp_l, V.need_f, V.need_i, V.asI, V.asB, V.asIm, V.lift_s, V.lift_n, V.keep_i, V.keep_f, V.keep_l, V.keep_T, V.keep_d, V.im_i, V.im_l, V.im_T, V.im_d, V.im_s, V.mx_index, V.mx_count, V.mx_counts, V.mx_join, V.mx_split, V.isin_s, V.isin_t, V.isin_i, V.gcd_ii, V.eqI_ii, V.big_, V.op_ii, slD_tx, len_tx, add_tx, S_eq, atI_map, cutL_take, cutL_drop, cutL_mid, cutL_last, ims_some, ims_int, intsOf_int, boolsOf_bl, -List.map_map]
  · refine (key [] (by unfold allL; rw [if_neg (fun z => h0 (List.length_eq_zero_iff.mp z))]) (by simp)).to fun f e ⟨e1, e2⟩ => ?_
    subst e1 e2
    simp -dsimp [z_l_all, s_l_all_1, ↓WP_ok, ↓WP_exc, ↓WP_bad, ↓WP_bind, ↓WP_cons, ↓WP_nil, ↓WP_callF, ↓WP_callE, ↓WP_clr, ↓WP_try, ↓WP_range1, ↓WP_range2, ↓WP_mutA, ↓WP_mutE, ↓WP_mutP, ↓WP_mutI, ↓WP_sd, ↓WP_setix, ↓SeqK_nx, ↓SeqK_rt, ↓SeqK_bk, ↓SeqK_ct, ↓ClrK_nx, ↓ClrK_rt, ↓ClrK_bk, ↓ClrK_ct, ↓SemK_rt, ↓SemK_nx, ↓ForK_nx, ↓ForK_ct, ↓ForK_bk, ↓ForK_rt, ↓W.s_ifs, ↓W.e_varF, ↓W.e_varT, ↓W.a_var, ↓W.still_im, ↓W.still_b, ↓W.e_cst, ↓W.e_glob, ↓W.e_tup, ↓W.e_lst, ↓W.e_dnew, ↓W.e_bin, ↓W.e_neg, ↓W.e_not, ↓W.e_cmp, ↓W.e_chain, ↓W.e_one, ↓W.e_and, ↓W.e_or, ↓W.e_ite, ↓W.e_ix, ↓W.e_sl, ↓W.e_ixv, ↓W.e_slv, ↓W.e_rev, ↓W.e_lrange, ↓W.e_disp, ↓W.e_dispD, ↓W.e_gcd, ↓W.e_isin, ↓W.e_bi1, ↓W.e_bi2, ↓W.e_get, ↓W.e_index, ↓W.e_count, ↓W.e_join, ↓W.e_split, ↓W.es_nil, ↓W.es_cons, ↓W.bs_nil, ↓W.bs_cons, ↓W.as_nil, ↓W.as_cons, ↓W.o_no, ↓W.o_so, ↓W.c_no, ↓W.c_so, ↓W.t_not, ↓W.t_one, ↓W.t_and, ↓W.t_or, ↓W.t_cmp, ↓W.t_chain, ↓W.t_var, ↓W.t_cst, ↓W.t_call, ↓W.t_ixv, ↓W.t_me, ↓W.t_ix, ↓W.t_bi, ↓W.t_isin, ↓W.t_gin, ↓W.w_it, ↓W.w_rev, ↓W.w_enum, ↓W.w_zip, ↓W.s_setv, ↓W.s_asg, ↓W.s_unp, ↓W.s_par, ↓W.s_ret, ↓W.s_retN, ↓W.s_expr, ↓W.s_doc, ↓W.s_pass, ↓W.s_brk, ↓W.s_cont, ↓W.s_raise, ↓W.s_swap, ↓W.a_cst, ↓W.a_glob, ↓W.a_tup, ↓W.a_lst, ↓W.a_bin, ↓W.a_neg, ↓W.a_ite, ↓W.a_ix, ↓W.a_sl, ↓W.a_rev, ↓W.a_ixv, ↓W.a_slv, ↓W.a_lrange, ↓W.a_disp, ↓W.a_dispD, ↓W.a_gix, ↓W.a_gcd, ↓W.a_isin, ↓W.a_call, ↓W.a_bi, ↓W.a_me, ↓W.a_cmp, ↓W.a_mut, ↓W.a_lc, ↓W.a_and, ↓W.a_or, ↓W.a_not, ↓W.a_one, ↓W.a_chain, ↓W.a_dnew, WP_ok, WP_exc, WP_bad, WP_bind, WP_ifbad, WP_ite, WP_lift, WP_liftN, WP_liftI, WP_callT, W.rdV, W.rdO, W.ldO, backO, mutO, setO, isOL, isOM, isOD, sdO, Mm.sd, readS, lendS, binI, cmpI, List.isEmpty, meOk, mxOk, Mm.sup, mkTup, ims, E.pure, Es.pure, Eo.pure, E.src, Wk.src, bindT, bindTs, Kh.clear, lockAll, Kh.settle, settleGo, Slot.isOwnMut, Slot.imOf, Slot.borOf, giveBack, Out.nx, Ss.stores, Kh.S.stores, Tg.slots, Tgs.slots, Es.len, vOk, clearV, runH, evalH, imAt, V.add_ii, V.sub_ii, V.add_tt, V.add_ll, V.mul_li, V.mul_si, V.eq_ss, V.ne_ss, V.eq_ii, V.ne_ii, V.eq_ll, V.ne_ll, V.isN_n, V.notN_n, V.isN_b, V.notN_b, V.isN_i, V.notN_i, V.isN_s, V.notN_s, V.isN_t, V.notN_t, V.is_bb, V.not_bb, V.eq_bb, V.ne_bb, V.lt_ii, V.le_ii, V.gt_ii, V.ge_ii, V.ix_t, V.ix_T, V.ix_l, V.ix_s, V.ix_d, V.ix_x, V.ixV_l, V.ixV_t, V.at_0, V.at_1, V.at_2, V.at_3, V.at_4, V.at_5, V.at_m1, V.at_m2, V.at_m3, V.at_m4, V.sl_t, V.sl_l, V.len_t, V.len_T, V.len_l, V.len_s, V.len_d, V.tuple_t, V.tuple_l, V.list_t, V.list_l, V.list_s, V.int_i, V.int_s, V.abs_i, V.min_ii, V.max_ii, V.sum_l, V.any_l, V.all_l, V.min_l, V.max_l, V.str_i, V.sorted_l, V.sorted_t, V.sorted_d, V.get_d, V.app, V.ext, V.pop0, V.pop1, V.ins, V.set_l, V.set_d, V.wk_t, V.wk_l, V.wk_s, V.wk_x, V.wkr_t, V.wkr_l, V.rev_l, V.rev_t, V.it_t, V.it_l, V.en_t, V.en_l, V.en_x, V.zp_t, V.zp_l, V.need_f, V.need_i, V.asI, V.asB, V.asIm, V.lift_s, V.lift_n, V.keep_i, V.keep_f, V.keep_l, V.keep_T, V.keep_d, V.im_i, V.im_l, V.im_T, V.im_d, V.im_s, V.mx_index, V.mx_count, V.mx_counts, V.mx_join, V.mx_split, V.isin_s, V.isin_t, V.isin_i, V.gcd_ii, V.eqI_ii, V.big_, V.op_ii, slD_tx, len_tx, add_tx, S_eq, atI_map, cutL_take, cutL_drop, cutL_mid, cutL_last, ims_some, ims_int, intsOf_int, boolsOf_bl, -List.map_map]
end Kw

set_option Elab.async false
set_option linter.all false
set_option maxRecDepth 100000
set_option maxHeartbeats 4000000
namespace Kw
open PySem L2 Kh Km
theorem inner_ok {j : Nat} {w v : List Int} {l : List (List Int)} (hl : w.length ≤ 30) (hv : v.length = w.length) (h0 : l.length ≤ 40) : WP (exec (tab (j + 1)) s_canonical_word_2 [oT w, .own (lT l), oT v, .no]) (fun f e => f = .nx ∧ e = [oT w, .own (lT (l ++ (List.range w.length).map fun i => named (rotN i v))), oT v, .no]) noX := by
  have h1 : w.length ≤ 1000000 := by omega
  unfold s_canonical_word_2
  refine WP_forF (enc := fun (i : Nat) => int (i : Int)) (E := fun l => [oT w, .own (lT l), oT v, .no]) (fun l i => l ++ [named (rotN i v)]) (fun r l => l.length + r.length ≤ 70) (List.range w.length) l [oT w, .own (lT l), oT v, .no] ?_ ?_ (by simp; omega) (fun i r l hi => ?_) fun _ => ?_
  · simp -dsimp [h1, ↓WP_ok, ↓WP_exc, ↓WP_bad, ↓WP_bind, ↓WP_cons, ↓WP_nil, ↓WP_callF, ↓WP_callE, ↓WP_clr, ↓WP_try, ↓WP_range1, ↓WP_range2, ↓WP_mutA, ↓WP_mutE, ↓WP_mutP, ↓WP_mutI, ↓WP_sd, ↓WP_setix, ↓SeqK_nx, ↓SeqK_rt, ↓SeqK_bk, ↓SeqK_ct, ↓ClrK_nx, ↓ClrK_rt, ↓ClrK_bk, ↓ClrK_ct, ↓SemK_rt, ↓SemK_nx, ↓ForK_nx, ↓ForK_ct, ↓ForK_bk, ↓ForK_rt, ↓W.s_ifs, ↓W.e_varF, ↓W.e_varT, ↓W.a_var, ↓W.still_im, ↓W.still_b, ↓W.e_cst, ↓W.e_glob, ↓W.e_tup, ↓W.e_lst, ↓W.e_dnew, ↓W.e_bin, ↓W.e_neg, ↓W.e_not, ↓W.e_cmp, ↓W.e_chain, ↓W.e_one, ↓W.e_and, ↓W.e_or, ↓W.e_ite, ↓W.e_ix, ↓W.e_sl, ↓W.e_ixv, ↓W.e_slv, ↓W.e_rev, ↓W.e_lrange, ↓W.e_disp, ↓W.e_dispD, ↓W.e_gcd, ↓W.e_isin, ↓W.e_bi1, ↓W.e_bi2, ↓W.e_get, ↓W.e_index, ↓W.e_count, ↓W.e_join, ↓W.e_split, ↓W.es_nil, ↓W.es_cons, ↓W.bs_nil, ↓W.bs_cons, ↓W.as_nil, ↓W.as_cons, ↓W.o_no, ↓W.o_so, ↓W.c_no, ↓W.c_so, ↓W.t_not, ↓W.t_one, ↓W.t_and, ↓W.t_or, ↓W.t_cmp, ↓W.t_chain, ↓W.t_var, ↓W.t_cst, ↓W.t_call, ↓W.t_ixv, ↓W.t_me, ↓W.t_ix, ↓W.t_bi, ↓W.t_isin, ↓W.t_gin, ↓W.w_it, ↓W.w_rev, ↓W.w_enum, ↓W.w_zip, ↓W.s_setv, ↓W.s_asg, ↓W.s_unp, ↓W.s_par, ↓W.s_ret, ↓W.s_retN, ↓W.s_expr, ↓W.s_doc, ↓W.s_pass, ↓W.s_brk, ↓W.s_cont, ↓W.s_raise, ↓W.s_swap, ↓W.a_cst, ↓W.a_glob, ↓W.a_tup, ↓W.a_lst, ↓W.a_bin, ↓W.a_neg, ↓W.a_ite, ↓W.a_ix, ↓W.a_sl, ↓W.a_rev, ↓W.a_ixv, ↓W.a_slv, ↓W.a_lrange, ↓W.a_disp, ↓W.a_dispD, ↓W.a_gix, ↓W.a_gcd, ↓W.a_isin, ↓W.a_call, ↓W.a_bi, ↓W.a_me, ↓W.a_cmp, ↓W.a_mut, ↓W.a_lc, ↓W.a_and, ↓W.a_or, ↓W.a_not, ↓W.a_one, ↓W.a_chain, ↓W.a_dnew, WP_ok, WP_exc, WP_bad, WP_bind, WP_ifbad, WP_ite, WP_lift, WP_liftN, WP_liftI, WP_callT, W.rdV, W.rdO, W.ldO, backO, mutO, setO, isOL, isOM, isOD, sdO, Mm.sd, readS, lendS, binI, cmpI, List.isEmpty, meOk, mxOk, Mm.sup, mkTup, ims, E.pure, Es.pure, Eo.pure, E.src, Wk.src, bindT, bindTs, Kh.clear, lockAll, Kh.settle, settleGo, Slot.isOwnMut, Slot.imOf, Slot.borOf, giveBack, Out.nx, Ss.stores, Kh.S.stores, Tg.slots, Tgs.slots, Es.len, vOk, clearV, runH, evalH, imAt, V.add_ii, V.sub_ii, V.add_tt, V.add_ll, V.mul_li, V.mul_si, V.eq_ss, V.ne_ss, V.eq_ii, V.ne_ii, V.eq_ll, V.ne_ll, V.isN_n, V.notN_n, V.isN_b, V.notN_b, V.isN_i, V.notN_i, V.isN_s, V.notN_s, V.isN_t, V.notN_t, V.is_bb, V.not_bb, V.eq_bb, V.ne_bb, V.lt_ii, V.le_ii, V.gt_ii, V.ge_ii, V.ix_t, V.ix_T, V.ix_l, V.ix_s, V.ix_d, V.ix_x, V.ixV_l, V.ixV_t, V.at_0, V.at_1, V.at_2, V.at_3, V.at_4, V.at_5, V.at_m1, V.at_m2, V.at_m3, V.at_m4, V.sl_t, V.sl_l, V.len_t, V.len_T, V.len_l, V.len_s, V.len_d, V.tuple_t, V.tuple_l, V.list_t, V.list_l, V.list_s, V.int_i, V.int_s, V.abs_i, V.min_ii, V.max_ii, V.sum_l, V.any_l, V.all_l, V.min_l, V.max_l, V.str_i, V.sorted_l, V.sorted_t, V.sorted_d, V.get_d, V.app, V.ext, V.pop0, V.pop1, V.ins, V.set_l, V.set_d, V.wk_t, V.wk_l, V.wk_s, V.wk_x, V.wkr_t, V.wkr_l, V.rev_l, V.rev_t, V.it_t, V.it_l, V.en_t, V.en_l, V.en_x, V.zp_t, V.zp_l, V.need_f, V.need_i, V.asI, V.asB, V.asIm, V.lift_s, V.lift_n, V.keep_i, V.keep_f, V.keep_l, V.keep_T, V.keep_d, V.im_i, V.im_l, V.im_T, V.im_d, V.im_s, V.mx_index, V.mx_count, V.mx_counts, V.mx_join, V.mx_split, V.isin_s, V.isin_t, V.isin_i, V.gcd_ii, V.eqI_ii, V.big_, V.op_ii, slD_tx, len_tx, add_tx, S_eq, atI_map, cutL_take, cutL_drop, cutL_mid, cutL_last, ims_some, ims_int, intsOf_int, boolsOf_bl, -List.map_map]
    exact rg_wp rfl (by omega) ⟨rfl, rfl⟩
  · simp [Ro.b_ok, Ro.b_exc, Ro.b_bad, Ro.a_var, Ro.e_var, Ro.e_cst, Ro.e_glob, Ro.e_tup, Ro.e_lst, Ro.e_dnew, Ro.e_bin, Ro.e_neg, Ro.e_not, Ro.e_cmp, Ro.e_chain, Ro.e_one, Ro.e_and, Ro.e_or, Ro.e_ite, Ro.e_ix, Ro.e_sl, Ro.e_ixv, Ro.e_slv, Ro.e_rev, Ro.e_lrange, Ro.e_disp, Ro.e_dispD, Ro.e_gin, Ro.e_gix, Ro.e_gcd, Ro.e_isin, Ro.e_call, Ro.e_bi1, Ro.e_bi2, Ro.e_get, Ro.e_index, Ro.e_count, Ro.e_join, Ro.e_split, Ro.e_mut, Ro.a_cst, Ro.a_glob, Ro.a_tup, Ro.a_lst, Ro.a_bin, Ro.a_neg, Ro.a_ite, Ro.a_ix, Ro.a_sl, Ro.a_rev, Ro.a_ixv, Ro.a_slv, Ro.a_lrange, Ro.a_disp, Ro.a_dispD, Ro.a_gix, Ro.a_gcd, Ro.a_isin, Ro.a_call, Ro.a_bi, Ro.a_me, Ro.a_cmp, Ro.a_mut, Ro.a_lc, Ro.a_and, Ro.a_or, Ro.a_not, Ro.a_one, Ro.a_chain, Ro.a_dnew, Ro.es_nil, Ro.es_cons, Ro.bs_nil, Ro.bs_cons, Ro.as_nil, Ro.as_cons, Ro.o_no, Ro.o_so, Ro.c_no, Ro.c_so, Ro.t_not, Ro.t_one, Ro.t_and, Ro.t_or, Ro.t_cmp, Ro.t_chain, Ro.t_var, Ro.t_cst, Ro.t_call, Ro.t_ixv, Ro.t_me, Ro.t_ix, Ro.t_bi, Ro.t_isin, Ro.t_gin, Ro.w_it, Ro.w_rev, Ro.w_enum, Ro.w_zip, Ro.w_range, Ro.s_setv, Ro.s_asg, Ro.s_unp, Ro.s_par, Ro.s_ret, Ro.s_retN, Ro.s_expr, Ro.s_doc, Ro.s_pass, Ro.s_brk, Ro.s_cont, Ro.s_ifs, Ro.s_raise, Ro.s_try, Ro.s_swap, Ro.s_setix, Ro.ss_nil, Ro.ss_cons, lift, readS, lendS, still, needIm, asInt, asBool, asIm, binD, binI, cmpD, cmpI, ixD, slD, ixV, List.isEmpty, revD, biD, meD, meOk, mxD, mxOk, mutD, Mm.sup, Mm.sd, sdO, setD, wkD, wkR, mkTup, ims, D.isIm, E.pure, Es.pure, Eo.pure, E.src, Wk.src, keepS, bindT, bindTs, Kh.clear, lockAll, Kh.settle, settleGo, Slot.isOwnMut, Slot.imOf, Slot.borOf, giveBack, callF, stepClear, settleF, Out.nx, Ss.stores, Kh.S.stores, Tg.slots, Tgs.slots, Es.len, itemsIm, enumD, zipD, vOk, clearV, runH, evalH, imAt, eqI]
  · refine WP_forT rfl ?_
    rw [List.length_cons] at hi
    have lr : (rotN i v).length ≤ 100 := by simp [rotN]; omega
    have n1 := renamed_ok (T := tab j) lr
    have b1 : v.length - i + min i v.length ≤ 1000000 := by omega
    have b2 : l.length < 1000000 := by omega
    simp -dsimp [s_canonical_word_1, rot_map, fn_renamed, n1, b1, b2, h1, ↓WP_ok, ↓WP_exc, ↓WP_bad, ↓WP_bind, ↓WP_cons, ↓WP_nil, ↓WP_callF, ↓WP_callE, ↓WP_clr, ↓WP_try, ↓WP_range1, ↓WP_range2, ↓WP_mutA, ↓WP_mutE, ↓WP_mutP, ↓WP_mutI, ↓WP_sd, ↓WP_setix, ↓SeqK_nx, ↓SeqK_rt, ↓SeqK_bk, ↓SeqK_ct, ↓ClrK_nx, ↓ClrK_rt, ↓ClrK_bk, ↓ClrK_ct, ↓SemK_rt, ↓SemK_nx, ↓ForK_nx, ↓ForK_ct, ↓ForK_bk, ↓ForK_rt, ↓W.s_ifs, ↓W.e_varF, ↓W.e_varT, ↓W.a_var, ↓W.still_im, ↓W.still_b, ↓W.e_cst, ↓W.e_glob, ↓W.e_tup, ↓W.e_lst, ↓W.e_dnew, ↓W.e_bin, ↓W.e_neg, ↓W.e_not, ↓W.e_cmp, ↓W.e_chain, ↓W.e_one, ↓W.e_and, ↓W.e_or, ↓W.e_ite, ↓W.e_ix, ↓W.e_sl, ↓W.e_ixv, ↓W.e_slv, ↓W.e_rev, ↓W.e_lrange, ↓W.e_disp, ↓W.e_dispD, ↓W.e_gcd, ↓W.e_isin, ↓W.e_bi1, ↓W.e_bi2, ↓W.e_get, ↓W.e_index, ↓W.e_count, ↓W.e_join, ↓W.e_split, ↓W.es_nil, ↓W.es_cons, ↓W.bs_nil, ↓W.bs_cons, ↓W.as_nil, ↓W.as_cons, ↓W.o_no, ↓W.o_so, ↓W.c_no, ↓W.c_so, ↓W.t_not, ↓W.t_one, ↓W.t_and, ↓W.t_or, ↓W.t_cmp, ↓W.t_chain, ↓W.t_var, ↓W.t_cst, ↓W.t_call, ↓W.t_ixv, ↓W.t_me, ↓W.t_ix, ↓W.t_bi, ↓W.t_isin, ↓W.t_gin, ↓W.w_it, ↓W.w_rev, ↓W.w_enum, ↓W.w_zip, ↓W.s_setv, ↓W.s_asg, ↓W.s_unp, ↓W.s_par, ↓W.s_ret, ↓W.s_retN, ↓W.s_expr, ↓W.s_doc, ↓W.s_pass, ↓W.s_brk, ↓W.s_cont, ↓W.s_raise, ↓W.s_swap, ↓W.a_cst, ↓W.a_glob, ↓W.a_tup, ↓W.a_lst, ↓W.a_bin, ↓W.a_neg, ↓W.a_ite, ↓W.a_ix, ↓W.a_sl, ↓W.a_rev, ↓W.a_ixv, ↓W.a_slv, ↓W.a_lrange, ↓W.a_disp, ↓W.a_dispD, ↓W.a_gix, ↓W.a_gcd, ↓W.a_isin, ↓W.a_call, ↓W.a_bi, ↓W.a_me, ↓W.a_cmp, ↓W.a_mut, ↓W.a_lc, ↓W.a_and, ↓W.a_or, ↓W.a_not, ↓W.a_one, ↓W.a_chain, ↓W.a_dnew, WP_ok, WP_exc, WP_bad, WP_bind, WP_ifbad, WP_ite, WP_lift, WP_liftN, WP_liftI, WP_callT, W.rdV, W.rdO, W.ldO, backO, mutO, setO, isOL, isOM, isOD, sdO, Mm.sd, readS, lendS, binI, cmpI, List.isEmpty, meOk, mxOk, Mm.sup, mkTup, ims, E.pure, Es.pure, Eo.pure, E.src, Wk.src, bindT, bindTs, Kh.clear, lockAll, Kh.settle, settleGo, Slot.isOwnMut, Slot.imOf, Slot.borOf, giveBack, Out.nx, Ss.stores, Kh.S.stores, Tg.slots, Tgs.slots, Es.len, vOk, clearV, runH, evalH, imAt, V.add_ii, V.sub_ii, V.add_tt, V.add_ll, V.mul_li, V.mul_si, V.eq_ss, V.ne_ss, V.eq_ii, V.ne_ii, V.eq_ll, V.ne_ll, V.isN_n, V.notN_n, V.isN_b, V.notN_b, V.isN_i, V.notN_i, V.isN_s, V.notN_s, V.isN_t, V.notN_t, V.is_bb, V.not_bb, V.eq_bb, V.ne_bb, V.lt_ii, V.le_ii, V.gt_ii, V.ge_ii, V.ix_t, V.ix_T, V.ix_l, V.ix_s, V.ix_d, V.ix_x, V.ixV_l, V.ixV_t, V.at_0, V.at_1, V.at_2, V.at_3, V.at_4, V.at_5, V.at_m1, V.at_m2, V.at_m3, V.at_m4, V.sl_t, V.sl_l, V.len_t, V.len_T, V.len_l, V.len_s, V.len_d, V.tuple_t, V.tuple_l, V.list_t, V.list_l, V.list_s, V.int_i, V.int_s, V.abs_i, V.min_ii, V.max_ii, V.sum_l, V.any_l, V.all_l, V.min_l, V.max_l, V.str_i, V.sorted_l, V.sorted_t, V.sorted_d, V.get_d, V.app, V.ext, V.pop0, V.pop1, V.ins, V.set_l, V.set_d, V.wk_t, V.wk_l, V.wk_s, V.wk_x, V.wkr_t, V.wkr_l, V.rev_l, V.rev_t, V.it_t, V.it_l, V.en_t, V.en_l, V.en_x, V.zp_t, V.zp_l, V.need_f, V.need_i, V.asI, V.asB, V.asIm, V.lift_s, V.lift_n, V.keep_i, V.keep_f, V.keep_l, V.keep_T, V.keep_d, V.im_i, V.im_l, V.im_T, V.im_d, V.im_s, V.mx_index, V.mx_count, V.mx_counts, V.mx_join, V.mx_split, V.isin_s, V.isin_t, V.isin_i, V.gcd_ii, V.eqI_ii, V.big_, V.op_ii, slD_tx, len_tx, add_tx, S_eq, atI_map, cutL_take, cutL_drop, cutL_mid, cutL_last, ims_some, ims_int, intsOf_int, boolsOf_bl, -List.map_map]
    omega
  · rw [fold_app]
    have e : (List.range w.length).flatMap (fun i => [named (rotN i v)]) = (List.range w.length).map fun i => named (rotN i v) := by
      rw [List.map_eq_flatMap]
    rw [e]
    simp -dsimp [s_canonical_word_1, ↓WP_ok, ↓WP_exc, ↓WP_bad, ↓WP_bind, ↓WP_cons, ↓WP_nil, ↓WP_callF, ↓WP_callE, ↓WP_clr, ↓WP_try, ↓WP_range1, ↓WP_range2, ↓WP_mutA, ↓WP_mutE, ↓WP_mutP, ↓WP_mutI, ↓WP_sd, ↓WP_setix, ↓SeqK_nx, ↓SeqK_rt, ↓SeqK_bk, ↓SeqK_ct, ↓ClrK_nx, ↓ClrK_rt, ↓ClrK_bk, ↓ClrK_ct, ↓SemK_rt, ↓SemK_nx, ↓ForK_nx, ↓ForK_ct, ↓ForK_bk, ↓ForK_rt, ↓W.s_ifs, ↓W.e_varF, ↓W.e_varT, ↓W.a_var, ↓W.still_im, ↓W.still_b, ↓W.e_cst, ↓W.e_glob, ↓W.e_tup, ↓W.e_lst, ↓W.e_dnew, ↓W.e_bin, ↓W.e_neg, ↓W.e_not, ↓W.e_cmp, ↓W.e_chain, ↓W.e_one, ↓W.e_and, ↓W.e_or, ↓W.e_ite, ↓W.e_ix, ↓W.e_sl, ↓W.e_ixv, ↓W.e_slv, ↓W.e_rev, ↓W.e_lrange, ↓W.e_disp, ↓W.e_dispD, ↓W.e_gcd, ↓W.e_isin, ↓W.e_bi1, ↓W.e_bi2, ↓W.e_get, ↓W.e_index, ↓W.e_count, ↓W.e_join, ↓W.e_split, ↓W.es_nil, ↓W.es_cons, ↓W.bs_nil, ↓W.bs_cons, ↓W.as_nil, ↓W.as_cons, ↓W.o_no, ↓W.o_so, ↓W.c_no, ↓W.c_so, ↓W.t_not, ↓W.t_one, ↓W.t_and, ↓W.t_or, ↓W.t_cmp, ↓W.t_chain, ↓W.t_var, ↓W.t_cst, ↓W.t_call, ↓W.t_ixv, ↓W.t_me, ↓W.t_ix, ↓W.t_bi, ↓W.t_isin, ↓W.t_gin, ↓W.w_it, ↓W.w_rev, ↓W.w_enum, ↓W.w_zip, ↓W.s_setv, ↓W.s_asg, ↓W.s_unp, ↓W.s_par, ↓W.s_ret, ↓W.s_retN, ↓W.s_expr, ↓W.s_doc, ↓W.s_pass, ↓W.s_brk, ↓W.s_cont, ↓W.s_raise, ↓W.s_swap, ↓W.a_cst, ↓W.a_glob, ↓W.a_tup, ↓W.a_lst, ↓W.a_bin, ↓W.a_neg, ↓W.a_ite, ↓W.a_ix, ↓W.a_sl, ↓W.a_rev, ↓W.a_ixv, ↓W.a_slv, ↓W.a_lrange, ↓W.a_disp, ↓W.a_dispD, ↓W.a_gix, ↓W.a_gcd, ↓W.a_isin, ↓W.a_call, ↓W.a_bi, ↓W.a_me, ↓W.a_cmp, ↓W.a_mut, ↓W.a_lc, ↓W.a_and, ↓W.a_or, ↓W.a_not, ↓W.a_one, ↓W.a_chain, ↓W.a_dnew, WP_ok, WP_exc, WP_bad, WP_bind, WP_ifbad, WP_ite, WP_lift, WP_liftN, WP_liftI, WP_callT, W.rdV, W.rdO, W.ldO, backO, mutO, setO, isOL, isOM, isOD, sdO, Mm.sd, readS, lendS, binI, cmpI, List.isEmpty, meOk, mxOk, Mm.sup, mkTup, ims, E.pure, Es.pure, Eo.pure, E.src, Wk.src, bindT, bindTs, Kh.clear, lockAll, Kh.settle, settleGo, Slot.isOwnMut, Slot.imOf, Slot.borOf, giveBack, Out.nx, Ss.stores, Kh.S.stores, Tg.slots, Tgs.slots, Es.len, vOk, clearV, runH, evalH, imAt, V.add_ii, V.sub_ii, V.add_tt, V.add_ll, V.mul_li, V.mul_si, V.eq_ss, V.ne_ss, V.eq_ii, V.ne_ii, V.eq_ll, V.ne_ll, V.isN_n, V.notN_n, V.isN_b, V.notN_b, V.isN_i, V.notN_i, V.isN_s, V.notN_s, V.isN_t, V.notN_t, V.is_bb, V.not_bb, V.eq_bb, V.ne_bb, V.lt_ii, V.le_ii, V.gt_ii, V.ge_ii, V.ix_t, V.ix_T, V.ix_l, V.ix_s, V.ix_d, V.ix_x, V.ixV_l, V.ixV_t, V.at_0, V.at_1, V.at_2, V.at_3, V.at_4, V.at_5, V.at_m1, V.at_m2, V.at_m3, V.at_m4, V.sl_t, V.sl_l, V.len_t, V.len_T, V.len_l, V.len_s, V.len_d, V.tuple_t, V.tuple_l, V.list_t, V.list_l, V.list_s, V.int_i, V.int_s, V.abs_i, V.min_ii, V.max_ii, V.sum_l, V.any_l, V.all_l, V.min_l, V.max_l, V.str_i, V.sorted_l, V.sorted_t, V.sorted_d, V.get_d, V.app, V.ext, V.pop0, V.pop1, V.ins, V.set_l, V.set_d, V.wk_t, V.wk_l, V.wk_s, V.wk_x, V.wkr_t, V.wkr_l, V.rev_l, V.rev_t, V.it_t, V.it_l, V.en_t, V.en_l, V.en_x, V.zp_t, V.zp_l, V.need_f, V.need_i, V.asI, V.asB, V.asIm, V.lift_s, V.lift_n, V.keep_i, V.keep_f, V.keep_l, V.keep_T, V.keep_d, V.im_i, V.im_l, V.im_T, V.im_d, V.im_s, V.mx_index, V.mx_count, V.mx_counts, V.mx_join, V.mx_split, V.isin_s, V.isin_t, V.isin_i, V.gcd_ii, V.eqI_ii, V.big_, V.op_ii, slD_tx, len_tx, add_tx, S_eq, atI_map, cutL_take, cutL_drop, cutL_mid, cutL_last, ims_some, ims_int, intsOf_int, boolsOf_bl, -List.map_map]
theorem fn_check {k : Nat} : (tab (k + 1)).fn (Str.ofString "check_word") = some (f_check_word.sem (tab k)) := rfl
theorem fn_can {k : Nat} : (tab (k + 1)).fn (Str.ofString "canonical_word") = some (f_canonical_word.sem (tab k)) := rfl
theorem gl_M {k : Nat} : (tab (k + 2)).gl (Str.ofString "MOST") = some (.int 14) := rfl
def lets (m : Nat) : List Int := (List.range m).map fun (i : Nat) => (i : Int) + 1
def GW (w : List Int) : Prop := ∃ m, m ≤ 14 ∧ w.Perm (lets m ++ lets m)
theorem gw_len {w : List Int} (h : GW w) : w.length ≤ 28 := by
  obtain ⟨m, h1, h2⟩ := h
  have := h2.length_eq
  simp [lets] at this
  omega
theorem check_ok {j : Nat} {w : List Int} (h : GW w) : f_check_word.sem (tab (j + 2)) [oT w] = .ok (.im .non) [oT w] := by
  have hl := gw_len h
  obtain ⟨m, h1, h2⟩ := h
  refine WP.eq (WP_sem rfl ?_)
  have b1 : w.length ≤ 1000000 := by omega
  have b2 : ¬ (28 < (w.length : Int)) := by omega
  have hm : w.length = 2 * m := by
    have := h2.length_eq
    simp [lets] at this
    omega
  have e2 : (w.length : Int) / 2 = m := by omega
  have e4 : ((m : Nat) : Int).toNat = m := Int.toNat_natCast m
  have e3 : rangeL 1 m = (lets m).map fun k => int k := by
    unfold rangeL lets
    rw [List.map_map]
    refine List.map_congr_left fun i _ => ?_
    show D.im (.int (1 + (i : Int))) = D.im (.int ((i : Int) + 1))
    rw [Int.add_comm]
  have l2 : Nat.log2 2 < 9000 := by decide +kernel
  have l3 : Nat.log2 2 + Nat.log2 14 < 1000000 := by decide +kernel
  have b3 : (lets m).length = m := by simp [lets]
  have hs : biD .sorted [.lst ((lets m).map (fun k => int k) ++ (lets m).map fun k => int k)] = some (.lst ((w.mergeSort fun a b => decide (a ≤ b)).map fun k => int k)) := by
    rw [← List.map_append, V.sorted_l]
    have e5 : ims ((lets m ++ lets m).map fun k => int k) = some ((lets m ++ lets m).map I.int) := ims_some _
    rw [e5, Option.bind_some, intsOf_int, Option.map_some]
    have e6 : w.mergeSort (fun a b => decide (a ≤ b)) = (lets m ++ lets m).mergeSort (fun a b => decide (a ≤ b)) := by
      refine sort_same ((List.mergeSort_perm w _).trans h2) ?_
      have := List.pairwise_mergeSort (le := fun a b : Int => decide (a ≤ b)) (fun a b c h1 h2 => by simp at h1 h2 ⊢; omega) (fun a b => by simp; omega) w
      exact this.imp (by simp)
    rw [e6]
  have hi : ims ((lets m).map fun k => int k) = some ((lets m).map I.int) := ims_some _
  have hn : ∀ l : List Int, cmpD .ne (.lst (l.map fun k => int k)) (.lst (l.map fun k => int k)) = some false := fun l => by
    have e5 : ims (l.map fun k => int k) = some (l.map I.int) := ims_some _
    rw [V.ne_ll, e5, Option.bind_some, Option.bind_some, shal_I, eqs_I]
    simp
  have b4 : m * 2 ≤ 1000000 := by omega
  have b5 : (m : Int) + 1 ≤ 1000000 := by omega
  have b6 : -1000000 ≤ (m : Int) + 1 := by omega
  simp -dsimp [f_check_word, gl_M, b1, b2, e2, e3, e4, l2, l3, b3, b4, b5, b6, hs, hi, hn, z_check_word, ↓WP_ok, ↓WP_exc, ↓WP_bad, ↓WP_bind, ↓WP_cons, ↓WP_nil, ↓WP_callF, ↓WP_callE, ↓WP_clr, ↓WP_try, ↓WP_range1, ↓WP_range2, ↓WP_mutA, ↓WP_mutE, ↓WP_mutP, ↓WP_mutI, ↓WP_sd, ↓WP_setix, ↓SeqK_nx, ↓SeqK_rt, ↓SeqK_bk, ↓SeqK_ct, ↓ClrK_nx, ↓ClrK_rt, ↓ClrK_bk, ↓ClrK_ct, ↓SemK_rt, ↓SemK_nx, ↓ForK_nx, ↓ForK_ct, ↓ForK_bk, ↓ForK_rt, ↓W.s_ifs, ↓W.e_varF, ↓W.e_varT, ↓W.a_var, ↓W.still_im, ↓W.still_b, ↓W.e_cst, ↓W.e_glob, ↓W.e_tup, ↓W.e_lst, ↓W.e_dnew, ↓W.e_bin, ↓W.e_neg, ↓W.e_not, ↓W.e_cmp, ↓W.e_chain, ↓W.e_one, ↓W.e_and, ↓W.e_or, ↓W.e_ite, ↓W.e_ix, ↓W.e_sl, ↓W.e_ixv, ↓W.e_slv, ↓W.e_rev, ↓W.e_lrange, ↓W.e_disp, ↓W.e_dispD, ↓W.e_gcd, ↓W.e_isin, ↓W.e_bi1, ↓W.e_bi2, ↓W.e_get, ↓W.e_index, ↓W.e_count, ↓W.e_join, ↓W.e_split, ↓W.es_nil, ↓W.es_cons, ↓W.bs_nil, ↓W.bs_cons, ↓W.as_nil, ↓W.as_cons, ↓W.o_no, ↓W.o_so, ↓W.c_no, ↓W.c_so, ↓W.t_not, ↓W.t_one, ↓W.t_and, ↓W.t_or, ↓W.t_cmp, ↓W.t_chain, ↓W.t_var, ↓W.t_cst, ↓W.t_call, ↓W.t_ixv, ↓W.t_me, ↓W.t_ix, ↓W.t_bi, ↓W.t_isin, ↓W.t_gin, ↓W.w_it, ↓W.w_rev, ↓W.w_enum, ↓W.w_zip, ↓W.s_setv, ↓W.s_asg, ↓W.s_unp, ↓W.s_par, ↓W.s_ret, ↓W.s_retN, ↓W.s_expr, ↓W.s_doc, ↓W.s_pass, ↓W.s_brk, ↓W.s_cont, ↓W.s_raise, ↓W.s_swap, ↓W.a_cst, ↓W.a_glob, ↓W.a_tup, ↓W.a_lst, ↓W.a_bin, ↓W.a_neg, ↓W.a_ite, ↓W.a_ix, ↓W.a_sl, ↓W.a_rev, ↓W.a_ixv, ↓W.a_slv, ↓W.a_lrange, ↓W.a_disp, ↓W.a_dispD, ↓W.a_gix, ↓W.a_gcd, ↓W.a_isin, ↓W.a_call, ↓W.a_bi, ↓W.a_me, ↓W.a_cmp, ↓W.a_mut, ↓W.a_lc, ↓W.a_and, ↓W.a_or, ↓W.a_not, ↓W.a_one, ↓W.a_chain, ↓W.a_dnew, WP_ok, WP_exc, WP_bad, WP_bind, WP_ifbad, WP_ite, WP_lift, WP_liftN, WP_liftI, WP_callT, W.rdV, W.rdO, W.ldO, backO, mutO, setO, isOL, isOM, isOD, sdO, Mm.sd, readS, lendS, binI, cmpI, List.isEmpty, meOk, mxOk, Mm.sup, mkTup, ims, E.pure, Es.pure, Eo.pure, E.src, Wk.src, bindT, bindTs, Kh.clear, lockAll, Kh.settle, settleGo, Slot.isOwnMut, Slot.imOf, Slot.borOf, giveBack, Out.nx, Ss.stores, Kh.S.stores, Tg.slots, Tgs.slots, Es.len, vOk, clearV, runH, evalH, imAt, V.add_ii, V.sub_ii, V.add_tt, V.add_ll, V.mul_li, V.mul_si, V.eq_ss, V.ne_ss, V.eq_ii, V.ne_ii, V.eq_ll, V.ne_ll, V.isN_n, V.notN_n, V.isN_b, V.notN_b, V.isN_i, V.notN_i, V.isN_s, V.notN_s, V.isN_t, V.notN_t, V.is_bb, V.not_bb, V.eq_bb, V.ne_bb, V.lt_ii, V.le_ii, V.gt_ii, V.ge_ii, V.ix_t, V.ix_T, V.ix_l, V.ix_s, V.ix_d, V.ix_x, V.ixV_l, V.ixV_t, V.at_0, V.at_1, V.at_2, V.at_3, V.at_4, V.at_5, V.at_m1, V.at_m2, V.at_m3, V.at_m4, V.sl_t, V.sl_l, V.len_t, V.len_T, V.len_l, V.len_s, V.len_d, V.tuple_t, V.tuple_l, V.list_t, V.list_l, V.list_s, V.int_i, V.int_s, V.abs_i, V.min_ii, V.max_ii, V.sum_l, V.any_l, V.all_l, V.min_l, V.max_l, V.str_i, V.sorted_l, V.sorted_t, V.sorted_d, V.get_d, V.app, V.ext, V.pop0, V.pop1, V.ins, V.set_l, V.set_d, V.wk_t, V.wk_l, V.wk_s, V.wk_x, V.wkr_t, V.wkr_l, V.rev_l, V.rev_t, V.it_t, V.it_l, V.en_t, V.en_l, V.en_x, V.zp_t, V.zp_l, V.need_f, V.need_i, V.asI, V.asB, V.asIm, V.lift_s, V.lift_n, V.keep_i, V.keep_f, V.keep_l, V.keep_T, V.keep_d, V.im_i, V.im_l, V.im_T, V.im_d, V.im_s, V.mx_index, V.mx_count, V.mx_counts, V.mx_join, V.mx_split, V.isin_s, V.isin_t, V.isin_i, V.gcd_ii, V.eqI_ii, V.big_, V.op_ii, slD_tx, len_tx, add_tx, S_eq, atI_map, cutL_take, cutL_drop, cutL_mid, cutL_last, ims_some, ims_int, intsOf_int, boolsOf_bl, -List.map_map]
theorem can_ok {j : Nat} {w m : List Int} (h : GW w) (hm : minS (canL w) = some m) : f_canonical_word.sem (tab (j + 3)) [oT w] = .ok (.im (tI m)) [oT w] := by
  refine WP.eq (WP_sem rfl ?_)
  have hl := gw_len h
  have b1 : w.length ≤ 1000000 := by omega
  have hc := check_ok (j := j) h
  simp -dsimp [f_canonical_word, t_canonical_word_0, t_canonical_word_1, fn_check, hc, b1, ↓WP_ok, ↓WP_exc, ↓WP_bad, ↓WP_bind, ↓WP_cons, ↓WP_nil, ↓WP_callF, ↓WP_callE, ↓WP_clr, ↓WP_try, ↓WP_range1, ↓WP_range2, ↓WP_mutA, ↓WP_mutE, ↓WP_mutP, ↓WP_mutI, ↓WP_sd, ↓WP_setix, ↓SeqK_nx, ↓SeqK_rt, ↓SeqK_bk, ↓SeqK_ct, ↓ClrK_nx, ↓ClrK_rt, ↓ClrK_bk, ↓ClrK_ct, ↓SemK_rt, ↓SemK_nx, ↓ForK_nx, ↓ForK_ct, ↓ForK_bk, ↓ForK_rt, ↓W.s_ifs, ↓W.e_varF, ↓W.e_varT, ↓W.a_var, ↓W.still_im, ↓W.still_b, ↓W.e_cst, ↓W.e_glob, ↓W.e_tup, ↓W.e_lst, ↓W.e_dnew, ↓W.e_bin, ↓W.e_neg, ↓W.e_not, ↓W.e_cmp, ↓W.e_chain, ↓W.e_one, ↓W.e_and, ↓W.e_or, ↓W.e_ite, ↓W.e_ix, ↓W.e_sl, ↓W.e_ixv, ↓W.e_slv, ↓W.e_rev, ↓W.e_lrange, ↓W.e_disp, ↓W.e_dispD, ↓W.e_gcd, ↓W.e_isin, ↓W.e_bi1, ↓W.e_bi2, ↓W.e_get, ↓W.e_index, ↓W.e_count, ↓W.e_join, ↓W.e_split, ↓W.es_nil, ↓W.es_cons, ↓W.bs_nil, ↓W.bs_cons, ↓W.as_nil, ↓W.as_cons, ↓W.o_no, ↓W.o_so, ↓W.c_no, ↓W.c_so, ↓W.t_not, ↓W.t_one, ↓W.t_and, ↓W.t_or, ↓W.t_cmp, ↓W.t_chain, ↓W.t_var, ↓W.t_cst, ↓W.t_call, ↓W.t_ixv, ↓W.t_me, ↓W.t_ix, ↓W.t_bi, ↓W.t_isin, ↓W.t_gin, ↓W.w_it, ↓W.w_rev, ↓W.w_enum, ↓W.w_zip, ↓W.s_setv, ↓W.s_asg, ↓W.s_unp, ↓W.s_par, ↓W.s_ret, ↓W.s_retN, ↓W.s_expr, ↓W.s_doc, ↓W.s_pass, ↓W.s_brk, ↓W.s_cont, ↓W.s_raise, ↓W.s_swap, ↓W.a_cst, ↓W.a_glob, ↓W.a_tup, ↓W.a_lst, ↓W.a_bin, ↓W.a_neg, ↓W.a_ite, ↓W.a_ix, ↓W.a_sl, ↓W.a_rev, ↓W.a_ixv, ↓W.a_slv, ↓W.a_lrange, ↓W.a_disp, ↓W.a_dispD, ↓W.a_gix, ↓W.a_gcd, ↓W.a_isin, ↓W.a_call, ↓W.a_bi, ↓W.a_me, ↓W.a_cmp, ↓W.a_mut, ↓W.a_lc, ↓W.a_and, ↓W.a_or, ↓W.a_not, ↓W.a_one, ↓W.a_chain, ↓W.a_dnew, WP_ok, WP_exc, WP_bad, WP_bind, WP_ifbad, WP_ite, WP_lift, WP_liftN, WP_liftI, WP_callT, W.rdV, W.rdO, W.ldO, backO, mutO, setO, isOL, isOM, isOD, sdO, Mm.sd, readS, lendS, binI, cmpI, List.isEmpty, meOk, mxOk, Mm.sup, mkTup, ims, E.pure, Es.pure, Eo.pure, E.src, Wk.src, bindT, bindTs, Kh.clear, lockAll, Kh.settle, settleGo, Slot.isOwnMut, Slot.imOf, Slot.borOf, giveBack, Out.nx, Ss.stores, Kh.S.stores, Tg.slots, Tgs.slots, Es.len, vOk, clearV, runH, evalH, imAt, V.add_ii, V.sub_ii, V.add_tt, V.add_ll, V.mul_li, V.mul_si, V.eq_ss, V.ne_ss, V.eq_ii, V.ne_ii, V.eq_ll, V.ne_ll, V.isN_n, V.notN_n, V.isN_b, V.notN_b, V.isN_i, V.notN_i, V.isN_s, V.notN_s, V.isN_t, V.notN_t, V.is_bb, V.not_bb, V.eq_bb, V.ne_bb, V.lt_ii, V.le_ii, V.gt_ii, V.ge_ii, V.ix_t, V.ix_T, V.ix_l, V.ix_s, V.ix_d, V.ix_x, V.ixV_l, V.ixV_t, V.at_0, V.at_1, V.at_2, V.at_3, V.at_4, V.at_5, V.at_m1, V.at_m2, V.at_m3, V.at_m4, V.sl_t, V.sl_l, V.len_t, V.len_T, V.len_l, V.len_s, V.len_d, V.tuple_t, V.tuple_l, V.list_t, V.list_l, V.list_s, V.int_i, V.int_s, V.abs_i, V.min_ii, V.max_ii, V.sum_l, V.any_l, V.all_l, V.min_l, V.max_l, V.str_i, V.sorted_l, V.sorted_t, V.sorted_d, V.get_d, V.app, V.ext, V.pop0, V.pop1, V.ins, V.set_l, V.set_d, V.wk_t, V.wk_l, V.wk_s, V.wk_x, V.wkr_t, V.wkr_l, V.rev_l, V.rev_t, V.it_t, V.it_l, V.en_t, V.en_l, V.en_x, V.zp_t, V.zp_l, V.need_f, V.need_i, V.asI, V.asB, V.asIm, V.lift_s, V.lift_n, V.keep_i, V.keep_f, V.keep_l, V.keep_T, V.keep_d, V.im_i, V.im_l, V.im_T, V.im_d, V.im_s, V.mx_index, V.mx_count, V.mx_counts, V.mx_join, V.mx_split, V.isin_s, V.isin_t, V.isin_i, V.gcd_ii, V.eqI_ii, V.big_, V.op_ii, slD_tx, len_tx, add_tx, S_eq, atI_map, cutL_take, cutL_drop, cutL_mid, cutL_last, ims_some, ims_int, intsOf_int, boolsOf_bl, -List.map_map]
  have key : ∀ l0 : List (List Int), canL w = l0 ++ (((List.range w.length).map fun i => named (rotN i w)) ++ ((List.range w.length).map fun i => named (rotN i w.reverse))) → l0.length ≤ 1 → WP (execs (tab (j + 3)) t_canonical_word_2 [oT w, .own (lT l0), .no, .no]) (SemK f_canonical_word fun b f => b = .im (tI m) ∧ f = [oT w]) noX := by
    intro l0 hall h0
    rw [t_canonical_word_2, WP_cons]
    unfold s_canonical_word_4
    rw [WP_fors]
    simp -dsimp [↓WP_ok, ↓WP_exc, ↓WP_bad, ↓WP_bind, ↓WP_cons, ↓WP_nil, ↓WP_callF, ↓WP_callE, ↓WP_clr, ↓WP_try, ↓WP_range1, ↓WP_range2, ↓WP_mutA, ↓WP_mutE, ↓WP_mutP, ↓WP_mutI, ↓WP_sd, ↓WP_setix, ↓SeqK_nx, ↓SeqK_rt, ↓SeqK_bk, ↓SeqK_ct, ↓ClrK_nx, ↓ClrK_rt, ↓ClrK_bk, ↓ClrK_ct, ↓SemK_rt, ↓SemK_nx, ↓ForK_nx, ↓ForK_ct, ↓ForK_bk, ↓ForK_rt, ↓W.s_ifs, ↓W.e_varF, ↓W.e_varT, ↓W.a_var, ↓W.still_im, ↓W.still_b, ↓W.e_cst, ↓W.e_glob, ↓W.e_tup, ↓W.e_lst, ↓W.e_dnew, ↓W.e_bin, ↓W.e_neg, ↓W.e_not, ↓W.e_cmp, ↓W.e_chain, ↓W.e_one, ↓W.e_and, ↓W.e_or, ↓W.e_ite, ↓W.e_ix, ↓W.e_sl, ↓W.e_ixv, ↓W.e_slv, ↓W.e_rev, ↓W.e_lrange, ↓W.e_disp, ↓W.e_dispD, ↓W.e_gcd, ↓W.e_isin, ↓W.e_bi1, ↓W.e_bi2, ↓W.e_get, ↓W.e_index, ↓W.e_count, ↓W.e_join, ↓W.e_split, ↓W.es_nil, ↓W.es_cons, ↓W.bs_nil, ↓W.bs_cons, ↓W.as_nil, ↓W.as_cons, ↓W.o_no, ↓W.o_so, ↓W.c_no, ↓W.c_so, ↓W.t_not, ↓W.t_one, ↓W.t_and, ↓W.t_or, ↓W.t_cmp, ↓W.t_chain, ↓W.t_var, ↓W.t_cst, ↓W.t_call, ↓W.t_ixv, ↓W.t_me, ↓W.t_ix, ↓W.t_bi, ↓W.t_isin, ↓W.t_gin, ↓W.w_it, ↓W.w_rev, ↓W.w_enum, ↓W.w_zip, ↓W.s_setv, ↓W.s_asg, ↓W.s_unp, ↓W.s_par, ↓W.s_ret, ↓W.s_retN, ↓W.s_expr, ↓W.s_doc, ↓W.s_pass, ↓W.s_brk, ↓W.s_cont, ↓W.s_raise, ↓W.s_swap, ↓W.a_cst, ↓W.a_glob, ↓W.a_tup, ↓W.a_lst, ↓W.a_bin, ↓W.a_neg, ↓W.a_ite, ↓W.a_ix, ↓W.a_sl, ↓W.a_rev, ↓W.a_ixv, ↓W.a_slv, ↓W.a_lrange, ↓W.a_disp, ↓W.a_dispD, ↓W.a_gix, ↓W.a_gcd, ↓W.a_isin, ↓W.a_call, ↓W.a_bi, ↓W.a_me, ↓W.a_cmp, ↓W.a_mut, ↓W.a_lc, ↓W.a_and, ↓W.a_or, ↓W.a_not, ↓W.a_one, ↓W.a_chain, ↓W.a_dnew, WP_ok, WP_exc, WP_bad, WP_bind, WP_ifbad, WP_ite, WP_lift, WP_liftN, WP_liftI, WP_callT, W.rdV, W.rdO, W.ldO, backO, mutO, setO, isOL, isOM, isOD, sdO, Mm.sd, readS, lendS, binI, cmpI, List.isEmpty, meOk, mxOk, Mm.sup, mkTup, ims, E.pure, Es.pure, Eo.pure, E.src, Wk.src, bindT, bindTs, Kh.clear, lockAll, Kh.settle, settleGo, Slot.isOwnMut, Slot.imOf, Slot.borOf, giveBack, Out.nx, Ss.stores, Kh.S.stores, Tg.slots, Tgs.slots, Es.len, vOk, clearV, runH, evalH, imAt, V.add_ii, V.sub_ii, V.add_tt, V.add_ll, V.mul_li, V.mul_si, V.eq_ss, V.ne_ss, V.eq_ii, V.ne_ii, V.eq_ll, V.ne_ll, V.isN_n, V.notN_n, V.isN_b, V.notN_b, V.isN_i, V.notN_i, V.isN_s, V.notN_s, V.isN_t, V.notN_t, V.is_bb, V.not_bb, V.eq_bb, V.ne_bb, V.lt_ii, V.le_ii, V.gt_ii, V.ge_ii, V.ix_t, V.ix_T, V.ix_l, V.ix_s, V.ix_d, V.ix_x, V.ixV_l, V.ixV_t, V.at_0, V.at_1, V.at_2, V.at_3, V.at_4, V.at_5, V.at_m1, V.at_m2, V.at_m3, V.at_m4, V.sl_t, V.sl_l, V.len_t, V.len_T, V.len_l, V.len_s, V.len_d, V.tuple_t, V.tuple_l, V.list_t, V.list_l, V.list_s, V.int_i, V.int_s, V.abs_i, V.min_ii, V.max_ii, V.sum_l, V.any_l, V.all_l, V.min_l, V.max_l, V.str_i, V.sorted_l, V.sorted_t, V.sorted_d, V.get_d, V.app, V.ext, V.pop0, V.pop1, V.ins, V.set_l, V.set_d, V.wk_t, V.wk_l, V.wk_s, V.wk_x, V.wkr_t, V.wkr_l, V.rev_l, V.rev_t, V.it_t, V.it_l, V.en_t, V.en_l, V.en_x, V.zp_t, V.zp_l, V.need_f, V.need_i, V.asI, V.asB, V.asIm, V.lift_s, V.lift_n, V.keep_i, V.keep_f, V.keep_l, V.keep_T, V.keep_d, V.im_i, V.im_l, V.im_T, V.im_d, V.im_s, V.mx_index, V.mx_count, V.mx_counts, V.mx_join, V.mx_split, V.isin_s, V.isin_t, V.isin_i, V.gcd_ii, V.eqI_ii, V.big_, V.op_ii, slD_tx, len_tx, add_tx, S_eq, atI_map, cutL_take, cutL_drop, cutL_mid, cutL_last, ims_some, ims_int, intsOf_int, boolsOf_bl, -List.map_map]
    refine ⟨b1, WP_goC (WP_forT rfl ?_)⟩
    unfold s_canonical_word_3
    rw [WP_cons]
    refine (inner_ok (j := j + 2) (by omega) rfl (by omega)).to fun f e ⟨e1, e2⟩ => ?_
    subst e1 e2
    simp -dsimp [↓WP_ok, ↓WP_exc, ↓WP_bad, ↓WP_bind, ↓WP_cons, ↓WP_nil, ↓WP_callF, ↓WP_callE, ↓WP_clr, ↓WP_try, ↓WP_range1, ↓WP_range2, ↓WP_mutA, ↓WP_mutE, ↓WP_mutP, ↓WP_mutI, ↓WP_sd, ↓WP_setix, ↓SeqK_nx, ↓SeqK_rt, ↓SeqK_bk, ↓SeqK_ct, ↓ClrK_nx, ↓ClrK_rt, ↓ClrK_bk, ↓ClrK_ct, ↓SemK_rt, ↓SemK_nx, ↓ForK_nx, ↓ForK_ct, ↓ForK_bk, ↓ForK_rt, ↓W.s_ifs, ↓W.e_varF, ↓W.e_varT, ↓W.a_var, ↓W.still_im, ↓W.still_b, ↓W.e_cst, ↓W.e_glob, ↓W.e_tup, ↓W.e_lst, ↓W.e_dnew, ↓W.e_bin, ↓W.e_neg, ↓W.e_not, ↓W.e_cmp, ↓W.e_chain, ↓W.e_one, ↓W.e_and, ↓W.e_or, ↓W.e_ite, ↓W.e_ix, ↓W.e_sl, ↓W.e_ixv, ↓W.e_slv, ↓W.e_rev, ↓W.e_lrange, ↓W.e_disp, ↓W.e_dispD, ↓W.e_gcd, ↓W.e_isin, ↓W.e_bi1, ↓W.e_bi2, ↓W.e_get, ↓W.e_index, ↓W.e_count, ↓W.e_join, ↓W.e_split, ↓W.es_nil, ↓W.es_cons, ↓W.bs_nil, ↓W.bs_cons, ↓W.as_nil, ↓W.as_cons, ↓W.o_no, ↓W.o_so, ↓W.c_no, ↓W.c_so, ↓W.t_not, ↓W.t_one, ↓W.t_and, ↓W.t_or, ↓W.t_cmp, ↓W.t_chain, ↓W.t_var, ↓W.t_cst, ↓W.t_call, ↓W.t_ixv, ↓W.t_me, ↓W.t_ix, ↓W.t_bi, ↓W.t_isin, ↓W.t_gin, ↓W.w_it, ↓W.w_rev, ↓W.w_enum, ↓W.w_zip, ↓W.s_setv, ↓W.s_asg, ↓W.s_unp, ↓W.s_par, ↓W.s_ret, ↓W.s_retN, ↓W.s_expr, ↓W.s_doc, ↓W.s_pass, ↓W.s_brk, ↓W.s_cont, ↓W.s_raise, ↓W.s_swap, ↓W.a_cst, ↓W.a_glob, ↓W.a_tup, ↓W.a_lst, ↓W.a_bin, ↓W.a_neg, ↓W.a_ite, ↓W.a_ix, ↓W.a_sl, ↓W.a_rev, ↓W.a_ixv, ↓W.a_slv, ↓W.a_lrange, ↓W.a_disp, ↓W.a_dispD, ↓W.a_gix, ↓W.a_gcd, ↓W.a_isin, ↓W.a_call, ↓W.a_bi, ↓W.a_me, ↓W.a_cmp, ↓W.a_mut, ↓W.a_lc, ↓W.a_and, ↓W.a_or, ↓W.a_not, ↓W.a_one, ↓W.a_chain, ↓W.a_dnew, WP_ok, WP_exc, WP_bad, WP_bind, WP_ifbad, WP_ite, WP_lift, WP_liftN, WP_liftI, WP_callT, W.rdV, W.rdO, W.ldO, backO, mutO, setO, isOL, isOM, isOD, sdO, Mm.sd, readS, lendS, binI, cmpI, List.isEmpty, meOk, mxOk, Mm.sup, mkTup, ims, E.pure, Es.pure, Eo.pure, E.src, Wk.src, bindT, bindTs, Kh.clear, lockAll, Kh.settle, settleGo, Slot.isOwnMut, Slot.imOf, Slot.borOf, giveBack, Out.nx, Ss.stores, Kh.S.stores, Tg.slots, Tgs.slots, Es.len, vOk, clearV, runH, evalH, imAt, V.add_ii, V.sub_ii, V.add_tt, V.add_ll, V.mul_li, V.mul_si, V.eq_ss, V.ne_ss, V.eq_ii, V.ne_ii, V.eq_ll, V.ne_ll, V.isN_n, V.notN_n, V.isN_b, V.notN_b, V.isN_i, V.notN_i, V.isN_s, V.notN_s, V.isN_t, V.notN_t, V.is_bb, V.not_bb, V.eq_bb, V.ne_bb, V.lt_ii, V.le_ii, V.gt_ii, V.ge_ii, V.ix_t, V.ix_T, V.ix_l, V.ix_s, V.ix_d, V.ix_x, V.ixV_l, V.ixV_t, V.at_0, V.at_1, V.at_2, V.at_3, V.at_4, V.at_5, V.at_m1, V.at_m2, V.at_m3, V.at_m4, V.sl_t, V.sl_l, V.len_t, V.len_T, V.len_l, V.len_s, V.len_d, V.tuple_t, V.tuple_l, V.list_t, V.list_l, V.list_s, V.int_i, V.int_s, V.abs_i, V.min_ii, V.max_ii, V.sum_l, V.any_l, V.all_l, V.min_l, V.max_l, V.str_i, V.sorted_l, V.sorted_t, V.sorted_d, V.get_d, V.app, V.ext, V.pop0, V.pop1, V.ins, V.set_l, V.set_d, V.wk_t, V.wk_l, V.wk_s, V.wk_x, V.wkr_t, V.wkr_l, V.rev_l, V.rev_t, V.it_t, V.it_l, V.en_t, V.en_l, V.en_x, V.zp_t, V.zp_l, V.need_f, V.need_i, V.asI, V.asB, V.asIm, V.lift_s, V.lift_n, V.keep_i, V.keep_f, V.keep_l, V.keep_T, V.keep_d, V.im_i, V.im_l, V.im_T, V.im_d, V.im_s, V.mx_index, V.mx_count, V.mx_counts, V.mx_join, V.mx_split, V.isin_s, V.isin_t, V.isin_i, V.gcd_ii, V.eqI_ii, V.big_, V.op_ii, slD_tx, len_tx, add_tx, S_eq, atI_map, cutL_take, cutL_drop, cutL_mid, cutL_last, ims_some, ims_int, intsOf_int, boolsOf_bl, -List.map_map]
    refine WP_goC (WP_forT rfl ?_)
    rw [WP_cons]
    have er : (w.map I.int).reverse = w.reverse.map I.int := by simp
    rw [er]
    refine (inner_ok (j := j + 2) (v := w.reverse) (by omega) (by simp) (by simp; omega)).to fun f e ⟨e1, e2⟩ => ?_
    subst e1 e2
    rw [List.append_assoc, ← hall]
    have hmin := min_T hm
    simp -dsimp [WP_goN, t_canonical_word_3, t_canonical_word_4, s_canonical_word_4, s_canonical_word_3, s_canonical_word_2, s_canonical_word_1, z_canonical_word, hmin, ↓WP_ok, ↓WP_exc, ↓WP_bad, ↓WP_bind, ↓WP_cons, ↓WP_nil, ↓WP_callF, ↓WP_callE, ↓WP_clr, ↓WP_try, ↓WP_range1, ↓WP_range2, ↓WP_mutA, ↓WP_mutE, ↓WP_mutP, ↓WP_mutI, ↓WP_sd, ↓WP_setix, ↓SeqK_nx, ↓SeqK_rt, ↓SeqK_bk, ↓SeqK_ct, ↓ClrK_nx, ↓ClrK_rt, ↓ClrK_bk, ↓ClrK_ct, ↓SemK_rt, ↓SemK_nx, ↓ForK_nx, ↓ForK_ct, ↓ForK_bk, ↓ForK_rt, ↓W.s_ifs, ↓W.e_varF, ↓W.e_varT, ↓W.a_var, ↓W.still_im, ↓W.still_b, ↓W.e_cst, ↓W.e_glob, ↓W.e_tup, ↓W.e_lst, ↓W.e_dnew, ↓W.e_bin, ↓W.e_neg, ↓W.e_not, ↓W.e_cmp, ↓W.e_chain, ↓W.e_one, ↓W.e_and, ↓W.e_or, ↓W.e_ite, ↓W.e_ix, ↓W.e_sl, ↓W.e_ixv, ↓W.e_slv, ↓W.e_rev, ↓W.e_lrange, ↓W.e_disp, ↓W.e_dispD, ↓W.e_gcd, ↓W.e_isin, ↓W.e_bi1, ↓W.e_bi2, ↓W.e_get, ↓W.e_index, ↓W.e_count, ↓W.e_join, ↓W.e_split, ↓W.es_nil, ↓W.es_cons, ↓W.bs_nil, ↓W.bs_cons, ↓W.as_nil, ↓W.as_cons, ↓W.o_no, ↓W.o_so, ↓W.c_no, ↓W.c_so, ↓W.t_not, ↓W.t_one, ↓W.t_and, ↓W.t_or, ↓W.t_cmp, ↓W.t_chain, ↓W.t_var, ↓W.t_cst, ↓W.t_call, ↓W.t_ixv, ↓W.t_me, ↓W.t_ix, ↓W.t_bi, ↓W.t_isin, ↓W.t_gin, ↓W.w_it, ↓W.w_rev, ↓W.w_enum, ↓W.w_zip, ↓W.s_setv, ↓W.s_asg, ↓W.s_unp, ↓W.s_par, ↓W.s_ret, ↓W.s_retN, ↓W.s_expr, ↓W.s_doc, ↓W.s_pass, ↓W.s_brk, ↓W.s_cont, ↓W.s_raise, ↓W.s_swap, ↓W.a_cst, ↓W.a_glob, ↓W.a_tup, ↓W.a_lst, ↓W.a_bin, ↓W.a_neg, ↓W.a_ite, ↓W.a_ix, ↓W.a_sl, ↓W.a_rev, ↓W.a_ixv, ↓W.a_slv, ↓W.a_lrange, ↓W.a_disp, ↓W.a_dispD, ↓W.a_gix, ↓W.a_gcd, ↓W.a_isin, ↓W.a_call, ↓W.a_bi, ↓W.a_me, ↓W.a_cmp, ↓W.a_mut, ↓W.a_lc, ↓W.a_and, ↓W.a_or, ↓W.a_not, ↓W.a_one, ↓W.a_chain, ↓W.a_dnew, WP_ok, WP_exc, WP_bad, WP_bind, WP_ifbad, WP_ite, WP_lift, WP_liftN, WP_liftI, WP_callT, W.rdV, W.rdO, W.ldO, backO, mutO, setO, isOL, isOM, isOD, sdO, Mm.sd, readS, lendS, binI, cmpI, List.isEmpty, meOk, mxOk, Mm.sup, mkTup, ims, E.pure, Es.pure, Eo.pure, E.src, Wk.src, bindT, bindTs, Kh.clear, lockAll, Kh.settle, settleGo, Slot.isOwnMut, Slot.imOf, Slot.borOf, giveBack, Out.nx, Ss.stores, Kh.S.stores, Tg.slots, Tgs.slots, Es.len, vOk, clearV, runH, evalH, imAt, V.add_ii, V.sub_ii, V.add_tt, V.add_ll, V.mul_li, V.mul_si, V.eq_ss, V.ne_ss, V.eq_ii, V.ne_ii, V.eq_ll, V.ne_ll, V.isN_n, V.notN_n, V.isN_b, V.notN_b, V.isN_i, V.notN_i, V.isN_s, V.notN_s, V.isN_t, V.notN_t, V.is_bb, V.not_bb, V.eq_bb, V.ne_bb, V.lt_ii, V.le_ii, V.gt_ii, V.ge_ii, V.ix_t, V.ix_T, V.ix_l, V.ix_s, V.ix_d, V.ix_x, V.ixV_l, V.ixV_t, V.at_0, V.at_1, V.at_2, V.at_3, V.at_4, V.at_5, V.at_m1, V.at_m2, V.at_m3, V.at_m4, V.sl_t, V.sl_l, V.len_t, V.len_T, V.len_l, V.len_s, V.len_d, V.tuple_t, V.tuple_l, V.list_t, V.list_l, V.list_s, V.int_i, V.int_s, V.abs_i, V.min_ii, V.max_ii, V.sum_l, V.any_l, V.all_l, V.min_l, V.max_l, V.str_i, V.sorted_l, V.sorted_t, V.sorted_d, V.get_d, V.app, V.ext, V.pop0, V.pop1, V.ins, V.set_l, V.set_d, V.wk_t, V.wk_l, V.wk_s, V.wk_x, V.wkr_t, V.wkr_l, V.rev_l, V.rev_t, V.it_t, V.it_l, V.en_t, V.en_l, V.en_x, V.zp_t, V.zp_l, V.need_f, V.need_i, V.asI, V.asB, V.asIm, V.lift_s, V.lift_n, V.keep_i, V.keep_f, V.keep_l, V.keep_T, V.keep_d, V.im_i, V.im_l, V.im_T, V.im_d, V.im_s, V.mx_index, V.mx_count, V.mx_counts, V.mx_join, V.mx_split, V.isin_s, V.isin_t, V.isin_i, V.gcd_ii, V.eqI_ii, V.big_, V.op_ii, slD_tx, len_tx, add_tx, S_eq, atI_map, cutL_take, cutL_drop, cutL_mid, cutL_last, ims_some, ims_int, intsOf_int, boolsOf_bl, -List.map_map]
  refine ⟨fun h0 => ?_, fun h0 => ?_⟩
  · exact key [[]] (by subst h0; rfl) (by simp)
  · exact key [] (by unfold canL; rw [if_neg (fun z => h0 (List.length_eq_zero_iff.mp z))]) (by simp)
end Kw

set_option Elab.async false
set_option linter.all false
set_option maxRecDepth 100000
set_option maxHeartbeats 4000000
namespace Kw
open PySem L2 Kh Km
theorem fn_take {k : Nat} : (tab (k + 1)).fn (Str.ofString "_law_take") = some (fTake.sem (tab k)) := rfl
theorem fn_begin {k : Nat} : (tab (k + 1)).fn (Str.ofString "_law_begin") = some (fBegin.sem (tab k)) := rfl
theorem fn_gauss {k : Nat} : (tab (k + 1)).fn (Str.ofString "_law_gauss") = some (f_l_gauss.sem (tab k)) := rfl
theorem fn_all {k : Nat} : (tab (k + 1)).fn (Str.ofString "_law_all") = some (f_l_all.sem (tab k)) := rfl
def pend (r : List Nat) : List Int := (r.map fun (i : Nat) => (i : Int) + 1) ++ r.map fun (i : Nat) => (i : Int) + 1
def InvG (m : Nat) (r : List Nat) (e : En) : Prop := ∃ row s, e = [.own (dS s), oI m, .own (lI row), .no] ∧ StOk s ∧ (row ++ pend r).Perm (lets m ++ lets m)
def FinG (m : Nat) (v : D) (fin : En) : Prop := ∃ w s', v = .im (tI w) ∧ w.Perm (lets m ++ lets m) ∧ fin = [.own (dS s'), oI m] ∧ StOk s'
def ins (n : Nat) (x : Int) (l : List Int) : List Int := l.take n ++ x :: l.drop n
theorem ins_perm {n : Nat} {x : Int} {l : List Int} : (ins n x l).Perm (x :: l) := by
  unfold ins
  refine List.perm_middle.trans ?_
  rw [List.take_append_drop]
theorem ins_map {n : Nat} {x : Int} {l : List Int} : List.take n (List.map (fun n => D.im (I.int n)) l) ++ D.im (I.int x) :: List.drop n (List.map (fun n => D.im (I.int n)) l) = (ins n x l).map fun n => D.im (I.int n) := by
  unfold ins
  rw [List.map_append, List.map_cons, List.map_take, List.map_drop]
theorem ins_len {n : Nat} {x : Int} {l : List Int} : (ins n x l).length = l.length + 1 := (ins_perm (n := n) (x := x) (l := l)).length_eq
theorem pend_cons {a : Nat} {r : List Nat} : (pend (a :: r)).Perm (((a : Int) + 1) :: ((a : Int) + 1) :: pend r) := by
  unfold pend
  simp only [List.map_cons, List.cons_append]
  exact .cons _ List.perm_middle
theorem gauss_ok {j m : Nat} {s : Kh.St} (ok : StOk s) (hm : m ≤ 14) : WP (f_l_gauss.sem (tab (j + 1)) [.own (dS s), oI m]) (FinG m) noX := by
  refine WP_sem rfl ?_
  simp -dsimp [f_l_gauss, ↓WP_ok, ↓WP_exc, ↓WP_bad, ↓WP_bind, ↓WP_cons, ↓WP_nil, ↓WP_callF, ↓WP_callE, ↓WP_clr, ↓WP_try, ↓WP_range1, ↓WP_range2, ↓WP_mutA, ↓WP_mutE, ↓WP_mutP, ↓WP_mutI, ↓WP_sd, ↓WP_setix, ↓SeqK_nx, ↓SeqK_rt, ↓SeqK_bk, ↓SeqK_ct, ↓ClrK_nx, ↓ClrK_rt, ↓ClrK_bk, ↓ClrK_ct, ↓SemK_rt, ↓SemK_nx, ↓ForK_nx, ↓ForK_ct, ↓ForK_bk, ↓ForK_rt, ↓W.s_ifs, ↓W.e_varF, ↓W.e_varT, ↓W.a_var, ↓W.still_im, ↓W.still_b, ↓W.e_cst, ↓W.e_glob, ↓W.e_tup, ↓W.e_lst, ↓W.e_dnew, ↓W.e_bin, ↓W.e_neg, ↓W.e_not, ↓W.e_cmp, ↓W.e_chain, ↓W.e_one, ↓W.e_and, ↓W.e_or, ↓W.e_ite, ↓W.e_ix, ↓W.e_sl, ↓W.e_ixv, ↓W.e_slv, ↓W.e_rev, ↓W.e_lrange, ↓W.e_disp, ↓W.e_dispD, ↓W.e_gcd, ↓W.e_isin, ↓W.e_bi1, ↓W.e_bi2, ↓W.e_get, ↓W.e_index, ↓W.e_count, ↓W.e_join, ↓W.e_split, ↓W.es_nil, ↓W.es_cons, ↓W.bs_nil, ↓W.bs_cons, ↓W.as_nil, ↓W.as_cons, ↓W.o_no, ↓W.o_so, ↓W.c_no, ↓W.c_so, ↓W.t_not, ↓W.t_one, ↓W.t_and, ↓W.t_or, ↓W.t_cmp, ↓W.t_chain, ↓W.t_var, ↓W.t_cst, ↓W.t_call, ↓W.t_ixv, ↓W.t_me, ↓W.t_ix, ↓W.t_bi, ↓W.t_isin, ↓W.t_gin, ↓W.w_it, ↓W.w_rev, ↓W.w_enum, ↓W.w_zip, ↓W.s_setv, ↓W.s_asg, ↓W.s_unp, ↓W.s_par, ↓W.s_ret, ↓W.s_retN, ↓W.s_expr, ↓W.s_doc, ↓W.s_pass, ↓W.s_brk, ↓W.s_cont, ↓W.s_raise, ↓W.s_swap, ↓W.a_cst, ↓W.a_glob, ↓W.a_tup, ↓W.a_lst, ↓W.a_bin, ↓W.a_neg, ↓W.a_ite, ↓W.a_ix, ↓W.a_sl, ↓W.a_rev, ↓W.a_ixv, ↓W.a_slv, ↓W.a_lrange, ↓W.a_disp, ↓W.a_dispD, ↓W.a_gix, ↓W.a_gcd, ↓W.a_isin, ↓W.a_call, ↓W.a_bi, ↓W.a_me, ↓W.a_cmp, ↓W.a_mut, ↓W.a_lc, ↓W.a_and, ↓W.a_or, ↓W.a_not, ↓W.a_one, ↓W.a_chain, ↓W.a_dnew, WP_ok, WP_exc, WP_bad, WP_bind, WP_ifbad, WP_ite, WP_lift, WP_liftN, WP_liftI, WP_callT, W.rdV, W.rdO, W.ldO, backO, mutO, setO, isOL, isOM, isOD, sdO, Mm.sd, readS, lendS, binI, cmpI, List.isEmpty, meOk, mxOk, Mm.sup, mkTup, ims, E.pure, Es.pure, Eo.pure, E.src, Wk.src, bindT, bindTs, Kh.clear, lockAll, Kh.settle, settleGo, Slot.isOwnMut, Slot.imOf, Slot.borOf, giveBack, Out.nx, Ss.stores, Kh.S.stores, Tg.slots, Tgs.slots, Es.len, vOk, clearV, runH, evalH, imAt, V.add_ii, V.sub_ii, V.add_tt, V.add_ll, V.mul_li, V.mul_si, V.eq_ss, V.ne_ss, V.eq_ii, V.ne_ii, V.eq_ll, V.ne_ll, V.isN_n, V.notN_n, V.isN_b, V.notN_b, V.isN_i, V.notN_i, V.isN_s, V.notN_s, V.isN_t, V.notN_t, V.is_bb, V.not_bb, V.eq_bb, V.ne_bb, V.lt_ii, V.le_ii, V.gt_ii, V.ge_ii, V.ix_t, V.ix_T, V.ix_l, V.ix_s, V.ix_d, V.ix_x, V.ixV_l, V.ixV_t, V.at_0, V.at_1, V.at_2, V.at_3, V.at_4, V.at_5, V.at_m1, V.at_m2, V.at_m3, V.at_m4, V.sl_t, V.sl_l, V.len_t, V.len_T, V.len_l, V.len_s, V.len_d, V.tuple_t, V.tuple_l, V.list_t, V.list_l, V.list_s, V.int_i, V.int_s, V.abs_i, V.min_ii, V.max_ii, V.sum_l, V.any_l, V.all_l, V.min_l, V.max_l, V.str_i, V.sorted_l, V.sorted_t, V.sorted_d, V.get_d, V.app, V.ext, V.pop0, V.pop1, V.ins, V.set_l, V.set_d, V.wk_t, V.wk_l, V.wk_s, V.wk_x, V.wkr_t, V.wkr_l, V.rev_l, V.rev_t, V.it_t, V.it_l, V.en_t, V.en_l, V.en_x, V.zp_t, V.zp_l, V.need_f, V.need_i, V.asI, V.asB, V.asIm, V.lift_s, V.lift_n, V.keep_i, V.keep_f, V.keep_l, V.keep_T, V.keep_d, V.im_i, V.im_l, V.im_T, V.im_d, V.im_s, V.mx_index, V.mx_count, V.mx_counts, V.mx_join, V.mx_split, V.isin_s, V.isin_t, V.isin_i, V.gcd_ii, V.eqI_ii, V.big_, V.op_ii, slD_tx, len_tx, add_tx, S_eq, atI_map, cutL_take, cutL_drop, cutL_mid, cutL_last, ims_some, ims_int, intsOf_int, boolsOf_bl, -List.map_map]
  unfold s_l_gauss_2
  rw [WP_fors]
  simp -dsimp [↓WP_ok, ↓WP_exc, ↓WP_bad, ↓WP_bind, ↓WP_cons, ↓WP_nil, ↓WP_callF, ↓WP_callE, ↓WP_clr, ↓WP_try, ↓WP_range1, ↓WP_range2, ↓WP_mutA, ↓WP_mutE, ↓WP_mutP, ↓WP_mutI, ↓WP_sd, ↓WP_setix, ↓SeqK_nx, ↓SeqK_rt, ↓SeqK_bk, ↓SeqK_ct, ↓ClrK_nx, ↓ClrK_rt, ↓ClrK_bk, ↓ClrK_ct, ↓SemK_rt, ↓SemK_nx, ↓ForK_nx, ↓ForK_ct, ↓ForK_bk, ↓ForK_rt, ↓W.s_ifs, ↓W.e_varF, ↓W.e_varT, ↓W.a_var, ↓W.still_im, ↓W.still_b, ↓W.e_cst, ↓W.e_glob, ↓W.e_tup, ↓W.e_lst, ↓W.e_dnew, ↓W.e_bin, ↓W.e_neg, ↓W.e_not, ↓W.e_cmp, ↓W.e_chain, ↓W.e_one, ↓W.e_and, ↓W.e_or, ↓W.e_ite, ↓W.e_ix, ↓W.e_sl, ↓W.e_ixv, ↓W.e_slv, ↓W.e_rev, ↓W.e_lrange, ↓W.e_disp, ↓W.e_dispD, ↓W.e_gcd, ↓W.e_isin, ↓W.e_bi1, ↓W.e_bi2, ↓W.e_get, ↓W.e_index, ↓W.e_count, ↓W.e_join, ↓W.e_split, ↓W.es_nil, ↓W.es_cons, ↓W.bs_nil, ↓W.bs_cons, ↓W.as_nil, ↓W.as_cons, ↓W.o_no, ↓W.o_so, ↓W.c_no, ↓W.c_so, ↓W.t_not, ↓W.t_one, ↓W.t_and, ↓W.t_or, ↓W.t_cmp, ↓W.t_chain, ↓W.t_var, ↓W.t_cst, ↓W.t_call, ↓W.t_ixv, ↓W.t_me, ↓W.t_ix, ↓W.t_bi, ↓W.t_isin, ↓W.t_gin, ↓W.w_it, ↓W.w_rev, ↓W.w_enum, ↓W.w_zip, ↓W.s_setv, ↓W.s_asg, ↓W.s_unp, ↓W.s_par, ↓W.s_ret, ↓W.s_retN, ↓W.s_expr, ↓W.s_doc, ↓W.s_pass, ↓W.s_brk, ↓W.s_cont, ↓W.s_raise, ↓W.s_swap, ↓W.a_cst, ↓W.a_glob, ↓W.a_tup, ↓W.a_lst, ↓W.a_bin, ↓W.a_neg, ↓W.a_ite, ↓W.a_ix, ↓W.a_sl, ↓W.a_rev, ↓W.a_ixv, ↓W.a_slv, ↓W.a_lrange, ↓W.a_disp, ↓W.a_dispD, ↓W.a_gix, ↓W.a_gcd, ↓W.a_isin, ↓W.a_call, ↓W.a_bi, ↓W.a_me, ↓W.a_cmp, ↓W.a_mut, ↓W.a_lc, ↓W.a_and, ↓W.a_or, ↓W.a_not, ↓W.a_one, ↓W.a_chain, ↓W.a_dnew, WP_ok, WP_exc, WP_bad, WP_bind, WP_ifbad, WP_ite, WP_lift, WP_liftN, WP_liftI, WP_callT, W.rdV, W.rdO, W.ldO, backO, mutO, setO, isOL, isOM, isOD, sdO, Mm.sd, readS, lendS, binI, cmpI, List.isEmpty, meOk, mxOk, Mm.sup, mkTup, ims, E.pure, Es.pure, Eo.pure, E.src, Wk.src, bindT, bindTs, Kh.clear, lockAll, Kh.settle, settleGo, Slot.isOwnMut, Slot.imOf, Slot.borOf, giveBack, Out.nx, Ss.stores, Kh.S.stores, Tg.slots, Tgs.slots, Es.len, vOk, clearV, runH, evalH, imAt, V.add_ii, V.sub_ii, V.add_tt, V.add_ll, V.mul_li, V.mul_si, V.eq_ss, V.ne_ss, V.eq_ii, V.ne_ii, V.eq_ll, V.ne_ll, V.isN_n, V.notN_n, V.isN_b, V.notN_b, V.isN_i, V.notN_i, V.isN_s, V.notN_s, V.isN_t, V.notN_t, V.is_bb, V.not_bb, V.eq_bb, V.ne_bb, V.lt_ii, V.le_ii, V.gt_ii, V.ge_ii, V.ix_t, V.ix_T, V.ix_l, V.ix_s, V.ix_d, V.ix_x, V.ixV_l, V.ixV_t, V.at_0, V.at_1, V.at_2, V.at_3, V.at_4, V.at_5, V.at_m1, V.at_m2, V.at_m3, V.at_m4, V.sl_t, V.sl_l, V.len_t, V.len_T, V.len_l, V.len_s, V.len_d, V.tuple_t, V.tuple_l, V.list_t, V.list_l, V.list_s, V.int_i, V.int_s, V.abs_i, V.min_ii, V.max_ii, V.sum_l, V.any_l, V.all_l, V.min_l, V.max_l, V.str_i, V.sorted_l, V.sorted_t, V.sorted_d, V.get_d, V.app, V.ext, V.pop0, V.pop1, V.ins, V.set_l, V.set_d, V.wk_t, V.wk_l, V.wk_s, V.wk_x, V.wkr_t, V.wkr_l, V.rev_l, V.rev_t, V.it_t, V.it_l, V.en_t, V.en_l, V.en_x, V.zp_t, V.zp_l, V.need_f, V.need_i, V.asI, V.asB, V.asIm, V.lift_s, V.lift_n, V.keep_i, V.keep_f, V.keep_l, V.keep_T, V.keep_d, V.im_i, V.im_l, V.im_T, V.im_d, V.im_s, V.mx_index, V.mx_count, V.mx_counts, V.mx_join, V.mx_split, V.isin_s, V.isin_t, V.isin_i, V.gcd_ii, V.eqI_ii, V.big_, V.op_ii, slD_tx, len_tx, add_tx, S_eq, atI_map, cutL_take, cutL_drop, cutL_mid, cutL_last, ims_some, ims_int, intsOf_int, boolsOf_bl, -List.map_map]
  refine rg_wp rfl (by omega) ?_
  simp -dsimp [dS_im, ↓WP_ok, ↓WP_exc, ↓WP_bad, ↓WP_bind, ↓WP_cons, ↓WP_nil, ↓WP_callF, ↓WP_callE, ↓WP_clr, ↓WP_try, ↓WP_range1, ↓WP_range2, ↓WP_mutA, ↓WP_mutE, ↓WP_mutP, ↓WP_mutI, ↓WP_sd, ↓WP_setix, ↓SeqK_nx, ↓SeqK_rt, ↓SeqK_bk, ↓SeqK_ct, ↓ClrK_nx, ↓ClrK_rt, ↓ClrK_bk, ↓ClrK_ct, ↓SemK_rt, ↓SemK_nx, ↓ForK_nx, ↓ForK_ct, ↓ForK_bk, ↓ForK_rt, ↓W.s_ifs, ↓W.e_varF, ↓W.e_varT, ↓W.a_var, ↓W.still_im, ↓W.still_b, ↓W.e_cst, ↓W.e_glob, ↓W.e_tup, ↓W.e_lst, ↓W.e_dnew, ↓W.e_bin, ↓W.e_neg, ↓W.e_not, ↓W.e_cmp, ↓W.e_chain, ↓W.e_one, ↓W.e_and, ↓W.e_or, ↓W.e_ite, ↓W.e_ix, ↓W.e_sl, ↓W.e_ixv, ↓W.e_slv, ↓W.e_rev, ↓W.e_lrange, ↓W.e_disp, ↓W.e_dispD, ↓W.e_gcd, ↓W.e_isin, ↓W.e_bi1, ↓W.e_bi2, ↓W.e_get, ↓W.e_index, ↓W.e_count, ↓W.e_join, ↓W.e_split, ↓W.es_nil, ↓W.es_cons, ↓W.bs_nil, ↓W.bs_cons, ↓W.as_nil, ↓W.as_cons, ↓W.o_no, ↓W.o_so, ↓W.c_no, ↓W.c_so, ↓W.t_not, ↓W.t_one, ↓W.t_and, ↓W.t_or, ↓W.t_cmp, ↓W.t_chain, ↓W.t_var, ↓W.t_cst, ↓W.t_call, ↓W.t_ixv, ↓W.t_me, ↓W.t_ix, ↓W.t_bi, ↓W.t_isin, ↓W.t_gin, ↓W.w_it, ↓W.w_rev, ↓W.w_enum, ↓W.w_zip, ↓W.s_setv, ↓W.s_asg, ↓W.s_unp, ↓W.s_par, ↓W.s_ret, ↓W.s_retN, ↓W.s_expr, ↓W.s_doc, ↓W.s_pass, ↓W.s_brk, ↓W.s_cont, ↓W.s_raise, ↓W.s_swap, ↓W.a_cst, ↓W.a_glob, ↓W.a_tup, ↓W.a_lst, ↓W.a_bin, ↓W.a_neg, ↓W.a_ite, ↓W.a_ix, ↓W.a_sl, ↓W.a_rev, ↓W.a_ixv, ↓W.a_slv, ↓W.a_lrange, ↓W.a_disp, ↓W.a_dispD, ↓W.a_gix, ↓W.a_gcd, ↓W.a_isin, ↓W.a_call, ↓W.a_bi, ↓W.a_me, ↓W.a_cmp, ↓W.a_mut, ↓W.a_lc, ↓W.a_and, ↓W.a_or, ↓W.a_not, ↓W.a_one, ↓W.a_chain, ↓W.a_dnew, WP_ok, WP_exc, WP_bad, WP_bind, WP_ifbad, WP_ite, WP_lift, WP_liftN, WP_liftI, WP_callT, W.rdV, W.rdO, W.ldO, backO, mutO, setO, isOL, isOM, isOD, sdO, Mm.sd, readS, lendS, binI, cmpI, List.isEmpty, meOk, mxOk, Mm.sup, mkTup, ims, E.pure, Es.pure, Eo.pure, E.src, Wk.src, bindT, bindTs, Kh.clear, lockAll, Kh.settle, settleGo, Slot.isOwnMut, Slot.imOf, Slot.borOf, giveBack, Out.nx, Ss.stores, Kh.S.stores, Tg.slots, Tgs.slots, Es.len, vOk, clearV, runH, evalH, imAt, V.add_ii, V.sub_ii, V.add_tt, V.add_ll, V.mul_li, V.mul_si, V.eq_ss, V.ne_ss, V.eq_ii, V.ne_ii, V.eq_ll, V.ne_ll, V.isN_n, V.notN_n, V.isN_b, V.notN_b, V.isN_i, V.notN_i, V.isN_s, V.notN_s, V.isN_t, V.notN_t, V.is_bb, V.not_bb, V.eq_bb, V.ne_bb, V.lt_ii, V.le_ii, V.gt_ii, V.ge_ii, V.ix_t, V.ix_T, V.ix_l, V.ix_s, V.ix_d, V.ix_x, V.ixV_l, V.ixV_t, V.at_0, V.at_1, V.at_2, V.at_3, V.at_4, V.at_5, V.at_m1, V.at_m2, V.at_m3, V.at_m4, V.sl_t, V.sl_l, V.len_t, V.len_T, V.len_l, V.len_s, V.len_d, V.tuple_t, V.tuple_l, V.list_t, V.list_l, V.list_s, V.int_i, V.int_s, V.abs_i, V.min_ii, V.max_ii, V.sum_l, V.any_l, V.all_l, V.min_l, V.max_l, V.str_i, V.sorted_l, V.sorted_t, V.sorted_d, V.get_d, V.app, V.ext, V.pop0, V.pop1, V.ins, V.set_l, V.set_d, V.wk_t, V.wk_l, V.wk_s, V.wk_x, V.wkr_t, V.wkr_l, V.rev_l, V.rev_t, V.it_t, V.it_l, V.en_t, V.en_l, V.en_x, V.zp_t, V.zp_l, V.need_f, V.need_i, V.asI, V.asB, V.asIm, V.lift_s, V.lift_n, V.keep_i, V.keep_f, V.keep_l, V.keep_T, V.keep_d, V.im_i, V.im_l, V.im_T, V.im_d, V.im_s, V.mx_index, V.mx_count, V.mx_counts, V.mx_join, V.mx_split, V.isin_s, V.isin_t, V.isin_i, V.gcd_ii, V.eqI_ii, V.big_, V.op_ii, slD_tx, len_tx, add_tx, S_eq, atI_map, cutL_take, cutL_drop, cutL_mid, cutL_last, ims_some, ims_int, intsOf_int, boolsOf_bl, -List.map_map]
  refine WP_forGo (fun (i : Nat) => int (i : Int)) (InvG m) (fun e ⟨row, s, h1, h2, h3⟩ => ?done) (fun a r e ⟨row, s, h1, h2, h3⟩ => ?step) (List.range m) _ ⟨[], s, rfl, ok, by simp [pend, lets]⟩
  case done =>
    subst h1
    simp -dsimp [s_l_gauss_1, z_l_gauss, dS_im, ↓WP_ok, ↓WP_exc, ↓WP_bad, ↓WP_bind, ↓WP_cons, ↓WP_nil, ↓WP_callF, ↓WP_callE, ↓WP_clr, ↓WP_try, ↓WP_range1, ↓WP_range2, ↓WP_mutA, ↓WP_mutE, ↓WP_mutP, ↓WP_mutI, ↓WP_sd, ↓WP_setix, ↓SeqK_nx, ↓SeqK_rt, ↓SeqK_bk, ↓SeqK_ct, ↓ClrK_nx, ↓ClrK_rt, ↓ClrK_bk, ↓ClrK_ct, ↓SemK_rt, ↓SemK_nx, ↓ForK_nx, ↓ForK_ct, ↓ForK_bk, ↓ForK_rt, ↓W.s_ifs, ↓W.e_varF, ↓W.e_varT, ↓W.a_var, ↓W.still_im, ↓W.still_b, ↓W.e_cst, ↓W.e_glob, ↓W.e_tup, ↓W.e_lst, ↓W.e_dnew, ↓W.e_bin, ↓W.e_neg, ↓W.e_not, ↓W.e_cmp, ↓W.e_chain, ↓W.e_one, ↓W.e_and, ↓W.e_or, ↓W.e_ite, ↓W.e_ix, ↓W.e_sl, ↓W.e_ixv, ↓W.e_slv, ↓W.e_rev, ↓W.e_lrange, ↓W.e_disp, ↓W.e_dispD, ↓W.e_gcd, ↓W.e_isin, ↓W.e_bi1, ↓W.e_bi2, ↓W.e_get, ↓W.e_index, ↓W.e_count, ↓W.e_join, ↓W.e_split, ↓W.es_nil, ↓W.es_cons, ↓W.bs_nil, ↓W.bs_cons, ↓W.as_nil, ↓W.as_cons, ↓W.o_no, ↓W.o_so, ↓W.c_no, ↓W.c_so, ↓W.t_not, ↓W.t_one, ↓W.t_and, ↓W.t_or, ↓W.t_cmp, ↓W.t_chain, ↓W.t_var, ↓W.t_cst, ↓W.t_call, ↓W.t_ixv, ↓W.t_me, ↓W.t_ix, ↓W.t_bi, ↓W.t_isin, ↓W.t_gin, ↓W.w_it, ↓W.w_rev, ↓W.w_enum, ↓W.w_zip, ↓W.s_setv, ↓W.s_asg, ↓W.s_unp, ↓W.s_par, ↓W.s_ret, ↓W.s_retN, ↓W.s_expr, ↓W.s_doc, ↓W.s_pass, ↓W.s_brk, ↓W.s_cont, ↓W.s_raise, ↓W.s_swap, ↓W.a_cst, ↓W.a_glob, ↓W.a_tup, ↓W.a_lst, ↓W.a_bin, ↓W.a_neg, ↓W.a_ite, ↓W.a_ix, ↓W.a_sl, ↓W.a_rev, ↓W.a_ixv, ↓W.a_slv, ↓W.a_lrange, ↓W.a_disp, ↓W.a_dispD, ↓W.a_gix, ↓W.a_gcd, ↓W.a_isin, ↓W.a_call, ↓W.a_bi, ↓W.a_me, ↓W.a_cmp, ↓W.a_mut, ↓W.a_lc, ↓W.a_and, ↓W.a_or, ↓W.a_not, ↓W.a_one, ↓W.a_chain, ↓W.a_dnew, WP_ok, WP_exc, WP_bad, WP_bind, WP_ifbad, WP_ite, WP_lift, WP_liftN, WP_liftI, WP_callT, W.rdV, W.rdO, W.ldO, backO, mutO, setO, isOL, isOM, isOD, sdO, Mm.sd, readS, lendS, binI, cmpI, List.isEmpty, meOk, mxOk, Mm.sup, mkTup, ims, E.pure, Es.pure, Eo.pure, E.src, Wk.src, bindT, bindTs, Kh.clear, lockAll, Kh.settle, settleGo, Slot.isOwnMut, Slot.imOf, Slot.borOf, giveBack, Out.nx, Ss.stores, Kh.S.stores, Tg.slots, Tgs.slots, Es.len, vOk, clearV, runH, evalH, imAt, V.add_ii, V.sub_ii, V.add_tt, V.add_ll, V.mul_li, V.mul_si, V.eq_ss, V.ne_ss, V.eq_ii, V.ne_ii, V.eq_ll, V.ne_ll, V.isN_n, V.notN_n, V.isN_b, V.notN_b, V.isN_i, V.notN_i, V.isN_s, V.notN_s, V.isN_t, V.notN_t, V.is_bb, V.not_bb, V.eq_bb, V.ne_bb, V.lt_ii, V.le_ii, V.gt_ii, V.ge_ii, V.ix_t, V.ix_T, V.ix_l, V.ix_s, V.ix_d, V.ix_x, V.ixV_l, V.ixV_t, V.at_0, V.at_1, V.at_2, V.at_3, V.at_4, V.at_5, V.at_m1, V.at_m2, V.at_m3, V.at_m4, V.sl_t, V.sl_l, V.len_t, V.len_T, V.len_l, V.len_s, V.len_d, V.tuple_t, V.tuple_l, V.list_t, V.list_l, V.list_s, V.int_i, V.int_s, V.abs_i, V.min_ii, V.max_ii, V.sum_l, V.any_l, V.all_l, V.min_l, V.max_l, V.str_i, V.sorted_l, V.sorted_t, V.sorted_d, V.get_d, V.app, V.ext, V.pop0, V.pop1, V.ins, V.set_l, V.set_d, V.wk_t, V.wk_l, V.wk_s, V.wk_x, V.wkr_t, V.wkr_l, V.rev_l, V.rev_t, V.it_t, V.it_l, V.en_t, V.en_l, V.en_x, V.zp_t, V.zp_l, V.need_f, V.need_i, V.asI, V.asB, V.asIm, V.lift_s, V.lift_n, V.keep_i, V.keep_f, V.keep_l, V.keep_T, V.keep_d, V.im_i, V.im_l, V.im_T, V.im_d, V.im_s, V.mx_index, V.mx_count, V.mx_counts, V.mx_join, V.mx_split, V.isin_s, V.isin_t, V.isin_i, V.gcd_ii, V.eqI_ii, V.big_, V.op_ii, slD_tx, len_tx, add_tx, S_eq, atI_map, cutL_take, cutL_drop, cutL_mid, cutL_last, ims_some, ims_int, intsOf_int, boolsOf_bl, -List.map_map]
    exact ⟨row, s, rfl, by simpa [pend] using h3, rfl, h2⟩
  case step =>
    subst h1
    have hl := h3.length_eq
    simp [pend, lets] at hl
    refine WP_forT rfl ?_
    have b1 : row.length ≤ 1000000 := by omega
    have b2 : row.length < 1000000 := by omega
    simp -dsimp [s_l_gauss_1, fn_take, dS_im, b1, b2, ↓WP_ok, ↓WP_exc, ↓WP_bad, ↓WP_bind, ↓WP_cons, ↓WP_nil, ↓WP_callF, ↓WP_callE, ↓WP_clr, ↓WP_try, ↓WP_range1, ↓WP_range2, ↓WP_mutA, ↓WP_mutE, ↓WP_mutP, ↓WP_mutI, ↓WP_sd, ↓WP_setix, ↓SeqK_nx, ↓SeqK_rt, ↓SeqK_bk, ↓SeqK_ct, ↓ClrK_nx, ↓ClrK_rt, ↓ClrK_bk, ↓ClrK_ct, ↓SemK_rt, ↓SemK_nx, ↓ForK_nx, ↓ForK_ct, ↓ForK_bk, ↓ForK_rt, ↓W.s_ifs, ↓W.e_varF, ↓W.e_varT, ↓W.a_var, ↓W.still_im, ↓W.still_b, ↓W.e_cst, ↓W.e_glob, ↓W.e_tup, ↓W.e_lst, ↓W.e_dnew, ↓W.e_bin, ↓W.e_neg, ↓W.e_not, ↓W.e_cmp, ↓W.e_chain, ↓W.e_one, ↓W.e_and, ↓W.e_or, ↓W.e_ite, ↓W.e_ix, ↓W.e_sl, ↓W.e_ixv, ↓W.e_slv, ↓W.e_rev, ↓W.e_lrange, ↓W.e_disp, ↓W.e_dispD, ↓W.e_gcd, ↓W.e_isin, ↓W.e_bi1, ↓W.e_bi2, ↓W.e_get, ↓W.e_index, ↓W.e_count, ↓W.e_join, ↓W.e_split, ↓W.es_nil, ↓W.es_cons, ↓W.bs_nil, ↓W.bs_cons, ↓W.as_nil, ↓W.as_cons, ↓W.o_no, ↓W.o_so, ↓W.c_no, ↓W.c_so, ↓W.t_not, ↓W.t_one, ↓W.t_and, ↓W.t_or, ↓W.t_cmp, ↓W.t_chain, ↓W.t_var, ↓W.t_cst, ↓W.t_call, ↓W.t_ixv, ↓W.t_me, ↓W.t_ix, ↓W.t_bi, ↓W.t_isin, ↓W.t_gin, ↓W.w_it, ↓W.w_rev, ↓W.w_enum, ↓W.w_zip, ↓W.s_setv, ↓W.s_asg, ↓W.s_unp, ↓W.s_par, ↓W.s_ret, ↓W.s_retN, ↓W.s_expr, ↓W.s_doc, ↓W.s_pass, ↓W.s_brk, ↓W.s_cont, ↓W.s_raise, ↓W.s_swap, ↓W.a_cst, ↓W.a_glob, ↓W.a_tup, ↓W.a_lst, ↓W.a_bin, ↓W.a_neg, ↓W.a_ite, ↓W.a_ix, ↓W.a_sl, ↓W.a_rev, ↓W.a_ixv, ↓W.a_slv, ↓W.a_lrange, ↓W.a_disp, ↓W.a_dispD, ↓W.a_gix, ↓W.a_gcd, ↓W.a_isin, ↓W.a_call, ↓W.a_bi, ↓W.a_me, ↓W.a_cmp, ↓W.a_mut, ↓W.a_lc, ↓W.a_and, ↓W.a_or, ↓W.a_not, ↓W.a_one, ↓W.a_chain, ↓W.a_dnew, WP_ok, WP_exc, WP_bad, WP_bind, WP_ifbad, WP_ite, WP_lift, WP_liftN, WP_liftI, WP_callT, W.rdV, W.rdO, W.ldO, backO, mutO, setO, isOL, isOM, isOD, sdO, Mm.sd, readS, lendS, binI, cmpI, List.isEmpty, meOk, mxOk, Mm.sup, mkTup, ims, E.pure, Es.pure, Eo.pure, E.src, Wk.src, bindT, bindTs, Kh.clear, lockAll, Kh.settle, settleGo, Slot.isOwnMut, Slot.imOf, Slot.borOf, giveBack, Out.nx, Ss.stores, Kh.S.stores, Tg.slots, Tgs.slots, Es.len, vOk, clearV, runH, evalH, imAt, V.add_ii, V.sub_ii, V.add_tt, V.add_ll, V.mul_li, V.mul_si, V.eq_ss, V.ne_ss, V.eq_ii, V.ne_ii, V.eq_ll, V.ne_ll, V.isN_n, V.notN_n, V.isN_b, V.notN_b, V.isN_i, V.notN_i, V.isN_s, V.notN_s, V.isN_t, V.notN_t, V.is_bb, V.not_bb, V.eq_bb, V.ne_bb, V.lt_ii, V.le_ii, V.gt_ii, V.ge_ii, V.ix_t, V.ix_T, V.ix_l, V.ix_s, V.ix_d, V.ix_x, V.ixV_l, V.ixV_t, V.at_0, V.at_1, V.at_2, V.at_3, V.at_4, V.at_5, V.at_m1, V.at_m2, V.at_m3, V.at_m4, V.sl_t, V.sl_l, V.len_t, V.len_T, V.len_l, V.len_s, V.len_d, V.tuple_t, V.tuple_l, V.list_t, V.list_l, V.list_s, V.int_i, V.int_s, V.abs_i, V.min_ii, V.max_ii, V.sum_l, V.any_l, V.all_l, V.min_l, V.max_l, V.str_i, V.sorted_l, V.sorted_t, V.sorted_d, V.get_d, V.app, V.ext, V.pop0, V.pop1, V.ins, V.set_l, V.set_d, V.wk_t, V.wk_l, V.wk_s, V.wk_x, V.wkr_t, V.wkr_l, V.rev_l, V.rev_t, V.it_t, V.it_l, V.en_t, V.en_l, V.en_x, V.zp_t, V.zp_l, V.need_f, V.need_i, V.asI, V.asB, V.asIm, V.lift_s, V.lift_n, V.keep_i, V.keep_f, V.keep_l, V.keep_T, V.keep_d, V.im_i, V.im_l, V.im_T, V.im_d, V.im_s, V.mx_index, V.mx_count, V.mx_counts, V.mx_join, V.mx_split, V.isin_s, V.isin_t, V.isin_i, V.gcd_ii, V.eqI_ii, V.big_, V.op_ii, slD_tx, len_tx, add_tx, S_eq, atI_map, cutL_take, cutL_drop, cutL_mid, cutL_last, ims_some, ims_int, intsOf_int, boolsOf_bl, -List.map_map]
    refine take_wp h2 (by omega) (Nat.lt_trans (show ((row.length : Int) + 1).natAbs < 2 ^ 10 by omega) (by decide)) fun n s1 hn ok1 => ?_
    have b3 : n ≤ 1000000 := by omega
    have b4 : row.length + 1 ≤ 1000000 := by omega
    have b5 : row.length + 1 < 1000000 := by omega
    simp -dsimp [fn_take, dS_im, b1, b2, b3, b4, b5, ins_map, ins_len, ↓WP_ok, ↓WP_exc, ↓WP_bad, ↓WP_bind, ↓WP_cons, ↓WP_nil, ↓WP_callF, ↓WP_callE, ↓WP_clr, ↓WP_try, ↓WP_range1, ↓WP_range2, ↓WP_mutA, ↓WP_mutE, ↓WP_mutP, ↓WP_mutI, ↓WP_sd, ↓WP_setix, ↓SeqK_nx, ↓SeqK_rt, ↓SeqK_bk, ↓SeqK_ct, ↓ClrK_nx, ↓ClrK_rt, ↓ClrK_bk, ↓ClrK_ct, ↓SemK_rt, ↓SemK_nx, ↓ForK_nx, ↓ForK_ct, ↓ForK_bk, ↓ForK_rt, ↓W.s_ifs, ↓W.e_varF, ↓W.e_varT, ↓W.a_var, ↓W.still_im, ↓W.still_b, ↓W.e_cst, ↓W.e_glob, ↓W.e_tup, ↓W.e_lst, ↓W.e_dnew, ↓W.e_bin, ↓W.e_neg, ↓W.e_not, ↓W.e_cmp, ↓W.e_chain, ↓W.e_one, ↓W.e_and, ↓W.e_or, ↓W.e_ite, ↓W.e_ix, ↓W.e_sl, ↓W.e_ixv, ↓W.e_slv, ↓W.e_rev, ↓W.e_lrange, ↓W.e_disp, ↓W.e_dispD, ↓W.e_gcd, ↓W.e_isin, ↓W.e_bi1, ↓W.e_bi2, ↓W.e_get, ↓W.e_index, ↓W.e_count, ↓W.e_join, ↓W.e_split, ↓W.es_nil, ↓W.es_cons, ↓W.bs_nil, ↓W.bs_cons, ↓W.as_nil, ↓W.as_cons, ↓W.o_no, ↓W.o_so, ↓W.c_no, ↓W.c_so, ↓W.t_not, ↓W.t_one, ↓W.t_and, ↓W.t_or, ↓W.t_cmp, ↓W.t_chain, ↓W.t_var, ↓W.t_cst, ↓W.t_call, ↓W.t_ixv, ↓W.t_me, ↓W.t_ix, ↓W.t_bi, ↓W.t_isin, ↓W.t_gin, ↓W.w_it, ↓W.w_rev, ↓W.w_enum, ↓W.w_zip, ↓W.s_setv, ↓W.s_asg, ↓W.s_unp, ↓W.s_par, ↓W.s_ret, ↓W.s_retN, ↓W.s_expr, ↓W.s_doc, ↓W.s_pass, ↓W.s_brk, ↓W.s_cont, ↓W.s_raise, ↓W.s_swap, ↓W.a_cst, ↓W.a_glob, ↓W.a_tup, ↓W.a_lst, ↓W.a_bin, ↓W.a_neg, ↓W.a_ite, ↓W.a_ix, ↓W.a_sl, ↓W.a_rev, ↓W.a_ixv, ↓W.a_slv, ↓W.a_lrange, ↓W.a_disp, ↓W.a_dispD, ↓W.a_gix, ↓W.a_gcd, ↓W.a_isin, ↓W.a_call, ↓W.a_bi, ↓W.a_me, ↓W.a_cmp, ↓W.a_mut, ↓W.a_lc, ↓W.a_and, ↓W.a_or, ↓W.a_not, ↓W.a_one, ↓W.a_chain, ↓W.a_dnew, WP_ok, WP_exc, WP_bad, WP_bind, WP_ifbad, WP_ite, WP_lift, WP_liftN, WP_liftI, WP_callT, W.rdV, W.rdO, W.ldO, backO, mutO, setO, isOL, isOM, isOD, sdO, Mm.sd, readS, lendS, binI, cmpI, List.isEmpty, meOk, mxOk, Mm.sup, mkTup, ims, E.pure, Es.pure, Eo.pure, E.src, Wk.src, bindT, bindTs, Kh.clear, lockAll, Kh.settle, settleGo, Slot.isOwnMut, Slot.imOf, Slot.borOf, giveBack, Out.nx, Ss.stores, Kh.S.stores, Tg.slots, Tgs.slots, Es.len, vOk, clearV, runH, evalH, imAt, V.add_ii, V.sub_ii, V.add_tt, V.add_ll, V.mul_li, V.mul_si, V.eq_ss, V.ne_ss, V.eq_ii, V.ne_ii, V.eq_ll, V.ne_ll, V.isN_n, V.notN_n, V.isN_b, V.notN_b, V.isN_i, V.notN_i, V.isN_s, V.notN_s, V.isN_t, V.notN_t, V.is_bb, V.not_bb, V.eq_bb, V.ne_bb, V.lt_ii, V.le_ii, V.gt_ii, V.ge_ii, V.ix_t, V.ix_T, V.ix_l, V.ix_s, V.ix_d, V.ix_x, V.ixV_l, V.ixV_t, V.at_0, V.at_1, V.at_2, V.at_3, V.at_4, V.at_5, V.at_m1, V.at_m2, V.at_m3, V.at_m4, V.sl_t, V.sl_l, V.len_t, V.len_T, V.len_l, V.len_s, V.len_d, V.tuple_t, V.tuple_l, V.list_t, V.list_l, V.list_s, V.int_i, V.int_s, V.abs_i, V.min_ii, V.max_ii, V.sum_l, V.any_l, V.all_l, V.min_l, V.max_l, V.str_i, V.sorted_l, V.sorted_t, V.sorted_d, V.get_d, V.app, V.ext, V.pop0, V.pop1, V.ins, V.set_l, V.set_d, V.wk_t, V.wk_l, V.wk_s, V.wk_x, V.wkr_t, V.wkr_l, V.rev_l, V.rev_t, V.it_t, V.it_l, V.en_t, V.en_l, V.en_x, V.zp_t, V.zp_l, V.need_f, V.need_i, V.asI, V.asB, V.asIm, V.lift_s, V.lift_n, V.keep_i, V.keep_f, V.keep_l, V.keep_T, V.keep_d, V.im_i, V.im_l, V.im_T, V.im_d, V.im_s, V.mx_index, V.mx_count, V.mx_counts, V.mx_join, V.mx_split, V.isin_s, V.isin_t, V.isin_i, V.gcd_ii, V.eqI_ii, V.big_, V.op_ii, slD_tx, len_tx, add_tx, S_eq, atI_map, cutL_take, cutL_drop, cutL_mid, cutL_last, ims_some, ims_int, intsOf_int, boolsOf_bl, -List.map_map]
    refine ⟨by omega, ?_⟩
    refine take_wp ok1 (by omega) (Nat.lt_trans (show ((row.length : Int) + 1 + 1).natAbs < 2 ^ 10 by omega) (by decide)) fun n2 s2 hn2 ok2 => ?_
    have b6 : n2 ≤ 1000000 := by omega
    simp -dsimp [dS_im, b4, b5, b6, ins_map, ins_len, ↓WP_ok, ↓WP_exc, ↓WP_bad, ↓WP_bind, ↓WP_cons, ↓WP_nil, ↓WP_callF, ↓WP_callE, ↓WP_clr, ↓WP_try, ↓WP_range1, ↓WP_range2, ↓WP_mutA, ↓WP_mutE, ↓WP_mutP, ↓WP_mutI, ↓WP_sd, ↓WP_setix, ↓SeqK_nx, ↓SeqK_rt, ↓SeqK_bk, ↓SeqK_ct, ↓ClrK_nx, ↓ClrK_rt, ↓ClrK_bk, ↓ClrK_ct, ↓SemK_rt, ↓SemK_nx, ↓ForK_nx, ↓ForK_ct, ↓ForK_bk, ↓ForK_rt, ↓W.s_ifs, ↓W.e_varF, ↓W.e_varT, ↓W.a_var, ↓W.still_im, ↓W.still_b, ↓W.e_cst, ↓W.e_glob, ↓W.e_tup, ↓W.e_lst, ↓W.e_dnew, ↓W.e_bin, ↓W.e_neg, ↓W.e_not, ↓W.e_cmp, ↓W.e_chain, ↓W.e_one, ↓W.e_and, ↓W.e_or, ↓W.e_ite, ↓W.e_ix, ↓W.e_sl, ↓W.e_ixv, ↓W.e_slv, ↓W.e_rev, ↓W.e_lrange, ↓W.e_disp, ↓W.e_dispD, ↓W.e_gcd, ↓W.e_isin, ↓W.e_bi1, ↓W.e_bi2, ↓W.e_get, ↓W.e_index, ↓W.e_count, ↓W.e_join, ↓W.e_split, ↓W.es_nil, ↓W.es_cons, ↓W.bs_nil, ↓W.bs_cons, ↓W.as_nil, ↓W.as_cons, ↓W.o_no, ↓W.o_so, ↓W.c_no, ↓W.c_so, ↓W.t_not, ↓W.t_one, ↓W.t_and, ↓W.t_or, ↓W.t_cmp, ↓W.t_chain, ↓W.t_var, ↓W.t_cst, ↓W.t_call, ↓W.t_ixv, ↓W.t_me, ↓W.t_ix, ↓W.t_bi, ↓W.t_isin, ↓W.t_gin, ↓W.w_it, ↓W.w_rev, ↓W.w_enum, ↓W.w_zip, ↓W.s_setv, ↓W.s_asg, ↓W.s_unp, ↓W.s_par, ↓W.s_ret, ↓W.s_retN, ↓W.s_expr, ↓W.s_doc, ↓W.s_pass, ↓W.s_brk, ↓W.s_cont, ↓W.s_raise, ↓W.s_swap, ↓W.a_cst, ↓W.a_glob, ↓W.a_tup, ↓W.a_lst, ↓W.a_bin, ↓W.a_neg, ↓W.a_ite, ↓W.a_ix, ↓W.a_sl, ↓W.a_rev, ↓W.a_ixv, ↓W.a_slv, ↓W.a_lrange, ↓W.a_disp, ↓W.a_dispD, ↓W.a_gix, ↓W.a_gcd, ↓W.a_isin, ↓W.a_call, ↓W.a_bi, ↓W.a_me, ↓W.a_cmp, ↓W.a_mut, ↓W.a_lc, ↓W.a_and, ↓W.a_or, ↓W.a_not, ↓W.a_one, ↓W.a_chain, ↓W.a_dnew, WP_ok, WP_exc, WP_bad, WP_bind, WP_ifbad, WP_ite, WP_lift, WP_liftN, WP_liftI, WP_callT, W.rdV, W.rdO, W.ldO, backO, mutO, setO, isOL, isOM, isOD, sdO, Mm.sd, readS, lendS, binI, cmpI, List.isEmpty, meOk, mxOk, Mm.sup, mkTup, ims, E.pure, Es.pure, Eo.pure, E.src, Wk.src, bindT, bindTs, Kh.clear, lockAll, Kh.settle, settleGo, Slot.isOwnMut, Slot.imOf, Slot.borOf, giveBack, Out.nx, Ss.stores, Kh.S.stores, Tg.slots, Tgs.slots, Es.len, vOk, clearV, runH, evalH, imAt, V.add_ii, V.sub_ii, V.add_tt, V.add_ll, V.mul_li, V.mul_si, V.eq_ss, V.ne_ss, V.eq_ii, V.ne_ii, V.eq_ll, V.ne_ll, V.isN_n, V.notN_n, V.isN_b, V.notN_b, V.isN_i, V.notN_i, V.isN_s, V.notN_s, V.isN_t, V.notN_t, V.is_bb, V.not_bb, V.eq_bb, V.ne_bb, V.lt_ii, V.le_ii, V.gt_ii, V.ge_ii, V.ix_t, V.ix_T, V.ix_l, V.ix_s, V.ix_d, V.ix_x, V.ixV_l, V.ixV_t, V.at_0, V.at_1, V.at_2, V.at_3, V.at_4, V.at_5, V.at_m1, V.at_m2, V.at_m3, V.at_m4, V.sl_t, V.sl_l, V.len_t, V.len_T, V.len_l, V.len_s, V.len_d, V.tuple_t, V.tuple_l, V.list_t, V.list_l, V.list_s, V.int_i, V.int_s, V.abs_i, V.min_ii, V.max_ii, V.sum_l, V.any_l, V.all_l, V.min_l, V.max_l, V.str_i, V.sorted_l, V.sorted_t, V.sorted_d, V.get_d, V.app, V.ext, V.pop0, V.pop1, V.ins, V.set_l, V.set_d, V.wk_t, V.wk_l, V.wk_s, V.wk_x, V.wkr_t, V.wkr_l, V.rev_l, V.rev_t, V.it_t, V.it_l, V.en_t, V.en_l, V.en_x, V.zp_t, V.zp_l, V.need_f, V.need_i, V.asI, V.asB, V.asIm, V.lift_s, V.lift_n, V.keep_i, V.keep_f, V.keep_l, V.keep_T, V.keep_d, V.im_i, V.im_l, V.im_T, V.im_d, V.im_s, V.mx_index, V.mx_count, V.mx_counts, V.mx_join, V.mx_split, V.isin_s, V.isin_t, V.isin_i, V.gcd_ii, V.eqI_ii, V.big_, V.op_ii, slD_tx, len_tx, add_tx, S_eq, atI_map, cutL_take, cutL_drop, cutL_mid, cutL_last, ims_some, ims_int, intsOf_int, boolsOf_bl, -List.map_map]
    refine ⟨by omega, ins n2 ((a : Int) + 1) (ins n ((a : Int) + 1) row), s2, rfl, ok2, ?_⟩
    refine List.Perm.trans ?_ h3
    refine (((ins_perm.trans (.cons _ ins_perm)).append_right (pend r))).trans ?_
    refine List.Perm.trans ?_ (List.Perm.append_left row pend_cons).symm
    exact (List.perm_middle.trans (.cons _ List.perm_middle)).symm
def GV (m : Nat) (w : List Int) : Prop := w.Perm (lets m ++ lets m)
def QL : D → En → Prop := fun v _ => v = .im (.bl true)
abbrev LawK : Fl → En → Prop := SemK f_law QL
abbrev e4 (ns : List Int) (s : Kh.St) (m : Nat) (w : List Int) (x5 x6 x7 x8 : Kh.Slot) : En := [.own (.scr ns), .own (dS s), oI m, oT w, .own (lT (allL w)), x5, x6, x7, x8, .no, .no, .no]
theorem law_12 {ns : List Int} {s : Kh.St} {m : Nat} {w : List Int} {x5 x6 x7 x8 : Kh.Slot} (ok : StOk s) (hm : m ≤ 14) (h : GV m w) :
    WP (execs (tab 20) t_law_12 (e4 ns s m w x5 x6 x7 x8)) LawK noX := by
  simp -dsimp [t_law_12, fn_gauss, dS_im, ↓WP_ok, ↓WP_exc, ↓WP_bad, ↓WP_bind, ↓WP_cons, ↓WP_nil, ↓WP_callF, ↓WP_callE, ↓WP_clr, ↓WP_try, ↓WP_range1, ↓WP_range2, ↓WP_mutA, ↓WP_mutE, ↓WP_mutP, ↓WP_mutI, ↓WP_sd, ↓WP_setix, ↓SeqK_nx, ↓SeqK_rt, ↓SeqK_bk, ↓SeqK_ct, ↓ClrK_nx, ↓ClrK_rt, ↓ClrK_bk, ↓ClrK_ct, ↓SemK_rt, ↓SemK_nx, ↓ForK_nx, ↓ForK_ct, ↓ForK_bk, ↓ForK_rt, ↓W.s_ifs, ↓W.e_varF, ↓W.e_varT, ↓W.a_var, ↓W.still_im, ↓W.still_b, ↓W.e_cst, ↓W.e_glob, ↓W.e_tup, ↓W.e_lst, ↓W.e_dnew, ↓W.e_bin, ↓W.e_neg, ↓W.e_not, ↓W.e_cmp, ↓W.e_chain, ↓W.e_one, ↓W.e_and, ↓W.e_or, ↓W.e_ite, ↓W.e_ix, ↓W.e_sl, ↓W.e_ixv, ↓W.e_slv, ↓W.e_rev, ↓W.e_lrange, ↓W.e_disp, ↓W.e_dispD, ↓W.e_gcd, ↓W.e_isin, ↓W.e_bi1, ↓W.e_bi2, ↓W.e_get, ↓W.e_index, ↓W.e_count, ↓W.e_join, ↓W.e_split, ↓W.es_nil, ↓W.es_cons, ↓W.bs_nil, ↓W.bs_cons, ↓W.as_nil, ↓W.as_cons, ↓W.o_no, ↓W.o_so, ↓W.c_no, ↓W.c_so, ↓W.t_not, ↓W.t_one, ↓W.t_and, ↓W.t_or, ↓W.t_cmp, ↓W.t_chain, ↓W.t_var, ↓W.t_cst, ↓W.t_call, ↓W.t_ixv, ↓W.t_me, ↓W.t_ix, ↓W.t_bi, ↓W.t_isin, ↓W.t_gin, ↓W.w_it, ↓W.w_rev, ↓W.w_enum, ↓W.w_zip, ↓W.s_setv, ↓W.s_asg, ↓W.s_unp, ↓W.s_par, ↓W.s_ret, ↓W.s_retN, ↓W.s_expr, ↓W.s_doc, ↓W.s_pass, ↓W.s_brk, ↓W.s_cont, ↓W.s_raise, ↓W.s_swap, ↓W.a_cst, ↓W.a_glob, ↓W.a_tup, ↓W.a_lst, ↓W.a_bin, ↓W.a_neg, ↓W.a_ite, ↓W.a_ix, ↓W.a_sl, ↓W.a_rev, ↓W.a_ixv, ↓W.a_slv, ↓W.a_lrange, ↓W.a_disp, ↓W.a_dispD, ↓W.a_gix, ↓W.a_gcd, ↓W.a_isin, ↓W.a_call, ↓W.a_bi, ↓W.a_me, ↓W.a_cmp, ↓W.a_mut, ↓W.a_lc, ↓W.a_and, ↓W.a_or, ↓W.a_not, ↓W.a_one, ↓W.a_chain, ↓W.a_dnew, WP_ok, WP_exc, WP_bad, WP_bind, WP_ifbad, WP_ite, WP_lift, WP_liftN, WP_liftI, WP_callT, W.rdV, W.rdO, W.ldO, backO, mutO, setO, isOL, isOM, isOD, sdO, Mm.sd, readS, lendS, binI, cmpI, List.isEmpty, meOk, mxOk, Mm.sup, mkTup, ims, E.pure, Es.pure, Eo.pure, E.src, Wk.src, bindT, bindTs, Kh.clear, lockAll, Kh.settle, settleGo, Slot.isOwnMut, Slot.imOf, Slot.borOf, giveBack, Out.nx, Ss.stores, Kh.S.stores, Tg.slots, Tgs.slots, Es.len, vOk, clearV, runH, evalH, imAt, V.add_ii, V.sub_ii, V.add_tt, V.add_ll, V.mul_li, V.mul_si, V.eq_ss, V.ne_ss, V.eq_ii, V.ne_ii, V.eq_ll, V.ne_ll, V.isN_n, V.notN_n, V.isN_b, V.notN_b, V.isN_i, V.notN_i, V.isN_s, V.notN_s, V.isN_t, V.notN_t, V.is_bb, V.not_bb, V.eq_bb, V.ne_bb, V.lt_ii, V.le_ii, V.gt_ii, V.ge_ii, V.ix_t, V.ix_T, V.ix_l, V.ix_s, V.ix_d, V.ix_x, V.ixV_l, V.ixV_t, V.at_0, V.at_1, V.at_2, V.at_3, V.at_4, V.at_5, V.at_m1, V.at_m2, V.at_m3, V.at_m4, V.sl_t, V.sl_l, V.len_t, V.len_T, V.len_l, V.len_s, V.len_d, V.tuple_t, V.tuple_l, V.list_t, V.list_l, V.list_s, V.int_i, V.int_s, V.abs_i, V.min_ii, V.max_ii, V.sum_l, V.any_l, V.all_l, V.min_l, V.max_l, V.str_i, V.sorted_l, V.sorted_t, V.sorted_d, V.get_d, V.app, V.ext, V.pop0, V.pop1, V.ins, V.set_l, V.set_d, V.wk_t, V.wk_l, V.wk_s, V.wk_x, V.wkr_t, V.wkr_l, V.rev_l, V.rev_t, V.it_t, V.it_l, V.en_t, V.en_l, V.en_x, V.zp_t, V.zp_l, V.need_f, V.need_i, V.asI, V.asB, V.asIm, V.lift_s, V.lift_n, V.keep_i, V.keep_f, V.keep_l, V.keep_T, V.keep_d, V.im_i, V.im_l, V.im_T, V.im_d, V.im_s, V.mx_index, V.mx_count, V.mx_counts, V.mx_join, V.mx_split, V.isin_s, V.isin_t, V.isin_i, V.gcd_ii, V.eqI_ii, V.big_, V.op_ii, slD_tx, len_tx, add_tx, S_eq, atI_map, cutL_take, cutL_drop, cutL_mid, cutL_last, ims_some, ims_int, intsOf_int, boolsOf_bl, -List.map_map]
  refine (gauss_ok (j := 18) ok hm).to fun v fin ⟨u, s', h1, h2, h3, ok'⟩ => ?_
  subst h1 h3
  obtain ⟨a, ha⟩ := can_ne w
  obtain ⟨b, hb⟩ := can_ne u
  have k1 := can_ok (j := 16) ⟨m, hm, h⟩ ha
  have k2 := can_ok (j := 16) ⟨m, hm, h2⟩ hb
  have k3 := named_ok (T := tab 19) (w := u) (by have := gw_len ⟨m, hm, h2⟩; omega)
  have hi := in_T (x := named u) (l := allL w)
  have hs := same_iff (u := u) (w := w)
  rw [ha, hb] at hs
  have e : (b = a) ↔ (named u ∈ allL w) := by
    rw [mem_all, ← hs]
    exact ⟨fun z => by rw [z], fun z => Option.some.inj z⟩
  have he : cmpD .eq (.im (tI b)) (.im (tI a)) = some (decide (named u ∈ allL w)) := by
    rw [eq_tI]
    exact congrArg some (decide_eq_decide.mpr e)
  simp -dsimp [t_law_13, t_law_14, fn_can, k1, k2, fn_named, k3, hi, he, dS_im, ↓WP_ok, ↓WP_exc, ↓WP_bad, ↓WP_bind, ↓WP_cons, ↓WP_nil, ↓WP_callF, ↓WP_callE, ↓WP_clr, ↓WP_try, ↓WP_range1, ↓WP_range2, ↓WP_mutA, ↓WP_mutE, ↓WP_mutP, ↓WP_mutI, ↓WP_sd, ↓WP_setix, ↓SeqK_nx, ↓SeqK_rt, ↓SeqK_bk, ↓SeqK_ct, ↓ClrK_nx, ↓ClrK_rt, ↓ClrK_bk, ↓ClrK_ct, ↓SemK_rt, ↓SemK_nx, ↓ForK_nx, ↓ForK_ct, ↓ForK_bk, ↓ForK_rt, ↓W.s_ifs, ↓W.e_varF, ↓W.e_varT, ↓W.a_var, ↓W.still_im, ↓W.still_b, ↓W.e_cst, ↓W.e_glob, ↓W.e_tup, ↓W.e_lst, ↓W.e_dnew, ↓W.e_bin, ↓W.e_neg, ↓W.e_not, ↓W.e_cmp, ↓W.e_chain, ↓W.e_one, ↓W.e_and, ↓W.e_or, ↓W.e_ite, ↓W.e_ix, ↓W.e_sl, ↓W.e_ixv, ↓W.e_slv, ↓W.e_rev, ↓W.e_lrange, ↓W.e_disp, ↓W.e_dispD, ↓W.e_gcd, ↓W.e_isin, ↓W.e_bi1, ↓W.e_bi2, ↓W.e_get, ↓W.e_index, ↓W.e_count, ↓W.e_join, ↓W.e_split, ↓W.es_nil, ↓W.es_cons, ↓W.bs_nil, ↓W.bs_cons, ↓W.as_nil, ↓W.as_cons, ↓W.o_no, ↓W.o_so, ↓W.c_no, ↓W.c_so, ↓W.t_not, ↓W.t_one, ↓W.t_and, ↓W.t_or, ↓W.t_cmp, ↓W.t_chain, ↓W.t_var, ↓W.t_cst, ↓W.t_call, ↓W.t_ixv, ↓W.t_me, ↓W.t_ix, ↓W.t_bi, ↓W.t_isin, ↓W.t_gin, ↓W.w_it, ↓W.w_rev, ↓W.w_enum, ↓W.w_zip, ↓W.s_setv, ↓W.s_asg, ↓W.s_unp, ↓W.s_par, ↓W.s_ret, ↓W.s_retN, ↓W.s_expr, ↓W.s_doc, ↓W.s_pass, ↓W.s_brk, ↓W.s_cont, ↓W.s_raise, ↓W.s_swap, ↓W.a_cst, ↓W.a_glob, ↓W.a_tup, ↓W.a_lst, ↓W.a_bin, ↓W.a_neg, ↓W.a_ite, ↓W.a_ix, ↓W.a_sl, ↓W.a_rev, ↓W.a_ixv, ↓W.a_slv, ↓W.a_lrange, ↓W.a_disp, ↓W.a_dispD, ↓W.a_gix, ↓W.a_gcd, ↓W.a_isin, ↓W.a_call, ↓W.a_bi, ↓W.a_me, ↓W.a_cmp, ↓W.a_mut, ↓W.a_lc, ↓W.a_and, ↓W.a_or, ↓W.a_not, ↓W.a_one, ↓W.a_chain, ↓W.a_dnew, WP_ok, WP_exc, WP_bad, WP_bind, WP_ifbad, WP_ite, WP_lift, WP_liftN, WP_liftI, WP_callT, W.rdV, W.rdO, W.ldO, backO, mutO, setO, isOL, isOM, isOD, sdO, Mm.sd, readS, lendS, binI, cmpI, List.isEmpty, meOk, mxOk, Mm.sup, mkTup, ims, E.pure, Es.pure, Eo.pure, E.src, Wk.src, bindT, bindTs, Kh.clear, lockAll, Kh.settle, settleGo, Slot.isOwnMut, Slot.imOf, Slot.borOf, giveBack, Out.nx, Ss.stores, Kh.S.stores, Tg.slots, Tgs.slots, Es.len, vOk, clearV, runH, evalH, imAt, V.add_ii, V.sub_ii, V.add_tt, V.add_ll, V.mul_li, V.mul_si, V.eq_ss, V.ne_ss, V.eq_ii, V.ne_ii, V.eq_ll, V.ne_ll, V.isN_n, V.notN_n, V.isN_b, V.notN_b, V.isN_i, V.notN_i, V.isN_s, V.notN_s, V.isN_t, V.notN_t, V.is_bb, V.not_bb, V.eq_bb, V.ne_bb, V.lt_ii, V.le_ii, V.gt_ii, V.ge_ii, V.ix_t, V.ix_T, V.ix_l, V.ix_s, V.ix_d, V.ix_x, V.ixV_l, V.ixV_t, V.at_0, V.at_1, V.at_2, V.at_3, V.at_4, V.at_5, V.at_m1, V.at_m2, V.at_m3, V.at_m4, V.sl_t, V.sl_l, V.len_t, V.len_T, V.len_l, V.len_s, V.len_d, V.tuple_t, V.tuple_l, V.list_t, V.list_l, V.list_s, V.int_i, V.int_s, V.abs_i, V.min_ii, V.max_ii, V.sum_l, V.any_l, V.all_l, V.min_l, V.max_l, V.str_i, V.sorted_l, V.sorted_t, V.sorted_d, V.get_d, V.app, V.ext, V.pop0, V.pop1, V.ins, V.set_l, V.set_d, V.wk_t, V.wk_l, V.wk_s, V.wk_x, V.wkr_t, V.wkr_l, V.rev_l, V.rev_t, V.it_t, V.it_l, V.en_t, V.en_l, V.en_x, V.zp_t, V.zp_l, V.need_f, V.need_i, V.asI, V.asB, V.asIm, V.lift_s, V.lift_n, V.keep_i, V.keep_f, V.keep_l, V.keep_T, V.keep_d, V.im_i, V.im_l, V.im_T, V.im_d, V.im_s, V.mx_index, V.mx_count, V.mx_counts, V.mx_join, V.mx_split, V.isin_s, V.isin_t, V.isin_i, V.gcd_ii, V.eqI_ii, V.big_, V.op_ii, slD_tx, len_tx, add_tx, S_eq, atI_map, cutL_take, cutL_drop, cutL_mid, cutL_last, ims_some, ims_int, intsOf_int, boolsOf_bl, -List.map_map]
  rfl
end Kw

set_option Elab.async false
set_option linter.all false
set_option maxRecDepth 100000
set_option maxHeartbeats 4000000
namespace Kw
open PySem L2 Kh Km
/-! ### other names -/
def vkN (n : Nat) (vs : List Int) : List (I × D) := (vs.zipIdx n).map fun p => (.int ((p.2 : Int) + 1), .im (.int p.1))
def vk (vs : List Int) : List (I × D) := vkN 0 vs
theorem vk_len {vs : List Int} : (vk vs).length = vs.length := by simp [vk, vkN]
theorem lkup_vkN (i : Nat) : ∀ (vs : List Int) (n : Nat), lkup (.int (((n + i : Nat) : Int) + 1)) (vkN n vs) = some ((vs[i]?).map fun v => .im (.int v))
  | [], n => rfl
  | y :: vs, n => by
    have e : vkN n (y :: vs) = (.int ((n : Int) + 1), .im (.int y)) :: vkN (n + 1) vs := by simp [vkN]
    rw [e, lkup]
    have e2 : I.eq (.int ((n : Int) + 1)) (.int (((n + i : Nat) : Int) + 1)) = some (((n : Int) + 1) == (((n + i : Nat) : Int) + 1)) := by rw [I.eq]
    rw [e2]
    cases i with
    | zero => simp
    | succ i =>
      have h : ¬ (((n : Int) + 1) = (((n + (i + 1) : Nat) : Int) + 1)) := by omega
      have ih := lkup_vkN i vs (n + 1)
      rw [show n + 1 + i = n + (i + 1) by omega] at ih
      simp only [beq_eq_false_iff_ne.mpr h, Bool.false_eq_true, if_false, Option.bind_some]
      rw [ih]
      simp
theorem dput_vkN (v : Int) : ∀ (vs : List Int) (n : Nat), dput (.int (((n + vs.length : Nat) : Int) + 1)) (.im (.int v)) (vkN n vs) = some (vkN n (vs ++ [v]))
  | [], n => by simp [vkN, dput]
  | y :: vs, n => by
    have ih := dput_vkN v vs (n + 1)
    have e : vkN n (y :: vs) = (.int ((n : Int) + 1), .im (.int y)) :: vkN (n + 1) vs := by simp [vkN]
    have e3 : vkN n (y :: vs ++ [v]) = (.int ((n : Int) + 1), .im (.int y)) :: vkN (n + 1) (vs ++ [v]) := by simp [vkN]
    rw [e, e3, dput]
    have e2 : I.eq (.int ((n : Int) + 1)) (.int (((n + (y :: vs).length : Nat) : Int) + 1)) = some (((n : Int) + 1) == (((n + (y :: vs).length : Nat) : Int) + 1)) := by rw [I.eq]
    have h : ¬ (((n : Int) + 1) = (((n + (y :: vs).length : Nat) : Int) + 1)) := by simp; omega
    rw [e2, beq_eq_false_iff_ne.mpr h]
    rw [List.length_cons]
    rw [show n + 1 + vs.length = n + (vs.length + 1) by omega] at ih
    simp only [Option.bind_some, Bool.false_eq_true, if_false]
    rw [ih]
    rfl
theorem lkup_vk {i : Nat} {vs : List Int} {v : Int} (h : vs[i]? = some v) : lkup (.int ((i : Int) + 1)) (vk vs) = some (some (.im (.int v))) := by
  have := lkup_vkN i vs 0
  rw [h] at this
  simpa [vk] using this
theorem dput_vk {vs : List Int} {v : Int} : dput (.int ((vs.length : Int) + 1)) (.im (.int v)) (vk vs) = some (vk (vs ++ [v])) := by
  have := dput_vkN v vs 0
  simpa [vk] using this
def sig (vs : List Int) (x : Int) : Int := vs.getD (x - 1).toNat 0
theorem mem_lets {m : Nat} {x : Int} : x ∈ lets m ↔ ∃ i : Nat, i < m ∧ x = (i : Int) + 1 := by
  unfold lets
  rw [List.mem_map]
  exact ⟨fun ⟨i, h, e⟩ => ⟨i, List.mem_range.mp h, e.symm⟩, fun ⟨i, h, e⟩ => ⟨i, List.mem_range.mpr h, e.symm⟩⟩
theorem mem_gv {m : Nat} {w : List Int} (h : GV m w) {x : Int} (hx : x ∈ w) : ∃ i : Nat, i < m ∧ x = (i : Int) + 1 := by
  have := h.mem_iff.mp hx
  rw [List.mem_append, or_self] at this
  exact mem_lets.mp this
theorem sig_inj {m : Nat} {vs : List Int} (hv : vs.Perm (lets m)) {w : List Int} (h : GV m w) : ∀ x ∈ w, ∀ y ∈ w, sig vs x = sig vs y → x = y := fun x hx y hy e => by
  obtain ⟨i, hi, rfl⟩ := mem_gv h hx
  obtain ⟨k, hk, rfl⟩ := mem_gv h hy
  have hl : vs.length = m := by rw [hv.length_eq]; simp [lets]
  have nd : vs.Nodup := by
    refine hv.symm.nodup ?_
    unfold lets
    rw [List.nodup_iff_pairwise_ne, List.pairwise_map]
    exact (List.nodup_iff_pairwise_ne.mp List.nodup_range).imp fun h e => h (by omega)
  unfold sig at e
  rw [show ((i : Int) + 1 - 1).toNat = i by omega, show ((k : Int) + 1 - 1).toNat = k by omega] at e
  rw [List.getD_eq_getElem?_getD, List.getD_eq_getElem?_getD, List.getElem?_eq_getElem (show i < vs.length by omega), List.getElem?_eq_getElem (show k < vs.length by omega), Option.getD_some, Option.getD_some] at e
  have pw := List.pairwise_iff_getElem.mp (List.nodup_iff_pairwise_ne.mp nd)
  rcases Nat.lt_trichotomy i k with q | q | q
  · exact absurd e (pw i k (by omega) (by omega) q)
  · rw [q]
  · exact absurd e.symm (pw k i (by omega) (by omega) q)
theorem law_11 {ns : List Int} {s : Kh.St} {m : Nat} {w v vs rest : List Int} {n5 : Nat} (ok : StOk s) (hm : m ≤ 14) (h : GV m w) (hd : Dih w v) (hv : vs.Perm (lets m)) :
    WP (execs (tab 20) t_law_11 (e4 ns s m w (oI n5) (oT v) (.own (lI rest)) (.own (.dct false (vk vs))))) LawK noX := by
  have hwl := gw_len ⟨m, hm, h⟩
  have hvl : v.length ≤ 28 := by rw [← hd.len]; exact hwl
  have inj := sig_inj hv h
  have injv : ∀ x ∈ v, ∀ y ∈ v, sig vs x = sig vs y → x = y := fun x hx y hy => inj x ((hd.mem x).mpr hx) y ((hd.mem y).mpr hy)
  obtain ⟨a, ha⟩ := can_ne w
  have hmin : biD .min [lT (allL w)] = some (.im (tI a)) := min_T (by rw [← can_all]; exact ha)
  have hl : vs.length = m := by rw [hv.length_eq]; simp [lets]
  have hc : minS (canL (v.map (sig vs))) = some a := by rw [can_map injv, can_dih hd]; exact ha
  have hgv : GV m (v.map (sig vs)) := by
    have p1 : v.Perm w := by
      have : ∀ {u : List Int}, Dih w u → u.Perm w := fun {u} d => by
        induction d with
        | refl => exact .refl _
        | rot _ ih => exact (List.perm_append_comm (l₂ := [_])).trans ih
        | rev _ ih => exact (List.reverse_perm _).trans ih
      exact this hd
    have p2 : ((lets m).map (sig vs)) = vs := by
      unfold lets
      rw [List.map_map]
      refine List.ext_getElem (by simp [hl]) fun i h1 h2 => ?_
      simp only [List.getElem_map, List.getElem_range, Function.comp_apply, sig]
      rw [show ((i : Int) + 1 - 1).toNat = i by omega, List.getD_eq_getElem?_getD, List.getElem?_eq_getElem h2, Option.getD_some]
    have p3 := ((p1.trans h).map (sig vs))
    rw [List.map_append, p2] at p3
    exact p3.trans (hv.append hv)
  have k1 := can_ok (j := 16) ⟨m, hm, hgv⟩ hc
  have hx : ∀ x ∈ v, lkup (.int x) (vk vs) = some (some (.im (.int (sig vs x)))) := fun x hx => by
    obtain ⟨i, hi, rfl⟩ := mem_gv h ((hd.mem x).mpr hx)
    refine lkup_vk ?_
    unfold sig
    rw [show ((i : Int) + 1 - 1).toNat = i by omega, List.getD_eq_getElem?_getD, List.getElem?_eq_getElem (by omega), Option.getD_some]
  rw [t_law_11, WP_cons]
  simp -dsimp [fn_can, ↓WP_ok, ↓WP_exc, ↓WP_bad, ↓WP_bind, ↓WP_cons, ↓WP_nil, ↓WP_callF, ↓WP_callE, ↓WP_clr, ↓WP_try, ↓WP_range1, ↓WP_range2, ↓WP_mutA, ↓WP_mutE, ↓WP_mutP, ↓WP_mutI, ↓WP_sd, ↓WP_setix, ↓SeqK_nx, ↓SeqK_rt, ↓SeqK_bk, ↓SeqK_ct, ↓ClrK_nx, ↓ClrK_rt, ↓ClrK_bk, ↓ClrK_ct, ↓SemK_rt, ↓SemK_nx, ↓ForK_nx, ↓ForK_ct, ↓ForK_bk, ↓ForK_rt, ↓W.s_ifs, ↓W.e_varF, ↓W.e_varT, ↓W.a_var, ↓W.still_im, ↓W.still_b, ↓W.e_cst, ↓W.e_glob, ↓W.e_tup, ↓W.e_lst, ↓W.e_dnew, ↓W.e_bin, ↓W.e_neg, ↓W.e_not, ↓W.e_cmp, ↓W.e_chain, ↓W.e_one, ↓W.e_and, ↓W.e_or, ↓W.e_ite, ↓W.e_ix, ↓W.e_sl, ↓W.e_ixv, ↓W.e_slv, ↓W.e_rev, ↓W.e_lrange, ↓W.e_disp, ↓W.e_dispD, ↓W.e_gcd, ↓W.e_isin, ↓W.e_bi1, ↓W.e_bi2, ↓W.e_get, ↓W.e_index, ↓W.e_count, ↓W.e_join, ↓W.e_split, ↓W.es_nil, ↓W.es_cons, ↓W.bs_nil, ↓W.bs_cons, ↓W.as_nil, ↓W.as_cons, ↓W.o_no, ↓W.o_so, ↓W.c_no, ↓W.c_so, ↓W.t_not, ↓W.t_one, ↓W.t_and, ↓W.t_or, ↓W.t_cmp, ↓W.t_chain, ↓W.t_var, ↓W.t_cst, ↓W.t_call, ↓W.t_ixv, ↓W.t_me, ↓W.t_ix, ↓W.t_bi, ↓W.t_isin, ↓W.t_gin, ↓W.w_it, ↓W.w_rev, ↓W.w_enum, ↓W.w_zip, ↓W.s_setv, ↓W.s_asg, ↓W.s_unp, ↓W.s_par, ↓W.s_ret, ↓W.s_retN, ↓W.s_expr, ↓W.s_doc, ↓W.s_pass, ↓W.s_brk, ↓W.s_cont, ↓W.s_raise, ↓W.s_swap, ↓W.a_cst, ↓W.a_glob, ↓W.a_tup, ↓W.a_lst, ↓W.a_bin, ↓W.a_neg, ↓W.a_ite, ↓W.a_ix, ↓W.a_sl, ↓W.a_rev, ↓W.a_ixv, ↓W.a_slv, ↓W.a_lrange, ↓W.a_disp, ↓W.a_dispD, ↓W.a_gix, ↓W.a_gcd, ↓W.a_isin, ↓W.a_call, ↓W.a_bi, ↓W.a_me, ↓W.a_cmp, ↓W.a_mut, ↓W.a_lc, ↓W.a_and, ↓W.a_or, ↓W.a_not, ↓W.a_one, ↓W.a_chain, ↓W.a_dnew, WP_ok, WP_exc, WP_bad, WP_bind, WP_ifbad, WP_ite, WP_lift, WP_liftN, WP_liftI, WP_callT, W.rdV, W.rdO, W.ldO, backO, mutO, setO, isOL, isOM, isOD, sdO, Mm.sd, readS, lendS, binI, cmpI, List.isEmpty, meOk, mxOk, Mm.sup, mkTup, ims, E.pure, Es.pure, Eo.pure, E.src, Wk.src, bindT, bindTs, Kh.clear, lockAll, Kh.settle, settleGo, Slot.isOwnMut, Slot.imOf, Slot.borOf, giveBack, Out.nx, Ss.stores, Kh.S.stores, Tg.slots, Tgs.slots, Es.len, vOk, clearV, runH, evalH, imAt, V.add_ii, V.sub_ii, V.add_tt, V.add_ll, V.mul_li, V.mul_si, V.eq_ss, V.ne_ss, V.eq_ii, V.ne_ii, V.eq_ll, V.ne_ll, V.isN_n, V.notN_n, V.isN_b, V.notN_b, V.isN_i, V.notN_i, V.isN_s, V.notN_s, V.isN_t, V.notN_t, V.is_bb, V.not_bb, V.eq_bb, V.ne_bb, V.lt_ii, V.le_ii, V.gt_ii, V.ge_ii, V.ix_t, V.ix_T, V.ix_l, V.ix_s, V.ix_d, V.ix_x, V.ixV_l, V.ixV_t, V.at_0, V.at_1, V.at_2, V.at_3, V.at_4, V.at_5, V.at_m1, V.at_m2, V.at_m3, V.at_m4, V.sl_t, V.sl_l, V.len_t, V.len_T, V.len_l, V.len_s, V.len_d, V.tuple_t, V.tuple_l, V.list_t, V.list_l, V.list_s, V.int_i, V.int_s, V.abs_i, V.min_ii, V.max_ii, V.sum_l, V.any_l, V.all_l, V.min_l, V.max_l, V.str_i, V.sorted_l, V.sorted_t, V.sorted_d, V.get_d, V.app, V.ext, V.pop0, V.pop1, V.ins, V.set_l, V.set_d, V.wk_t, V.wk_l, V.wk_s, V.wk_x, V.wkr_t, V.wkr_l, V.rev_l, V.rev_t, V.it_t, V.it_l, V.en_t, V.en_l, V.en_x, V.zp_t, V.zp_l, V.need_f, V.need_i, V.asI, V.asB, V.asIm, V.lift_s, V.lift_n, V.keep_i, V.keep_f, V.keep_l, V.keep_T, V.keep_d, V.im_i, V.im_l, V.im_T, V.im_d, V.im_s, V.mx_index, V.mx_count, V.mx_counts, V.mx_join, V.mx_split, V.isin_s, V.isin_t, V.isin_i, V.gcd_ii, V.eqI_ii, V.big_, V.op_ii, slD_tx, len_tx, add_tx, S_eq, atI_map, cutL_take, cutL_drop, cutL_mid, cutL_last, ims_some, ims_int, intsOf_int, boolsOf_bl, -List.map_map]
  unfold e_law_1
  refine WP_lcP (fun x => int x) v (fun x => some (int (sig vs x))) (e4 ns s m w (oI n5) (oT v) (.own (lI rest)) (.own (.dct false (vk vs)))) (e4 ns s m w (oI n5) (oT v) (.own (lI rest)) (.own (.dct false (vk vs)))) (e4 ns s m w (oI n5) (oT v) (.own (lI rest)) (.own (.dct false (vk vs)))) [10] rfl ?_ (Nat.le_trans hvl (by decide)) ?_ (fun x hxv => ?_) ?_ ?_
  · simp -dsimp [↓WP_ok, ↓WP_exc, ↓WP_bad, ↓WP_bind, ↓WP_cons, ↓WP_nil, ↓WP_callF, ↓WP_callE, ↓WP_clr, ↓WP_try, ↓WP_range1, ↓WP_range2, ↓WP_mutA, ↓WP_mutE, ↓WP_mutP, ↓WP_mutI, ↓WP_sd, ↓WP_setix, ↓SeqK_nx, ↓SeqK_rt, ↓SeqK_bk, ↓SeqK_ct, ↓ClrK_nx, ↓ClrK_rt, ↓ClrK_bk, ↓ClrK_ct, ↓SemK_rt, ↓SemK_nx, ↓ForK_nx, ↓ForK_ct, ↓ForK_bk, ↓ForK_rt, ↓W.s_ifs, ↓W.e_varF, ↓W.e_varT, ↓W.a_var, ↓W.still_im, ↓W.still_b, ↓W.e_cst, ↓W.e_glob, ↓W.e_tup, ↓W.e_lst, ↓W.e_dnew, ↓W.e_bin, ↓W.e_neg, ↓W.e_not, ↓W.e_cmp, ↓W.e_chain, ↓W.e_one, ↓W.e_and, ↓W.e_or, ↓W.e_ite, ↓W.e_ix, ↓W.e_sl, ↓W.e_ixv, ↓W.e_slv, ↓W.e_rev, ↓W.e_lrange, ↓W.e_disp, ↓W.e_dispD, ↓W.e_gcd, ↓W.e_isin, ↓W.e_bi1, ↓W.e_bi2, ↓W.e_get, ↓W.e_index, ↓W.e_count, ↓W.e_join, ↓W.e_split, ↓W.es_nil, ↓W.es_cons, ↓W.bs_nil, ↓W.bs_cons, ↓W.as_nil, ↓W.as_cons, ↓W.o_no, ↓W.o_so, ↓W.c_no, ↓W.c_so, ↓W.t_not, ↓W.t_one, ↓W.t_and, ↓W.t_or, ↓W.t_cmp, ↓W.t_chain, ↓W.t_var, ↓W.t_cst, ↓W.t_call, ↓W.t_ixv, ↓W.t_me, ↓W.t_ix, ↓W.t_bi, ↓W.t_isin, ↓W.t_gin, ↓W.w_it, ↓W.w_rev, ↓W.w_enum, ↓W.w_zip, ↓W.s_setv, ↓W.s_asg, ↓W.s_unp, ↓W.s_par, ↓W.s_ret, ↓W.s_retN, ↓W.s_expr, ↓W.s_doc, ↓W.s_pass, ↓W.s_brk, ↓W.s_cont, ↓W.s_raise, ↓W.s_swap, ↓W.a_cst, ↓W.a_glob, ↓W.a_tup, ↓W.a_lst, ↓W.a_bin, ↓W.a_neg, ↓W.a_ite, ↓W.a_ix, ↓W.a_sl, ↓W.a_rev, ↓W.a_ixv, ↓W.a_slv, ↓W.a_lrange, ↓W.a_disp, ↓W.a_dispD, ↓W.a_gix, ↓W.a_gcd, ↓W.a_isin, ↓W.a_call, ↓W.a_bi, ↓W.a_me, ↓W.a_cmp, ↓W.a_mut, ↓W.a_lc, ↓W.a_and, ↓W.a_or, ↓W.a_not, ↓W.a_one, ↓W.a_chain, ↓W.a_dnew, WP_ok, WP_exc, WP_bad, WP_bind, WP_ifbad, WP_ite, WP_lift, WP_liftN, WP_liftI, WP_callT, W.rdV, W.rdO, W.ldO, backO, mutO, setO, isOL, isOM, isOD, sdO, Mm.sd, readS, lendS, binI, cmpI, List.isEmpty, meOk, mxOk, Mm.sup, mkTup, ims, E.pure, Es.pure, Eo.pure, E.src, Wk.src, bindT, bindTs, Kh.clear, lockAll, Kh.settle, settleGo, Slot.isOwnMut, Slot.imOf, Slot.borOf, giveBack, Out.nx, Ss.stores, Kh.S.stores, Tg.slots, Tgs.slots, Es.len, vOk, clearV, runH, evalH, imAt, V.add_ii, V.sub_ii, V.add_tt, V.add_ll, V.mul_li, V.mul_si, V.eq_ss, V.ne_ss, V.eq_ii, V.ne_ii, V.eq_ll, V.ne_ll, V.isN_n, V.notN_n, V.isN_b, V.notN_b, V.isN_i, V.notN_i, V.isN_s, V.notN_s, V.isN_t, V.notN_t, V.is_bb, V.not_bb, V.eq_bb, V.ne_bb, V.lt_ii, V.le_ii, V.gt_ii, V.ge_ii, V.ix_t, V.ix_T, V.ix_l, V.ix_s, V.ix_d, V.ix_x, V.ixV_l, V.ixV_t, V.at_0, V.at_1, V.at_2, V.at_3, V.at_4, V.at_5, V.at_m1, V.at_m2, V.at_m3, V.at_m4, V.sl_t, V.sl_l, V.len_t, V.len_T, V.len_l, V.len_s, V.len_d, V.tuple_t, V.tuple_l, V.list_t, V.list_l, V.list_s, V.int_i, V.int_s, V.abs_i, V.min_ii, V.max_ii, V.sum_l, V.any_l, V.all_l, V.min_l, V.max_l, V.str_i, V.sorted_l, V.sorted_t, V.sorted_d, V.get_d, V.app, V.ext, V.pop0, V.pop1, V.ins, V.set_l, V.set_d, V.wk_t, V.wk_l, V.wk_s, V.wk_x, V.wkr_t, V.wkr_l, V.rev_l, V.rev_t, V.it_t, V.it_l, V.en_t, V.en_l, V.en_x, V.zp_t, V.zp_l, V.need_f, V.need_i, V.asI, V.asB, V.asIm, V.lift_s, V.lift_n, V.keep_i, V.keep_f, V.keep_l, V.keep_T, V.keep_d, V.im_i, V.im_l, V.im_T, V.im_d, V.im_s, V.mx_index, V.mx_count, V.mx_counts, V.mx_join, V.mx_split, V.isin_s, V.isin_t, V.isin_i, V.gcd_ii, V.eqI_ii, V.big_, V.op_ii, slD_tx, len_tx, add_tx, S_eq, atI_map, cutL_take, cutL_drop, cutL_mid, cutL_last, ims_some, ims_int, intsOf_int, boolsOf_bl, -List.map_map]
    simp [Function.comp_def]
  · simp [Ro.b_ok, Ro.b_exc, Ro.b_bad, Ro.a_var, Ro.e_var, Ro.e_cst, Ro.e_glob, Ro.e_tup, Ro.e_lst, Ro.e_dnew, Ro.e_bin, Ro.e_neg, Ro.e_not, Ro.e_cmp, Ro.e_chain, Ro.e_one, Ro.e_and, Ro.e_or, Ro.e_ite, Ro.e_ix, Ro.e_sl, Ro.e_ixv, Ro.e_slv, Ro.e_rev, Ro.e_lrange, Ro.e_disp, Ro.e_dispD, Ro.e_gin, Ro.e_gix, Ro.e_gcd, Ro.e_isin, Ro.e_call, Ro.e_bi1, Ro.e_bi2, Ro.e_get, Ro.e_index, Ro.e_count, Ro.e_join, Ro.e_split, Ro.e_mut, Ro.a_cst, Ro.a_glob, Ro.a_tup, Ro.a_lst, Ro.a_bin, Ro.a_neg, Ro.a_ite, Ro.a_ix, Ro.a_sl, Ro.a_rev, Ro.a_ixv, Ro.a_slv, Ro.a_lrange, Ro.a_disp, Ro.a_dispD, Ro.a_gix, Ro.a_gcd, Ro.a_isin, Ro.a_call, Ro.a_bi, Ro.a_me, Ro.a_cmp, Ro.a_mut, Ro.a_lc, Ro.a_and, Ro.a_or, Ro.a_not, Ro.a_one, Ro.a_chain, Ro.a_dnew, Ro.es_nil, Ro.es_cons, Ro.bs_nil, Ro.bs_cons, Ro.as_nil, Ro.as_cons, Ro.o_no, Ro.o_so, Ro.c_no, Ro.c_so, Ro.t_not, Ro.t_one, Ro.t_and, Ro.t_or, Ro.t_cmp, Ro.t_chain, Ro.t_var, Ro.t_cst, Ro.t_call, Ro.t_ixv, Ro.t_me, Ro.t_ix, Ro.t_bi, Ro.t_isin, Ro.t_gin, Ro.w_it, Ro.w_rev, Ro.w_enum, Ro.w_zip, Ro.w_range, Ro.s_setv, Ro.s_asg, Ro.s_unp, Ro.s_par, Ro.s_ret, Ro.s_retN, Ro.s_expr, Ro.s_doc, Ro.s_pass, Ro.s_brk, Ro.s_cont, Ro.s_ifs, Ro.s_raise, Ro.s_try, Ro.s_swap, Ro.s_setix, Ro.ss_nil, Ro.ss_cons, lift, readS, lendS, still, needIm, asInt, asBool, asIm, binD, binI, cmpD, cmpI, ixD, slD, ixV, List.isEmpty, revD, biD, meD, meOk, mxD, mxOk, mutD, Mm.sup, Mm.sd, sdO, setD, wkD, wkR, mkTup, ims, D.isIm, E.pure, Es.pure, Eo.pure, E.src, Wk.src, keepS, bindT, bindTs, Kh.clear, lockAll, Kh.settle, settleGo, Slot.isOwnMut, Slot.imOf, Slot.borOf, giveBack, callF, stepClear, settleF, Out.nx, Ss.stores, Kh.S.stores, Tg.slots, Tgs.slots, Es.len, itemsIm, enumD, zipD, vOk, clearV, runH, evalH, imAt, eqI]
  · refine WP_lcT rfl ?_
    have h1 := hx x hxv
    simp -dsimp [h1, key_i, ↓WP_ok, ↓WP_exc, ↓WP_bad, ↓WP_bind, ↓WP_cons, ↓WP_nil, ↓WP_callF, ↓WP_callE, ↓WP_clr, ↓WP_try, ↓WP_range1, ↓WP_range2, ↓WP_mutA, ↓WP_mutE, ↓WP_mutP, ↓WP_mutI, ↓WP_sd, ↓WP_setix, ↓SeqK_nx, ↓SeqK_rt, ↓SeqK_bk, ↓SeqK_ct, ↓ClrK_nx, ↓ClrK_rt, ↓ClrK_bk, ↓ClrK_ct, ↓SemK_rt, ↓SemK_nx, ↓ForK_nx, ↓ForK_ct, ↓ForK_bk, ↓ForK_rt, ↓W.s_ifs, ↓W.e_varF, ↓W.e_varT, ↓W.a_var, ↓W.still_im, ↓W.still_b, ↓W.e_cst, ↓W.e_glob, ↓W.e_tup, ↓W.e_lst, ↓W.e_dnew, ↓W.e_bin, ↓W.e_neg, ↓W.e_not, ↓W.e_cmp, ↓W.e_chain, ↓W.e_one, ↓W.e_and, ↓W.e_or, ↓W.e_ite, ↓W.e_ix, ↓W.e_sl, ↓W.e_ixv, ↓W.e_slv, ↓W.e_rev, ↓W.e_lrange, ↓W.e_disp, ↓W.e_dispD, ↓W.e_gcd, ↓W.e_isin, ↓W.e_bi1, ↓W.e_bi2, ↓W.e_get, ↓W.e_index, ↓W.e_count, ↓W.e_join, ↓W.e_split, ↓W.es_nil, ↓W.es_cons, ↓W.bs_nil, ↓W.bs_cons, ↓W.as_nil, ↓W.as_cons, ↓W.o_no, ↓W.o_so, ↓W.c_no, ↓W.c_so, ↓W.t_not, ↓W.t_one, ↓W.t_and, ↓W.t_or, ↓W.t_cmp, ↓W.t_chain, ↓W.t_var, ↓W.t_cst, ↓W.t_call, ↓W.t_ixv, ↓W.t_me, ↓W.t_ix, ↓W.t_bi, ↓W.t_isin, ↓W.t_gin, ↓W.w_it, ↓W.w_rev, ↓W.w_enum, ↓W.w_zip, ↓W.s_setv, ↓W.s_asg, ↓W.s_unp, ↓W.s_par, ↓W.s_ret, ↓W.s_retN, ↓W.s_expr, ↓W.s_doc, ↓W.s_pass, ↓W.s_brk, ↓W.s_cont, ↓W.s_raise, ↓W.s_swap, ↓W.a_cst, ↓W.a_glob, ↓W.a_tup, ↓W.a_lst, ↓W.a_bin, ↓W.a_neg, ↓W.a_ite, ↓W.a_ix, ↓W.a_sl, ↓W.a_rev, ↓W.a_ixv, ↓W.a_slv, ↓W.a_lrange, ↓W.a_disp, ↓W.a_dispD, ↓W.a_gix, ↓W.a_gcd, ↓W.a_isin, ↓W.a_call, ↓W.a_bi, ↓W.a_me, ↓W.a_cmp, ↓W.a_mut, ↓W.a_lc, ↓W.a_and, ↓W.a_or, ↓W.a_not, ↓W.a_one, ↓W.a_chain, ↓W.a_dnew, WP_ok, WP_exc, WP_bad, WP_bind, WP_ifbad, WP_ite, WP_lift, WP_liftN, WP_liftI, WP_callT, W.rdV, W.rdO, W.ldO, backO, mutO, setO, isOL, isOM, isOD, sdO, Mm.sd, readS, lendS, binI, cmpI, List.isEmpty, meOk, mxOk, Mm.sup, mkTup, ims, E.pure, Es.pure, Eo.pure, E.src, Wk.src, bindT, bindTs, Kh.clear, lockAll, Kh.settle, settleGo, Slot.isOwnMut, Slot.imOf, Slot.borOf, giveBack, Out.nx, Ss.stores, Kh.S.stores, Tg.slots, Tgs.slots, Es.len, vOk, clearV, runH, evalH, imAt, V.add_ii, V.sub_ii, V.add_tt, V.add_ll, V.mul_li, V.mul_si, V.eq_ss, V.ne_ss, V.eq_ii, V.ne_ii, V.eq_ll, V.ne_ll, V.isN_n, V.notN_n, V.isN_b, V.notN_b, V.isN_i, V.notN_i, V.isN_s, V.notN_s, V.isN_t, V.notN_t, V.is_bb, V.not_bb, V.eq_bb, V.ne_bb, V.lt_ii, V.le_ii, V.gt_ii, V.ge_ii, V.ix_t, V.ix_T, V.ix_l, V.ix_s, V.ix_d, V.ix_x, V.ixV_l, V.ixV_t, V.at_0, V.at_1, V.at_2, V.at_3, V.at_4, V.at_5, V.at_m1, V.at_m2, V.at_m3, V.at_m4, V.sl_t, V.sl_l, V.len_t, V.len_T, V.len_l, V.len_s, V.len_d, V.tuple_t, V.tuple_l, V.list_t, V.list_l, V.list_s, V.int_i, V.int_s, V.abs_i, V.min_ii, V.max_ii, V.sum_l, V.any_l, V.all_l, V.min_l, V.max_l, V.str_i, V.sorted_l, V.sorted_t, V.sorted_d, V.get_d, V.app, V.ext, V.pop0, V.pop1, V.ins, V.set_l, V.set_d, V.wk_t, V.wk_l, V.wk_s, V.wk_x, V.wkr_t, V.wkr_l, V.rev_l, V.rev_t, V.it_t, V.it_l, V.en_t, V.en_l, V.en_x, V.zp_t, V.zp_l, V.need_f, V.need_i, V.asI, V.asB, V.asIm, V.lift_s, V.lift_n, V.keep_i, V.keep_f, V.keep_l, V.keep_T, V.keep_d, V.im_i, V.im_l, V.im_T, V.im_d, V.im_s, V.mx_index, V.mx_count, V.mx_counts, V.mx_join, V.mx_split, V.isin_s, V.isin_t, V.isin_i, V.gcd_ii, V.eqI_ii, V.big_, V.op_ii, slD_tx, len_tx, add_tx, S_eq, atI_map, cutL_take, cutL_drop, cutL_mid, cutL_last, ims_some, ims_int, intsOf_int, boolsOf_bl, -List.map_map]
  · simp [Ro.b_ok, Ro.b_exc, Ro.b_bad, Ro.a_var, Ro.e_var, Ro.e_cst, Ro.e_glob, Ro.e_tup, Ro.e_lst, Ro.e_dnew, Ro.e_bin, Ro.e_neg, Ro.e_not, Ro.e_cmp, Ro.e_chain, Ro.e_one, Ro.e_and, Ro.e_or, Ro.e_ite, Ro.e_ix, Ro.e_sl, Ro.e_ixv, Ro.e_slv, Ro.e_rev, Ro.e_lrange, Ro.e_disp, Ro.e_dispD, Ro.e_gin, Ro.e_gix, Ro.e_gcd, Ro.e_isin, Ro.e_call, Ro.e_bi1, Ro.e_bi2, Ro.e_get, Ro.e_index, Ro.e_count, Ro.e_join, Ro.e_split, Ro.e_mut, Ro.a_cst, Ro.a_glob, Ro.a_tup, Ro.a_lst, Ro.a_bin, Ro.a_neg, Ro.a_ite, Ro.a_ix, Ro.a_sl, Ro.a_rev, Ro.a_ixv, Ro.a_slv, Ro.a_lrange, Ro.a_disp, Ro.a_dispD, Ro.a_gix, Ro.a_gcd, Ro.a_isin, Ro.a_call, Ro.a_bi, Ro.a_me, Ro.a_cmp, Ro.a_mut, Ro.a_lc, Ro.a_and, Ro.a_or, Ro.a_not, Ro.a_one, Ro.a_chain, Ro.a_dnew, Ro.es_nil, Ro.es_cons, Ro.bs_nil, Ro.bs_cons, Ro.as_nil, Ro.as_cons, Ro.o_no, Ro.o_so, Ro.c_no, Ro.c_so, Ro.t_not, Ro.t_one, Ro.t_and, Ro.t_or, Ro.t_cmp, Ro.t_chain, Ro.t_var, Ro.t_cst, Ro.t_call, Ro.t_ixv, Ro.t_me, Ro.t_ix, Ro.t_bi, Ro.t_isin, Ro.t_gin, Ro.w_it, Ro.w_rev, Ro.w_enum, Ro.w_zip, Ro.w_range, Ro.s_setv, Ro.s_asg, Ro.s_unp, Ro.s_par, Ro.s_ret, Ro.s_retN, Ro.s_expr, Ro.s_doc, Ro.s_pass, Ro.s_brk, Ro.s_cont, Ro.s_ifs, Ro.s_raise, Ro.s_try, Ro.s_swap, Ro.s_setix, Ro.ss_nil, Ro.ss_cons, lift, readS, lendS, still, needIm, asInt, asBool, asIm, binD, binI, cmpD, cmpI, ixD, slD, ixV, List.isEmpty, revD, biD, meD, meOk, mxD, mxOk, mutD, Mm.sup, Mm.sd, sdO, setD, wkD, wkR, mkTup, ims, D.isIm, E.pure, Es.pure, Eo.pure, E.src, Wk.src, keepS, bindT, bindTs, Kh.clear, lockAll, Kh.settle, settleGo, Slot.isOwnMut, Slot.imOf, Slot.borOf, giveBack, callF, stepClear, settleF, Out.nx, Ss.stores, Kh.S.stores, Tg.slots, Tgs.slots, Es.len, itemsIm, enumD, zipD, vOk, clearV, runH, evalH, imAt, eqI]
  · rw [List.filterMap_eq_map']
    have k2 : f_canonical_word.sem (tab 19) [.own (.im (.tup (v.map fun a => .int (sig vs a))))] = .ok (.im (tI a)) [.own (.im (.tup (v.map fun a => .int (sig vs a))))] := by
      have e : v.map (fun a => I.int (sig vs a)) = (v.map (sig vs)).map I.int := by simp
      rw [e]
      exact k1
    have hne : cmpD .ne (.im (tI a)) (.im (tI a)) = some false := by rw [ne_tI]; simp
    simp -dsimp [k2, hmin, hne, ↓WP_ok, ↓WP_exc, ↓WP_bad, ↓WP_bind, ↓WP_cons, ↓WP_nil, ↓WP_callF, ↓WP_callE, ↓WP_clr, ↓WP_try, ↓WP_range1, ↓WP_range2, ↓WP_mutA, ↓WP_mutE, ↓WP_mutP, ↓WP_mutI, ↓WP_sd, ↓WP_setix, ↓SeqK_nx, ↓SeqK_rt, ↓SeqK_bk, ↓SeqK_ct, ↓ClrK_nx, ↓ClrK_rt, ↓ClrK_bk, ↓ClrK_ct, ↓SemK_rt, ↓SemK_nx, ↓ForK_nx, ↓ForK_ct, ↓ForK_bk, ↓ForK_rt, ↓W.s_ifs, ↓W.e_varF, ↓W.e_varT, ↓W.a_var, ↓W.still_im, ↓W.still_b, ↓W.e_cst, ↓W.e_glob, ↓W.e_tup, ↓W.e_lst, ↓W.e_dnew, ↓W.e_bin, ↓W.e_neg, ↓W.e_not, ↓W.e_cmp, ↓W.e_chain, ↓W.e_one, ↓W.e_and, ↓W.e_or, ↓W.e_ite, ↓W.e_ix, ↓W.e_sl, ↓W.e_ixv, ↓W.e_slv, ↓W.e_rev, ↓W.e_lrange, ↓W.e_disp, ↓W.e_dispD, ↓W.e_gcd, ↓W.e_isin, ↓W.e_bi1, ↓W.e_bi2, ↓W.e_get, ↓W.e_index, ↓W.e_count, ↓W.e_join, ↓W.e_split, ↓W.es_nil, ↓W.es_cons, ↓W.bs_nil, ↓W.bs_cons, ↓W.as_nil, ↓W.as_cons, ↓W.o_no, ↓W.o_so, ↓W.c_no, ↓W.c_so, ↓W.t_not, ↓W.t_one, ↓W.t_and, ↓W.t_or, ↓W.t_cmp, ↓W.t_chain, ↓W.t_var, ↓W.t_cst, ↓W.t_call, ↓W.t_ixv, ↓W.t_me, ↓W.t_ix, ↓W.t_bi, ↓W.t_isin, ↓W.t_gin, ↓W.w_it, ↓W.w_rev, ↓W.w_enum, ↓W.w_zip, ↓W.s_setv, ↓W.s_asg, ↓W.s_unp, ↓W.s_par, ↓W.s_ret, ↓W.s_retN, ↓W.s_expr, ↓W.s_doc, ↓W.s_pass, ↓W.s_brk, ↓W.s_cont, ↓W.s_raise, ↓W.s_swap, ↓W.a_cst, ↓W.a_glob, ↓W.a_tup, ↓W.a_lst, ↓W.a_bin, ↓W.a_neg, ↓W.a_ite, ↓W.a_ix, ↓W.a_sl, ↓W.a_rev, ↓W.a_ixv, ↓W.a_slv, ↓W.a_lrange, ↓W.a_disp, ↓W.a_dispD, ↓W.a_gix, ↓W.a_gcd, ↓W.a_isin, ↓W.a_call, ↓W.a_bi, ↓W.a_me, ↓W.a_cmp, ↓W.a_mut, ↓W.a_lc, ↓W.a_and, ↓W.a_or, ↓W.a_not, ↓W.a_one, ↓W.a_chain, ↓W.a_dnew, WP_ok, WP_exc, WP_bad, WP_bind, WP_ifbad, WP_ite, WP_lift, WP_liftN, WP_liftI, WP_callT, W.rdV, W.rdO, W.ldO, backO, mutO, setO, isOL, isOM, isOD, sdO, Mm.sd, readS, lendS, binI, cmpI, List.isEmpty, meOk, mxOk, Mm.sup, mkTup, ims, E.pure, Es.pure, Eo.pure, E.src, Wk.src, bindT, bindTs, Kh.clear, lockAll, Kh.settle, settleGo, Slot.isOwnMut, Slot.imOf, Slot.borOf, giveBack, Out.nx, Ss.stores, Kh.S.stores, Tg.slots, Tgs.slots, Es.len, vOk, clearV, runH, evalH, imAt, V.add_ii, V.sub_ii, V.add_tt, V.add_ll, V.mul_li, V.mul_si, V.eq_ss, V.ne_ss, V.eq_ii, V.ne_ii, V.eq_ll, V.ne_ll, V.isN_n, V.notN_n, V.isN_b, V.notN_b, V.isN_i, V.notN_i, V.isN_s, V.notN_s, V.isN_t, V.notN_t, V.is_bb, V.not_bb, V.eq_bb, V.ne_bb, V.lt_ii, V.le_ii, V.gt_ii, V.ge_ii, V.ix_t, V.ix_T, V.ix_l, V.ix_s, V.ix_d, V.ix_x, V.ixV_l, V.ixV_t, V.at_0, V.at_1, V.at_2, V.at_3, V.at_4, V.at_5, V.at_m1, V.at_m2, V.at_m3, V.at_m4, V.sl_t, V.sl_l, V.len_t, V.len_T, V.len_l, V.len_s, V.len_d, V.tuple_t, V.tuple_l, V.list_t, V.list_l, V.list_s, V.int_i, V.int_s, V.abs_i, V.min_ii, V.max_ii, V.sum_l, V.any_l, V.all_l, V.min_l, V.max_l, V.str_i, V.sorted_l, V.sorted_t, V.sorted_d, V.get_d, V.app, V.ext, V.pop0, V.pop1, V.ins, V.set_l, V.set_d, V.wk_t, V.wk_l, V.wk_s, V.wk_x, V.wkr_t, V.wkr_l, V.rev_l, V.rev_t, V.it_t, V.it_l, V.en_t, V.en_l, V.en_x, V.zp_t, V.zp_l, V.need_f, V.need_i, V.asI, V.asB, V.asIm, V.lift_s, V.lift_n, V.keep_i, V.keep_f, V.keep_l, V.keep_T, V.keep_d, V.im_i, V.im_l, V.im_T, V.im_d, V.im_s, V.mx_index, V.mx_count, V.mx_counts, V.mx_join, V.mx_split, V.isin_s, V.isin_t, V.isin_i, V.gcd_ii, V.eqI_ii, V.big_, V.op_ii, slD_tx, len_tx, add_tx, S_eq, atI_map, cutL_take, cutL_drop, cutL_mid, cutL_last, ims_some, ims_int, intsOf_int, boolsOf_bl, -List.map_map]
    exact law_12 ok hm h
end Kw

set_option Elab.async false
set_option linter.all false
set_option maxRecDepth 100000
set_option maxHeartbeats 4000000
namespace Kw
open PySem L2 Kh Km
def InvN (ns : List Int) (m : Nat) (w v : List Int) (n5 : Nat) (r : List Nat) (e : En) : Prop := ∃ s vs rest, e = e4 ns s m w (oI n5) (oT v) (.own (lI rest)) (.own (.dct false (vk vs))) ∧ StOk s ∧ (vs ++ rest).Perm (lets m) ∧ r = (List.range m).drop vs.length
theorem vk_nil : vk [] = [] := rfl
theorem law_10 {ns : List Int} {s : Kh.St} {m : Nat} {w v : List Int} {n5 : Nat} (ok : StOk s) (hm : m ≤ 14) (h : GV m w) (hd : Dih w v) :
    WP (execs (tab 20) t_law_10 (e4 ns s m w (oI n5) (oT v) (.own (lI (lets m))) (.own (.dct false [])))) LawK noX := by
  rw [t_law_10, WP_cons]
  unfold s_law_2
  rw [WP_fors]
  simp -dsimp [↓WP_ok, ↓WP_exc, ↓WP_bad, ↓WP_bind, ↓WP_cons, ↓WP_nil, ↓WP_callF, ↓WP_callE, ↓WP_clr, ↓WP_try, ↓WP_range1, ↓WP_range2, ↓WP_mutA, ↓WP_mutE, ↓WP_mutP, ↓WP_mutI, ↓WP_sd, ↓WP_setix, ↓SeqK_nx, ↓SeqK_rt, ↓SeqK_bk, ↓SeqK_ct, ↓ClrK_nx, ↓ClrK_rt, ↓ClrK_bk, ↓ClrK_ct, ↓SemK_rt, ↓SemK_nx, ↓ForK_nx, ↓ForK_ct, ↓ForK_bk, ↓ForK_rt, ↓W.s_ifs, ↓W.e_varF, ↓W.e_varT, ↓W.a_var, ↓W.still_im, ↓W.still_b, ↓W.e_cst, ↓W.e_glob, ↓W.e_tup, ↓W.e_lst, ↓W.e_dnew, ↓W.e_bin, ↓W.e_neg, ↓W.e_not, ↓W.e_cmp, ↓W.e_chain, ↓W.e_one, ↓W.e_and, ↓W.e_or, ↓W.e_ite, ↓W.e_ix, ↓W.e_sl, ↓W.e_ixv, ↓W.e_slv, ↓W.e_rev, ↓W.e_lrange, ↓W.e_disp, ↓W.e_dispD, ↓W.e_gcd, ↓W.e_isin, ↓W.e_bi1, ↓W.e_bi2, ↓W.e_get, ↓W.e_index, ↓W.e_count, ↓W.e_join, ↓W.e_split, ↓W.es_nil, ↓W.es_cons, ↓W.bs_nil, ↓W.bs_cons, ↓W.as_nil, ↓W.as_cons, ↓W.o_no, ↓W.o_so, ↓W.c_no, ↓W.c_so, ↓W.t_not, ↓W.t_one, ↓W.t_and, ↓W.t_or, ↓W.t_cmp, ↓W.t_chain, ↓W.t_var, ↓W.t_cst, ↓W.t_call, ↓W.t_ixv, ↓W.t_me, ↓W.t_ix, ↓W.t_bi, ↓W.t_isin, ↓W.t_gin, ↓W.w_it, ↓W.w_rev, ↓W.w_enum, ↓W.w_zip, ↓W.s_setv, ↓W.s_asg, ↓W.s_unp, ↓W.s_par, ↓W.s_ret, ↓W.s_retN, ↓W.s_expr, ↓W.s_doc, ↓W.s_pass, ↓W.s_brk, ↓W.s_cont, ↓W.s_raise, ↓W.s_swap, ↓W.a_cst, ↓W.a_glob, ↓W.a_tup, ↓W.a_lst, ↓W.a_bin, ↓W.a_neg, ↓W.a_ite, ↓W.a_ix, ↓W.a_sl, ↓W.a_rev, ↓W.a_ixv, ↓W.a_slv, ↓W.a_lrange, ↓W.a_disp, ↓W.a_dispD, ↓W.a_gix, ↓W.a_gcd, ↓W.a_isin, ↓W.a_call, ↓W.a_bi, ↓W.a_me, ↓W.a_cmp, ↓W.a_mut, ↓W.a_lc, ↓W.a_and, ↓W.a_or, ↓W.a_not, ↓W.a_one, ↓W.a_chain, ↓W.a_dnew, WP_ok, WP_exc, WP_bad, WP_bind, WP_ifbad, WP_ite, WP_lift, WP_liftN, WP_liftI, WP_callT, W.rdV, W.rdO, W.ldO, backO, mutO, setO, isOL, isOM, isOD, sdO, Mm.sd, readS, lendS, binI, cmpI, List.isEmpty, meOk, mxOk, Mm.sup, mkTup, ims, E.pure, Es.pure, Eo.pure, E.src, Wk.src, bindT, bindTs, Kh.clear, lockAll, Kh.settle, settleGo, Slot.isOwnMut, Slot.imOf, Slot.borOf, giveBack, Out.nx, Ss.stores, Kh.S.stores, Tg.slots, Tgs.slots, Es.len, vOk, clearV, runH, evalH, imAt, V.add_ii, V.sub_ii, V.add_tt, V.add_ll, V.mul_li, V.mul_si, V.eq_ss, V.ne_ss, V.eq_ii, V.ne_ii, V.eq_ll, V.ne_ll, V.isN_n, V.notN_n, V.isN_b, V.notN_b, V.isN_i, V.notN_i, V.isN_s, V.notN_s, V.isN_t, V.notN_t, V.is_bb, V.not_bb, V.eq_bb, V.ne_bb, V.lt_ii, V.le_ii, V.gt_ii, V.ge_ii, V.ix_t, V.ix_T, V.ix_l, V.ix_s, V.ix_d, V.ix_x, V.ixV_l, V.ixV_t, V.at_0, V.at_1, V.at_2, V.at_3, V.at_4, V.at_5, V.at_m1, V.at_m2, V.at_m3, V.at_m4, V.sl_t, V.sl_l, V.len_t, V.len_T, V.len_l, V.len_s, V.len_d, V.tuple_t, V.tuple_l, V.list_t, V.list_l, V.list_s, V.int_i, V.int_s, V.abs_i, V.min_ii, V.max_ii, V.sum_l, V.any_l, V.all_l, V.min_l, V.max_l, V.str_i, V.sorted_l, V.sorted_t, V.sorted_d, V.get_d, V.app, V.ext, V.pop0, V.pop1, V.ins, V.set_l, V.set_d, V.wk_t, V.wk_l, V.wk_s, V.wk_x, V.wkr_t, V.wkr_l, V.rev_l, V.rev_t, V.it_t, V.it_l, V.en_t, V.en_l, V.en_x, V.zp_t, V.zp_l, V.need_f, V.need_i, V.asI, V.asB, V.asIm, V.lift_s, V.lift_n, V.keep_i, V.keep_f, V.keep_l, V.keep_T, V.keep_d, V.im_i, V.im_l, V.im_T, V.im_d, V.im_s, V.mx_index, V.mx_count, V.mx_counts, V.mx_join, V.mx_split, V.isin_s, V.isin_t, V.isin_i, V.gcd_ii, V.eqI_ii, V.big_, V.op_ii, slD_tx, len_tx, add_tx, S_eq, atI_map, cutL_take, cutL_drop, cutL_mid, cutL_last, ims_some, ims_int, intsOf_int, boolsOf_bl, -List.map_map]
  refine rg_wp2 (lo := 1) (n := m) rfl (by omega) (by omega) ?_
  have el : (List.range m).map (fun k => int ((1 + k : Nat) : Int)) = (List.range m).map fun (k : Nat) => int ((k : Int) + 1) := List.map_congr_left fun k _ => by
    show D.im (.int _) = D.im (.int _)
    rw [show ((1 + k : Nat) : Int) = (k : Int) + 1 by omega]
  rw [el]
  simp -dsimp [dS_im, ↓WP_ok, ↓WP_exc, ↓WP_bad, ↓WP_bind, ↓WP_cons, ↓WP_nil, ↓WP_callF, ↓WP_callE, ↓WP_clr, ↓WP_try, ↓WP_range1, ↓WP_range2, ↓WP_mutA, ↓WP_mutE, ↓WP_mutP, ↓WP_mutI, ↓WP_sd, ↓WP_setix, ↓SeqK_nx, ↓SeqK_rt, ↓SeqK_bk, ↓SeqK_ct, ↓ClrK_nx, ↓ClrK_rt, ↓ClrK_bk, ↓ClrK_ct, ↓SemK_rt, ↓SemK_nx, ↓ForK_nx, ↓ForK_ct, ↓ForK_bk, ↓ForK_rt, ↓W.s_ifs, ↓W.e_varF, ↓W.e_varT, ↓W.a_var, ↓W.still_im, ↓W.still_b, ↓W.e_cst, ↓W.e_glob, ↓W.e_tup, ↓W.e_lst, ↓W.e_dnew, ↓W.e_bin, ↓W.e_neg, ↓W.e_not, ↓W.e_cmp, ↓W.e_chain, ↓W.e_one, ↓W.e_and, ↓W.e_or, ↓W.e_ite, ↓W.e_ix, ↓W.e_sl, ↓W.e_ixv, ↓W.e_slv, ↓W.e_rev, ↓W.e_lrange, ↓W.e_disp, ↓W.e_dispD, ↓W.e_gcd, ↓W.e_isin, ↓W.e_bi1, ↓W.e_bi2, ↓W.e_get, ↓W.e_index, ↓W.e_count, ↓W.e_join, ↓W.e_split, ↓W.es_nil, ↓W.es_cons, ↓W.bs_nil, ↓W.bs_cons, ↓W.as_nil, ↓W.as_cons, ↓W.o_no, ↓W.o_so, ↓W.c_no, ↓W.c_so, ↓W.t_not, ↓W.t_one, ↓W.t_and, ↓W.t_or, ↓W.t_cmp, ↓W.t_chain, ↓W.t_var, ↓W.t_cst, ↓W.t_call, ↓W.t_ixv, ↓W.t_me, ↓W.t_ix, ↓W.t_bi, ↓W.t_isin, ↓W.t_gin, ↓W.w_it, ↓W.w_rev, ↓W.w_enum, ↓W.w_zip, ↓W.s_setv, ↓W.s_asg, ↓W.s_unp, ↓W.s_par, ↓W.s_ret, ↓W.s_retN, ↓W.s_expr, ↓W.s_doc, ↓W.s_pass, ↓W.s_brk, ↓W.s_cont, ↓W.s_raise, ↓W.s_swap, ↓W.a_cst, ↓W.a_glob, ↓W.a_tup, ↓W.a_lst, ↓W.a_bin, ↓W.a_neg, ↓W.a_ite, ↓W.a_ix, ↓W.a_sl, ↓W.a_rev, ↓W.a_ixv, ↓W.a_slv, ↓W.a_lrange, ↓W.a_disp, ↓W.a_dispD, ↓W.a_gix, ↓W.a_gcd, ↓W.a_isin, ↓W.a_call, ↓W.a_bi, ↓W.a_me, ↓W.a_cmp, ↓W.a_mut, ↓W.a_lc, ↓W.a_and, ↓W.a_or, ↓W.a_not, ↓W.a_one, ↓W.a_chain, ↓W.a_dnew, WP_ok, WP_exc, WP_bad, WP_bind, WP_ifbad, WP_ite, WP_lift, WP_liftN, WP_liftI, WP_callT, W.rdV, W.rdO, W.ldO, backO, mutO, setO, isOL, isOM, isOD, sdO, Mm.sd, readS, lendS, binI, cmpI, List.isEmpty, meOk, mxOk, Mm.sup, mkTup, ims, E.pure, Es.pure, Eo.pure, E.src, Wk.src, bindT, bindTs, Kh.clear, lockAll, Kh.settle, settleGo, Slot.isOwnMut, Slot.imOf, Slot.borOf, giveBack, Out.nx, Ss.stores, Kh.S.stores, Tg.slots, Tgs.slots, Es.len, vOk, clearV, runH, evalH, imAt, V.add_ii, V.sub_ii, V.add_tt, V.add_ll, V.mul_li, V.mul_si, V.eq_ss, V.ne_ss, V.eq_ii, V.ne_ii, V.eq_ll, V.ne_ll, V.isN_n, V.notN_n, V.isN_b, V.notN_b, V.isN_i, V.notN_i, V.isN_s, V.notN_s, V.isN_t, V.notN_t, V.is_bb, V.not_bb, V.eq_bb, V.ne_bb, V.lt_ii, V.le_ii, V.gt_ii, V.ge_ii, V.ix_t, V.ix_T, V.ix_l, V.ix_s, V.ix_d, V.ix_x, V.ixV_l, V.ixV_t, V.at_0, V.at_1, V.at_2, V.at_3, V.at_4, V.at_5, V.at_m1, V.at_m2, V.at_m3, V.at_m4, V.sl_t, V.sl_l, V.len_t, V.len_T, V.len_l, V.len_s, V.len_d, V.tuple_t, V.tuple_l, V.list_t, V.list_l, V.list_s, V.int_i, V.int_s, V.abs_i, V.min_ii, V.max_ii, V.sum_l, V.any_l, V.all_l, V.min_l, V.max_l, V.str_i, V.sorted_l, V.sorted_t, V.sorted_d, V.get_d, V.app, V.ext, V.pop0, V.pop1, V.ins, V.set_l, V.set_d, V.wk_t, V.wk_l, V.wk_s, V.wk_x, V.wkr_t, V.wkr_l, V.rev_l, V.rev_t, V.it_t, V.it_l, V.en_t, V.en_l, V.en_x, V.zp_t, V.zp_l, V.need_f, V.need_i, V.asI, V.asB, V.asIm, V.lift_s, V.lift_n, V.keep_i, V.keep_f, V.keep_l, V.keep_T, V.keep_d, V.im_i, V.im_l, V.im_T, V.im_d, V.im_s, V.mx_index, V.mx_count, V.mx_counts, V.mx_join, V.mx_split, V.isin_s, V.isin_t, V.isin_i, V.gcd_ii, V.eqI_ii, V.big_, V.op_ii, slD_tx, len_tx, add_tx, S_eq, atI_map, cutL_take, cutL_drop, cutL_mid, cutL_last, ims_some, ims_int, intsOf_int, boolsOf_bl, -List.map_map]
  refine WP_forGo (fun (k : Nat) => int ((k : Int) + 1)) (InvN ns m w v n5) (fun e ⟨s, vs, rest, h1, h2, h3, h4⟩ => ?done) (fun a r e ⟨s, vs, rest, h1, h2, h3, h4⟩ => ?step) (List.range m) _ ⟨s, [], lets m, rfl, ok, by simp, by simp⟩
  case done =>
    subst h1
    have hl : m ≤ vs.length := by
      have := congrArg List.length h4
      simp at this
      omega
    have hl2 := h3.length_eq
    simp [lets] at hl2
    have hr : rest = [] := List.length_eq_zero_iff.mp (by omega)
    subst hr
    rw [List.append_nil] at h3
    simp -dsimp [s_law_1, ↓WP_ok, ↓WP_exc, ↓WP_bad, ↓WP_bind, ↓WP_cons, ↓WP_nil, ↓WP_callF, ↓WP_callE, ↓WP_clr, ↓WP_try, ↓WP_range1, ↓WP_range2, ↓WP_mutA, ↓WP_mutE, ↓WP_mutP, ↓WP_mutI, ↓WP_sd, ↓WP_setix, ↓SeqK_nx, ↓SeqK_rt, ↓SeqK_bk, ↓SeqK_ct, ↓ClrK_nx, ↓ClrK_rt, ↓ClrK_bk, ↓ClrK_ct, ↓SemK_rt, ↓SemK_nx, ↓ForK_nx, ↓ForK_ct, ↓ForK_bk, ↓ForK_rt, ↓W.s_ifs, ↓W.e_varF, ↓W.e_varT, ↓W.a_var, ↓W.still_im, ↓W.still_b, ↓W.e_cst, ↓W.e_glob, ↓W.e_tup, ↓W.e_lst, ↓W.e_dnew, ↓W.e_bin, ↓W.e_neg, ↓W.e_not, ↓W.e_cmp, ↓W.e_chain, ↓W.e_one, ↓W.e_and, ↓W.e_or, ↓W.e_ite, ↓W.e_ix, ↓W.e_sl, ↓W.e_ixv, ↓W.e_slv, ↓W.e_rev, ↓W.e_lrange, ↓W.e_disp, ↓W.e_dispD, ↓W.e_gcd, ↓W.e_isin, ↓W.e_bi1, ↓W.e_bi2, ↓W.e_get, ↓W.e_index, ↓W.e_count, ↓W.e_join, ↓W.e_split, ↓W.es_nil, ↓W.es_cons, ↓W.bs_nil, ↓W.bs_cons, ↓W.as_nil, ↓W.as_cons, ↓W.o_no, ↓W.o_so, ↓W.c_no, ↓W.c_so, ↓W.t_not, ↓W.t_one, ↓W.t_and, ↓W.t_or, ↓W.t_cmp, ↓W.t_chain, ↓W.t_var, ↓W.t_cst, ↓W.t_call, ↓W.t_ixv, ↓W.t_me, ↓W.t_ix, ↓W.t_bi, ↓W.t_isin, ↓W.t_gin, ↓W.w_it, ↓W.w_rev, ↓W.w_enum, ↓W.w_zip, ↓W.s_setv, ↓W.s_asg, ↓W.s_unp, ↓W.s_par, ↓W.s_ret, ↓W.s_retN, ↓W.s_expr, ↓W.s_doc, ↓W.s_pass, ↓W.s_brk, ↓W.s_cont, ↓W.s_raise, ↓W.s_swap, ↓W.a_cst, ↓W.a_glob, ↓W.a_tup, ↓W.a_lst, ↓W.a_bin, ↓W.a_neg, ↓W.a_ite, ↓W.a_ix, ↓W.a_sl, ↓W.a_rev, ↓W.a_ixv, ↓W.a_slv, ↓W.a_lrange, ↓W.a_disp, ↓W.a_dispD, ↓W.a_gix, ↓W.a_gcd, ↓W.a_isin, ↓W.a_call, ↓W.a_bi, ↓W.a_me, ↓W.a_cmp, ↓W.a_mut, ↓W.a_lc, ↓W.a_and, ↓W.a_or, ↓W.a_not, ↓W.a_one, ↓W.a_chain, ↓W.a_dnew, WP_ok, WP_exc, WP_bad, WP_bind, WP_ifbad, WP_ite, WP_lift, WP_liftN, WP_liftI, WP_callT, W.rdV, W.rdO, W.ldO, backO, mutO, setO, isOL, isOM, isOD, sdO, Mm.sd, readS, lendS, binI, cmpI, List.isEmpty, meOk, mxOk, Mm.sup, mkTup, ims, E.pure, Es.pure, Eo.pure, E.src, Wk.src, bindT, bindTs, Kh.clear, lockAll, Kh.settle, settleGo, Slot.isOwnMut, Slot.imOf, Slot.borOf, giveBack, Out.nx, Ss.stores, Kh.S.stores, Tg.slots, Tgs.slots, Es.len, vOk, clearV, runH, evalH, imAt, V.add_ii, V.sub_ii, V.add_tt, V.add_ll, V.mul_li, V.mul_si, V.eq_ss, V.ne_ss, V.eq_ii, V.ne_ii, V.eq_ll, V.ne_ll, V.isN_n, V.notN_n, V.isN_b, V.notN_b, V.isN_i, V.notN_i, V.isN_s, V.notN_s, V.isN_t, V.notN_t, V.is_bb, V.not_bb, V.eq_bb, V.ne_bb, V.lt_ii, V.le_ii, V.gt_ii, V.ge_ii, V.ix_t, V.ix_T, V.ix_l, V.ix_s, V.ix_d, V.ix_x, V.ixV_l, V.ixV_t, V.at_0, V.at_1, V.at_2, V.at_3, V.at_4, V.at_5, V.at_m1, V.at_m2, V.at_m3, V.at_m4, V.sl_t, V.sl_l, V.len_t, V.len_T, V.len_l, V.len_s, V.len_d, V.tuple_t, V.tuple_l, V.list_t, V.list_l, V.list_s, V.int_i, V.int_s, V.abs_i, V.min_ii, V.max_ii, V.sum_l, V.any_l, V.all_l, V.min_l, V.max_l, V.str_i, V.sorted_l, V.sorted_t, V.sorted_d, V.get_d, V.app, V.ext, V.pop0, V.pop1, V.ins, V.set_l, V.set_d, V.wk_t, V.wk_l, V.wk_s, V.wk_x, V.wkr_t, V.wkr_l, V.rev_l, V.rev_t, V.it_t, V.it_l, V.en_t, V.en_l, V.en_x, V.zp_t, V.zp_l, V.need_f, V.need_i, V.asI, V.asB, V.asIm, V.lift_s, V.lift_n, V.keep_i, V.keep_f, V.keep_l, V.keep_T, V.keep_d, V.im_i, V.im_l, V.im_T, V.im_d, V.im_s, V.mx_index, V.mx_count, V.mx_counts, V.mx_join, V.mx_split, V.isin_s, V.isin_t, V.isin_i, V.gcd_ii, V.eqI_ii, V.big_, V.op_ii, slD_tx, len_tx, add_tx, S_eq, atI_map, cutL_take, cutL_drop, cutL_mid, cutL_last, ims_some, ims_int, intsOf_int, boolsOf_bl, -List.map_map]
    exact law_11 h2 hm h hd h3
  case step =>
    subst h1
    have hl2 := h3.length_eq
    simp [lets] at hl2
    have hlt : vs.length < m := by
      have := congrArg List.length h4
      simp at this
      omega
    rw [List.drop_eq_getElem_cons (by simpa using hlt)] at h4
    injection h4 with h5 h6
    rw [List.getElem_range] at h5
    subst h5 h6
    refine WP_forT rfl ?_
    have b1 : rest.length ≤ 1000000 := by omega
    simp -dsimp [s_law_1, fn_take, dS_im, b1, ↓WP_ok, ↓WP_exc, ↓WP_bad, ↓WP_bind, ↓WP_cons, ↓WP_nil, ↓WP_callF, ↓WP_callE, ↓WP_clr, ↓WP_try, ↓WP_range1, ↓WP_range2, ↓WP_mutA, ↓WP_mutE, ↓WP_mutP, ↓WP_mutI, ↓WP_sd, ↓WP_setix, ↓SeqK_nx, ↓SeqK_rt, ↓SeqK_bk, ↓SeqK_ct, ↓ClrK_nx, ↓ClrK_rt, ↓ClrK_bk, ↓ClrK_ct, ↓SemK_rt, ↓SemK_nx, ↓ForK_nx, ↓ForK_ct, ↓ForK_bk, ↓ForK_rt, ↓W.s_ifs, ↓W.e_varF, ↓W.e_varT, ↓W.a_var, ↓W.still_im, ↓W.still_b, ↓W.e_cst, ↓W.e_glob, ↓W.e_tup, ↓W.e_lst, ↓W.e_dnew, ↓W.e_bin, ↓W.e_neg, ↓W.e_not, ↓W.e_cmp, ↓W.e_chain, ↓W.e_one, ↓W.e_and, ↓W.e_or, ↓W.e_ite, ↓W.e_ix, ↓W.e_sl, ↓W.e_ixv, ↓W.e_slv, ↓W.e_rev, ↓W.e_lrange, ↓W.e_disp, ↓W.e_dispD, ↓W.e_gcd, ↓W.e_isin, ↓W.e_bi1, ↓W.e_bi2, ↓W.e_get, ↓W.e_index, ↓W.e_count, ↓W.e_join, ↓W.e_split, ↓W.es_nil, ↓W.es_cons, ↓W.bs_nil, ↓W.bs_cons, ↓W.as_nil, ↓W.as_cons, ↓W.o_no, ↓W.o_so, ↓W.c_no, ↓W.c_so, ↓W.t_not, ↓W.t_one, ↓W.t_and, ↓W.t_or, ↓W.t_cmp, ↓W.t_chain, ↓W.t_var, ↓W.t_cst, ↓W.t_call, ↓W.t_ixv, ↓W.t_me, ↓W.t_ix, ↓W.t_bi, ↓W.t_isin, ↓W.t_gin, ↓W.w_it, ↓W.w_rev, ↓W.w_enum, ↓W.w_zip, ↓W.s_setv, ↓W.s_asg, ↓W.s_unp, ↓W.s_par, ↓W.s_ret, ↓W.s_retN, ↓W.s_expr, ↓W.s_doc, ↓W.s_pass, ↓W.s_brk, ↓W.s_cont, ↓W.s_raise, ↓W.s_swap, ↓W.a_cst, ↓W.a_glob, ↓W.a_tup, ↓W.a_lst, ↓W.a_bin, ↓W.a_neg, ↓W.a_ite, ↓W.a_ix, ↓W.a_sl, ↓W.a_rev, ↓W.a_ixv, ↓W.a_slv, ↓W.a_lrange, ↓W.a_disp, ↓W.a_dispD, ↓W.a_gix, ↓W.a_gcd, ↓W.a_isin, ↓W.a_call, ↓W.a_bi, ↓W.a_me, ↓W.a_cmp, ↓W.a_mut, ↓W.a_lc, ↓W.a_and, ↓W.a_or, ↓W.a_not, ↓W.a_one, ↓W.a_chain, ↓W.a_dnew, WP_ok, WP_exc, WP_bad, WP_bind, WP_ifbad, WP_ite, WP_lift, WP_liftN, WP_liftI, WP_callT, W.rdV, W.rdO, W.ldO, backO, mutO, setO, isOL, isOM, isOD, sdO, Mm.sd, readS, lendS, binI, cmpI, List.isEmpty, meOk, mxOk, Mm.sup, mkTup, ims, E.pure, Es.pure, Eo.pure, E.src, Wk.src, bindT, bindTs, Kh.clear, lockAll, Kh.settle, settleGo, Slot.isOwnMut, Slot.imOf, Slot.borOf, giveBack, Out.nx, Ss.stores, Kh.S.stores, Tg.slots, Tgs.slots, Es.len, vOk, clearV, runH, evalH, imAt, V.add_ii, V.sub_ii, V.add_tt, V.add_ll, V.mul_li, V.mul_si, V.eq_ss, V.ne_ss, V.eq_ii, V.ne_ii, V.eq_ll, V.ne_ll, V.isN_n, V.notN_n, V.isN_b, V.notN_b, V.isN_i, V.notN_i, V.isN_s, V.notN_s, V.isN_t, V.notN_t, V.is_bb, V.not_bb, V.eq_bb, V.ne_bb, V.lt_ii, V.le_ii, V.gt_ii, V.ge_ii, V.ix_t, V.ix_T, V.ix_l, V.ix_s, V.ix_d, V.ix_x, V.ixV_l, V.ixV_t, V.at_0, V.at_1, V.at_2, V.at_3, V.at_4, V.at_5, V.at_m1, V.at_m2, V.at_m3, V.at_m4, V.sl_t, V.sl_l, V.len_t, V.len_T, V.len_l, V.len_s, V.len_d, V.tuple_t, V.tuple_l, V.list_t, V.list_l, V.list_s, V.int_i, V.int_s, V.abs_i, V.min_ii, V.max_ii, V.sum_l, V.any_l, V.all_l, V.min_l, V.max_l, V.str_i, V.sorted_l, V.sorted_t, V.sorted_d, V.get_d, V.app, V.ext, V.pop0, V.pop1, V.ins, V.set_l, V.set_d, V.wk_t, V.wk_l, V.wk_s, V.wk_x, V.wkr_t, V.wkr_l, V.rev_l, V.rev_t, V.it_t, V.it_l, V.en_t, V.en_l, V.en_x, V.zp_t, V.zp_l, V.need_f, V.need_i, V.asI, V.asB, V.asIm, V.lift_s, V.lift_n, V.keep_i, V.keep_f, V.keep_l, V.keep_T, V.keep_d, V.im_i, V.im_l, V.im_T, V.im_d, V.im_s, V.mx_index, V.mx_count, V.mx_counts, V.mx_join, V.mx_split, V.isin_s, V.isin_t, V.isin_i, V.gcd_ii, V.eqI_ii, V.big_, V.op_ii, slD_tx, len_tx, add_tx, S_eq, atI_map, cutL_take, cutL_drop, cutL_mid, cutL_last, ims_some, ims_int, intsOf_int, boolsOf_bl, -List.map_map]
    refine take_wp h2 (by omega) (Nat.lt_trans (show ((rest.length : Int)).natAbs < 2 ^ 10 by omega) (by decide)) fun n s1 hn ok1 => ?_
    have hn' : n < rest.length := by omega
    have hx : ixN rest.length (n : Int) = some n := ixN_nat hn'
    have hd2 := dput_vk (vs := vs) (v := rest[n])
    have b2 : vs.length < 1000000 := by omega
    simp -dsimp [dS_im, b1, b2, hx, hn', hd2, vk_len, key_i, ↓WP_ok, ↓WP_exc, ↓WP_bad, ↓WP_bind, ↓WP_cons, ↓WP_nil, ↓WP_callF, ↓WP_callE, ↓WP_clr, ↓WP_try, ↓WP_range1, ↓WP_range2, ↓WP_mutA, ↓WP_mutE, ↓WP_mutP, ↓WP_mutI, ↓WP_sd, ↓WP_setix, ↓SeqK_nx, ↓SeqK_rt, ↓SeqK_bk, ↓SeqK_ct, ↓ClrK_nx, ↓ClrK_rt, ↓ClrK_bk, ↓ClrK_ct, ↓SemK_rt, ↓SemK_nx, ↓ForK_nx, ↓ForK_ct, ↓ForK_bk, ↓ForK_rt, ↓W.s_ifs, ↓W.e_varF, ↓W.e_varT, ↓W.a_var, ↓W.still_im, ↓W.still_b, ↓W.e_cst, ↓W.e_glob, ↓W.e_tup, ↓W.e_lst, ↓W.e_dnew, ↓W.e_bin, ↓W.e_neg, ↓W.e_not, ↓W.e_cmp, ↓W.e_chain, ↓W.e_one, ↓W.e_and, ↓W.e_or, ↓W.e_ite, ↓W.e_ix, ↓W.e_sl, ↓W.e_ixv, ↓W.e_slv, ↓W.e_rev, ↓W.e_lrange, ↓W.e_disp, ↓W.e_dispD, ↓W.e_gcd, ↓W.e_isin, ↓W.e_bi1, ↓W.e_bi2, ↓W.e_get, ↓W.e_index, ↓W.e_count, ↓W.e_join, ↓W.e_split, ↓W.es_nil, ↓W.es_cons, ↓W.bs_nil, ↓W.bs_cons, ↓W.as_nil, ↓W.as_cons, ↓W.o_no, ↓W.o_so, ↓W.c_no, ↓W.c_so, ↓W.t_not, ↓W.t_one, ↓W.t_and, ↓W.t_or, ↓W.t_cmp, ↓W.t_chain, ↓W.t_var, ↓W.t_cst, ↓W.t_call, ↓W.t_ixv, ↓W.t_me, ↓W.t_ix, ↓W.t_bi, ↓W.t_isin, ↓W.t_gin, ↓W.w_it, ↓W.w_rev, ↓W.w_enum, ↓W.w_zip, ↓W.s_setv, ↓W.s_asg, ↓W.s_unp, ↓W.s_par, ↓W.s_ret, ↓W.s_retN, ↓W.s_expr, ↓W.s_doc, ↓W.s_pass, ↓W.s_brk, ↓W.s_cont, ↓W.s_raise, ↓W.s_swap, ↓W.a_cst, ↓W.a_glob, ↓W.a_tup, ↓W.a_lst, ↓W.a_bin, ↓W.a_neg, ↓W.a_ite, ↓W.a_ix, ↓W.a_sl, ↓W.a_rev, ↓W.a_ixv, ↓W.a_slv, ↓W.a_lrange, ↓W.a_disp, ↓W.a_dispD, ↓W.a_gix, ↓W.a_gcd, ↓W.a_isin, ↓W.a_call, ↓W.a_bi, ↓W.a_me, ↓W.a_cmp, ↓W.a_mut, ↓W.a_lc, ↓W.a_and, ↓W.a_or, ↓W.a_not, ↓W.a_one, ↓W.a_chain, ↓W.a_dnew, WP_ok, WP_exc, WP_bad, WP_bind, WP_ifbad, WP_ite, WP_lift, WP_liftN, WP_liftI, WP_callT, W.rdV, W.rdO, W.ldO, backO, mutO, setO, isOL, isOM, isOD, sdO, Mm.sd, readS, lendS, binI, cmpI, List.isEmpty, meOk, mxOk, Mm.sup, mkTup, ims, E.pure, Es.pure, Eo.pure, E.src, Wk.src, bindT, bindTs, Kh.clear, lockAll, Kh.settle, settleGo, Slot.isOwnMut, Slot.imOf, Slot.borOf, giveBack, Out.nx, Ss.stores, Kh.S.stores, Tg.slots, Tgs.slots, Es.len, vOk, clearV, runH, evalH, imAt, V.add_ii, V.sub_ii, V.add_tt, V.add_ll, V.mul_li, V.mul_si, V.eq_ss, V.ne_ss, V.eq_ii, V.ne_ii, V.eq_ll, V.ne_ll, V.isN_n, V.notN_n, V.isN_b, V.notN_b, V.isN_i, V.notN_i, V.isN_s, V.notN_s, V.isN_t, V.notN_t, V.is_bb, V.not_bb, V.eq_bb, V.ne_bb, V.lt_ii, V.le_ii, V.gt_ii, V.ge_ii, V.ix_t, V.ix_T, V.ix_l, V.ix_s, V.ix_d, V.ix_x, V.ixV_l, V.ixV_t, V.at_0, V.at_1, V.at_2, V.at_3, V.at_4, V.at_5, V.at_m1, V.at_m2, V.at_m3, V.at_m4, V.sl_t, V.sl_l, V.len_t, V.len_T, V.len_l, V.len_s, V.len_d, V.tuple_t, V.tuple_l, V.list_t, V.list_l, V.list_s, V.int_i, V.int_s, V.abs_i, V.min_ii, V.max_ii, V.sum_l, V.any_l, V.all_l, V.min_l, V.max_l, V.str_i, V.sorted_l, V.sorted_t, V.sorted_d, V.get_d, V.app, V.ext, V.pop0, V.pop1, V.ins, V.set_l, V.set_d, V.wk_t, V.wk_l, V.wk_s, V.wk_x, V.wkr_t, V.wkr_l, V.rev_l, V.rev_t, V.it_t, V.it_l, V.en_t, V.en_l, V.en_x, V.zp_t, V.zp_l, V.need_f, V.need_i, V.asI, V.asB, V.asIm, V.lift_s, V.lift_n, V.keep_i, V.keep_f, V.keep_l, V.keep_T, V.keep_d, V.im_i, V.im_l, V.im_T, V.im_d, V.im_s, V.mx_index, V.mx_count, V.mx_counts, V.mx_join, V.mx_split, V.isin_s, V.isin_t, V.isin_i, V.gcd_ii, V.eqI_ii, V.big_, V.op_ii, slD_tx, len_tx, add_tx, S_eq, atI_map, cutL_take, cutL_drop, cutL_mid, cutL_last, ims_some, ims_int, intsOf_int, boolsOf_bl, -List.map_map]
    refine ⟨s1, vs ++ [rest[n]], rest.eraseIdx n, by rw [← erase_map], ok1, ?_, by simp⟩
    refine List.Perm.trans ?_ h3
    rw [List.append_assoc]
    refine List.Perm.append_left vs ?_
    have e1 : rest.eraseIdx n = rest.take n ++ rest.drop (n + 1) := List.eraseIdx_eq_take_drop_succ rest n
    have e2 : rest.take n ++ (rest[n] :: rest.drop (n + 1)) = rest := by
      rw [← List.drop_eq_getElem_cons hn', List.take_append_drop]
    rw [e1]
    have p : (rest.take n ++ (rest[n] :: rest.drop (n + 1))).Perm (rest[n] :: (rest.take n ++ rest.drop (n + 1))) := List.perm_middle
    rw [e2] at p
    exact p.symm
theorem rangeL_lets {m : Nat} : rangeL 1 m = (lets m).map fun k => int k := by
  unfold rangeL lets
  rw [List.map_map]
  refine List.map_congr_left fun i _ => ?_
  show D.im (.int (1 + (i : Int))) = D.im (.int ((i : Int) + 1))
  rw [Int.add_comm]
theorem law_8 {ns : List Int} {s : Kh.St} {m : Nat} {w v : List Int} {n5 : Nat} (ok : StOk s) (hm : m ≤ 14) (h : GV m w) (hd : Dih w v) :
    WP (execs (tab 20) t_law_8 (e4 ns s m w (oI n5) (oT v) .no .no)) LawK noX := by
  have b5 : (m : Int) + 1 ≤ 1000000 := by omega
  have b6 : -1000000 ≤ (m : Int) + 1 := by omega
  have e4' : ((m : Nat) : Int).toNat = m := Int.toNat_natCast m
  simp -dsimp [t_law_8, t_law_9, b5, b6, e4', rangeL_lets, ↓WP_ok, ↓WP_exc, ↓WP_bad, ↓WP_bind, ↓WP_cons, ↓WP_nil, ↓WP_callF, ↓WP_callE, ↓WP_clr, ↓WP_try, ↓WP_range1, ↓WP_range2, ↓WP_mutA, ↓WP_mutE, ↓WP_mutP, ↓WP_mutI, ↓WP_sd, ↓WP_setix, ↓SeqK_nx, ↓SeqK_rt, ↓SeqK_bk, ↓SeqK_ct, ↓ClrK_nx, ↓ClrK_rt, ↓ClrK_bk, ↓ClrK_ct, ↓SemK_rt, ↓SemK_nx, ↓ForK_nx, ↓ForK_ct, ↓ForK_bk, ↓ForK_rt, ↓W.s_ifs, ↓W.e_varF, ↓W.e_varT, ↓W.a_var, ↓W.still_im, ↓W.still_b, ↓W.e_cst, ↓W.e_glob, ↓W.e_tup, ↓W.e_lst, ↓W.e_dnew, ↓W.e_bin, ↓W.e_neg, ↓W.e_not, ↓W.e_cmp, ↓W.e_chain, ↓W.e_one, ↓W.e_and, ↓W.e_or, ↓W.e_ite, ↓W.e_ix, ↓W.e_sl, ↓W.e_ixv, ↓W.e_slv, ↓W.e_rev, ↓W.e_lrange, ↓W.e_disp, ↓W.e_dispD, ↓W.e_gcd, ↓W.e_isin, ↓W.e_bi1, ↓W.e_bi2, ↓W.e_get, ↓W.e_index, ↓W.e_count, ↓W.e_join, ↓W.e_split, ↓W.es_nil, ↓W.es_cons, ↓W.bs_nil, ↓W.bs_cons, ↓W.as_nil, ↓W.as_cons, ↓W.o_no, ↓W.o_so, ↓W.c_no, ↓W.c_so, ↓W.t_not, ↓W.t_one, ↓W.t_and, ↓W.t_or, ↓W.t_cmp, ↓W.t_chain, ↓W.t_var, ↓W.t_cst, ↓W.t_call, ↓W.t_ixv, ↓W.t_me, ↓W.t_ix, ↓W.t_bi, ↓W.t_isin, ↓W.t_gin, ↓W.w_it, ↓W.w_rev, ↓W.w_enum, ↓W.w_zip, ↓W.s_setv, ↓W.s_asg, ↓W.s_unp, ↓W.s_par, ↓W.s_ret, ↓W.s_retN, ↓W.s_expr, ↓W.s_doc, ↓W.s_pass, ↓W.s_brk, ↓W.s_cont, ↓W.s_raise, ↓W.s_swap, ↓W.a_cst, ↓W.a_glob, ↓W.a_tup, ↓W.a_lst, ↓W.a_bin, ↓W.a_neg, ↓W.a_ite, ↓W.a_ix, ↓W.a_sl, ↓W.a_rev, ↓W.a_ixv, ↓W.a_slv, ↓W.a_lrange, ↓W.a_disp, ↓W.a_dispD, ↓W.a_gix, ↓W.a_gcd, ↓W.a_isin, ↓W.a_call, ↓W.a_bi, ↓W.a_me, ↓W.a_cmp, ↓W.a_mut, ↓W.a_lc, ↓W.a_and, ↓W.a_or, ↓W.a_not, ↓W.a_one, ↓W.a_chain, ↓W.a_dnew, WP_ok, WP_exc, WP_bad, WP_bind, WP_ifbad, WP_ite, WP_lift, WP_liftN, WP_liftI, WP_callT, W.rdV, W.rdO, W.ldO, backO, mutO, setO, isOL, isOM, isOD, sdO, Mm.sd, readS, lendS, binI, cmpI, List.isEmpty, meOk, mxOk, Mm.sup, mkTup, ims, E.pure, Es.pure, Eo.pure, E.src, Wk.src, bindT, bindTs, Kh.clear, lockAll, Kh.settle, settleGo, Slot.isOwnMut, Slot.imOf, Slot.borOf, giveBack, Out.nx, Ss.stores, Kh.S.stores, Tg.slots, Tgs.slots, Es.len, vOk, clearV, runH, evalH, imAt, V.add_ii, V.sub_ii, V.add_tt, V.add_ll, V.mul_li, V.mul_si, V.eq_ss, V.ne_ss, V.eq_ii, V.ne_ii, V.eq_ll, V.ne_ll, V.isN_n, V.notN_n, V.isN_b, V.notN_b, V.isN_i, V.notN_i, V.isN_s, V.notN_s, V.isN_t, V.notN_t, V.is_bb, V.not_bb, V.eq_bb, V.ne_bb, V.lt_ii, V.le_ii, V.gt_ii, V.ge_ii, V.ix_t, V.ix_T, V.ix_l, V.ix_s, V.ix_d, V.ix_x, V.ixV_l, V.ixV_t, V.at_0, V.at_1, V.at_2, V.at_3, V.at_4, V.at_5, V.at_m1, V.at_m2, V.at_m3, V.at_m4, V.sl_t, V.sl_l, V.len_t, V.len_T, V.len_l, V.len_s, V.len_d, V.tuple_t, V.tuple_l, V.list_t, V.list_l, V.list_s, V.int_i, V.int_s, V.abs_i, V.min_ii, V.max_ii, V.sum_l, V.any_l, V.all_l, V.min_l, V.max_l, V.str_i, V.sorted_l, V.sorted_t, V.sorted_d, V.get_d, V.app, V.ext, V.pop0, V.pop1, V.ins, V.set_l, V.set_d, V.wk_t, V.wk_l, V.wk_s, V.wk_x, V.wkr_t, V.wkr_l, V.rev_l, V.rev_t, V.it_t, V.it_l, V.en_t, V.en_l, V.en_x, V.zp_t, V.zp_l, V.need_f, V.need_i, V.asI, V.asB, V.asIm, V.lift_s, V.lift_n, V.keep_i, V.keep_f, V.keep_l, V.keep_T, V.keep_d, V.im_i, V.im_l, V.im_T, V.im_d, V.im_s, V.mx_index, V.mx_count, V.mx_counts, V.mx_join, V.mx_split, V.isin_s, V.isin_t, V.isin_i, V.gcd_ii, V.eqI_ii, V.big_, V.op_ii, slD_tx, len_tx, add_tx, S_eq, atI_map, cutL_take, cutL_drop, cutL_mid, cutL_last, ims_some, ims_int, intsOf_int, boolsOf_bl, -List.map_map]
  exact law_10 ok hm h hd
theorem law_5 {ns : List Int} {s : Kh.St} {m : Nat} {w : List Int} (ok : StOk s) (hm : m ≤ 14) (h : GV m w) :
    WP (execs (tab 20) t_law_5 (e4 ns s m w .no .no .no .no)) LawK noX := by
  have hl := gw_len ⟨m, hm, h⟩
  have b1 : w.length ≤ 1000000 := by omega
  simp -dsimp [t_law_5, fn_take, dS_im, b1, ↓WP_ok, ↓WP_exc, ↓WP_bad, ↓WP_bind, ↓WP_cons, ↓WP_nil, ↓WP_callF, ↓WP_callE, ↓WP_clr, ↓WP_try, ↓WP_range1, ↓WP_range2, ↓WP_mutA, ↓WP_mutE, ↓WP_mutP, ↓WP_mutI, ↓WP_sd, ↓WP_setix, ↓SeqK_nx, ↓SeqK_rt, ↓SeqK_bk, ↓SeqK_ct, ↓ClrK_nx, ↓ClrK_rt, ↓ClrK_bk, ↓ClrK_ct, ↓SemK_rt, ↓SemK_nx, ↓ForK_nx, ↓ForK_ct, ↓ForK_bk, ↓ForK_rt, ↓W.s_ifs, ↓W.e_varF, ↓W.e_varT, ↓W.a_var, ↓W.still_im, ↓W.still_b, ↓W.e_cst, ↓W.e_glob, ↓W.e_tup, ↓W.e_lst, ↓W.e_dnew, ↓W.e_bin, ↓W.e_neg, ↓W.e_not, ↓W.e_cmp, ↓W.e_chain, ↓W.e_one, ↓W.e_and, ↓W.e_or, ↓W.e_ite, ↓W.e_ix, ↓W.e_sl, ↓W.e_ixv, ↓W.e_slv, ↓W.e_rev, ↓W.e_lrange, ↓W.e_disp, ↓W.e_dispD, ↓W.e_gcd, ↓W.e_isin, ↓W.e_bi1, ↓W.e_bi2, ↓W.e_get, ↓W.e_index, ↓W.e_count, ↓W.e_join, ↓W.e_split, ↓W.es_nil, ↓W.es_cons, ↓W.bs_nil, ↓W.bs_cons, ↓W.as_nil, ↓W.as_cons, ↓W.o_no, ↓W.o_so, ↓W.c_no, ↓W.c_so, ↓W.t_not, ↓W.t_one, ↓W.t_and, ↓W.t_or, ↓W.t_cmp, ↓W.t_chain, ↓W.t_var, ↓W.t_cst, ↓W.t_call, ↓W.t_ixv, ↓W.t_me, ↓W.t_ix, ↓W.t_bi, ↓W.t_isin, ↓W.t_gin, ↓W.w_it, ↓W.w_rev, ↓W.w_enum, ↓W.w_zip, ↓W.s_setv, ↓W.s_asg, ↓W.s_unp, ↓W.s_par, ↓W.s_ret, ↓W.s_retN, ↓W.s_expr, ↓W.s_doc, ↓W.s_pass, ↓W.s_brk, ↓W.s_cont, ↓W.s_raise, ↓W.s_swap, ↓W.a_cst, ↓W.a_glob, ↓W.a_tup, ↓W.a_lst, ↓W.a_bin, ↓W.a_neg, ↓W.a_ite, ↓W.a_ix, ↓W.a_sl, ↓W.a_rev, ↓W.a_ixv, ↓W.a_slv, ↓W.a_lrange, ↓W.a_disp, ↓W.a_dispD, ↓W.a_gix, ↓W.a_gcd, ↓W.a_isin, ↓W.a_call, ↓W.a_bi, ↓W.a_me, ↓W.a_cmp, ↓W.a_mut, ↓W.a_lc, ↓W.a_and, ↓W.a_or, ↓W.a_not, ↓W.a_one, ↓W.a_chain, ↓W.a_dnew, WP_ok, WP_exc, WP_bad, WP_bind, WP_ifbad, WP_ite, WP_lift, WP_liftN, WP_liftI, WP_callT, W.rdV, W.rdO, W.ldO, backO, mutO, setO, isOL, isOM, isOD, sdO, Mm.sd, readS, lendS, binI, cmpI, List.isEmpty, meOk, mxOk, Mm.sup, mkTup, ims, E.pure, Es.pure, Eo.pure, E.src, Wk.src, bindT, bindTs, Kh.clear, lockAll, Kh.settle, settleGo, Slot.isOwnMut, Slot.imOf, Slot.borOf, giveBack, Out.nx, Ss.stores, Kh.S.stores, Tg.slots, Tgs.slots, Es.len, vOk, clearV, runH, evalH, imAt, V.add_ii, V.sub_ii, V.add_tt, V.add_ll, V.mul_li, V.mul_si, V.eq_ss, V.ne_ss, V.eq_ii, V.ne_ii, V.eq_ll, V.ne_ll, V.isN_n, V.notN_n, V.isN_b, V.notN_b, V.isN_i, V.notN_i, V.isN_s, V.notN_s, V.isN_t, V.notN_t, V.is_bb, V.not_bb, V.eq_bb, V.ne_bb, V.lt_ii, V.le_ii, V.gt_ii, V.ge_ii, V.ix_t, V.ix_T, V.ix_l, V.ix_s, V.ix_d, V.ix_x, V.ixV_l, V.ixV_t, V.at_0, V.at_1, V.at_2, V.at_3, V.at_4, V.at_5, V.at_m1, V.at_m2, V.at_m3, V.at_m4, V.sl_t, V.sl_l, V.len_t, V.len_T, V.len_l, V.len_s, V.len_d, V.tuple_t, V.tuple_l, V.list_t, V.list_l, V.list_s, V.int_i, V.int_s, V.abs_i, V.min_ii, V.max_ii, V.sum_l, V.any_l, V.all_l, V.min_l, V.max_l, V.str_i, V.sorted_l, V.sorted_t, V.sorted_d, V.get_d, V.app, V.ext, V.pop0, V.pop1, V.ins, V.set_l, V.set_d, V.wk_t, V.wk_l, V.wk_s, V.wk_x, V.wkr_t, V.wkr_l, V.rev_l, V.rev_t, V.it_t, V.it_l, V.en_t, V.en_l, V.en_x, V.zp_t, V.zp_l, V.need_f, V.need_i, V.asI, V.asB, V.asIm, V.lift_s, V.lift_n, V.keep_i, V.keep_f, V.keep_l, V.keep_T, V.keep_d, V.im_i, V.im_l, V.im_T, V.im_d, V.im_s, V.mx_index, V.mx_count, V.mx_counts, V.mx_join, V.mx_split, V.isin_s, V.isin_t, V.isin_i, V.gcd_ii, V.eqI_ii, V.big_, V.op_ii, slD_tx, len_tx, add_tx, S_eq, atI_map, cutL_take, cutL_drop, cutL_mid, cutL_last, ims_some, ims_int, intsOf_int, boolsOf_bl, -List.map_map]
  refine take_wp ok (by omega) (Nat.lt_trans (show ((w.length : Int) + 1).natAbs < 2 ^ 10 by omega) (by decide)) fun n s1 hn ok1 => ?_
  have b2 : w.length - n + min n w.length ≤ 1000000 := by omega
  have b3 : (rotN n w).length ≤ 1000000 := by simp [rotN]; omega
  have dr := dih_rot w n (by omega)
  simp -dsimp [t_law_6, t_law_7, fn_take, dS_im, b1, b2, rot_map, ↓WP_ok, ↓WP_exc, ↓WP_bad, ↓WP_bind, ↓WP_cons, ↓WP_nil, ↓WP_callF, ↓WP_callE, ↓WP_clr, ↓WP_try, ↓WP_range1, ↓WP_range2, ↓WP_mutA, ↓WP_mutE, ↓WP_mutP, ↓WP_mutI, ↓WP_sd, ↓WP_setix, ↓SeqK_nx, ↓SeqK_rt, ↓SeqK_bk, ↓SeqK_ct, ↓ClrK_nx, ↓ClrK_rt, ↓ClrK_bk, ↓ClrK_ct, ↓SemK_rt, ↓SemK_nx, ↓ForK_nx, ↓ForK_ct, ↓ForK_bk, ↓ForK_rt, ↓W.s_ifs, ↓W.e_varF, ↓W.e_varT, ↓W.a_var, ↓W.still_im, ↓W.still_b, ↓W.e_cst, ↓W.e_glob, ↓W.e_tup, ↓W.e_lst, ↓W.e_dnew, ↓W.e_bin, ↓W.e_neg, ↓W.e_not, ↓W.e_cmp, ↓W.e_chain, ↓W.e_one, ↓W.e_and, ↓W.e_or, ↓W.e_ite, ↓W.e_ix, ↓W.e_sl, ↓W.e_ixv, ↓W.e_slv, ↓W.e_rev, ↓W.e_lrange, ↓W.e_disp, ↓W.e_dispD, ↓W.e_gcd, ↓W.e_isin, ↓W.e_bi1, ↓W.e_bi2, ↓W.e_get, ↓W.e_index, ↓W.e_count, ↓W.e_join, ↓W.e_split, ↓W.es_nil, ↓W.es_cons, ↓W.bs_nil, ↓W.bs_cons, ↓W.as_nil, ↓W.as_cons, ↓W.o_no, ↓W.o_so, ↓W.c_no, ↓W.c_so, ↓W.t_not, ↓W.t_one, ↓W.t_and, ↓W.t_or, ↓W.t_cmp, ↓W.t_chain, ↓W.t_var, ↓W.t_cst, ↓W.t_call, ↓W.t_ixv, ↓W.t_me, ↓W.t_ix, ↓W.t_bi, ↓W.t_isin, ↓W.t_gin, ↓W.w_it, ↓W.w_rev, ↓W.w_enum, ↓W.w_zip, ↓W.s_setv, ↓W.s_asg, ↓W.s_unp, ↓W.s_par, ↓W.s_ret, ↓W.s_retN, ↓W.s_expr, ↓W.s_doc, ↓W.s_pass, ↓W.s_brk, ↓W.s_cont, ↓W.s_raise, ↓W.s_swap, ↓W.a_cst, ↓W.a_glob, ↓W.a_tup, ↓W.a_lst, ↓W.a_bin, ↓W.a_neg, ↓W.a_ite, ↓W.a_ix, ↓W.a_sl, ↓W.a_rev, ↓W.a_ixv, ↓W.a_slv, ↓W.a_lrange, ↓W.a_disp, ↓W.a_dispD, ↓W.a_gix, ↓W.a_gcd, ↓W.a_isin, ↓W.a_call, ↓W.a_bi, ↓W.a_me, ↓W.a_cmp, ↓W.a_mut, ↓W.a_lc, ↓W.a_and, ↓W.a_or, ↓W.a_not, ↓W.a_one, ↓W.a_chain, ↓W.a_dnew, WP_ok, WP_exc, WP_bad, WP_bind, WP_ifbad, WP_ite, WP_lift, WP_liftN, WP_liftI, WP_callT, W.rdV, W.rdO, W.ldO, backO, mutO, setO, isOL, isOM, isOD, sdO, Mm.sd, readS, lendS, binI, cmpI, List.isEmpty, meOk, mxOk, Mm.sup, mkTup, ims, E.pure, Es.pure, Eo.pure, E.src, Wk.src, bindT, bindTs, Kh.clear, lockAll, Kh.settle, settleGo, Slot.isOwnMut, Slot.imOf, Slot.borOf, giveBack, Out.nx, Ss.stores, Kh.S.stores, Tg.slots, Tgs.slots, Es.len, vOk, clearV, runH, evalH, imAt, V.add_ii, V.sub_ii, V.add_tt, V.add_ll, V.mul_li, V.mul_si, V.eq_ss, V.ne_ss, V.eq_ii, V.ne_ii, V.eq_ll, V.ne_ll, V.isN_n, V.notN_n, V.isN_b, V.notN_b, V.isN_i, V.notN_i, V.isN_s, V.notN_s, V.isN_t, V.notN_t, V.is_bb, V.not_bb, V.eq_bb, V.ne_bb, V.lt_ii, V.le_ii, V.gt_ii, V.ge_ii, V.ix_t, V.ix_T, V.ix_l, V.ix_s, V.ix_d, V.ix_x, V.ixV_l, V.ixV_t, V.at_0, V.at_1, V.at_2, V.at_3, V.at_4, V.at_5, V.at_m1, V.at_m2, V.at_m3, V.at_m4, V.sl_t, V.sl_l, V.len_t, V.len_T, V.len_l, V.len_s, V.len_d, V.tuple_t, V.tuple_l, V.list_t, V.list_l, V.list_s, V.int_i, V.int_s, V.abs_i, V.min_ii, V.max_ii, V.sum_l, V.any_l, V.all_l, V.min_l, V.max_l, V.str_i, V.sorted_l, V.sorted_t, V.sorted_d, V.get_d, V.app, V.ext, V.pop0, V.pop1, V.ins, V.set_l, V.set_d, V.wk_t, V.wk_l, V.wk_s, V.wk_x, V.wkr_t, V.wkr_l, V.rev_l, V.rev_t, V.it_t, V.it_l, V.en_t, V.en_l, V.en_x, V.zp_t, V.zp_l, V.need_f, V.need_i, V.asI, V.asB, V.asIm, V.lift_s, V.lift_n, V.keep_i, V.keep_f, V.keep_l, V.keep_T, V.keep_d, V.im_i, V.im_l, V.im_T, V.im_d, V.im_s, V.mx_index, V.mx_count, V.mx_counts, V.mx_join, V.mx_split, V.isin_s, V.isin_t, V.isin_i, V.gcd_ii, V.eqI_ii, V.big_, V.op_ii, slD_tx, len_tx, add_tx, S_eq, atI_map, cutL_take, cutL_drop, cutL_mid, cutL_last, ims_some, ims_int, intsOf_int, boolsOf_bl, -List.map_map]
  refine take_wp ok1 (by decide) (by decide) fun k s2 hk ok2 => ?_
  simp -dsimp [dS_im, b3, ↓WP_ok, ↓WP_exc, ↓WP_bad, ↓WP_bind, ↓WP_cons, ↓WP_nil, ↓WP_callF, ↓WP_callE, ↓WP_clr, ↓WP_try, ↓WP_range1, ↓WP_range2, ↓WP_mutA, ↓WP_mutE, ↓WP_mutP, ↓WP_mutI, ↓WP_sd, ↓WP_setix, ↓SeqK_nx, ↓SeqK_rt, ↓SeqK_bk, ↓SeqK_ct, ↓ClrK_nx, ↓ClrK_rt, ↓ClrK_bk, ↓ClrK_ct, ↓SemK_rt, ↓SemK_nx, ↓ForK_nx, ↓ForK_ct, ↓ForK_bk, ↓ForK_rt, ↓W.s_ifs, ↓W.e_varF, ↓W.e_varT, ↓W.a_var, ↓W.still_im, ↓W.still_b, ↓W.e_cst, ↓W.e_glob, ↓W.e_tup, ↓W.e_lst, ↓W.e_dnew, ↓W.e_bin, ↓W.e_neg, ↓W.e_not, ↓W.e_cmp, ↓W.e_chain, ↓W.e_one, ↓W.e_and, ↓W.e_or, ↓W.e_ite, ↓W.e_ix, ↓W.e_sl, ↓W.e_ixv, ↓W.e_slv, ↓W.e_rev, ↓W.e_lrange, ↓W.e_disp, ↓W.e_dispD, ↓W.e_gcd, ↓W.e_isin, ↓W.e_bi1, ↓W.e_bi2, ↓W.e_get, ↓W.e_index, ↓W.e_count, ↓W.e_join, ↓W.e_split, ↓W.es_nil, ↓W.es_cons, ↓W.bs_nil, ↓W.bs_cons, ↓W.as_nil, ↓W.as_cons, ↓W.o_no, ↓W.o_so, ↓W.c_no, ↓W.c_so, ↓W.t_not, ↓W.t_one, ↓W.t_and, ↓W.t_or, ↓W.t_cmp, ↓W.t_chain, ↓W.t_var, ↓W.t_cst, ↓W.t_call, ↓W.t_ixv, ↓W.t_me, ↓W.t_ix, ↓W.t_bi, ↓W.t_isin, ↓W.t_gin, ↓W.w_it, ↓W.w_rev, ↓W.w_enum, ↓W.w_zip, ↓W.s_setv, ↓W.s_asg, ↓W.s_unp, ↓W.s_par, ↓W.s_ret, ↓W.s_retN, ↓W.s_expr, ↓W.s_doc, ↓W.s_pass, ↓W.s_brk, ↓W.s_cont, ↓W.s_raise, ↓W.s_swap, ↓W.a_cst, ↓W.a_glob, ↓W.a_tup, ↓W.a_lst, ↓W.a_bin, ↓W.a_neg, ↓W.a_ite, ↓W.a_ix, ↓W.a_sl, ↓W.a_rev, ↓W.a_ixv, ↓W.a_slv, ↓W.a_lrange, ↓W.a_disp, ↓W.a_dispD, ↓W.a_gix, ↓W.a_gcd, ↓W.a_isin, ↓W.a_call, ↓W.a_bi, ↓W.a_me, ↓W.a_cmp, ↓W.a_mut, ↓W.a_lc, ↓W.a_and, ↓W.a_or, ↓W.a_not, ↓W.a_one, ↓W.a_chain, ↓W.a_dnew, WP_ok, WP_exc, WP_bad, WP_bind, WP_ifbad, WP_ite, WP_lift, WP_liftN, WP_liftI, WP_callT, W.rdV, W.rdO, W.ldO, backO, mutO, setO, isOL, isOM, isOD, sdO, Mm.sd, readS, lendS, binI, cmpI, List.isEmpty, meOk, mxOk, Mm.sup, mkTup, ims, E.pure, Es.pure, Eo.pure, E.src, Wk.src, bindT, bindTs, Kh.clear, lockAll, Kh.settle, settleGo, Slot.isOwnMut, Slot.imOf, Slot.borOf, giveBack, Out.nx, Ss.stores, Kh.S.stores, Tg.slots, Tgs.slots, Es.len, vOk, clearV, runH, evalH, imAt, V.add_ii, V.sub_ii, V.add_tt, V.add_ll, V.mul_li, V.mul_si, V.eq_ss, V.ne_ss, V.eq_ii, V.ne_ii, V.eq_ll, V.ne_ll, V.isN_n, V.notN_n, V.isN_b, V.notN_b, V.isN_i, V.notN_i, V.isN_s, V.notN_s, V.isN_t, V.notN_t, V.is_bb, V.not_bb, V.eq_bb, V.ne_bb, V.lt_ii, V.le_ii, V.gt_ii, V.ge_ii, V.ix_t, V.ix_T, V.ix_l, V.ix_s, V.ix_d, V.ix_x, V.ixV_l, V.ixV_t, V.at_0, V.at_1, V.at_2, V.at_3, V.at_4, V.at_5, V.at_m1, V.at_m2, V.at_m3, V.at_m4, V.sl_t, V.sl_l, V.len_t, V.len_T, V.len_l, V.len_s, V.len_d, V.tuple_t, V.tuple_l, V.list_t, V.list_l, V.list_s, V.int_i, V.int_s, V.abs_i, V.min_ii, V.max_ii, V.sum_l, V.any_l, V.all_l, V.min_l, V.max_l, V.str_i, V.sorted_l, V.sorted_t, V.sorted_d, V.get_d, V.app, V.ext, V.pop0, V.pop1, V.ins, V.set_l, V.set_d, V.wk_t, V.wk_l, V.wk_s, V.wk_x, V.wkr_t, V.wkr_l, V.rev_l, V.rev_t, V.it_t, V.it_l, V.en_t, V.en_l, V.en_x, V.zp_t, V.zp_l, V.need_f, V.need_i, V.asI, V.asB, V.asIm, V.lift_s, V.lift_n, V.keep_i, V.keep_f, V.keep_l, V.keep_T, V.keep_d, V.im_i, V.im_l, V.im_T, V.im_d, V.im_s, V.mx_index, V.mx_count, V.mx_counts, V.mx_join, V.mx_split, V.isin_s, V.isin_t, V.isin_i, V.gcd_ii, V.eqI_ii, V.big_, V.op_ii, slD_tx, len_tx, add_tx, S_eq, atI_map, cutL_take, cutL_drop, cutL_mid, cutL_last, ims_some, ims_int, intsOf_int, boolsOf_bl, -List.map_map]
  refine ⟨fun _ => ?_, fun _ => law_8 ok2 hm h dr⟩
  rw [show (List.map I.int (rotN n w)).reverse = (rotN n w).reverse.map I.int by simp]
  exact law_8 ok2 hm h dr.rev
theorem law_2 {ns : List Int} {s : Kh.St} {m : Nat} (ok : StOk s) (hm : m ≤ 14) :
    WP (execs (tab 20) t_law_2 [.own (.scr ns), .own (dS s), oI m, .no, .no, .no, .no, .no, .no, .no, .no, .no]) LawK noX := by
  simp -dsimp [t_law_2, fn_gauss, dS_im, ↓WP_ok, ↓WP_exc, ↓WP_bad, ↓WP_bind, ↓WP_cons, ↓WP_nil, ↓WP_callF, ↓WP_callE, ↓WP_clr, ↓WP_try, ↓WP_range1, ↓WP_range2, ↓WP_mutA, ↓WP_mutE, ↓WP_mutP, ↓WP_mutI, ↓WP_sd, ↓WP_setix, ↓SeqK_nx, ↓SeqK_rt, ↓SeqK_bk, ↓SeqK_ct, ↓ClrK_nx, ↓ClrK_rt, ↓ClrK_bk, ↓ClrK_ct, ↓SemK_rt, ↓SemK_nx, ↓ForK_nx, ↓ForK_ct, ↓ForK_bk, ↓ForK_rt, ↓W.s_ifs, ↓W.e_varF, ↓W.e_varT, ↓W.a_var, ↓W.still_im, ↓W.still_b, ↓W.e_cst, ↓W.e_glob, ↓W.e_tup, ↓W.e_lst, ↓W.e_dnew, ↓W.e_bin, ↓W.e_neg, ↓W.e_not, ↓W.e_cmp, ↓W.e_chain, ↓W.e_one, ↓W.e_and, ↓W.e_or, ↓W.e_ite, ↓W.e_ix, ↓W.e_sl, ↓W.e_ixv, ↓W.e_slv, ↓W.e_rev, ↓W.e_lrange, ↓W.e_disp, ↓W.e_dispD, ↓W.e_gcd, ↓W.e_isin, ↓W.e_bi1, ↓W.e_bi2, ↓W.e_get, ↓W.e_index, ↓W.e_count, ↓W.e_join, ↓W.e_split, ↓W.es_nil, ↓W.es_cons, ↓W.bs_nil, ↓W.bs_cons, ↓W.as_nil, ↓W.as_cons, ↓W.o_no, ↓W.o_so, ↓W.c_no, ↓W.c_so, ↓W.t_not, ↓W.t_one, ↓W.t_and, ↓W.t_or, ↓W.t_cmp, ↓W.t_chain, ↓W.t_var, ↓W.t_cst, ↓W.t_call, ↓W.t_ixv, ↓W.t_me, ↓W.t_ix, ↓W.t_bi, ↓W.t_isin, ↓W.t_gin, ↓W.w_it, ↓W.w_rev, ↓W.w_enum, ↓W.w_zip, ↓W.s_setv, ↓W.s_asg, ↓W.s_unp, ↓W.s_par, ↓W.s_ret, ↓W.s_retN, ↓W.s_expr, ↓W.s_doc, ↓W.s_pass, ↓W.s_brk, ↓W.s_cont, ↓W.s_raise, ↓W.s_swap, ↓W.a_cst, ↓W.a_glob, ↓W.a_tup, ↓W.a_lst, ↓W.a_bin, ↓W.a_neg, ↓W.a_ite, ↓W.a_ix, ↓W.a_sl, ↓W.a_rev, ↓W.a_ixv, ↓W.a_slv, ↓W.a_lrange, ↓W.a_disp, ↓W.a_dispD, ↓W.a_gix, ↓W.a_gcd, ↓W.a_isin, ↓W.a_call, ↓W.a_bi, ↓W.a_me, ↓W.a_cmp, ↓W.a_mut, ↓W.a_lc, ↓W.a_and, ↓W.a_or, ↓W.a_not, ↓W.a_one, ↓W.a_chain, ↓W.a_dnew, WP_ok, WP_exc, WP_bad, WP_bind, WP_ifbad, WP_ite, WP_lift, WP_liftN, WP_liftI, WP_callT, W.rdV, W.rdO, W.ldO, backO, mutO, setO, isOL, isOM, isOD, sdO, Mm.sd, readS, lendS, binI, cmpI, List.isEmpty, meOk, mxOk, Mm.sup, mkTup, ims, E.pure, Es.pure, Eo.pure, E.src, Wk.src, bindT, bindTs, Kh.clear, lockAll, Kh.settle, settleGo, Slot.isOwnMut, Slot.imOf, Slot.borOf, giveBack, Out.nx, Ss.stores, Kh.S.stores, Tg.slots, Tgs.slots, Es.len, vOk, clearV, runH, evalH, imAt, V.add_ii, V.sub_ii, V.add_tt, V.add_ll, V.mul_li, V.mul_si, V.eq_ss, V.ne_ss, V.eq_ii, V.ne_ii, V.eq_ll, V.ne_ll, V.isN_n, V.notN_n, V.isN_b, V.notN_b, V.isN_i, V.notN_i, V.isN_s, V.notN_s, V.isN_t, V.notN_t, V.is_bb, V.not_bb, V.eq_bb, V.ne_bb, V.lt_ii, V.le_ii, V.gt_ii, V.ge_ii, V.ix_t, V.ix_T, V.ix_l, V.ix_s, V.ix_d, V.ix_x, V.ixV_l, V.ixV_t, V.at_0, V.at_1, V.at_2, V.at_3, V.at_4, V.at_5, V.at_m1, V.at_m2, V.at_m3, V.at_m4, V.sl_t, V.sl_l, V.len_t, V.len_T, V.len_l, V.len_s, V.len_d, V.tuple_t, V.tuple_l, V.list_t, V.list_l, V.list_s, V.int_i, V.int_s, V.abs_i, V.min_ii, V.max_ii, V.sum_l, V.any_l, V.all_l, V.min_l, V.max_l, V.str_i, V.sorted_l, V.sorted_t, V.sorted_d, V.get_d, V.app, V.ext, V.pop0, V.pop1, V.ins, V.set_l, V.set_d, V.wk_t, V.wk_l, V.wk_s, V.wk_x, V.wkr_t, V.wkr_l, V.rev_l, V.rev_t, V.it_t, V.it_l, V.en_t, V.en_l, V.en_x, V.zp_t, V.zp_l, V.need_f, V.need_i, V.asI, V.asB, V.asIm, V.lift_s, V.lift_n, V.keep_i, V.keep_f, V.keep_l, V.keep_T, V.keep_d, V.im_i, V.im_l, V.im_T, V.im_d, V.im_s, V.mx_index, V.mx_count, V.mx_counts, V.mx_join, V.mx_split, V.isin_s, V.isin_t, V.isin_i, V.gcd_ii, V.eqI_ii, V.big_, V.op_ii, slD_tx, len_tx, add_tx, S_eq, atI_map, cutL_take, cutL_drop, cutL_mid, cutL_last, ims_some, ims_int, intsOf_int, boolsOf_bl, -List.map_map]
  refine (gauss_ok (j := 18) ok hm).to fun v fin ⟨w, s', h1, h2, h3, ok'⟩ => ?_
  subst h1 h3
  have hl := gw_len ⟨m, hm, h2⟩
  have ha := all_ok (j := 18) (w := w) (by omega)
  obtain ⟨a, hc⟩ := can_ne w
  have k1 := can_ok (j := 16) ⟨m, hm, h2⟩ hc
  have hmin : biD .min [lT (allL w)] = some (.im (tI a)) := min_T (by rw [← can_all]; exact hc)
  have hne : cmpD .ne (.im (tI a)) (.im (tI a)) = some false := by rw [ne_tI]; simp
  simp -dsimp [t_law_3, t_law_4, fn_all, ha, fn_can, k1, hmin, hne, dS_im, ↓WP_ok, ↓WP_exc, ↓WP_bad, ↓WP_bind, ↓WP_cons, ↓WP_nil, ↓WP_callF, ↓WP_callE, ↓WP_clr, ↓WP_try, ↓WP_range1, ↓WP_range2, ↓WP_mutA, ↓WP_mutE, ↓WP_mutP, ↓WP_mutI, ↓WP_sd, ↓WP_setix, ↓SeqK_nx, ↓SeqK_rt, ↓SeqK_bk, ↓SeqK_ct, ↓ClrK_nx, ↓ClrK_rt, ↓ClrK_bk, ↓ClrK_ct, ↓SemK_rt, ↓SemK_nx, ↓ForK_nx, ↓ForK_ct, ↓ForK_bk, ↓ForK_rt, ↓W.s_ifs, ↓W.e_varF, ↓W.e_varT, ↓W.a_var, ↓W.still_im, ↓W.still_b, ↓W.e_cst, ↓W.e_glob, ↓W.e_tup, ↓W.e_lst, ↓W.e_dnew, ↓W.e_bin, ↓W.e_neg, ↓W.e_not, ↓W.e_cmp, ↓W.e_chain, ↓W.e_one, ↓W.e_and, ↓W.e_or, ↓W.e_ite, ↓W.e_ix, ↓W.e_sl, ↓W.e_ixv, ↓W.e_slv, ↓W.e_rev, ↓W.e_lrange, ↓W.e_disp, ↓W.e_dispD, ↓W.e_gcd, ↓W.e_isin, ↓W.e_bi1, ↓W.e_bi2, ↓W.e_get, ↓W.e_index, ↓W.e_count, ↓W.e_join, ↓W.e_split, ↓W.es_nil, ↓W.es_cons, ↓W.bs_nil, ↓W.bs_cons, ↓W.as_nil, ↓W.as_cons, ↓W.o_no, ↓W.o_so, ↓W.c_no, ↓W.c_so, ↓W.t_not, ↓W.t_one, ↓W.t_and, ↓W.t_or, ↓W.t_cmp, ↓W.t_chain, ↓W.t_var, ↓W.t_cst, ↓W.t_call, ↓W.t_ixv, ↓W.t_me, ↓W.t_ix, ↓W.t_bi, ↓W.t_isin, ↓W.t_gin, ↓W.w_it, ↓W.w_rev, ↓W.w_enum, ↓W.w_zip, ↓W.s_setv, ↓W.s_asg, ↓W.s_unp, ↓W.s_par, ↓W.s_ret, ↓W.s_retN, ↓W.s_expr, ↓W.s_doc, ↓W.s_pass, ↓W.s_brk, ↓W.s_cont, ↓W.s_raise, ↓W.s_swap, ↓W.a_cst, ↓W.a_glob, ↓W.a_tup, ↓W.a_lst, ↓W.a_bin, ↓W.a_neg, ↓W.a_ite, ↓W.a_ix, ↓W.a_sl, ↓W.a_rev, ↓W.a_ixv, ↓W.a_slv, ↓W.a_lrange, ↓W.a_disp, ↓W.a_dispD, ↓W.a_gix, ↓W.a_gcd, ↓W.a_isin, ↓W.a_call, ↓W.a_bi, ↓W.a_me, ↓W.a_cmp, ↓W.a_mut, ↓W.a_lc, ↓W.a_and, ↓W.a_or, ↓W.a_not, ↓W.a_one, ↓W.a_chain, ↓W.a_dnew, WP_ok, WP_exc, WP_bad, WP_bind, WP_ifbad, WP_ite, WP_lift, WP_liftN, WP_liftI, WP_callT, W.rdV, W.rdO, W.ldO, backO, mutO, setO, isOL, isOM, isOD, sdO, Mm.sd, readS, lendS, binI, cmpI, List.isEmpty, meOk, mxOk, Mm.sup, mkTup, ims, E.pure, Es.pure, Eo.pure, E.src, Wk.src, bindT, bindTs, Kh.clear, lockAll, Kh.settle, settleGo, Slot.isOwnMut, Slot.imOf, Slot.borOf, giveBack, Out.nx, Ss.stores, Kh.S.stores, Tg.slots, Tgs.slots, Es.len, vOk, clearV, runH, evalH, imAt, V.add_ii, V.sub_ii, V.add_tt, V.add_ll, V.mul_li, V.mul_si, V.eq_ss, V.ne_ss, V.eq_ii, V.ne_ii, V.eq_ll, V.ne_ll, V.isN_n, V.notN_n, V.isN_b, V.notN_b, V.isN_i, V.notN_i, V.isN_s, V.notN_s, V.isN_t, V.notN_t, V.is_bb, V.not_bb, V.eq_bb, V.ne_bb, V.lt_ii, V.le_ii, V.gt_ii, V.ge_ii, V.ix_t, V.ix_T, V.ix_l, V.ix_s, V.ix_d, V.ix_x, V.ixV_l, V.ixV_t, V.at_0, V.at_1, V.at_2, V.at_3, V.at_4, V.at_5, V.at_m1, V.at_m2, V.at_m3, V.at_m4, V.sl_t, V.sl_l, V.len_t, V.len_T, V.len_l, V.len_s, V.len_d, V.tuple_t, V.tuple_l, V.list_t, V.list_l, V.list_s, V.int_i, V.int_s, V.abs_i, V.min_ii, V.max_ii, V.sum_l, V.any_l, V.all_l, V.min_l, V.max_l, V.str_i, V.sorted_l, V.sorted_t, V.sorted_d, V.get_d, V.app, V.ext, V.pop0, V.pop1, V.ins, V.set_l, V.set_d, V.wk_t, V.wk_l, V.wk_s, V.wk_x, V.wkr_t, V.wkr_l, V.rev_l, V.rev_t, V.it_t, V.it_l, V.en_t, V.en_l, V.en_x, V.zp_t, V.zp_l, V.need_f, V.need_i, V.asI, V.asB, V.asIm, V.lift_s, V.lift_n, V.keep_i, V.keep_f, V.keep_l, V.keep_T, V.keep_d, V.im_i, V.im_l, V.im_T, V.im_d, V.im_s, V.mx_index, V.mx_count, V.mx_counts, V.mx_join, V.mx_split, V.isin_s, V.isin_t, V.isin_i, V.gcd_ii, V.eqI_ii, V.big_, V.op_ii, slD_tx, len_tx, add_tx, S_eq, atI_map, cutL_take, cutL_drop, cutL_mid, cutL_last, ims_some, ims_int, intsOf_int, boolsOf_bl, -List.map_map]
  exact law_5 ok' hm h2
theorem law_plain (ns : List Int) (hl : ns.length ≤ 63) : ∃ fin, f_law.sem (tab 20) [.own (.scr ns)] = .ok (.im (.bl true)) fin := by
  have h : WP (f_law.sem (tab 20) [.own (.scr ns)]) QL noX := by
    refine WP_sem rfl ?_
    show WP (execs (tab 20) t_law_0 [.own (.scr ns), .no, .no, .no, .no, .no, .no, .no, .no, .no, .no, .no]) LawK _
    simp -dsimp [t_law_0, fn_begin, ↓WP_ok, ↓WP_exc, ↓WP_bad, ↓WP_bind, ↓WP_cons, ↓WP_nil, ↓WP_callF, ↓WP_callE, ↓WP_clr, ↓WP_try, ↓WP_range1, ↓WP_range2, ↓WP_mutA, ↓WP_mutE, ↓WP_mutP, ↓WP_mutI, ↓WP_sd, ↓WP_setix, ↓SeqK_nx, ↓SeqK_rt, ↓SeqK_bk, ↓SeqK_ct, ↓ClrK_nx, ↓ClrK_rt, ↓ClrK_bk, ↓ClrK_ct, ↓SemK_rt, ↓SemK_nx, ↓ForK_nx, ↓ForK_ct, ↓ForK_bk, ↓ForK_rt, ↓W.s_ifs, ↓W.e_varF, ↓W.e_varT, ↓W.a_var, ↓W.still_im, ↓W.still_b, ↓W.e_cst, ↓W.e_glob, ↓W.e_tup, ↓W.e_lst, ↓W.e_dnew, ↓W.e_bin, ↓W.e_neg, ↓W.e_not, ↓W.e_cmp, ↓W.e_chain, ↓W.e_one, ↓W.e_and, ↓W.e_or, ↓W.e_ite, ↓W.e_ix, ↓W.e_sl, ↓W.e_ixv, ↓W.e_slv, ↓W.e_rev, ↓W.e_lrange, ↓W.e_disp, ↓W.e_dispD, ↓W.e_gcd, ↓W.e_isin, ↓W.e_bi1, ↓W.e_bi2, ↓W.e_get, ↓W.e_index, ↓W.e_count, ↓W.e_join, ↓W.e_split, ↓W.es_nil, ↓W.es_cons, ↓W.bs_nil, ↓W.bs_cons, ↓W.as_nil, ↓W.as_cons, ↓W.o_no, ↓W.o_so, ↓W.c_no, ↓W.c_so, ↓W.t_not, ↓W.t_one, ↓W.t_and, ↓W.t_or, ↓W.t_cmp, ↓W.t_chain, ↓W.t_var, ↓W.t_cst, ↓W.t_call, ↓W.t_ixv, ↓W.t_me, ↓W.t_ix, ↓W.t_bi, ↓W.t_isin, ↓W.t_gin, ↓W.w_it, ↓W.w_rev, ↓W.w_enum, ↓W.w_zip, ↓W.s_setv, ↓W.s_asg, ↓W.s_unp, ↓W.s_par, ↓W.s_ret, ↓W.s_retN, ↓W.s_expr, ↓W.s_doc, ↓W.s_pass, ↓W.s_brk, ↓W.s_cont, ↓W.s_raise, ↓W.s_swap, ↓W.a_cst, ↓W.a_glob, ↓W.a_tup, ↓W.a_lst, ↓W.a_bin, ↓W.a_neg, ↓W.a_ite, ↓W.a_ix, ↓W.a_sl, ↓W.a_rev, ↓W.a_ixv, ↓W.a_slv, ↓W.a_lrange, ↓W.a_disp, ↓W.a_dispD, ↓W.a_gix, ↓W.a_gcd, ↓W.a_isin, ↓W.a_call, ↓W.a_bi, ↓W.a_me, ↓W.a_cmp, ↓W.a_mut, ↓W.a_lc, ↓W.a_and, ↓W.a_or, ↓W.a_not, ↓W.a_one, ↓W.a_chain, ↓W.a_dnew, WP_ok, WP_exc, WP_bad, WP_bind, WP_ifbad, WP_ite, WP_lift, WP_liftN, WP_liftI, WP_callT, W.rdV, W.rdO, W.ldO, backO, mutO, setO, isOL, isOM, isOD, sdO, Mm.sd, readS, lendS, binI, cmpI, List.isEmpty, meOk, mxOk, Mm.sup, mkTup, ims, E.pure, Es.pure, Eo.pure, E.src, Wk.src, bindT, bindTs, Kh.clear, lockAll, Kh.settle, settleGo, Slot.isOwnMut, Slot.imOf, Slot.borOf, giveBack, Out.nx, Ss.stores, Kh.S.stores, Tg.slots, Tgs.slots, Es.len, vOk, clearV, runH, evalH, imAt, V.add_ii, V.sub_ii, V.add_tt, V.add_ll, V.mul_li, V.mul_si, V.eq_ss, V.ne_ss, V.eq_ii, V.ne_ii, V.eq_ll, V.ne_ll, V.isN_n, V.notN_n, V.isN_b, V.notN_b, V.isN_i, V.notN_i, V.isN_s, V.notN_s, V.isN_t, V.notN_t, V.is_bb, V.not_bb, V.eq_bb, V.ne_bb, V.lt_ii, V.le_ii, V.gt_ii, V.ge_ii, V.ix_t, V.ix_T, V.ix_l, V.ix_s, V.ix_d, V.ix_x, V.ixV_l, V.ixV_t, V.at_0, V.at_1, V.at_2, V.at_3, V.at_4, V.at_5, V.at_m1, V.at_m2, V.at_m3, V.at_m4, V.sl_t, V.sl_l, V.len_t, V.len_T, V.len_l, V.len_s, V.len_d, V.tuple_t, V.tuple_l, V.list_t, V.list_l, V.list_s, V.int_i, V.int_s, V.abs_i, V.min_ii, V.max_ii, V.sum_l, V.any_l, V.all_l, V.min_l, V.max_l, V.str_i, V.sorted_l, V.sorted_t, V.sorted_d, V.get_d, V.app, V.ext, V.pop0, V.pop1, V.ins, V.set_l, V.set_d, V.wk_t, V.wk_l, V.wk_s, V.wk_x, V.wkr_t, V.wkr_l, V.rev_l, V.rev_t, V.it_t, V.it_l, V.en_t, V.en_l, V.en_x, V.zp_t, V.zp_l, V.need_f, V.need_i, V.asI, V.asB, V.asIm, V.lift_s, V.lift_n, V.keep_i, V.keep_f, V.keep_l, V.keep_T, V.keep_d, V.im_i, V.im_l, V.im_T, V.im_d, V.im_s, V.mx_index, V.mx_count, V.mx_counts, V.mx_join, V.mx_split, V.isin_s, V.isin_t, V.isin_i, V.gcd_ii, V.eqI_ii, V.big_, V.op_ii, slD_tx, len_tx, add_tx, S_eq, atI_map, cutL_take, cutL_drop, cutL_mid, cutL_last, ims_some, ims_int, intsOf_int, boolsOf_bl, -List.map_map]
    refine begin_wp hl fun s ok => ?_
    simp -dsimp [t_law_1, fn_take, dS_im, ↓WP_ok, ↓WP_exc, ↓WP_bad, ↓WP_bind, ↓WP_cons, ↓WP_nil, ↓WP_callF, ↓WP_callE, ↓WP_clr, ↓WP_try, ↓WP_range1, ↓WP_range2, ↓WP_mutA, ↓WP_mutE, ↓WP_mutP, ↓WP_mutI, ↓WP_sd, ↓WP_setix, ↓SeqK_nx, ↓SeqK_rt, ↓SeqK_bk, ↓SeqK_ct, ↓ClrK_nx, ↓ClrK_rt, ↓ClrK_bk, ↓ClrK_ct, ↓SemK_rt, ↓SemK_nx, ↓ForK_nx, ↓ForK_ct, ↓ForK_bk, ↓ForK_rt, ↓W.s_ifs, ↓W.e_varF, ↓W.e_varT, ↓W.a_var, ↓W.still_im, ↓W.still_b, ↓W.e_cst, ↓W.e_glob, ↓W.e_tup, ↓W.e_lst, ↓W.e_dnew, ↓W.e_bin, ↓W.e_neg, ↓W.e_not, ↓W.e_cmp, ↓W.e_chain, ↓W.e_one, ↓W.e_and, ↓W.e_or, ↓W.e_ite, ↓W.e_ix, ↓W.e_sl, ↓W.e_ixv, ↓W.e_slv, ↓W.e_rev, ↓W.e_lrange, ↓W.e_disp, ↓W.e_dispD, ↓W.e_gcd, ↓W.e_isin, ↓W.e_bi1, ↓W.e_bi2, ↓W.e_get, ↓W.e_index, ↓W.e_count, ↓W.e_join, ↓W.e_split, ↓W.es_nil, ↓W.es_cons, ↓W.bs_nil, ↓W.bs_cons, ↓W.as_nil, ↓W.as_cons, ↓W.o_no, ↓W.o_so, ↓W.c_no, ↓W.c_so, ↓W.t_not, ↓W.t_one, ↓W.t_and, ↓W.t_or, ↓W.t_cmp, ↓W.t_chain, ↓W.t_var, ↓W.t_cst, ↓W.t_call, ↓W.t_ixv, ↓W.t_me, ↓W.t_ix, ↓W.t_bi, ↓W.t_isin, ↓W.t_gin, ↓W.w_it, ↓W.w_rev, ↓W.w_enum, ↓W.w_zip, ↓W.s_setv, ↓W.s_asg, ↓W.s_unp, ↓W.s_par, ↓W.s_ret, ↓W.s_retN, ↓W.s_expr, ↓W.s_doc, ↓W.s_pass, ↓W.s_brk, ↓W.s_cont, ↓W.s_raise, ↓W.s_swap, ↓W.a_cst, ↓W.a_glob, ↓W.a_tup, ↓W.a_lst, ↓W.a_bin, ↓W.a_neg, ↓W.a_ite, ↓W.a_ix, ↓W.a_sl, ↓W.a_rev, ↓W.a_ixv, ↓W.a_slv, ↓W.a_lrange, ↓W.a_disp, ↓W.a_dispD, ↓W.a_gix, ↓W.a_gcd, ↓W.a_isin, ↓W.a_call, ↓W.a_bi, ↓W.a_me, ↓W.a_cmp, ↓W.a_mut, ↓W.a_lc, ↓W.a_and, ↓W.a_or, ↓W.a_not, ↓W.a_one, ↓W.a_chain, ↓W.a_dnew, WP_ok, WP_exc, WP_bad, WP_bind, WP_ifbad, WP_ite, WP_lift, WP_liftN, WP_liftI, WP_callT, W.rdV, W.rdO, W.ldO, backO, mutO, setO, isOL, isOM, isOD, sdO, Mm.sd, readS, lendS, binI, cmpI, List.isEmpty, meOk, mxOk, Mm.sup, mkTup, ims, E.pure, Es.pure, Eo.pure, E.src, Wk.src, bindT, bindTs, Kh.clear, lockAll, Kh.settle, settleGo, Slot.isOwnMut, Slot.imOf, Slot.borOf, giveBack, Out.nx, Ss.stores, Kh.S.stores, Tg.slots, Tgs.slots, Es.len, vOk, clearV, runH, evalH, imAt, V.add_ii, V.sub_ii, V.add_tt, V.add_ll, V.mul_li, V.mul_si, V.eq_ss, V.ne_ss, V.eq_ii, V.ne_ii, V.eq_ll, V.ne_ll, V.isN_n, V.notN_n, V.isN_b, V.notN_b, V.isN_i, V.notN_i, V.isN_s, V.notN_s, V.isN_t, V.notN_t, V.is_bb, V.not_bb, V.eq_bb, V.ne_bb, V.lt_ii, V.le_ii, V.gt_ii, V.ge_ii, V.ix_t, V.ix_T, V.ix_l, V.ix_s, V.ix_d, V.ix_x, V.ixV_l, V.ixV_t, V.at_0, V.at_1, V.at_2, V.at_3, V.at_4, V.at_5, V.at_m1, V.at_m2, V.at_m3, V.at_m4, V.sl_t, V.sl_l, V.len_t, V.len_T, V.len_l, V.len_s, V.len_d, V.tuple_t, V.tuple_l, V.list_t, V.list_l, V.list_s, V.int_i, V.int_s, V.abs_i, V.min_ii, V.max_ii, V.sum_l, V.any_l, V.all_l, V.min_l, V.max_l, V.str_i, V.sorted_l, V.sorted_t, V.sorted_d, V.get_d, V.app, V.ext, V.pop0, V.pop1, V.ins, V.set_l, V.set_d, V.wk_t, V.wk_l, V.wk_s, V.wk_x, V.wkr_t, V.wkr_l, V.rev_l, V.rev_t, V.it_t, V.it_l, V.en_t, V.en_l, V.en_x, V.zp_t, V.zp_l, V.need_f, V.need_i, V.asI, V.asB, V.asIm, V.lift_s, V.lift_n, V.keep_i, V.keep_f, V.keep_l, V.keep_T, V.keep_d, V.im_i, V.im_l, V.im_T, V.im_d, V.im_s, V.mx_index, V.mx_count, V.mx_counts, V.mx_join, V.mx_split, V.isin_s, V.isin_t, V.isin_i, V.gcd_ii, V.eqI_ii, V.big_, V.op_ii, slD_tx, len_tx, add_tx, S_eq, atI_map, cutL_take, cutL_drop, cutL_mid, cutL_last, ims_some, ims_int, intsOf_int, boolsOf_bl, -List.map_map]
    refine take_wp ok (by decide) (by decide) fun n s1 hn ok1 => ?_
    simp -dsimp [fn_take, dS_im, ↓WP_ok, ↓WP_exc, ↓WP_bad, ↓WP_bind, ↓WP_cons, ↓WP_nil, ↓WP_callF, ↓WP_callE, ↓WP_clr, ↓WP_try, ↓WP_range1, ↓WP_range2, ↓WP_mutA, ↓WP_mutE, ↓WP_mutP, ↓WP_mutI, ↓WP_sd, ↓WP_setix, ↓SeqK_nx, ↓SeqK_rt, ↓SeqK_bk, ↓SeqK_ct, ↓ClrK_nx, ↓ClrK_rt, ↓ClrK_bk, ↓ClrK_ct, ↓SemK_rt, ↓SemK_nx, ↓ForK_nx, ↓ForK_ct, ↓ForK_bk, ↓ForK_rt, ↓W.s_ifs, ↓W.e_varF, ↓W.e_varT, ↓W.a_var, ↓W.still_im, ↓W.still_b, ↓W.e_cst, ↓W.e_glob, ↓W.e_tup, ↓W.e_lst, ↓W.e_dnew, ↓W.e_bin, ↓W.e_neg, ↓W.e_not, ↓W.e_cmp, ↓W.e_chain, ↓W.e_one, ↓W.e_and, ↓W.e_or, ↓W.e_ite, ↓W.e_ix, ↓W.e_sl, ↓W.e_ixv, ↓W.e_slv, ↓W.e_rev, ↓W.e_lrange, ↓W.e_disp, ↓W.e_dispD, ↓W.e_gcd, ↓W.e_isin, ↓W.e_bi1, ↓W.e_bi2, ↓W.e_get, ↓W.e_index, ↓W.e_count, ↓W.e_join, ↓W.e_split, ↓W.es_nil, ↓W.es_cons, ↓W.bs_nil, ↓W.bs_cons, ↓W.as_nil, ↓W.as_cons, ↓W.o_no, ↓W.o_so, ↓W.c_no, ↓W.c_so, ↓W.t_not, ↓W.t_one, ↓W.t_and, ↓W.t_or, ↓W.t_cmp, ↓W.t_chain, ↓W.t_var, ↓W.t_cst, ↓W.t_call, ↓W.t_ixv, ↓W.t_me, ↓W.t_ix, ↓W.t_bi, ↓W.t_isin, ↓W.t_gin, ↓W.w_it, ↓W.w_rev, ↓W.w_enum, ↓W.w_zip, ↓W.s_setv, ↓W.s_asg, ↓W.s_unp, ↓W.s_par, ↓W.s_ret, ↓W.s_retN, ↓W.s_expr, ↓W.s_doc, ↓W.s_pass, ↓W.s_brk, ↓W.s_cont, ↓W.s_raise, ↓W.s_swap, ↓W.a_cst, ↓W.a_glob, ↓W.a_tup, ↓W.a_lst, ↓W.a_bin, ↓W.a_neg, ↓W.a_ite, ↓W.a_ix, ↓W.a_sl, ↓W.a_rev, ↓W.a_ixv, ↓W.a_slv, ↓W.a_lrange, ↓W.a_disp, ↓W.a_dispD, ↓W.a_gix, ↓W.a_gcd, ↓W.a_isin, ↓W.a_call, ↓W.a_bi, ↓W.a_me, ↓W.a_cmp, ↓W.a_mut, ↓W.a_lc, ↓W.a_and, ↓W.a_or, ↓W.a_not, ↓W.a_one, ↓W.a_chain, ↓W.a_dnew, WP_ok, WP_exc, WP_bad, WP_bind, WP_ifbad, WP_ite, WP_lift, WP_liftN, WP_liftI, WP_callT, W.rdV, W.rdO, W.ldO, backO, mutO, setO, isOL, isOM, isOD, sdO, Mm.sd, readS, lendS, binI, cmpI, List.isEmpty, meOk, mxOk, Mm.sup, mkTup, ims, E.pure, Es.pure, Eo.pure, E.src, Wk.src, bindT, bindTs, Kh.clear, lockAll, Kh.settle, settleGo, Slot.isOwnMut, Slot.imOf, Slot.borOf, giveBack, Out.nx, Ss.stores, Kh.S.stores, Tg.slots, Tgs.slots, Es.len, vOk, clearV, runH, evalH, imAt, V.add_ii, V.sub_ii, V.add_tt, V.add_ll, V.mul_li, V.mul_si, V.eq_ss, V.ne_ss, V.eq_ii, V.ne_ii, V.eq_ll, V.ne_ll, V.isN_n, V.notN_n, V.isN_b, V.notN_b, V.isN_i, V.notN_i, V.isN_s, V.notN_s, V.isN_t, V.notN_t, V.is_bb, V.not_bb, V.eq_bb, V.ne_bb, V.lt_ii, V.le_ii, V.gt_ii, V.ge_ii, V.ix_t, V.ix_T, V.ix_l, V.ix_s, V.ix_d, V.ix_x, V.ixV_l, V.ixV_t, V.at_0, V.at_1, V.at_2, V.at_3, V.at_4, V.at_5, V.at_m1, V.at_m2, V.at_m3, V.at_m4, V.sl_t, V.sl_l, V.len_t, V.len_T, V.len_l, V.len_s, V.len_d, V.tuple_t, V.tuple_l, V.list_t, V.list_l, V.list_s, V.int_i, V.int_s, V.abs_i, V.min_ii, V.max_ii, V.sum_l, V.any_l, V.all_l, V.min_l, V.max_l, V.str_i, V.sorted_l, V.sorted_t, V.sorted_d, V.get_d, V.app, V.ext, V.pop0, V.pop1, V.ins, V.set_l, V.set_d, V.wk_t, V.wk_l, V.wk_s, V.wk_x, V.wkr_t, V.wkr_l, V.rev_l, V.rev_t, V.it_t, V.it_l, V.en_t, V.en_l, V.en_x, V.zp_t, V.zp_l, V.need_f, V.need_i, V.asI, V.asB, V.asIm, V.lift_s, V.lift_n, V.keep_i, V.keep_f, V.keep_l, V.keep_T, V.keep_d, V.im_i, V.im_l, V.im_T, V.im_d, V.im_s, V.mx_index, V.mx_count, V.mx_counts, V.mx_join, V.mx_split, V.isin_s, V.isin_t, V.isin_i, V.gcd_ii, V.eqI_ii, V.big_, V.op_ii, slD_tx, len_tx, add_tx, S_eq, atI_map, cutL_take, cutL_drop, cutL_mid, cutL_last, ims_some, ims_int, intsOf_int, boolsOf_bl, -List.map_map]
    refine ⟨fun n0 => ?_, fun n0 => ?_⟩
    · refine take_wp ok1 (by decide) (by decide) fun m s2 hm ok2 => ?_
      simp -dsimp [dS_im, ↓WP_ok, ↓WP_exc, ↓WP_bad, ↓WP_bind, ↓WP_cons, ↓WP_nil, ↓WP_callF, ↓WP_callE, ↓WP_clr, ↓WP_try, ↓WP_range1, ↓WP_range2, ↓WP_mutA, ↓WP_mutE, ↓WP_mutP, ↓WP_mutI, ↓WP_sd, ↓WP_setix, ↓SeqK_nx, ↓SeqK_rt, ↓SeqK_bk, ↓SeqK_ct, ↓ClrK_nx, ↓ClrK_rt, ↓ClrK_bk, ↓ClrK_ct, ↓SemK_rt, ↓SemK_nx, ↓ForK_nx, ↓ForK_ct, ↓ForK_bk, ↓ForK_rt, ↓W.s_ifs, ↓W.e_varF, ↓W.e_varT, ↓W.a_var, ↓W.still_im, ↓W.still_b, ↓W.e_cst, ↓W.e_glob, ↓W.e_tup, ↓W.e_lst, ↓W.e_dnew, ↓W.e_bin, ↓W.e_neg, ↓W.e_not, ↓W.e_cmp, ↓W.e_chain, ↓W.e_one, ↓W.e_and, ↓W.e_or, ↓W.e_ite, ↓W.e_ix, ↓W.e_sl, ↓W.e_ixv, ↓W.e_slv, ↓W.e_rev, ↓W.e_lrange, ↓W.e_disp, ↓W.e_dispD, ↓W.e_gcd, ↓W.e_isin, ↓W.e_bi1, ↓W.e_bi2, ↓W.e_get, ↓W.e_index, ↓W.e_count, ↓W.e_join, ↓W.e_split, ↓W.es_nil, ↓W.es_cons, ↓W.bs_nil, ↓W.bs_cons, ↓W.as_nil, ↓W.as_cons, ↓W.o_no, ↓W.o_so, ↓W.c_no, ↓W.c_so, ↓W.t_not, ↓W.t_one, ↓W.t_and, ↓W.t_or, ↓W.t_cmp, ↓W.t_chain, ↓W.t_var, ↓W.t_cst, ↓W.t_call, ↓W.t_ixv, ↓W.t_me, ↓W.t_ix, ↓W.t_bi, ↓W.t_isin, ↓W.t_gin, ↓W.w_it, ↓W.w_rev, ↓W.w_enum, ↓W.w_zip, ↓W.s_setv, ↓W.s_asg, ↓W.s_unp, ↓W.s_par, ↓W.s_ret, ↓W.s_retN, ↓W.s_expr, ↓W.s_doc, ↓W.s_pass, ↓W.s_brk, ↓W.s_cont, ↓W.s_raise, ↓W.s_swap, ↓W.a_cst, ↓W.a_glob, ↓W.a_tup, ↓W.a_lst, ↓W.a_bin, ↓W.a_neg, ↓W.a_ite, ↓W.a_ix, ↓W.a_sl, ↓W.a_rev, ↓W.a_ixv, ↓W.a_slv, ↓W.a_lrange, ↓W.a_disp, ↓W.a_dispD, ↓W.a_gix, ↓W.a_gcd, ↓W.a_isin, ↓W.a_call, ↓W.a_bi, ↓W.a_me, ↓W.a_cmp, ↓W.a_mut, ↓W.a_lc, ↓W.a_and, ↓W.a_or, ↓W.a_not, ↓W.a_one, ↓W.a_chain, ↓W.a_dnew, WP_ok, WP_exc, WP_bad, WP_bind, WP_ifbad, WP_ite, WP_lift, WP_liftN, WP_liftI, WP_callT, W.rdV, W.rdO, W.ldO, backO, mutO, setO, isOL, isOM, isOD, sdO, Mm.sd, readS, lendS, binI, cmpI, List.isEmpty, meOk, mxOk, Mm.sup, mkTup, ims, E.pure, Es.pure, Eo.pure, E.src, Wk.src, bindT, bindTs, Kh.clear, lockAll, Kh.settle, settleGo, Slot.isOwnMut, Slot.imOf, Slot.borOf, giveBack, Out.nx, Ss.stores, Kh.S.stores, Tg.slots, Tgs.slots, Es.len, vOk, clearV, runH, evalH, imAt, V.add_ii, V.sub_ii, V.add_tt, V.add_ll, V.mul_li, V.mul_si, V.eq_ss, V.ne_ss, V.eq_ii, V.ne_ii, V.eq_ll, V.ne_ll, V.isN_n, V.notN_n, V.isN_b, V.notN_b, V.isN_i, V.notN_i, V.isN_s, V.notN_s, V.isN_t, V.notN_t, V.is_bb, V.not_bb, V.eq_bb, V.ne_bb, V.lt_ii, V.le_ii, V.gt_ii, V.ge_ii, V.ix_t, V.ix_T, V.ix_l, V.ix_s, V.ix_d, V.ix_x, V.ixV_l, V.ixV_t, V.at_0, V.at_1, V.at_2, V.at_3, V.at_4, V.at_5, V.at_m1, V.at_m2, V.at_m3, V.at_m4, V.sl_t, V.sl_l, V.len_t, V.len_T, V.len_l, V.len_s, V.len_d, V.tuple_t, V.tuple_l, V.list_t, V.list_l, V.list_s, V.int_i, V.int_s, V.abs_i, V.min_ii, V.max_ii, V.sum_l, V.any_l, V.all_l, V.min_l, V.max_l, V.str_i, V.sorted_l, V.sorted_t, V.sorted_d, V.get_d, V.app, V.ext, V.pop0, V.pop1, V.ins, V.set_l, V.set_d, V.wk_t, V.wk_l, V.wk_s, V.wk_x, V.wkr_t, V.wkr_l, V.rev_l, V.rev_t, V.it_t, V.it_l, V.en_t, V.en_l, V.en_x, V.zp_t, V.zp_l, V.need_f, V.need_i, V.asI, V.asB, V.asIm, V.lift_s, V.lift_n, V.keep_i, V.keep_f, V.keep_l, V.keep_T, V.keep_d, V.im_i, V.im_l, V.im_T, V.im_d, V.im_s, V.mx_index, V.mx_count, V.mx_counts, V.mx_join, V.mx_split, V.isin_s, V.isin_t, V.isin_i, V.gcd_ii, V.eqI_ii, V.big_, V.op_ii, slD_tx, len_tx, add_tx, S_eq, atI_map, cutL_take, cutL_drop, cutL_mid, cutL_last, ims_some, ims_int, intsOf_int, boolsOf_bl, -List.map_map]
      exact law_2 ok2 (by omega)
    · refine take_wp ok1 (by decide) (by decide) fun m s2 hm ok2 => ?_
      simp -dsimp [dS_im, ↓WP_ok, ↓WP_exc, ↓WP_bad, ↓WP_bind, ↓WP_cons, ↓WP_nil, ↓WP_callF, ↓WP_callE, ↓WP_clr, ↓WP_try, ↓WP_range1, ↓WP_range2, ↓WP_mutA, ↓WP_mutE, ↓WP_mutP, ↓WP_mutI, ↓WP_sd, ↓WP_setix, ↓SeqK_nx, ↓SeqK_rt, ↓SeqK_bk, ↓SeqK_ct, ↓ClrK_nx, ↓ClrK_rt, ↓ClrK_bk, ↓ClrK_ct, ↓SemK_rt, ↓SemK_nx, ↓ForK_nx, ↓ForK_ct, ↓ForK_bk, ↓ForK_rt, ↓W.s_ifs, ↓W.e_varF, ↓W.e_varT, ↓W.a_var, ↓W.still_im, ↓W.still_b, ↓W.e_cst, ↓W.e_glob, ↓W.e_tup, ↓W.e_lst, ↓W.e_dnew, ↓W.e_bin, ↓W.e_neg, ↓W.e_not, ↓W.e_cmp, ↓W.e_chain, ↓W.e_one, ↓W.e_and, ↓W.e_or, ↓W.e_ite, ↓W.e_ix, ↓W.e_sl, ↓W.e_ixv, ↓W.e_slv, ↓W.e_rev, ↓W.e_lrange, ↓W.e_disp, ↓W.e_dispD, ↓W.e_gcd, ↓W.e_isin, ↓W.e_bi1, ↓W.e_bi2, ↓W.e_get, ↓W.e_index, ↓W.e_count, ↓W.e_join, ↓W.e_split, ↓W.es_nil, ↓W.es_cons, ↓W.bs_nil, ↓W.bs_cons, ↓W.as_nil, ↓W.as_cons, ↓W.o_no, ↓W.o_so, ↓W.c_no, ↓W.c_so, ↓W.t_not, ↓W.t_one, ↓W.t_and, ↓W.t_or, ↓W.t_cmp, ↓W.t_chain, ↓W.t_var, ↓W.t_cst, ↓W.t_call, ↓W.t_ixv, ↓W.t_me, ↓W.t_ix, ↓W.t_bi, ↓W.t_isin, ↓W.t_gin, ↓W.w_it, ↓W.w_rev, ↓W.w_enum, ↓W.w_zip, ↓W.s_setv, ↓W.s_asg, ↓W.s_unp, ↓W.s_par, ↓W.s_ret, ↓W.s_retN, ↓W.s_expr, ↓W.s_doc, ↓W.s_pass, ↓W.s_brk, ↓W.s_cont, ↓W.s_raise, ↓W.s_swap, ↓W.a_cst, ↓W.a_glob, ↓W.a_tup, ↓W.a_lst, ↓W.a_bin, ↓W.a_neg, ↓W.a_ite, ↓W.a_ix, ↓W.a_sl, ↓W.a_rev, ↓W.a_ixv, ↓W.a_slv, ↓W.a_lrange, ↓W.a_disp, ↓W.a_dispD, ↓W.a_gix, ↓W.a_gcd, ↓W.a_isin, ↓W.a_call, ↓W.a_bi, ↓W.a_me, ↓W.a_cmp, ↓W.a_mut, ↓W.a_lc, ↓W.a_and, ↓W.a_or, ↓W.a_not, ↓W.a_one, ↓W.a_chain, ↓W.a_dnew, WP_ok, WP_exc, WP_bad, WP_bind, WP_ifbad, WP_ite, WP_lift, WP_liftN, WP_liftI, WP_callT, W.rdV, W.rdO, W.ldO, backO, mutO, setO, isOL, isOM, isOD, sdO, Mm.sd, readS, lendS, binI, cmpI, List.isEmpty, meOk, mxOk, Mm.sup, mkTup, ims, E.pure, Es.pure, Eo.pure, E.src, Wk.src, bindT, bindTs, Kh.clear, lockAll, Kh.settle, settleGo, Slot.isOwnMut, Slot.imOf, Slot.borOf, giveBack, Out.nx, Ss.stores, Kh.S.stores, Tg.slots, Tgs.slots, Es.len, vOk, clearV, runH, evalH, imAt, V.add_ii, V.sub_ii, V.add_tt, V.add_ll, V.mul_li, V.mul_si, V.eq_ss, V.ne_ss, V.eq_ii, V.ne_ii, V.eq_ll, V.ne_ll, V.isN_n, V.notN_n, V.isN_b, V.notN_b, V.isN_i, V.notN_i, V.isN_s, V.notN_s, V.isN_t, V.notN_t, V.is_bb, V.not_bb, V.eq_bb, V.ne_bb, V.lt_ii, V.le_ii, V.gt_ii, V.ge_ii, V.ix_t, V.ix_T, V.ix_l, V.ix_s, V.ix_d, V.ix_x, V.ixV_l, V.ixV_t, V.at_0, V.at_1, V.at_2, V.at_3, V.at_4, V.at_5, V.at_m1, V.at_m2, V.at_m3, V.at_m4, V.sl_t, V.sl_l, V.len_t, V.len_T, V.len_l, V.len_s, V.len_d, V.tuple_t, V.tuple_l, V.list_t, V.list_l, V.list_s, V.int_i, V.int_s, V.abs_i, V.min_ii, V.max_ii, V.sum_l, V.any_l, V.all_l, V.min_l, V.max_l, V.str_i, V.sorted_l, V.sorted_t, V.sorted_d, V.get_d, V.app, V.ext, V.pop0, V.pop1, V.ins, V.set_l, V.set_d, V.wk_t, V.wk_l, V.wk_s, V.wk_x, V.wkr_t, V.wkr_l, V.rev_l, V.rev_t, V.it_t, V.it_l, V.en_t, V.en_l, V.en_x, V.zp_t, V.zp_l, V.need_f, V.need_i, V.asI, V.asB, V.asIm, V.lift_s, V.lift_n, V.keep_i, V.keep_f, V.keep_l, V.keep_T, V.keep_d, V.im_i, V.im_l, V.im_T, V.im_d, V.im_s, V.mx_index, V.mx_count, V.mx_counts, V.mx_join, V.mx_split, V.isin_s, V.isin_t, V.isin_i, V.gcd_ii, V.eqI_ii, V.big_, V.op_ii, slD_tx, len_tx, add_tx, S_eq, atI_map, cutL_take, cutL_drop, cutL_mid, cutL_last, ims_some, ims_int, intsOf_int, boolsOf_bl, -List.map_map]
      exact law_2 ok2 (by omega)
  obtain ⟨v, fin, h1, h2⟩ := h.ex
  exact ⟨fin, by rw [h1, h2]⟩
end Kw

set_option Elab.async false
set_option linter.all false
set_option maxRecDepth 100000
set_option maxHeartbeats 0
namespace Kw
open PySem PySem.Spec PyProof.Rows L2 Kh
theorem law_at {w : World} {mg : Str → Option Value} {fa : Addr} {h : Heap} (Y : hk.says w h) (G : h.Ns mainGlobals mg) (hmg : mg ("law" : Str) = some (.ref fa)) : ∃ (K : PySem.W.Frag) (fd : FuncData) (sp : Sp), K.In h ∧ (∀ (s : Shared) (u : Value), BindsTo s fd ⟨[u], []⟩ [("script", u)]) ∧
    (∀ (H : Hp) (a : Addr) (ns : List Int), ns.length ≤ 63 → (∀ z ∈ ns, Builtin.Int.intBits z ≤ 1048576) → Only H → SqL K H a (ns.map V.int) → sp [.ref a] H (fun v _ => v = .bl true) fun _ _ _ => False) ∧
    ∀ base : Heap, K.In base → base.Ns mainGlobals mg → FnOk rw.prog w K mg base (L2.CX rw.prog w) 21 fa fd ["script"] sp := by
  obtain ⟨K, KX, c⟩ := Y
  have hd := facts KX G c
  obtain ⟨fd, F⟩ := c.t.d.defs (d := d_law.dd) (by simp [defs])
  have hg := He.glo_ok KX G (c.t.d.facts (f := .glo "law") (by simp [factsOf, defs, d_law]))
  have e := hmg.symm.trans hg
  cases e
  have o := o_law
  have o1 := o.1
  unfold DD.okB at o1
  simp only [Bool.and_eq_true, decide_eq_true_eq] at o1
  exact ⟨K, fd, spF K mg 1 (f_law.sem (tab 20)), KX, fun s u => FunD.bindsA (ps := ["script"]) F o.2 s [u] rfl, fun H a ns hl hb ho hs => law_sp ho hs (law_plain ns hl), fun base kb gb => fd_ok (gl_all hd 20) F (scD_ok o1.1.1.1) o1.1.1.2 o1.1.2 o1.2⟩
end Kw
open PySem PySem.W PySem.Calls PyProof.Rows
theorem PySem.Challenge.cw_knothouse_k12_canonical_words_holds : PySem.Challenge.rw_knothouse_k12_canonical_words.Holds := by
  w_on; o_law
  refine HandSHeadRun.head_any (r := Kw.R) (q := view Kw.R.prog [Kw.iLaw]) (H := Kw.hk) (ob := Kw.ob) (M := 20000) (loose := Kw.loose) (d := HandSHeadRun.topDef Kw.R.prog Kw.iLaw) (kwd := []) Kw.ob_eq
    (by kernel_rfl) (fun s => by kernel_rfl) Kw.run (by kernel_rfl) (by kernel_rfl) (by kernel_rfl) (by rfl) (by first | assumption | decide +kernel) (by decide +kernel) ⟨rfl, rfl, rfl, rfl, rfl, by decide +kernel⟩ ?hw ?hc
  case hw => w_witness2
  case hc =>
    refine Kh.walk_EB (l := Kw.rw) (n := 63) (k := 21) (x := "script") rfl (by decide) (by kernel_rfl) ⟨rfl, by decide, by decide⟩ fun w mg fa h Y G hmg => Kw.law_at Y G ?_
    rw [← hmg]
    exact congrArg mg (by kernel_rfl)

