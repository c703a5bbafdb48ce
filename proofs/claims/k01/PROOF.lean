import PyProof.Rows.All
import Wide.All
import OpenK.AllK
import Wide.FinOn
import HandS.ForMost
import HandS.ForExc
import HandS.Wide
import HandS.Walk
import HandS.Rev
import HandS.TupAny
import HandS.TupMul
import HandS.SortInts
import HandS.Gcd
import HandS.EndBits
import HandS.ExcInit
import HandS.ExcField
import HandS.Small
import HandS.Defaults
import HandS.Head0
import HandS.Head1
import HandS.Head2
import HandS.HeadEnd
import HandS.HeadHook1
import HandS.HeadHook2
import HandS.HeadHook3
import HandS.HeadHook4
import PySem.Challenge.RW_knothouse_k01_polynomials_added_and_mult
set_option Elab.async false
set_option linter.all false
set_option maxRecDepth 100000
/-! a small evaluator of the subset of Python that the program and the laws use: data by value, one owner each -/
namespace Kh
open PySem L2

/-- what never changes -/
inductive I where
  | non | bl (b : Bool) | int (i : Int) | str (s : Str) | tup (xs : List I)
/-- a value: what never changes, or a thing with one owner; scr: the script -/
inductive D where
  | im (x : I) | tup (xs : List D) | lst (xs : List D) | dct (t : Bool) (kvs : List (I × D)) | scr (ns : List Int)
/-- a name's place: empty, its own value, a borrowed one (read only) -/
inductive Slot where
  | no | own (d : D) | bor (d : D)
abbrev En := List Slot
/-- a result: a value and the places, an error of a class with code and place, or nothing is said -/
inductive Out (α : Type) where
  | ok (a : α) (e : En) | exc (c : Str) (x y : I) (e : En) | bad
def Out.bind {α β : Type} : Out α → (α → En → Out β) → Out β
  | .ok a e, f => f a e
  | .exc c x y e, _ => .exc c x y e
  | .bad, _ => .bad
def lift {α : Type} (o : Option α) (e : En) : Out α := match o with
  | some a => .ok a e
  | none => .bad

inductive Op where | add | sub | mul | mod | fdiv | pow
inductive Cm where | eq | ne | lt | le | gt | ge | isN | notN | inn | nin
/-- built-in functions -/
inductive Bi where | len | tuple | list | int | abs | min | max | sum | any | all | sorted | str | gcd | range
/-- methods that only read -/
inductive Me where | get | index | count | join | split | replace
/-- methods that change their object -/
inductive Mm where | append | extend | pop | insert | remove | setdefault | sort
mutual
inductive Tg where | name (i : Nat) | tup (ts : Tgs)
inductive Tgs where | nil | cons (t : Tg) (r : Tgs)
end

mutual
inductive E where
  | var (i : Nat) | cst (x : I) | glob (x : Str)
  | tup (es : Es) | lst (es : Es) | dnew
  | bin (op : Op) (a b : E) | neg (a : E) | not (a : E)
  | cmp (op : Cm) (a b : E) | chain (o1 o2 : Cm) (a b c : E)
  | one (a : E) | and (a b : E) | or (a b : E) | ite (c a b : E)
  | ix (a b : E) | sl (a : E) (lo hi : Eo) | rev (a : E)
  | call (f : Str) (es : Es)
  | bi (f : Bi) (es : Es)
  | me (m : Me) (r : E) (es : Es)
  | mut (m : Mm) (i : Nat) (es : Es)
  | lc (w : Wk) (tg : Tg) (own : List (Str × Nat)) (c : Eo) (elt : E)
inductive Es where | nil | cons (e : E) (r : Es)
inductive Eo where | no | so (e : E)
/-- what a for walks -/
inductive Wk where
  | it (e : E) | range (es : Es) | rev (e : E) | enum (e : E) | zip (a b : E) | items (e : E)
end
mutual
inductive S where
  | setv (i : Nat) (e : E) | asg (t : Tg) (e : E) | par (i j : Nat) (a b : E)
  | ret (e : E) | retN | expr (e : E) | doc
  | ifs (c : E) (a b : Ss) | fors (w : Wk) (t : Tg) (dead : List Nat) (body : Ss) | whiles (c : E) (dead : List Nat) (body : Ss)
  | raise (c : Str) (es : Es) | tryx (body : Ss) (c : Str) (v : Option Nat) (suite : Ss)
  | pass | brk | cont
  | setix (i : Nat) (path : Es) (e : E)
inductive Ss where | nil | cons (s : S) (r : Ss)
end

/-! ### data -/
def ims : List D → Option (List I)
  | [] => some []
  | .im x :: r => (ims r).map (x :: ·)
  | _ :: _ => none
def mkTup (ds : List D) : D := match ims ds with
  | some xs => .im (.tup xs)
  | none => .tup ds
def intsOf : List I → Option (List Int)
  | [] => some []
  | .int i :: r => (intsOf r).map (i :: ·)
  | _ :: _ => none
mutual
/-- equal as Python has it; True and 1 are equal there: such pairs are left out -/
def I.eq : I → I → Option Bool
  | .non, .non => some true
  | .bl a, .bl b => some (a == b)
  | .int a, .int b => some (a == b)
  | .str a, .str b => some (a == b)
  | .tup a, .tup b => I.eqs a b
  | .bl _, .int _ => none
  | .int _, .bl _ => none
  | _, _ => some false
def I.eqs : List I → List I → Option Bool
  | [], [] => some true
  | x :: xs, y :: ys => (I.eq x y).bind fun e => (I.eqs xs ys).map fun r => e && r
  | _, _ => some false
end
mutual
/-- nested at most n deep -/
def I.shal : Nat → I → Bool
  | _, .str s => PyData.strOk s
  | 0, .tup _ => false
  | n + 1, .tup xs => I.shals n xs
  | _, _ => true
def I.shals : Nat → List I → Bool
  | _, [] => true
  | n, x :: xs => I.shal n x && I.shals n xs
end
def big : Nat := 1000000
/-- a list of data as what never changes, for == -/
def D.seen : D → Option I
  | .im x => some x
  | _ => none
def lkup (k : I) : List (I × D) → Option (Option D)
  | [] => some none
  | (j, d) :: r => (I.eq j k).bind fun e => if e then some (some d) else lkup k r
def dput (k : I) (v : D) : List (I × D) → Option (List (I × D))
  | [] => some [(k, v)]
  | (j, d) :: r => (I.eq j k).bind fun e => if e then some ((j, v) :: r) else (dput k v r).map ((j, d) :: ·)
def isKey : I → Bool
  | .int _ => true
  | .str _ => true
  | _ => false
def isKeyT : I → Bool
  | .tup xs => xs.all isKey
  | _ => false
def keyOk (t : Bool) (k : I) : Bool := !t && isKey k
def memI (x : I) : List I → Option Bool
  | [] => some false
  | y :: r => (I.eq y x).bind fun e => (memI x r).map fun q => e || q
def ltI : List Int → List Int → Bool := HT.lexLt

/-! ### operators by values -/
def binI : Op → Int → Int → Option Int
  | .add, i, j => some (i + j)
  | .sub, i, j => some (i - j)
  | .mul, i, j => if i.natAbs.log2 + j.natAbs.log2 < 1000000 then some (i * j) else none
  | .mod, i, j => if 0 < j then some (i % j) else none
  | .fdiv, i, j => if (0 < j ∧ j.natAbs.log2 < 9000) then some (i / j) else none
  | .pow, i, j => if (0 ≤ j ∧ j ≤ 1000000 ∧ i.natAbs < 2 ^ 64) then some (i ^ j.toNat) else none
def binD : Op → D → D → Option D
  | op, .im (.int i), .im (.int j) => (binI op i j).map fun k => .im (.int k)
  | .add, .im (.tup xs), .im (.tup ys) => if xs.length + ys.length ≤ big then some (.im (.tup (xs ++ ys))) else none
  | .add, .im (.str a), .im (.str b) => if a.length + b.length ≤ big then some (.im (.str (a ++ b))) else none
  | .add, .lst xs, .lst ys => if xs.length + ys.length ≤ big then
      (match ims xs, ims ys with
        | some _, some _ => some (.lst (xs ++ ys))
        | _, _ => none) else none
  | .mul, .lst xs, .im (.int k) => if 0 ≤ k ∧ xs.length * k.toNat ≤ big ∧ k ≤ 1000000 then
      (match ims xs with
        | some _ => some (.lst (List.replicate k.toNat xs).flatten)
        | _ => none) else none
  | _, _, _ => none
def cmpI : Cm → Int → Int → Bool
  | .lt, i, j => decide (i < j)
  | .le, i, j => decide (i ≤ j)
  | .gt, i, j => decide (j < i)
  | .ge, i, j => decide (j ≤ i)
  | _, _, _ => false
def cmpD : Cm → D → D → Option Bool
  | .eq, .im (.str a), .im (.str b) => some (decide (a = b))
  | .ne, .im (.str a), .im (.str b) => some (!decide (a = b))
  | .eq, .im x, .im y => if I.shal 60 x && I.shal 60 y then I.eq x y else none
  | .ne, .im x, .im y => if I.shal 60 x && I.shal 60 y then (I.eq x y).map (!·) else none
  | .isN, .im x, .im .non => some (match x with | .non => true | _ => false)
  | .notN, .im x, .im .non => some (match x with | .non => false | _ => true)
  | .lt, .im (.int i), .im (.int j) => some (decide (i < j))
  | .le, .im (.int i), .im (.int j) => some (decide (i ≤ j))
  | .gt, .im (.int i), .im (.int j) => some (decide (j < i))
  | .ge, .im (.int i), .im (.int j) => some (decide (j ≤ i))
  | .inn, .im x, .im (.tup ys) => if isKey x && ys.all isKey then memI x ys else none
  | .nin, .im x, .im (.tup ys) => if isKey x && ys.all isKey then (memI x ys).map (!·) else none
  | .inn, .im x, .dct t kvs => if keyOk t x then (lkup x kvs).map (·.isSome) else none
  | .nin, .im x, .dct t kvs => if keyOk t x then (lkup x kvs).map (!·.isSome) else none
  | _, _, _ => none
/-- o[i] -/
def ixD : D → D → Option D
  | .im (.tup xs), .im (.int i) => (atI xs i).map .im
  | .tup xs, .im (.int i) => atI xs i
  | .lst xs, .im (.int i) => atI xs i
  | .scr ns, .im (.int i) => (atI ns i).map fun n => .im (.int n)
  | .dct t kvs, .im k => if keyOk t k then (lkup k kvs).join else none
  | _, _ => none
def cutL {α : Type} (xs : List α) (lo hi : Option Int) : List α := (xs.drop (HT.sIx xs.length 0 lo)).take (HT.sIx xs.length xs.length hi - HT.sIx xs.length 0 lo)
def slD : D → Option Int → Option Int → Option D
  | .im (.tup xs), lo, hi => some (.im (.tup (cutL xs lo hi)))
  | .lst xs, lo, hi => (ims xs).map fun _ => .lst (cutL xs lo hi)
  | _, _, _ => none
def biD : Bi → List D → Option D
  | .len, [.im (.tup xs)] => some (.im (.int xs.length))
  | .len, [.tup xs] => some (.im (.int xs.length))
  | .len, [.lst xs] => some (.im (.int xs.length))
  | .len, [.scr xs] => some (.im (.int xs.length))
  | .len, [.dct false xs] => some (.im (.int xs.length))
  | .tuple, [.im (.tup xs)] => some (.im (.tup xs))
  | .tuple, [.lst xs] => (ims xs).map fun ys => .im (.tup ys)
  | .list, [.im (.tup xs)] => some (.lst (xs.map .im))
  | .list, [.lst xs] => (ims xs).map fun _ => .lst xs
  | .list, [.scr ns] => some (.lst (ns.map fun n => .im (.int n)))
  | .int, [.im (.int i)] => some (.im (.int i))
  | .abs, [.im (.int i)] => some (.im (.int i.natAbs))
  | .min, [.im (.int i), .im (.int j)] => some (.im (.int (min i j)))
  | .max, [.im (.int i), .im (.int j)] => some (.im (.int (max i j)))
  | .sum, [.lst xs] => ((ims xs).bind intsOf).map fun ns => .im (.int ns.sum)
  | .sorted, [.dct false kvs] => (intsOf (kvs.map (·.1))).map fun ns => .lst ((ns.mergeSort (fun a b => decide (a ≤ b))).map fun n => .im (.int n))
  | .sorted, [.lst xs] => ((ims xs).bind intsOf).map fun ns => .lst ((ns.mergeSort (fun a b => decide (a ≤ b))).map fun n => .im (.int n))
  | _, _ => none
def getIm (d : I) : Option D → Option D
  | none => some (.im d)
  | some (.im x) => some (.im x)
  | some _ => none
def meD : Me → D → List I → Option D
  | .get, .dct t kvs, [k, d] => if keyOk t k then (lkup k kvs).bind (getIm d) else none
  | _, _, _ => none
/-- a method's receiver -/
def meOk : Me → D → Bool
  | .get, .dct false _ => true
  | _, _ => false
/-- what a for walks -/
def wkD : D → Option (List D)
  | .im (.tup xs) => some (xs.map .im)
  | .lst xs => some xs
  | .scr ns => some (ns.map fun n => .im (.int n))
  | _ => none
def rangeL (lo : Int) (n : Nat) : List D := (List.range n).map fun (i : Nat) => .im (.int (lo + (i : Int)))
def mutD : Mm → D → List D → Option (D × D)
  | .append, .lst xs, [d] => if xs.length < big then some (.im .non, .lst (xs ++ [d])) else none
  | .extend, .lst xs, [.lst ys] => if xs.length + ys.length ≤ big then some (.im .non, .lst (xs ++ ys)) else none
  | .pop, .lst xs, [] => (xs.getLast?).map fun d => (d, .lst xs.dropLast)
  | _, _, _ => none
def Mm.sup : Mm → Bool
  | .append => true | .extend => true | .pop => true
  | _ => false
def setD : D → D → D → Option D
  | .lst xs, .im (.int i), v => (ixN xs.length i).map fun j => .lst (xs.set j v)
  | .dct t kvs, .im k, v => if keyOk t k && decide (kvs.length < big) then (dput k v kvs).map (.dct t ·) else none
  | _, _, _ => none

/-! ### targets -/
def keepS (d : D) (b : Bool) : Slot := match d with
  | .im _ => .own d
  | _ => if b then .bor d else .own d
mutual
def bindT : Tg → D → Bool → En → Option En
  | .name i, d, b, e => if i < e.length then some (e.set i (keepS d b)) else none
  | .tup ts, .im (.tup xs), b, e => bindTs ts (xs.map .im) b e
  | .tup ts, .tup ds, b, e => bindTs ts ds b e
  | .tup _, _, _, _ => none
def bindTs : Tgs → List D → Bool → En → Option En
  | .nil, [], _, e => some e
  | .cons t r, d :: ds, b, e => (bindT t d b e).bind fun e => bindTs r ds b e
  | _, _, _, _ => none
end
mutual
def Tg.slots : Tg → List Nat
  | .name i => [i]
  | .tup ts => ts.slots
def Tgs.slots : Tgs → List Nat
  | .nil => []
  | .cons t r => t.slots ++ r.slots
end

/-! ### what an expression may take its value from; which change nothing -/
def Es.len : Es → Nat
  | .nil => 0
  | .cons _ r => r.len + 1
def E.src : E → List Nat
  | .var i => [i]
  | .ix a _ => a.src
  | .sl a _ _ => a.src
  | .ite _ a b => a.src ++ b.src
  | .one a => a.src
  | .and _ b => b.src
  | .or _ b => b.src
  | _ => []
def Wk.src : Wk → List Nat
  | .it e | .rev e | .enum e | .items e => e.src
  | .zip a b => a.src ++ b.src
  | .range _ => []
mutual
def E.pure : E → Bool
  | .var _ | .cst _ | .glob _ | .dnew => true
  | .bin _ a b => a.pure && b.pure
  | .neg a | .not a | .one a | .rev a => a.pure
  | .cmp _ a b | .and a b | .or a b => a.pure && b.pure
  | .chain _ _ a b c | .ite a b c => a.pure && b.pure && c.pure
  | .ix a b => a.pure && b.pure
  | .sl a lo hi => a.pure && lo.pure && hi.pure
  | .bi _ es => es.pure
  | .me _ r es => r.pure && es.pure
  | _ => false
def Es.pure : Es → Bool
  | .nil => true
  | .cons e r => e.pure && r.pure
def Eo.pure : Eo → Bool
  | .no => true
  | .so e => e.pure
end
def D.isIm : D → Bool
  | .im _ => true
  | _ => false
def Slot.isOwnMut : Slot → Bool
  | .own (.im _) => false
  | .own _ => true
  | _ => false
/-- places lent to a loop that reads from them -/
def lockAll : List Nat → En → En
  | [], e => e
  | i :: r, e => lockAll r (match e[i]? with
    | some (.own d) => if d.isIm then e else e.set i (.bor d)
    | _ => e)
def Slot.imOf : Slot → Slot
  | .own (.im x) => .own (.im x)
  | _ => .no
def Slot.borOf : Slot → Slot
  | .bor d => .bor d
  | _ => .no
/-- behind a loop: what was lent is owned again, what was borrowed in it is forgotten; own: a comprehension's names -/
def settleGo (src asg own : List Nat) : Nat → En → En → En
  | k, w :: ws, s :: ss => (if w.isOwnMut && src.contains k then w else if own.contains k then w.imOf else match s with
    | .bor _ => if asg.contains k then .no else w.borOf
    | s => s) :: settleGo src asg own (k + 1) ws ss
  | _, _, _ => []
def settle (was : En) (src asg own : List Nat) (e : En) : En := settleGo src asg own 0 was e
def clear : List Nat → En → En
  | [], e => e
  | i :: r, e => (clear r e).set i .no
def readS (i : Nat) (own : Bool) (e : En) : Out D := match e[i]? with
  | some (.own (.im x)) => .ok (.im x) e
  | some (.own d) => if own then .ok d (e.set i .no) else .ok d e
  | some (.bor (.im x)) => .ok (.im x) e
  | some (.bor d) => if own then .bad else .ok d e
  | _ => .bad
def lendS (i : Nat) (e : En) : Out (Slot × Option Nat) := match e[i]? with
  | some (.own (.im x)) => .ok (.own (.im x), none) e
  | some (.own d) => .ok (.own d, some i) (e.set i .no)
  | some (.bor d) => .ok (keepS d true, none) e
  | _ => .bad
def needIm (own : Bool) (d : D) (e : En) : Out D := if own then (if d.isIm then .ok d e else .bad) else .ok d e
/-- the first operand must stand still while the second one is reckoned -/
def still (d : D) (b : Bool) (o : Out D) : Out D := if d.isIm || b then o else .bad
def asBool (d : D) (e : En) : Out Bool := match d with
  | .im (.bl b) => .ok b e
  | _ => .bad
def asInt (d : D) (e : En) : Out Int := match d with
  | .im (.int i) => .ok i e
  | _ => .bad
def asIm (d : D) (e : En) : Out I := match d with
  | .im x => .ok x e
  | _ => .bad
def stillAll (ds : List D) : Bool := (ims ds).isSome
/-- the functions of the text: from the arguments' places to the value and the places behind -/
abbrev Fn := List Slot → Out D
structure Tab where
  fn : Str → Option Fn
  gl : Str → Option I
/-- put back what was lent -/
def giveBack : List (Option Nat) → List Slot → En → Option En
  | some i :: r, f :: fs, e => (match e[i]? with
    | some .no => giveBack r fs (e.set i f)
    | _ => none)
  | none :: r, _ :: fs, e => giveBack r fs e
  | [], _, e => some e
  | _, _, _ => none
def callF (f : Fn) (as : List (Slot × Option Nat)) (e : En) : Out D := match f (as.map (·.1)) with
  | .ok d fin => (match giveBack (as.map (·.2)) fin e with
    | some e' => .ok d e'
    | none => .bad)
  | .exc c x y _ => .exc c x y e
  | .bad => .bad
/-- where no error may leave -/
def Out.nx {α : Type} : Out α → Out α
  | .ok a e => .ok a e
  | _ => .bad
/-- the turns of a comprehension -/
def lcGo (turn : D → En → Out (Option D)) : List D → En → Out (List D)
  | [], e => .ok [] e
  | d :: ds, e => (turn d e).bind fun o e => (lcGo turn ds e).bind fun r e => .ok (match o with
    | some y => y :: r
    | none => r) e
section
variable (T : Tab)
mutual
def evalE : E → Bool → En → Out D
  | .var i, own, e => readS i own e
  | .cst x, _, e => .ok (.im x) e
  | .glob x, _, e => lift ((T.gl x).map .im) e
  | .tup es, _, e => (evalEs es e).bind fun ds e => .ok (mkTup ds) e
  | .lst es, _, e => (evalEs es e).bind fun ds e => .ok (.lst ds) e
  | .dnew, _, e => .ok (.dct false []) e
  | .bin op a b, _, e => (evalE a false e).bind fun x e => still x b.pure ((evalE b false e).bind fun y e => lift (binD op x y) e)
  | .neg a, _, e => (evalE a false e).bind fun x e => (asInt x e).bind fun i e => .ok (.im (.int (-i))) e
  | .not a, _, e => (evalE a false e).bind fun x e => (asBool x e).bind fun b e => .ok (.im (.bl (!b))) e
  | .cmp op a b, _, e => (evalE a false e).bind fun x e => still x b.pure ((evalE b false e).bind fun y e => lift ((cmpD op x y).map fun b => .im (.bl b)) e)
  | .chain o1 o2 a b c, _, e => (evalE a false e).bind fun x e => (asInt x e).bind fun i e => (evalE b false e).bind fun y e => (asInt y e).bind fun j e =>
      if cmpI o1 i j then (evalE c false e).bind fun z e => (asInt z e).bind fun k e => .ok (.im (.bl (cmpI o2 j k))) e else .ok (.im (.bl false)) e
  | .one a, own, e => evalE a own e
  | .and a b, own, e => (evalE a false e).bind fun x e => (asBool x e).bind fun k e => if k then evalE b own e else .ok (.im (.bl false)) e
  | .or a b, own, e => (evalE a false e).bind fun x e => (asBool x e).bind fun k e => if k then .ok (.im (.bl true)) e else evalE b own e
  | .ite c a b, own, e => (evalT c e).bind fun k e => if k then evalE a own e else evalE b own e
  | .ix a b, own, e => (evalE a false e).bind fun x e => (still x b.pure ((evalE b false e).bind fun y e => lift (ixD x y) e)).bind fun d e => needIm own d e
  | .sl a lo hi, own, e => (evalE a false e).bind fun x e => (still x (lo.pure && hi.pure) ((evalO lo e).bind fun l e => (evalO hi e).bind fun h e => lift (slD x l h) e)).bind fun d e => needIm own d e
  | .rev _, _, _ => .bad
  | .call f es, _, e => match T.fn f with
    | some g => (evalAs es e).bind fun as e => callF g as e
    | none => .bad
  | .bi f es, _, e => match es with
    | .cons a .nil => (evalE a false e).bind fun x e => lift (biD f [x]) e
    | .cons a (.cons b .nil) => (evalE a false e).bind fun x e => still x b.pure ((evalE b false e).bind fun y e => lift (biD f [x, y]) e)
    | _ => .bad
  | .me m r es, _, e => (evalE r false e).bind fun x e => if meOk m x then still x es.pure ((evalBs es e).bind fun xs e => lift (meD m x xs) e) else .bad
  | .mut m i es, _, e => if Mm.sup m = false then .bad else match e[i]? with
    | some (.own (.lst _)) => (evalEs es e).bind fun ds e => (match e[i]? with
      | some (.own d) => (match mutD m d ds with
        | some (r, d') => .ok r (e.set i (.own d'))
        | none => .bad)
      | _ => .bad)
    | _ => .bad
  | .lc w tg own c elt, _, e => (evalW w e).bind fun xs e => if xs.length ≤ big then
      (lcGo (fun d e => match bindT tg d true e with
        | some e1 => ((evalC c e1).bind fun k e2 => if k then (evalE elt true e2).bind fun y e3 => .ok (some y) (clear (own.map (·.2)) e3) else .ok none (clear (own.map (·.2)) e2)).nx
        | none => .bad) xs (clear (own.map (·.2)) (lockAll w.src e))).bind fun ys e' => .ok (.lst ys) (settle e w.src (own.map (·.2)) (own.map (·.2)) e') else .bad
def evalEs : Es → En → Out (List D)
  | .nil, e => .ok [] e
  | .cons a r, e => (evalE a true e).bind fun x e => (evalEs r e).bind fun xs e => .ok (x :: xs) e
/-- arguments that never change -/
def evalBs : Es → En → Out (List I)
  | .nil, e => .ok [] e
  | .cons a r, e => (evalE a false e).bind fun d e => (asIm d e).bind fun x e => (evalBs r e).bind fun xs e => .ok (x :: xs) e
/-- arguments of a call: a name's own thing is lent -/
def evalAs : Es → En → Out (List (Slot × Option Nat))
  | .nil, e => .ok [] e
  | .cons a r, e => (match a with
    | .var i => lendS i e
    | a => (evalE a true e).bind fun x e => .ok (Slot.own x, none) e).bind fun s e => (evalAs r e).bind fun ss e => .ok (s :: ss) e
def evalO : Eo → En → Out (Option Int)
  | .no, e => .ok none e
  | .so a, e => (evalE a false e).bind fun x e => (asInt x e).bind fun i e => .ok (some i) e
def evalC : Eo → En → Out Bool
  | .no, e => .ok true e
  | .so a, e => evalT a e
/-- a test -/
def evalT : E → En → Out Bool
  | .not a, e => (evalT a e).bind fun b e => .ok (!b) e
  | .one a, e => evalT a e
  | .and a b, e => (evalT a e).bind fun k e => if k then evalT b e else .ok false e
  | .or a b, e => (evalT a e).bind fun k e => if k then .ok true e else evalT b e
  | .ite _ _ _, _ => .bad
  | a, e => (evalE a false e).bind fun x e => asBool x e
def evalW : Wk → En → Out (List D)
  | .it a, e => (evalE a false e).bind fun x e => lift (wkD x) e
  | .rev a, e => (evalE a false e).bind fun x e => lift ((wkD x).map List.reverse) e
  | .range es, e => if es.len = 0 ∨ 2 < es.len then .bad else (evalEs es e).bind fun ds e => (match ds with
    | [.im (.int j)] => if j ≤ 1000000 ∧ -1000000 ≤ j then .ok (rangeL 0 j.toNat) e else .bad
    | [.im (.int i), .im (.int j)] => if (j ≤ 1000000 ∧ -1000000 ≤ j) ∧ (i ≤ 1000000 ∧ -1000000 ≤ i) then .ok (rangeL i (j - i).toNat) e else .bad
    | _ => .bad)
  | .enum _, _ => .bad
  | .zip _ _, _ => .bad
  | .items _, _ => .bad
end
end

end Kh

set_option Elab.async false
set_option linter.all false
set_option maxRecDepth 100000
set_option maxHeartbeats 1000000
/-! what a value by data is on the abstract heap: footprints, frames -/
namespace Kh
open PySem PySem.Spec PyProof.Rows L2

def keyOf : I → Option Key
  | .int i => some (.inl i)
  | .str s => some (.inr s)
  | _ => none
def keysOf : List I → Option (List Key)
  | [] => some []
  | x :: r => (keyOf x).bind fun k => (keysOf r).map (k :: ·)
def keyT : I → Option (List Key)
  | .tup xs => keysOf xs
  | _ => none

mutual
inductive IR (K : PySem.W.Frag) (H : Hp) : I → V → Prop
  | non : IR K H .non .non
  | bl (b : Bool) : IR K H (.bl b) (.bl b)
  | int (i : Int) : IR K H (.int i) (.int i)
  | str (s : Str) : IR K H (.str s) (.str s)
  | tup {xs : List I} {a : Addr} {vs : List V} : SqT K H a vs → IRs K H xs vs → IR K H (.tup xs) (.ref a)
inductive IRs (K : PySem.W.Frag) (H : Hp) : List I → List V → Prop
  | nil : IRs K H [] []
  | cons {x : I} {v : V} {xs : List I} {vs : List V} : IR K H x v → IRs K H xs vs → IRs K H (x :: xs) (v :: vs)
end
/-- the script -/
def SqF (K : PySem.W.Frag) (H : Hp) (a : Addr) (xs : List V) : Prop :=
  (∃ o, H a = some (.frz o (.lst xs))) ∨
    ∃ (o : Obj) (its : Array Value) (n : Nat), K.lookup a = some o ∧ o.cls = .type "list" ∧ o.dict = none ∧ o.data = .seq its n ∧ its.size ≤ sizeLine ∧ Vals xs its.toList
theorem SqF.l {K : PySem.W.Frag} {H : Hp} {a : Addr} {xs : List V} (h : SqF K H a xs) : SqL K H a xs := by
  rcases h with h | h
  · exact .inl (.inr h)
  · exact .inr h
mutual
inductive DR (K : PySem.W.Frag) (H : Hp) : D → V → List Addr → Prop
  | im {x : I} {v : V} : IR K H x v → DR K H (.im x) v []
  | tup {ds : List D} {a : Addr} {vs : List V} {S : List Addr} : SqT K H a vs → DRs K H ds vs S → DR K H (.tup ds) (.ref a) S
  | lst {ds : List D} {a : Addr} {vs : List V} {S : List Addr} : H a = some (.lst vs) → DRs K H ds vs S → DR K H (.lst ds) (.ref a) (a :: S)
  | dK {kvs : List (I × D)} {a : Addr} {ws : List (Key × V)} {S : List Addr} : (ws.map (·.1)).Nodup → Rd H a (.dK ws) → KRs K H kvs ws S → DR K H (.dct false kvs) (.ref a) (a :: S)
  | dT {kvs : List (I × D)} {a : Addr} {ws : List (List Key × V)} {S : List Addr} : (ws.map (·.1)).Nodup → Rd H a (.dT ws) → TRs K H kvs ws S → DR K H (.dct true kvs) (.ref a) (a :: S)
  | scr {ns : List Int} {a : Addr} : SqF K H a (ns.map V.int) → DR K H (.scr ns) (.ref a) []
inductive DRs (K : PySem.W.Frag) (H : Hp) : List D → List V → List Addr → Prop
  | nil : DRs K H [] [] []
  | cons {d : D} {v : V} {S : List Addr} {ds : List D} {vs : List V} {R : List Addr} : DR K H d v S → DRs K H ds vs R → DRs K H (d :: ds) (v :: vs) (S ++ R)
inductive KRs (K : PySem.W.Frag) (H : Hp) : List (I × D) → List (Key × V) → List Addr → Prop
  | nil : KRs K H [] [] []
  | cons {k : I} {q : Key} {d : D} {v : V} {S : List Addr} {ds : List (I × D)} {vs : List (Key × V)} {R : List Addr} : keyOf k = some q → DR K H d v S → KRs K H ds vs R → KRs K H ((k, d) :: ds) ((q, v) :: vs) (S ++ R)
inductive TRs (K : PySem.W.Frag) (H : Hp) : List (I × D) → List (List Key × V) → List Addr → Prop
  | nil : TRs K H [] [] []
  | cons {k : I} {q : List Key} {d : D} {v : V} {S : List Addr} {ds : List (I × D)} {vs : List (List Key × V)} {R : List Addr} : keyT k = some q → DR K H d v S → TRs K H ds vs R → TRs K H ((k, d) :: ds) ((q, v) :: vs) (S ++ R)
end

/-- what never goes: tuples, locked things -/
def isPers : HO → Bool
  | .tup _ => true
  | .frz _ _ => true
  | _ => false
def isMut : HO → Bool
  | .lst _ => true
  | .dK _ => true
  | .dT _ => true
  | _ => false
def MutAt (H : Hp) (a : Addr) : Prop := ∃ o, H a = some o ∧ isMut o = true
def Stay (H H' : Hp) (S : List Addr) : Prop := ∀ a o, H a = some o → (isPers o = true ∨ a ∈ S) → H' a = some o
theorem Stay.mono {H H' : Hp} {S R : List Addr} (h : Stay H H' S) (s : ∀ a ∈ R, a ∈ S) : Stay H H' R := fun a o e q => h a o e (q.imp id (s a))
theorem SqT.stay {K : PySem.W.Frag} {H H' : Hp} {S : List Addr} {a : Addr} {vs : List V} (h : Stay H H' S) (q : SqT K H a vs) : SqT K H' a vs := by
  rcases q with (q | ⟨o, q⟩) | q
  · exact .inl (.inl (h _ _ q (.inl rfl)))
  · exact .inl (.inr ⟨o, h _ _ q (.inl rfl)⟩)
  · exact .inr q
mutual
theorem IR.stay {K : PySem.W.Frag} {H H' : Hp} {S : List Addr} (h : Stay H H' S) : ∀ {x : I} {v : V}, IR K H x v → IR K H' x v
  | _, _, .non => .non
  | _, _, .bl b => .bl b
  | _, _, .int i => .int i
  | _, _, .str s => .str s
  | _, _, .tup q r => .tup (SqT.stay h q) (IRs.stay h r)
theorem IRs.stay {K : PySem.W.Frag} {H H' : Hp} {S : List Addr} (h : Stay H H' S) : ∀ {x : List I} {v : List V}, IRs K H x v → IRs K H' x v
  | _, _, .nil => .nil
  | _, _, .cons a r => .cons (IR.stay h a) (IRs.stay h r)
end
theorem Rd.stay {H H' : Hp} {S : List Addr} {a : Addr} {u : HO} (h : Stay H H' S) (m : a ∈ S) (q : Rd H a u) : Rd H' a u := by
  rcases q with q | ⟨o, q⟩
  · exact .inl (h _ _ q (.inr m))
  · exact .inr ⟨o, h _ _ q (.inr m)⟩
theorem SqF.stay {K : PySem.W.Frag} {H H' : Hp} {S : List Addr} {a : Addr} {vs : List V} (h : Stay H H' S) (q : SqF K H a vs) : SqF K H' a vs := by
  rcases q with ⟨o, q⟩ | q
  · exact .inl ⟨o, h _ _ q (.inl rfl)⟩
  · exact .inr q
mutual
theorem DR.stay {K : PySem.W.Frag} {H H' : Hp} : ∀ {d : D} {v : V} {S : List Addr}, DR K H d v S → Stay H H' S → DR K H' d v S
  | _, _, _, .im q, h => .im (IR.stay h q)
  | _, _, _, .tup q r, h => .tup (SqT.stay h q) (DRs.stay r h)
  | _, _, _, .lst q r, h => .lst (h _ _ q (.inr List.mem_cons_self)) (DRs.stay r (h.mono fun a m => List.mem_cons_of_mem _ m))
  | _, _, _, .dK n q r, h => .dK n (Rd.stay h (List.mem_cons_self) q) (KRs.stay r (h.mono fun a m => List.mem_cons_of_mem _ m))
  | _, _, _, .dT n q r, h => .dT n (Rd.stay h (List.mem_cons_self) q) (TRs.stay r (h.mono fun a m => List.mem_cons_of_mem _ m))
  | _, _, _, .scr q, h => .scr (SqF.stay h q)
theorem DRs.stay {K : PySem.W.Frag} {H H' : Hp} : ∀ {d : List D} {v : List V} {S : List Addr}, DRs K H d v S → Stay H H' S → DRs K H' d v S
  | _, _, _, .nil, h => .nil
  | _, _, _, .cons a r, h => .cons (DR.stay a (h.mono fun a m => List.mem_append_left _ m)) (DRs.stay r (h.mono fun a m => List.mem_append_right _ m))
theorem KRs.stay {K : PySem.W.Frag} {H H' : Hp} : ∀ {d : List (I × D)} {v : List (Key × V)} {S : List Addr}, KRs K H d v S → Stay H H' S → KRs K H' d v S
  | _, _, _, .nil, h => .nil
  | _, _, _, .cons e a r, h => .cons e (DR.stay a (h.mono fun a m => List.mem_append_left _ m)) (KRs.stay r (h.mono fun a m => List.mem_append_right _ m))
theorem TRs.stay {K : PySem.W.Frag} {H H' : Hp} : ∀ {d : List (I × D)} {v : List (List Key × V)} {S : List Addr}, TRs K H d v S → Stay H H' S → TRs K H' d v S
  | _, _, _, .nil, h => .nil
  | _, _, _, .cons e a r, h => .cons e (DR.stay a (h.mono fun a m => List.mem_append_left _ m)) (TRs.stay r (h.mono fun a m => List.mem_append_right _ m))
end
/-- what stands at a footprint's address: it is there -/
def There (H : Hp) (a : Addr) : Prop := ∃ o, H a = some o
theorem rd_there {H : Hp} {a : Addr} {u : HO} (q : Rd H a u) : There H a := by
  rcases q with q | ⟨o, q⟩
  · exact ⟨_, q⟩
  · exact ⟨_, q⟩
mutual
theorem DR.there {K : PySem.W.Frag} {H : Hp} : ∀ {d : D} {v : V} {S : List Addr}, DR K H d v S → ∀ a ∈ S, There H a
  | _, _, _, .im q, a, m => nomatch m
  | _, _, _, .tup q r, a, m => DRs.there r a m
  | _, _, _, .lst q r, a, m => by
    rcases List.mem_cons.mp m with e | m
    · subst e; exact ⟨_, q⟩
    · exact DRs.there r a m
  | _, _, _, .dK n q r, a, m => by
    rcases List.mem_cons.mp m with e | m
    · subst e; exact rd_there q
    · exact KRs.there r a m
  | _, _, _, .dT n q r, a, m => by
    rcases List.mem_cons.mp m with e | m
    · subst e; exact rd_there q
    · exact TRs.there r a m
  | _, _, _, .scr q, a, m => nomatch m
theorem DRs.there {K : PySem.W.Frag} {H : Hp} : ∀ {d : List D} {v : List V} {S : List Addr}, DRs K H d v S → ∀ a ∈ S, There H a
  | _, _, _, .nil, a, m => nomatch m
  | _, _, _, .cons x r, a, m => (List.mem_append.mp m).elim (DR.there x a) (DRs.there r a)
theorem KRs.there {K : PySem.W.Frag} {H : Hp} : ∀ {d : List (I × D)} {v : List (Key × V)} {S : List Addr}, KRs K H d v S → ∀ a ∈ S, There H a
  | _, _, _, .nil, a, m => nomatch m
  | _, _, _, .cons _ x r, a, m => (List.mem_append.mp m).elim (DR.there x a) (KRs.there r a)
theorem TRs.there {K : PySem.W.Frag} {H : Hp} : ∀ {d : List (I × D)} {v : List (List Key × V)} {S : List Addr}, TRs K H d v S → ∀ a ∈ S, There H a
  | _, _, _, .nil, a, m => nomatch m
  | _, _, _, .cons _ x r, a, m => (List.mem_append.mp m).elim (DR.there x a) (TRs.there r a)
end
theorem DRs.length {K : PySem.W.Frag} {H : Hp} : ∀ {d : List D} {v : List V} {S : List Addr}, DRs K H d v S → d.length = v.length
  | _, _, _, .nil => rfl
  | _, _, _, .cons _ r => congrArg (· + 1) (DRs.length r)
theorem IRs.length {K : PySem.W.Frag} {H : Hp} : ∀ {d : List I} {v : List V}, IRs K H d v → d.length = v.length
  | _, _, .nil => rfl
  | _, _, .cons _ r => congrArg (· + 1) (IRs.length r)
theorem KRs.length {K : PySem.W.Frag} {H : Hp} : ∀ {d : List (I × D)} {v : List (Key × V)} {S : List Addr}, KRs K H d v S → d.length = v.length
  | _, _, _, .nil => rfl
  | _, _, _, .cons _ _ r => congrArg (· + 1) (KRs.length r)
theorem IRs.get {K : PySem.W.Frag} {H : Hp} : ∀ {d : List I} {v : List V} {j : Nat} {x : I}, IRs K H d v → d[j]? = some x → ∃ u, v[j]? = some u ∧ IR K H x u
  | _, _, 0, _, .cons a r, e => by
    cases Option.some.inj e
    exact ⟨_, rfl, a⟩
  | _, _, j + 1, _, .cons a r, e => IRs.get (j := j) r e
  | _, _, _, _, .nil, e => by simp at e
theorem DRs.get {K : PySem.W.Frag} {H : Hp} : ∀ {d : List D} {v : List V} {S : List Addr} {j : Nat} {x : D}, DRs K H d v S → d[j]? = some x → ∃ u R, v[j]? = some u ∧ DR K H x u R ∧ ∀ a ∈ R, a ∈ S
  | _, _, _, 0, _, .cons a r, e => by
    cases Option.some.inj e
    exact ⟨_, _, rfl, a, fun _ m => List.mem_append_left _ m⟩
  | _, _, _, j + 1, _, .cons a r, e => by
    obtain ⟨u, R, h1, h2, h3⟩ := DRs.get (j := j) r e
    exact ⟨u, R, h1, h2, fun a m => List.mem_append_right _ (h3 a m)⟩
  | _, _, _, _, _, .nil, e => by simp at e
theorem IRs.append {K : PySem.W.Frag} {H : Hp} : ∀ {d e : List I} {v w : List V}, IRs K H d v → IRs K H e w → IRs K H (d ++ e) (v ++ w)
  | _, _, _, _, .nil, s => s
  | _, _, _, _, .cons a r, s => .cons a (IRs.append r s)
theorem DRs.append {K : PySem.W.Frag} {H : Hp} : ∀ {d e : List D} {v w : List V} {S R : List Addr}, DRs K H d v S → DRs K H e w R → DRs K H (d ++ e) (v ++ w) (S ++ R)
  | _, _, _, _, _, _, .nil, s => s
  | _, _, _, _, _, _, .cons a r, s => by
    rw [List.append_assoc]
    exact .cons a (DRs.append r s)
theorem DRs.of_ims {K : PySem.W.Frag} {H : Hp} : ∀ {ds : List D} {xs : List I} {vs : List V} {S : List Addr}, DRs K H ds vs S → ims ds = some xs → S = [] ∧ ds = xs.map .im ∧ IRs K H xs vs
  | _, _, _, _, .nil, e => by
    cases e
    exact ⟨rfl, rfl, .nil⟩
  | _, xs, _, _, .cons (ds := ds) (.im a) r, e => by
    cases q : ims ds with
    | none => rw [ims, q] at e; cases e
    | some ys =>
      rw [ims, q] at e
      cases e
      obtain ⟨rfl, e2, h⟩ := DRs.of_ims r q
      exact ⟨rfl, by rw [e2]; rfl, .cons a h⟩
  | _, _, _, _, .cons (.tup _ _) r, e => nomatch e
  | _, _, _, _, .cons (.lst _ _) r, e => nomatch e
  | _, _, _, _, .cons (.dK _ _ _) r, e => nomatch e
  | _, _, _, _, .cons (.dT _ _ _) r, e => nomatch e
  | _, _, _, _, .cons (.scr _) r, e => nomatch e
theorem DRs.ims {K : PySem.W.Frag} {H : Hp} : ∀ {xs : List I} {vs : List V}, IRs K H xs vs → DRs K H (xs.map .im) vs []
  | _, _, .nil => .nil
  | _, _, .cons a r => DRs.cons (S := []) (.im a) (DRs.ims r)
theorem ims_map : ∀ xs : List I, ims (xs.map .im) = some xs
  | [] => rfl
  | x :: xs => by
    show (ims (xs.map .im)).map (x :: ·) = _
    rw [ims_map xs]
    rfl
theorem IRs.of_ints {K : PySem.W.Frag} {H : Hp} : ∀ {xs : List I} {ns : List Int} {vs : List V}, IRs K H xs vs → intsOf xs = some ns → vs = ns.map V.int
  | _, _, _, .nil, e => by
    cases e
    rfl
  | _, ns, _, .cons (xs := xs) (.int i) r, e => by
    cases q : intsOf xs with
    | none => rw [intsOf, q] at e; cases e
    | some ys =>
      rw [intsOf, q] at e
      cases e
      rw [IRs.of_ints r q]
      rfl
  | _, _, _, .cons .non r, e => nomatch e
  | _, _, _, .cons (.bl _) r, e => nomatch e
  | _, _, _, .cons (.str _) r, e => nomatch e
  | _, _, _, .cons (.tup _ _) r, e => nomatch e
theorem IRs.ints {K : PySem.W.Frag} {H : Hp} : ∀ ns : List Int, IRs K H (ns.map I.int) (ns.map V.int)
  | [] => .nil
  | n :: ns => .cons (.int n) (IRs.ints ns)
end Kh

set_option Elab.async false
set_option linter.all false
set_option maxRecDepth 100000
set_option maxHeartbeats 1000000
/-! the places and the abstract heap; frames -/
namespace Kh
open PySem PySem.Spec PyProof.Rows L2

abbrev Foot := Nat → List Addr
def Foot.set (S : Foot) (i : Nat) (R : List Addr) : Foot := fun j => if j = i then R else S j
theorem Foot.set_same {S : Foot} {i : Nat} {R : List Addr} : S.set i R i = R := if_pos rfl
theorem Foot.set_ne {S : Foot} {i j : Nat} {R : List Addr} (h : j ≠ i) : S.set i R j = S j := if_neg h

structure SR (K : PySem.W.Frag) (P : List Addr) (H : Hp) (σ : L2.St) (ρ : En) (S : Foot) : Prop where
  len : ρ.length = σ.length
  own : ∀ (i : Nat) (d : D), ρ[i]? = some (Slot.own d) → ∃ v, σ[i]? = some (some v) ∧ DR K H d v (S i)
  bor : ∀ (i : Nat) (d : D), ρ[i]? = some (Slot.bor d) → ∃ v R, σ[i]? = some (some v) ∧ DR K H d v R ∧ ∀ a ∈ R, a ∈ P
  emp : ∀ (i : Nat), (∀ d : D, ρ[i]? ≠ some (Slot.own d)) → S i = []
  nd : ∀ (i : Nat), (S i).Nodup
  dj : ∀ (i j : Nat) (a : Addr), a ∈ S i → a ∈ S j → i = j
  mu : ∀ (i : Nat) (a : Addr), a ∈ S i → MutAt H a
  pt : ∀ (i : Nat) (a : Addr), a ∈ S i → a ∉ P
  pa : ∀ a ∈ P, There H a

structure Fr (p : Bool) (H : Hp) (S : Foot) (H' : Hp) (S' : Foot) : Prop where
  keep : ∀ a o, H a = some o → (∀ i, a ∉ S i) → H' a = some o
  own : ∀ i a, a ∈ S' i → (∃ j, a ∈ S j) ∨ H a = none
  pur : p = true → S' = S ∧ ∀ a o, H a = some o → H' a = some o
theorem Fr.refl {p : Bool} {H : Hp} {S : Foot} : Fr p H S H S := ⟨fun _ _ e _ => e, fun i a m => .inl ⟨i, m⟩, fun _ => ⟨rfl, fun _ _ e => e⟩⟩
theorem Fr.ext {p : Bool} {H H' : Hp} {S : Foot} (h : ∀ a o, H a = some o → H' a = some o) : Fr p H S H' S := ⟨fun a o e _ => h a o e, fun i a m => .inl ⟨i, m⟩, fun _ => ⟨rfl, h⟩⟩
theorem Fr.weak {p : Bool} {H H' : Hp} {S S' : Foot} (h : Fr p H S H' S') : Fr false H S H' S' := ⟨h.keep, h.own, fun e => nomatch e⟩
theorem Fr.none_of {p : Bool} {H H' : Hp} {S S' : Foot} (h : Fr p H S H' S') {a : Addr} (e : H' a = none) : (∃ i, a ∈ S i) ∨ H a = none := by
  cases q : H a with
  | none => exact .inr rfl
  | some o =>
    by_cases z : ∃ i, a ∈ S i
    · exact .inl z
    · have := h.keep a o q fun i m => z ⟨i, m⟩
      rw [e] at this; cases this
theorem Fr.prov {p : Bool} {H H' : Hp} {S S' : Foot} (h : Fr p H S H' S') {a : Addr} (e : (∃ i, a ∈ S' i) ∨ H' a = none) : (∃ i, a ∈ S i) ∨ H a = none := by
  rcases e with ⟨i, m⟩ | e
  · exact h.own i a m
  · exact h.none_of e
theorem Fr.trans {p q : Bool} {H H' H'' : Hp} {S S' S'' : Foot} (a : Fr p H S H' S') (b : Fr q H' S' H'' S'') : Fr (p && q) H S H'' S'' := by
  refine ⟨fun x o e n => ?_, fun i x m => a.prov (b.own i x m), fun e => ?_⟩
  · refine b.keep x o (a.keep x o e n) fun i m => ?_
    rcases a.own i x m with ⟨j, z⟩ | z
    · exact n j z
    · rw [z] at e; cases e
  · rw [Bool.and_eq_true] at e
    obtain ⟨e1, k1⟩ := a.pur e.1
    obtain ⟨e2, k2⟩ := b.pur e.2
    exact ⟨e2.trans e1, fun x o h => k2 x o (k1 x o h)⟩
theorem Fr.trans' {p q : Bool} {H H' H'' : Hp} {S S' S'' : Foot} (a : Fr p H S H' S') (b : Fr q H' S' H'' S'') : Fr false H S H'' S'' := (a.trans b).weak

section
variable {K : PySem.W.Frag} {P : List Addr} {H H' : Hp} {σ : L2.St} {ρ : En} {S S' : Foot} {p : Bool}
theorem SR.pers (R : SR K P H σ ρ S) {a : Addr} {o : HO} (e : H a = some o) (h : isPers o = true) (i : Nat) : a ∉ S i := fun m => by
  obtain ⟨u, e', z⟩ := R.mu i a m
  rw [e] at e'; cases e'
  cases o <;> simp_all [isPers, isMut]
theorem SR.stayP (R : SR K P H σ ρ S) (F : Fr p H S H' S') : Stay H H' P := fun a o e h => by
  refine F.keep a o e fun i m => ?_
  rcases h with h | h
  · exact R.pers e h i m
  · exact R.pt i a m h
/-- data that lie apart from all owned things stay -/
theorem SR.stay (R : SR K P H σ ρ S) (F : Fr p H S H' S') {L : List Addr} (h : ∀ a ∈ L, ∀ i, a ∉ S i) : Stay H H' L := fun a o e q => by
  refine F.keep a o e fun i m => ?_
  rcases q with q | q
  · exact R.pers e q i m
  · exact h a q i m
theorem Stay.ext {L : List Addr} (h : ∀ a o, H a = some o → H' a = some o) : Stay H H' L := fun a o e _ => h a o e
/-- a heap that has grown -/
theorem SR.grow (R : SR K P H σ ρ S) (h : ∀ a o, H a = some o → H' a = some o) : SR K P H' σ ρ S where
  len := R.len
  own := fun i d e => let ⟨v, a, b⟩ := R.own i d e; ⟨v, a, b.stay (Stay.ext h)⟩
  bor := fun i d e => let ⟨v, q, a, b, c⟩ := R.bor i d e; ⟨v, q, a, b.stay (Stay.ext h), c⟩
  emp := R.emp
  nd := R.nd
  dj := R.dj
  mu := fun i a m => let ⟨o, e, z⟩ := R.mu i a m; ⟨o, h _ _ e, z⟩
  pt := R.pt
  pa := fun a m => let ⟨o, e⟩ := R.pa a m; ⟨o, h _ _ e⟩
theorem grow_new {H : Hp} {p : Addr} {o : HO} (h : H p = none) : ∀ a u, H a = some u → upd H p o a = some u := fun a u e => by
  rw [upd_ne (ne_of_none e h)]; exact e
/-- a place is emptied -/
theorem SR.drop (R : SR K P H σ ρ S) (i : Nat) {w : Option V} : SR K P H (σ.set i w) (ρ.set i Slot.no) (S.set i []) where
  len := by simp [R.len]
  own := fun j d e => by
    by_cases h : j = i
    · subst h
      rw [List.getElem?_set] at e
      simp only [if_true] at e
      split at e <;> cases e
    · rw [List.getElem?_set_ne (Ne.symm h)] at e
      rw [List.getElem?_set_ne (Ne.symm h), Foot.set_ne h]
      exact R.own j d e
  bor := fun j d e => by
    by_cases h : j = i
    · subst h
      rw [List.getElem?_set] at e
      simp only [if_true] at e
      split at e <;> cases e
    · rw [List.getElem?_set_ne (Ne.symm h)] at e
      rw [List.getElem?_set_ne (Ne.symm h)]
      exact R.bor j d e
  emp := fun j e => by
    by_cases h : j = i
    · subst h; exact Foot.set_same
    · rw [Foot.set_ne h]
      refine R.emp j fun d q => e d ?_
      rw [List.getElem?_set_ne (Ne.symm h)]; exact q
  nd := fun j => by
    by_cases h : j = i
    · subst h; rw [Foot.set_same]; exact List.nodup_nil
    · rw [Foot.set_ne h]; exact R.nd j
  dj := fun j k a m n => by
    by_cases h : j = i
    · subst h; rw [Foot.set_same] at m; cases m
    · by_cases h' : k = i
      · subst h'; rw [Foot.set_same] at n; cases n
      · rw [Foot.set_ne h] at m; rw [Foot.set_ne h'] at n; exact R.dj j k a m n
  mu := fun j a m => by
    by_cases h : j = i
    · subst h; rw [Foot.set_same] at m; cases m
    · rw [Foot.set_ne h] at m; exact R.mu j a m
  pt := fun j a m => by
    by_cases h : j = i
    · subst h; rw [Foot.set_same] at m; cases m
    · rw [Foot.set_ne h] at m; exact R.pt j a m
  pa := R.pa
theorem set_self {σ : L2.St} {i : Nat} {w : Option V} (h : σ[i]? = some w) : σ.set i w = σ := by
  apply List.ext_getElem?
  intro j
  by_cases e : i = j
  · subst e
    rw [List.getElem?_set]
    obtain ⟨q, z⟩ := List.getElem?_eq_some_iff.mp h
    simp [q, z]
  · rw [List.getElem?_set_ne e]
theorem SR.drop' (R : SR K P H σ ρ S) (i : Nat) : SR K P H σ (ρ.set i Slot.no) (S.set i []) := by
  by_cases h : i < σ.length
  · have q := R.drop i (w := σ[i])
    rw [set_self (by simp [h])] at q
    exact q
  · have e : ρ.set i Slot.no = ρ := List.set_eq_of_length_le (by rw [R.len]; omega)
    have n : ρ[i]? = none := List.getElem?_eq_none (by rw [R.len]; omega)
    have z : S.set i [] = S := by
      funext j
      by_cases q : j = i
      · subst q; rw [Foot.set_same]; exact (R.emp j fun d w => by rw [n] at w; cases w).symm
      · exact Foot.set_ne q
    rw [e, z]; exact R
/-- a place gets a value of its own; the heap may have changed at what it owned -/
theorem SR.put (R : SR K P H σ ρ S) {i : Nat} {d : D} {v : V} {L : List Addr} (hi : i < ρ.length) (k : ∀ a o, H a = some o → a ∉ S i → H' a = some o)
    (hd : DR K H' d v L) (nd : L.Nodup) (hL : ∀ a ∈ L, MutAt H' a ∧ (∀ j, j ≠ i → a ∉ S j) ∧ a ∉ P) : SR K P H' (σ.set i (some v)) (ρ.set i (Slot.own d)) (S.set i L) where
  len := by simp [R.len]
  own := fun j e q => by
    by_cases h : j = i
    · subst h
      rw [List.getElem?_set_self hi] at q
      cases q
      exact ⟨v, List.getElem?_set_self (by rw [← R.len]; exact hi), by rw [Foot.set_same]; exact hd⟩
    · rw [List.getElem?_set_ne (Ne.symm h)] at q
      rw [List.getElem?_set_ne (Ne.symm h), Foot.set_ne h]
      obtain ⟨u, a, b⟩ := R.own j e q
      exact ⟨u, a, b.stay fun x o ex hx => k x o ex fun m => by
        rcases hx with hx | hx
        · exact R.pers ex hx i m
        · exact h (R.dj j i x hx m)⟩
  bor := fun j e q => by
    by_cases h : j = i
    · subst h
      rw [List.getElem?_set_self hi] at q
      cases q
    · rw [List.getElem?_set_ne (Ne.symm h)] at q
      rw [List.getElem?_set_ne (Ne.symm h)]
      obtain ⟨u, r, a, b, c⟩ := R.bor j e q
      exact ⟨u, r, a, b.stay fun x o ex hx => k x o ex fun m => by
        rcases hx with hx | hx
        · exact R.pers ex hx i m
        · exact R.pt i x m (c x hx), c⟩
  emp := fun j e => by
    by_cases h : j = i
    · subst h
      exact absurd (List.getElem?_set_self hi) (e d)
    · rw [Foot.set_ne h]
      refine R.emp j fun d q => e d ?_
      rw [List.getElem?_set_ne (Ne.symm h)]; exact q
  nd := fun j => by
    by_cases h : j = i
    · subst h; rw [Foot.set_same]; exact nd
    · rw [Foot.set_ne h]; exact R.nd j
  dj := fun j l a m n => by
    by_cases h : j = i
    · by_cases h' : l = i
      · exact h.trans h'.symm
      · subst h; rw [Foot.set_same] at m; rw [Foot.set_ne h'] at n; exact absurd n ((hL a m).2.1 l h')
    · by_cases h' : l = i
      · subst h'; rw [Foot.set_same] at n; rw [Foot.set_ne h] at m; exact absurd m ((hL a n).2.1 j h)
      · rw [Foot.set_ne h] at m; rw [Foot.set_ne h'] at n; exact R.dj j l a m n
  mu := fun j a m => by
    by_cases h : j = i
    · subst h; rw [Foot.set_same] at m; exact (hL a m).1
    · rw [Foot.set_ne h] at m
      obtain ⟨o, e, z⟩ := R.mu j a m
      exact ⟨o, k a o e fun n => h (R.dj j i a m n), z⟩
  pt := fun j a m => by
    by_cases h : j = i
    · subst h; rw [Foot.set_same] at m; exact (hL a m).2.2
    · rw [Foot.set_ne h] at m; exact R.pt j a m
  pa := fun a m => by
    obtain ⟨o, e⟩ := R.pa a m
    exact ⟨o, k a o e fun n => R.pt i a n m⟩
/-- a place gets a borrowed value -/
theorem SR.lend (R : SR K P H σ ρ S) {i : Nat} {d : D} {v : V} {L : List Addr} (hd : DR K H d v L) (hL : ∀ a ∈ L, a ∈ P) : SR K P H (σ.set i (some v)) (ρ.set i (Slot.bor d)) (S.set i []) where
  len := by simp [R.len]
  own := fun j e q => by
    by_cases h : j = i
    · subst h
      rw [List.getElem?_set] at q
      simp only [if_true] at q
      split at q <;> cases q
    · rw [List.getElem?_set_ne (Ne.symm h)] at q
      rw [List.getElem?_set_ne (Ne.symm h), Foot.set_ne h]
      exact R.own j e q
  bor := fun j e q => by
    by_cases h : j = i
    · subst h
      by_cases hi : j < ρ.length
      · rw [List.getElem?_set_self hi] at q
        cases q
        exact ⟨v, L, List.getElem?_set_self (by rw [← R.len]; exact hi), hd, hL⟩
      · rw [List.getElem?_eq_none (by rw [List.length_set]; omega)] at q; cases q
    · rw [List.getElem?_set_ne (Ne.symm h)] at q
      rw [List.getElem?_set_ne (Ne.symm h)]
      exact R.bor j e q
  emp := fun j e => by
    by_cases h : j = i
    · subst h; exact Foot.set_same
    · rw [Foot.set_ne h]
      refine R.emp j fun d q => e d ?_
      rw [List.getElem?_set_ne (Ne.symm h)]; exact q
  nd := fun j => by
    by_cases h : j = i
    · subst h; rw [Foot.set_same]; exact List.nodup_nil
    · rw [Foot.set_ne h]; exact R.nd j
  dj := fun j k a m n => by
    by_cases h : j = i
    · subst h; rw [Foot.set_same] at m; cases m
    · by_cases h' : k = i
      · subst h'; rw [Foot.set_same] at n; cases n
      · rw [Foot.set_ne h] at m; rw [Foot.set_ne h'] at n; exact R.dj j k a m n
  mu := fun j a m => by
    by_cases h : j = i
    · subst h; rw [Foot.set_same] at m; cases m
    · rw [Foot.set_ne h] at m; exact R.mu j a m
  pt := fun j a m => by
    by_cases h : j = i
    · subst h; rw [Foot.set_same] at m; cases m
    · rw [Foot.set_ne h] at m; exact R.pt j a m
  pa := R.pa
theorem Fr.drop {i : Nat} : Fr false H S H (S.set i []) := ⟨fun _ _ e _ => e, fun j a m => by
  by_cases h : j = i
  · subst h; rw [Foot.set_same] at m; cases m
  · rw [Foot.set_ne h] at m; exact .inl ⟨j, m⟩, fun e => nomatch e⟩
theorem Fr.put {i : Nat} {L : List Addr} (k : ∀ a o, H a = some o → a ∉ S i → H' a = some o) (hL : ∀ a ∈ L, (∃ j, a ∈ S j) ∨ H a = none) : Fr false H S H' (S.set i L) := ⟨fun a o e n => k a o e (n i), fun j a m => by
  by_cases h : j = i
  · subst h; rw [Foot.set_same] at m; exact hL a m
  · rw [Foot.set_ne h] at m; exact .inl ⟨j, m⟩, fun e => nomatch e⟩
end

/-- where a result's things are from: locked, of the places named, or nobody's; with own: nobody's but its own -/
structure Res (own : Bool) (src : List Nat) (P : List Addr) (H : Hp) (S : Foot) (H' : Hp) (S' : Foot) (L : List Addr) : Prop where
  any : ∀ a ∈ L, a ∈ P ∨ (∃ i ∈ src, a ∈ S' i) ∨ ∀ i, a ∉ S' i
  mine : own = true → L.Nodup ∧ ∀ a ∈ L, (∀ i, a ∉ S' i) ∧ a ∉ P ∧ ((∃ i, a ∈ S i) ∨ H a = none) ∧ MutAt H' a
theorem Res.nil {own : Bool} {src : List Nat} {P : List Addr} {H H' : Hp} {S S' : Foot} : Res own src P H S H' S' [] := ⟨fun _ m => absurd m (List.not_mem_nil), fun _ => ⟨List.nodup_nil, fun _ m => absurd m (List.not_mem_nil)⟩⟩
theorem Res.of {own : Bool} {src : List Nat} {P : List Addr} {H H' : Hp} {S S' : Foot} {L : List Addr} (h : L.Nodup ∧ ∀ a ∈ L, (∀ i, a ∉ S' i) ∧ a ∉ P ∧ ((∃ i, a ∈ S i) ∨ H a = none) ∧ MutAt H' a) : Res own src P H S H' S' L :=
  ⟨fun a m => .inr (.inr (h.2 a m).1), fun _ => h⟩
theorem Res.src {own : Bool} {src src' : List Nat} {P : List Addr} {H H' : Hp} {S S' : Foot} {L : List Addr} (h : Res own src P H S H' S' L) (s : ∀ i ∈ src, i ∈ src') : Res own src' P H S H' S' L :=
  ⟨fun a m => (h.any a m).imp id (Or.imp (fun ⟨i, x, y⟩ => ⟨i, s i x, y⟩) id), h.mine⟩
/-- over an earlier beginning -/
theorem Res.back {own p : Bool} {src : List Nat} {P : List Addr} {H0 H H' : Hp} {S0 S S' : Foot} {L : List Addr} (F : Fr p H0 S0 H S) (h : Res own src P H S H' S' L) : Res own src P H0 S0 H' S' L :=
  ⟨h.any, fun e => ⟨(h.mine e).1, fun a m => let ⟨x, y, z, w⟩ := (h.mine e).2 a m; ⟨x, y, F.prov z, w⟩⟩⟩
end Kh

set_option Elab.async false
set_option linter.all false
set_option maxRecDepth 100000
set_option maxHeartbeats 1000000
/-! what is wanted of a result; the facts of a context; the check that an expression is the one of the text -/
namespace Kh
open PySem PySem.Spec PyProof.Rows L2

/-- an error's own dict -/
def ExcAt (K : PySem.W.Frag) (H : Hp) (dd : Addr) (x y : I) : Prop :=
  ∃ fs vx vy, H dd = some (.xd fs) ∧ fs.lookup ("code" : Str) = some vx ∧ fs.lookup ("place" : Str) = some vy ∧ IR K H x vx ∧ IR K H y vy

section
variable (K : PySem.W.Frag) (mg : Str → Option Value)
def OkP {α : Type} (W : WX) (p : Bool) (Pr : List Addr) (σ : L2.St) (H : Hp) (S : Foot) (fin : α → En → Hp → Foot → Prop) : Out α → Prop
  | .ok d e => ∀ H' S', SR K Pr H' σ e S' → Fr p H S H' S' → fin d e H' S'
  | .exc c x y e => ∀ C dd H' S', mg c = some (.ref C) → SR K Pr H' σ e S' → Fr false H S H' S' → ExcAt K H' dd x y → W (.ref C) (some dd) σ H'
  | .bad => False
def finE (own : Bool) (src : List Nat) (Pr : List Addr) (H : Hp) (S : Foot) (Q : VK) (d : D) (_ : En) (H' : Hp) (S' : Foot) : Prop :=
  ∀ v L, DR K H' d v L → Res own src Pr H S H' S' L → Q v H'
def finEs (Pr : List Addr) (H : Hp) (S : Foot) (Q : List V → Hp → Prop) (ds : List D) (_ : En) (H' : Hp) (S' : Foot) : Prop :=
  ∀ vs L, DRs K H' ds vs L → Res true [] Pr H S H' S' L → Q vs H'
/-- a new value, the heap has grown -/
structure Fresh (H H' : Hp) (L : List Addr) : Prop where
  nd : L.Nodup
  new : ∀ a ∈ L, H a = none
  mu : ∀ a ∈ L, MutAt H' a
def VOk (H : Hp) (z : D) (Q : VK) : Prop := ∀ H' w L, (∀ a o, H a = some o → H' a = some o) → DR K H' z w L → Fresh H H' L → Q w H'
/-- a part of what lies at L -/
def POk (H : Hp) (z : D) (L : List Addr) (Q : VK) : Prop := ∀ w R, DR K H z w R → (∀ a ∈ R, a ∈ L) → Q w H
end
theorem Fresh.nil {H H' : Hp} : Fresh H H' [] := ⟨List.nodup_nil, fun _ m => absurd m List.not_mem_nil, fun _ m => absurd m List.not_mem_nil⟩
theorem Fresh.one {H : Hp} {p : Addr} {o : HO} (h : H p = none) (m : isMut o = true) : Fresh H (upd H p o) [p] :=
  ⟨by simp, fun a q => by rw [List.mem_singleton.mp q]; exact h, fun a q => by rw [List.mem_singleton.mp q]; exact ⟨o, upd_same, m⟩⟩
section
variable {K : PySem.W.Frag} {mg : Str → Option Value} {W : WX} {p q : Bool} {Pr : List Addr} {σ : L2.St} {H H1 : Hp} {S S1 : Foot} {α β : Type} {fin fin' : α → En → Hp → Foot → Prop}
theorem OkP.shift {o : Out α} (h : OkP K mg W (p && q) Pr σ H S fin o) (F : Fr p H S H1 S1) : OkP K mg W q Pr σ H1 S1 fin o := by
  cases o with
  | bad => exact h
  | ok d e => exact fun H' S' R F' => h H' S' R (F.trans F')
  | exc c x y e => exact fun C dd H' S' m R F' x => h C dd H' S' m R (F.trans' F') x
theorem OkP.shift0 {o : Out α} (h : OkP K mg W false Pr σ H S fin o) (F : Fr p H S H1 S1) : OkP K mg W q Pr σ H1 S1 fin o := by
  cases o with
  | bad => exact h
  | ok d e => exact fun H' S' R F' => h H' S' R (F.trans' F')
  | exc c x y e => exact fun C dd H' S' m R F' x => h C dd H' S' m R (F.trans' F') x
theorem OkP.bind2 {o : Out β} {f : β → En → Out α} (h : OkP K mg W (p && q) Pr σ H S fin (o.bind f)) : OkP K mg W p Pr σ H S (fun b e H1 S1 => OkP K mg W q Pr σ H1 S1 fin (f b e)) o := by
  cases o with
  | bad => exact h
  | exc c x y e => exact h
  | ok b e => exact fun H1 S1 R F => h.shift F
theorem OkP.bind0 {o : Out β} {f : β → En → Out α} (h : OkP K mg W false Pr σ H S fin (o.bind f)) : OkP K mg W p Pr σ H S (fun b e H1 S1 => OkP K mg W q Pr σ H1 S1 fin (f b e)) o := by
  cases o with
  | bad => exact h
  | exc c x y e => exact h
  | ok b e => exact fun H1 S1 R F => h.shift0 F
theorem OkP.last {o : Out β} {f : β → En → Out α} (h : OkP K mg W p Pr σ H S fin (o.bind f)) : OkP K mg W p Pr σ H S (fun b e H1 S1 => OkP K mg W true Pr σ H1 S1 fin (f b e)) o := by
  rw [← Bool.and_true p] at h
  exact h.bind2
theorem OkP.mono {o : Out α} (h : OkP K mg W p Pr σ H S fin o) (k : ∀ a e H' S', SR K Pr H' σ e S' → Fr p H S H' S' → fin a e H' S' → fin' a e H' S') : OkP K mg W p Pr σ H S fin' o := by
  cases o with
  | bad => exact h
  | exc c x y e => exact h
  | ok a e => exact fun H' S' R F => k a e H' S' R F (h H' S' R F)
theorem OkP.weak {o : Out α} (h : OkP K mg W false Pr σ H S fin o) : OkP K mg W p Pr σ H S fin o := by
  cases o with
  | bad => exact h
  | exc c x y e => exact h
  | ok a e => exact fun H' S' R F => h H' S' R F.weak
theorem OkP.fls {o : Out α} (e : p = false) (h : OkP K mg W p Pr σ H S fin o) : OkP K mg W false Pr σ H S fin o := by
  rw [← e]; exact h
theorem still_ok {d : D} {b : Bool} {o : Out D} {fin : D → En → Hp → Foot → Prop} (h : OkP K mg W p Pr σ H S fin (still d b o)) : (d.isIm || b) = true ∧ OkP K mg W p Pr σ H S fin o := by
  unfold still at h
  split at h
  · rename_i e; exact ⟨e, h⟩
  · exact h.elim
theorem lift_ok {o : Option α} {e : En} (h : OkP K mg W p Pr σ H S fin (lift o e)) : ∃ a, o = some a ∧ OkP K mg W p Pr σ H S fin (.ok a e) := by
  cases o with
  | none => exact h.elim
  | some a => exact ⟨a, rfl, h⟩
/-- the value stands while more is reckoned -/
theorem DR.still {d : D} {v : V} {L : List Addr} {ρ : En} (hs : (d.isIm || q) = true) (F : Fr q H S H1 S1) (R : SR K Pr H σ ρ S) (h : DR K H d v L) : DR K H1 d v L := by
  cases hd : d.isIm with
  | true =>
    cases h with
    | im r => exact .im (r.stay (R.stay (L := []) F fun a m => absurd m List.not_mem_nil))
    | _ => cases hd
  | false =>
    rw [hd, Bool.false_or] at hs
    exact h.stay (Stay.ext (F.pur hs).2)
theorem DRs.pureStay {ds : List D} {vs : List V} {L : List Addr} (hs : q = true) (F : Fr q H S H1 S1) (h : DRs K H ds vs L) : DRs K H1 ds vs L := h.stay (Stay.ext (F.pur hs).2)
variable {ρ : En} {own : Bool} {src : List Nat} {H0 : Hp} {S0 : Foot} {Q : VK}
theorem MutAt.there {H : Hp} {a : Addr} (h : MutAt H a) : H a ≠ none := fun e => by
  obtain ⟨o, q, _⟩ := h
  rw [e] at q; cases q
theorem There.ne {H : Hp} {a : Addr} (h : There H a) : H a ≠ none := fun e => by
  obtain ⟨o, q⟩ := h
  rw [e] at q; cases q
theorem SR.fresh {H' : Hp} {L : List Addr} (R : SR K Pr H σ ρ S) (F : Fr p H0 S0 H S) (f : Fresh H H' L) : Res own src Pr H0 S0 H' S L :=
  Res.of ⟨f.nd, fun a m => ⟨fun i n => (R.mu i a n).there (f.new a m), fun n => (R.pa a n).ne (f.new a m), F.prov (.inr (f.new a m)), f.mu a m⟩⟩
theorem fin_fresh {z : D} (h : OkP K mg W q Pr σ H S (finE K own src Pr H0 S0 Q) (.ok z ρ)) (R : SR K Pr H σ ρ S) (F : Fr p H0 S0 H S) : VOk K H z Q :=
  fun H' w L ex dr fr => h H' S (R.grow ex) (Fr.ext ex) w L dr (R.fresh F fr)
end

/-- the names of a context: its places, what it sees, what it stores -/
structure Cs where
  N : List Str
  sc : Scope
  raw : Scope
def isVar (k : Option NameKind) : Bool := match k with
  | some .local => true
  | some .cell => true
  | some .free => true
  | _ => false
def isLoc (k : Option NameKind) : Bool := match k with
  | some .local => true
  | some .cell => true
  | _ => false
def isGlo (k : Option NameKind) : Bool := match k with
  | some .globalImplicit => true
  | _ => false
def Cs.vis (c : Cs) (x : Str) : Bool := isVar (c.sc.names.lookup x)
def Cs.loc (c : Cs) (x : Str) : Bool := isLoc (c.raw.names.lookup x)
def Cs.glo (c : Cs) (x : Str) : Bool := isGlo (c.sc.names.lookup x)
def Cs.blk (c : Cs) (s : Scope) : Cs := ⟨c.N, relS s c.sc, s⟩
def fine (x : Str) : Bool := !(x == ("__debug__" : Str)) && !(x == ("__classdict__" : Str)) && !(x == ("__name__" : Str))

def Bi.nm : Bi → Str
  | .len => "len" | .tuple => "tuple" | .list => "list" | .int => "int" | .abs => "abs" | .min => "min" | .max => "max" | .sum => "sum" | .any => "any" | .all => "all" | .sorted => "sorted" | .str => "str" | .gcd => "gcd" | .range => "range"
def Me.nm : Me → Str
  | .get => "get" | .index => "index" | .count => "count" | .join => "join" | .split => "split" | .replace => "replace"
def Mm.nm : Mm → Str
  | .append => "append" | .extend => "extend" | .pop => "pop" | .insert => "insert" | .remove => "remove" | .setdefault => "setdefault" | .sort => "sort"
def Op.is : Op → Operator → Bool
  | .add, .Add => true | .sub, .Sub => true | .mul, .Mult => true | .mod, .Mod => true | .fdiv, .FloorDiv => true | .pow, .Pow => true
  | _, _ => false
def Cm.is : Cm → CmpOp → Bool
  | .eq, .Eq => true | .ne, .NotEq => true | .lt, .Lt => true | .le, .LtE => true | .gt, .Gt => true | .ge, .GtE => true
  | .isN, .Is => true | .notN, .IsNot => true | .inn, .In => true | .nin, .NotIn => true
  | _, _ => false
mutual
def chkT (c : Cs) : Tg → Expr → Bool
  | .name i, .Name x _ => decide (c.N[i]? = some x) && c.loc x
  | .tup ts, .Tuple xs _ _ => chkTs c ts xs
  | _, _ => false
def chkTs (c : Cs) : Tgs → List Expr → Bool
  | .nil, [] => true
  | .cons t r, x :: xs => chkT c t x && chkTs c r xs
  | _, _ => false
end
def builtins : List Str := ["len", "tuple", "list", "int", "abs", "min", "max", "sum", "any", "all", "sorted", "str", "range", "reversed", "enumerate", "zip"]
mutual
def chkE (c : Cs) : E → Expr → Bool
  | .var i, .Name x _ => decide (c.N[i]? = some x) && c.vis x && fine x
  | .cst (.int n), .Constant (.int m) _ _ => n == m
  | .cst (.str n), .Constant (.str m) _ _ => n == m
  | .cst (.bl n), .Constant (.bool m) _ _ => n == m
  | .cst .non, .Constant .none _ _ => true
  | .glob x, .Name y _ => (x == y) && c.glo x && fine x
  | .tup es, .Tuple xs _ _ => chkEs c es xs && decide (es.len ≤ 1000)
  | .lst es, .List xs _ => chkEs c es xs && decide (es.len ≤ 1000)
  | .dnew, .Dict [] [] _ => true
  | .bin op a b, .BinOp x o y _ => op.is o && chkE c a x && chkE c b y
  | .neg a, .UnaryOp .USub x _ => chkE c a x
  | .not a, .UnaryOp .Not x _ => chkE c a x
  | .cmp op a b, .Compare x [o] [y] _ => op.is o && chkE c a x && chkE c b y
  | .chain o1 o2 a b d, .Compare x [p, q] [y, z] _ => o1.is p && o2.is q && chkE c a x && chkE c b y && chkE c d z && (match o1 with | .lt => true | .le => true | .gt => true | .ge => true | _ => false) && (match o2 with | .lt => true | .le => true | .gt => true | .ge => true | _ => false)
  | .one a, .BoolOp _ [x] _ => chkE c a x
  | .and a b, .BoolOp .And (x :: y :: r) p => chkE c a x && chkE c b (.BoolOp .And (y :: r) p)
  | .or a b, .BoolOp .Or (x :: y :: r) p => chkE c a x && chkE c b (.BoolOp .Or (y :: r) p)
  | .ite a b d, .IfExp x y z _ => chkE c a x && chkE c b y && chkE c d z
  | .ix a b, .Subscript x y _ => chkE c a x && chkE c b y
  | .sl a lo hi, .Subscript x (.Slice l h none _) _ => chkE c a x && chkO c lo l && chkO c hi h
  | .call f es, .Call (.Name g _) xs [] _ => (f == g) && c.glo g && fine g && chkEs c es xs && decide (0 < es.len)
  | .bi f es, .Call (.Name g _) xs [] _ => (g == f.nm) && c.glo g && chkEs c es xs && decide (0 < es.len) && (match f with | .gcd => false | _ => true)
  | .me m r es, .Call (.Attribute x a apos) xs [] cpos => (a == m.nm) && chkE c r x && chkEs c es xs && (apos.endLine == cpos.line) && (match m with | .get => true | _ => false) && decide (es.len = 2)
  | .mut m i es, .Call (.Attribute (.Name x _) a apos) xs [] cpos => (a == m.nm) && decide (c.N[i]? = some x) && c.vis x && fine x && chkEs c es xs && (apos.endLine == cpos.line) && decide (es.len < 20)
  | .lc w tg own cn elt, .ListComp y [⟨t, it, ifs, 0⟩] scope _ => blkC c.N c.sc scope own && chkW c w it && chkT (c.blk scope) tg t && chkC (c.blk scope) cn ifs && chkE (c.blk scope) elt y && tg.slots.all (fun i => (own.map (·.2)).contains i)
  | _, _ => false
def chkEs (c : Cs) : Es → List Expr → Bool
  | .nil, [] => true
  | .cons e r, x :: xs => chkE c e x && chkEs c r xs
  | _, _ => false
def chkO (c : Cs) : Eo → Option Expr → Bool
  | .no, none => true
  | .so e, some x => chkE c e x
  | _, _ => false
def chkC (c : Cs) : Eo → List Expr → Bool
  | .no, [] => true
  | .so e, [x] => chkE c e x
  | _, _ => false
def chkW (c : Cs) : Wk → Expr → Bool
  | .it e, x => chkE c e x
  | .rev e, .Call (.Name g _) [x] [] _ => (g == ("reversed" : Str)) && c.glo g && chkE c e x
  | .range es, .Call (.Name g _) xs [] _ => (g == ("range" : Str)) && c.glo g && chkEs c es xs && decide (0 < es.len)
  | _, _ => false
end
end Kh

set_option Elab.async false
set_option linter.all false
set_option maxRecDepth 100000
set_option maxHeartbeats 1000000
/-! operators by values -/
namespace Kh
open PySem PySem.Spec PyProof.Rows L2

theorem big_line {n : Nat} (h : n ≤ big) : n ≤ sizeLine := Nat.le_trans h (by decide)
def rAddS : R2 := fun x y H Q => ∃ i j, x = .str i ∧ y = .str j ∧ i.length + j.length ≤ sizeLine ∧ Q (.str (i ++ j)) H
def rBin (K : PySem.W.Frag) : Op → R2
  | .add => fun x y H Q => ((rI0 (fun i j => .int (i + j)) x y H Q ∨ rCatA K x y H Q) ∨ rAddS x y H Q) ∨ rCat x y H Q
  | .sub => rI0 fun i j => .int (i - j)
  | .mul => fun x y H Q => rI CMulW (fun i j => .int (i * j)) x y H Q ∨ rRep x y H Q
  | .mod => rI (fun _ j => 0 < j) fun i j => .int (i % j)
  | .fdiv => rI CDivW fun i j => .int (i / j)
  | .pow => rI CPow fun i j => .int (i ^ j.toNat)
theorem op_bin {X : Cx} {op : Op} {o : Operator} (h : op.is o = true) : OpR X (binaryOp o) (rBin X.K op) := by
  cases op <;> cases o <;> first | (simp [Op.is] at h; done) | skip
  · exact OpR.or (OpR.or (OpR.or op_add op_catA) op_add_str) op_cat
  · exact op_sub
  · exact OpR.or op_mulW op_rep
  · exact op_mod
  · exact op_fdivW
  · exact op_pow

section
variable {K : PySem.W.Frag} {H : Hp} {Q : VK}
theorem VOk.im {x : I} {v : V} (q : VOk K H (.im x) Q) (h : IR K H x v) : Q v H := q H v [] (fun _ _ e => e) (.im h) Fresh.nil
theorem VOk.int {i : Int} (q : VOk K H (.im (.int i)) Q) : Q (.int i) H := q.im (.int i)
theorem VOk.bl {i : Bool} (q : VOk K H (.im (.bl i)) Q) : Q (.bl i) H := q.im (.bl i)
theorem sqT_new {p : Addr} {vs : List V} : SqT K (upd H p (.tup vs)) p vs := .inl (.inl upd_same)
theorem stay_new {p : Addr} {o : HO} {S : List Addr} (h : H p = none) : Stay H (upd H p o) S := Stay.ext (grow_new h)
theorem VOk.tup {xs : List I} {vs : List V} (q : VOk K H (.im (.tup xs)) Q) (h : IRs K H xs vs) : ∀ p, H p = none → Q (.ref p) (upd H p (.tup vs)) := fun p hp =>
  q _ _ [] (grow_new hp) (.im (.tup sqT_new (h.stay (stay_new (S := []) hp)))) Fresh.nil
theorem VOk.lst {xs : List D} {vs : List V} (q : VOk K H (.lst xs) Q) (h : DRs K H xs vs []) : ∀ p, H p = none → Q (.ref p) (upd H p (.lst vs)) := fun p hp =>
  q _ _ [p] (grow_new hp) (.lst upd_same (h.stay (stay_new hp))) (Fresh.one hp rfl)
theorem DR.im_inv {x : I} {v : V} {L : List Addr} (h : DR K H (.im x) v L) : L = [] ∧ IR K H x v := by
  cases h with
  | im r => exact ⟨rfl, r⟩
theorem DR.int_inv {i : Int} {v : V} {L : List Addr} (h : DR K H (.im (.int i)) v L) : v = .int i := by
  cases h with
  | im r => cases r; rfl
theorem DR.bl_inv {i : Bool} {v : V} {L : List Addr} (h : DR K H (.im (.bl i)) v L) : v = .bl i := by
  cases h with
  | im r => cases r; rfl
theorem DR.str_inv {i : Str} {v : V} {L : List Addr} (h : DR K H (.im (.str i)) v L) : v = .str i := by
  cases h with
  | im r => cases r; rfl
theorem DR.non_inv {v : V} {L : List Addr} (h : DR K H (.im .non) v L) : v = .non := by
  cases h with
  | im r => cases r; rfl
theorem DR.tup_inv {xs : List I} {v : V} {L : List Addr} (h : DR K H (.im (.tup xs)) v L) : ∃ a vs, v = .ref a ∧ SqT K H a vs ∧ IRs K H xs vs := by
  cases h with
  | im r =>
    cases r with
    | tup q r => exact ⟨_, _, rfl, q, r⟩
theorem DR.lst_inv {xs : List D} {v : V} {L : List Addr} (h : DR K H (.lst xs) v L) : ∃ a vs R, v = .ref a ∧ H a = some (.lst vs) ∧ DRs K H xs vs R ∧ L = a :: R := by
  cases h with
  | lst q r => exact ⟨_, _, _, rfl, q, r, rfl⟩
theorem bin_ok {op : Op} {x y z : D} {v u : V} {L M : List Addr} (h : binD op x y = some z) (dx : DR K H x v L) (dy : DR K H y u M) (q : VOk K H z Q) : rBin K op v u H Q := by
  unfold binD at h
  split at h
  · -- two ints
    rename_i i j
    obtain rfl := dx.int_inv
    obtain rfl := dy.int_inv
    cases hb : binI op i j with
    | none => rw [hb] at h; cases h
    | some k =>
      rw [hb] at h
      cases h
      cases op with
      | add => cases hb; exact .inl (.inl (.inl ⟨i, j, rfl, rfl, q.int⟩))
      | sub => cases hb; exact ⟨i, j, rfl, rfl, q.int⟩
      | mul =>
        simp only [binI] at hb
        split at hb
        · rename_i hc; cases hb; exact .inl ⟨i, j, rfl, rfl, hc, q.int⟩
        · cases hb
      | mod =>
        simp only [binI] at hb
        split at hb
        · rename_i hc; cases hb; exact ⟨i, j, rfl, rfl, hc, q.int⟩
        · cases hb
      | fdiv =>
        simp only [binI] at hb
        split at hb
        · rename_i hc; cases hb; exact ⟨i, j, rfl, rfl, hc, q.int⟩
        · cases hb
      | pow =>
        simp only [binI] at hb
        split at hb
        · rename_i hc; cases hb; exact ⟨i, j, rfl, rfl, hc, q.int⟩
        · cases hb
  · -- two tuples
    rename_i xs ys
    split at h
    · rename_i hz
      cases h
      obtain ⟨a, vs, rfl, sa, ra⟩ := dx.tup_inv
      obtain ⟨b, us, rfl, sb, rb⟩ := dy.tup_inv
      refine .inl (.inl (.inr ⟨a, b, vs, us, rfl, rfl, sa, sb, ?_, fun e => ?_, fun _ e => ?_, fun _ _ => ?_⟩))
      · rw [← ra.length, ← rb.length]; exact big_line hz
      · subst e
        cases ra
        exact q.im (.tup sb rb)
      · subst e
        cases rb
        rw [List.append_nil] at q
        exact q.im (.tup sa ra)
      · exact q.tup (ra.append rb)
    · cases h
  · rename_i a b
    split at h
    · rename_i hz
      cases h
      obtain rfl := dx.str_inv
      obtain rfl := dy.str_inv
      exact .inl (.inr ⟨a, b, rfl, rfl, big_line hz, q.im (.str _)⟩)
    · cases h
  · -- two lists
    rename_i xs ys
    split at h
    · rename_i hz
      split at h
      · rename_i i j e1 e2
        cases h
        obtain ⟨a, vs, R, rfl, sa, ra, _⟩ := dx.lst_inv
        obtain ⟨b, us, R', rfl, sb, rb, _⟩ := dy.lst_inv
        obtain ⟨rfl, _, _⟩ := DRs.of_ims ra e1
        obtain ⟨rfl, _, _⟩ := DRs.of_ims rb e2
        refine .inr ⟨a, b, vs, us, rfl, rfl, sa, sb, ?_, q.lst (ra.append rb)⟩
        rw [← ra.length, ← rb.length]; exact big_line hz
      · cases h
    · cases h
  · rename_i xs k
    split at h
    · rename_i hz
      split at h
      · rename_i i e1
        cases h
        obtain ⟨a, vs, R, rfl, sa, ra, _⟩ := dx.lst_inv
        obtain rfl := dy.int_inv
        obtain ⟨rfl, _, _⟩ := DRs.of_ims ra e1
        have rep : ∀ n : Nat, DRs K H (List.replicate n xs).flatten (List.replicate n vs).flatten [] := by
          intro n
          induction n with
          | zero => exact .nil
          | succ n ih => rw [List.replicate_succ, List.replicate_succ, List.flatten_cons, List.flatten_cons]; exact DRs.append (S := []) ra ih
        refine .inr ⟨a, k, vs, rfl, rfl, sa, by omega, by omega, ?_, q.lst (rep _)⟩
        rw [← ra.length]; exact big_line hz.2.1
      · cases h
    · cases h
  · cases h
end

/-! ### equality -/
mutual
def I.py : I → PyData
  | .non => .none
  | .bl b => .bool b
  | .int i => .int i
  | .str s => .str s
  | .tup xs => .tuple (I.pys xs)
def I.pys : List I → List PyData
  | [] => []
  | x :: xs => I.py x :: I.pys xs
end
mutual
theorem dp_of {K : PySem.W.Frag} {H : Hp} : ∀ {x : I} {v : V}, IR K H x v → Dp K H v (I.py x)
  | _, _, .non => by rw [I.py]; exact .non
  | _, _, .bl b => by rw [I.py]; exact .bl b
  | _, _, .int i => by rw [I.py]; exact .int i
  | _, _, .str s => by rw [I.py]; exact .str s
  | _, _, .tup q r => by rw [I.py]; exact .tup q (dps_of r)
theorem dps_of {K : PySem.W.Frag} {H : Hp} : ∀ {x : List I} {v : List V}, IRs K H x v → DpAll K H v (I.pys x)
  | _, _, .nil => by rw [I.pys]; exact .nil
  | _, _, .cons a r => by rw [I.pys]; exact .cons (dp_of a) (dps_of r)
end
mutual
theorem py_ok : ∀ (n : Nat) (x : I), I.shal n x = true → (I.py x).canLay0 = true ∧ (I.py x).depth ≤ n
  | n, .non, _ => by rw [I.py, PyData.depth]; exact ⟨by rw [PyData.canLay0], Nat.zero_le _⟩
  | n, .bl b, _ => by rw [I.py, PyData.depth]; exact ⟨by rw [PyData.canLay0], Nat.zero_le _⟩
  | n, .int i, _ => by rw [I.py, PyData.depth]; exact ⟨by rw [PyData.canLay0], Nat.zero_le _⟩
  | n, .str s, h => by
    rw [I.py, PyData.depth]
    refine ⟨?_, Nat.zero_le _⟩
    rw [PyData.canLay0]
    rw [I.shal] at h
    exact h
  | 0, .tup xs, h => by simp [I.shal] at h
  | n + 1, .tup xs, h => by
    rw [I.shal] at h
    obtain ⟨a, b⟩ := pys_ok n xs h
    rw [I.py, PyData.depth, PyData.canLay0]
    exact ⟨a, by omega⟩
theorem pys_ok : ∀ (n : Nat) (xs : List I), I.shals n xs = true → PyData.canLayAll0 (I.pys xs) = true ∧ PyData.depthAll (I.pys xs) ≤ n
  | n, [], _ => by rw [I.pys, PyData.canLayAll0, PyData.depthAll]; exact ⟨rfl, Nat.zero_le _⟩
  | n, x :: xs, h => by
    rw [I.shals, Bool.and_eq_true] at h
    obtain ⟨a, b⟩ := py_ok n x h.1
    obtain ⟨c, d⟩ := pys_ok n xs h.2
    rw [I.pys, PyData.canLayAll0, PyData.depthAll, a, c]
    exact ⟨rfl, by omega⟩
end
theorem py_shaped {x : I} (h : I.shal 60 x = true) : SeqAt.shaped (I.py x) = true := by
  obtain ⟨a, b⟩ := py_ok 60 x h
  unfold SeqAt.shaped
  rw [a, decide_eq_true (by omega : (I.py x).depth ≤ 64)]
  rfl
mutual
theorem eq_py : ∀ (x y : I) (r : Bool), I.eq x y = some r → PyData.eqv (I.py x) (I.py y) = r
  | .tup a, .tup b, r, h => by
    rw [I.eq] at h
    rw [I.py, I.py, PyData.eqv]
    exact eqs_py a b r h
  | .non, y, r, h => by cases y <;> simp_all [I.eq, I.py, PyData.eqv]
  | .bl a, y, r, h => by cases y <;> simp_all [I.eq, I.py, PyData.eqv]
  | .int a, y, r, h => by cases y <;> simp_all [I.eq, I.py, PyData.eqv]
  | .str a, y, r, h => by cases y <;> simp_all [I.eq, I.py, PyData.eqv]
  | .tup a, .non, r, h => by simp_all [I.eq, I.py, PyData.eqv]
  | .tup a, .bl _, r, h => by simp_all [I.eq, I.py, PyData.eqv]
  | .tup a, .int _, r, h => by simp_all [I.eq, I.py, PyData.eqv]
  | .tup a, .str _, r, h => by simp_all [I.eq, I.py, PyData.eqv]
theorem eqs_py : ∀ (x y : List I) (r : Bool), I.eqs x y = some r → PyData.eqvAll (I.pys x) (I.pys y) = r
  | [], [], r, h => by simp_all [I.eqs, I.pys, PyData.eqvAll]
  | [], _ :: _, r, h => by simp_all [I.eqs, I.pys, PyData.eqvAll]
  | _ :: _, [], r, h => by simp_all [I.eqs, I.pys, PyData.eqvAll]
  | x :: xs, y :: ys, r, h => by
    rw [I.eqs] at h
    cases e1 : I.eq x y with
    | none => rw [e1] at h; cases h
    | some p =>
      cases e2 : I.eqs xs ys with
      | none => rw [e1, e2] at h; cases h
      | some q =>
        rw [e1, e2] at h
        cases h
        rw [I.pys, I.pys, PyData.eqvAll, eq_py x y p e1, eqs_py xs ys q e2]
end
end Kh

set_option Elab.async false
set_option linter.all false
set_option maxRecDepth 100000
set_option maxHeartbeats 1000000
/-! comparisons, items, slices, built-in functions by values -/
namespace Kh
open PySem PySem.Spec PyProof.Rows L2

/-! ### keys -/
theorem key_inj {j k : I} {a b : Key} (ha : keyOf j = some a) (hb : keyOf k = some b) : I.eq j k = some (decide (a = b)) := by
  cases j <;> simp only [keyOf] at ha <;> first | (cases ha; done) | skip
  all_goals cases k <;> simp only [keyOf] at hb <;> first | (cases hb; done) | skip
  all_goals cases ha
  all_goals cases hb
  all_goals simp only [I.eq]
  · rw [key_ll]
  · rw [key_lr]
  · rw [key_rl]
  · rw [key_rr]; rfl
theorem keyOk_some {t : Bool} {k : I} (h : keyOk t k = true) : t = false ∧ ∃ q, keyOf k = some q := by
  unfold keyOk at h
  cases t with
  | true => cases h
  | false =>
    refine ⟨rfl, ?_⟩
    cases k <;> first | exact ⟨_, rfl⟩ | (simp [isKey] at h)
theorem keyOf_isKey {k : I} (h : isKey k = true) : ∃ q, keyOf k = some q := by
  cases k <;> first | exact ⟨_, rfl⟩ | (simp [isKey] at h)
section
variable {K : PySem.W.Frag} {H : Hp}
theorem key_val {k : I} {q : Key} {v : V} (e : keyOf k = some q) (r : IR K H k v) : v = kV q := by
  cases r <;> simp only [keyOf] at e <;> first | (cases e; rfl) | cases e
theorem lkup_K : ∀ {kvs : List (I × D)} {ws : List (Key × V)} {S : List Addr} {k : I} {q : Key} {o : Option D}, KRs K H kvs ws S → keyOf k = some q → lkup k kvs = some o →
    (o = none ∧ valV ws q = none) ∨ ∃ d v R, o = some d ∧ valV ws q = some v ∧ DR K H d v R ∧ ∀ a ∈ R, a ∈ S
  | _, _, _, k, q, o, .nil, hk, h => by
    cases h
    exact .inl ⟨rfl, valV_nil⟩
  | _, _, _, k, q, o, .cons (k := j) (q := p) (d := d) (v := v) (S := S) e a r, hk, h => by
    rw [lkup, key_inj e hk] at h
    by_cases z : p = q
    · rw [decide_eq_true z] at h
      cases h
      exact .inr ⟨d, v, S, rfl, valV_pos z, a, fun _ m => List.mem_append_left _ m⟩
    · rw [decide_eq_false z] at h
      rw [valV_neg z]
      rcases lkup_K r hk h with h | ⟨d, v, R, h1, h2, h3, h4⟩
      · exact .inl h
      · exact .inr ⟨d, v, R, h1, h2, h3, fun a m => List.mem_append_right _ (h4 a m)⟩
theorem DR.dct_inv {t : Bool} {kvs : List (I × D)} {v : V} {L : List Addr} (h : DR K H (.dct t kvs) v L) (ht : t = false) : ∃ a ws R, v = .ref a ∧ Rd H a (.dK ws) ∧ KRs K H kvs ws R ∧ L = a :: R ∧ (ws.map (·.1)).Nodup := by
  cases h with
  | dK n q r => exact ⟨_, _, _, rfl, q, r, rfl, n⟩
  | dT n q r => cases ht
end

/-! ### comparisons -/
def rInDct : R2 := fun x y H Q => ∃ a o, y = .ref a ∧ DGet H a x o ∧ Q (.bl o.isSome) H
def rNinDct : R2 := fun x y H Q => ∃ a o, y = .ref a ∧ DGet H a x o ∧ Q (.bl (!o.isSome)) H
theorem op_inDct {X : Cx} (hu : X.A.units + 1 < cLine) : OpR X (compareOp .In) rInDct := by
  intro pins s σ H x y v u Q I rx ry h
  obtain ⟨a, o, rfl, g, q⟩ := h
  cases ry
  exact d_in hu I g rx fun s' I' => ⟨.bl o.isSome, H, I', rfl, q⟩
theorem op_ninDct {X : Cx} (hu : X.A.units + 1 < cLine) : OpR X (compareOp .NotIn) rNinDct := by
  intro pins s σ H x y v u Q I rx ry h
  obtain ⟨a, o, rfl, g, q⟩ := h
  cases ry
  exact d_notIn hu I g rx fun s' I' => ⟨.bl (!o.isSome), H, I', rfl, q⟩
def rCm (K : PySem.W.Frag) : Cm → R2
  | .eq => fun x y H Q => rEq x y H Q ∨ rEqD K x y H Q
  | .ne => fun x y H Q => rNe x y H Q ∨ rNeD K x y H Q
  | .lt => rI0 fun i j => .bl (decide (i < j))
  | .le => rI0 fun i j => .bl (decide (i ≤ j))
  | .gt => rI0 fun i j => .bl (decide (j < i))
  | .ge => rI0 fun i j => .bl (decide (j ≤ i))
  | .isN => fun x y H Q => y = .non ∧ Q (.bl (decide (x = .non))) H
  | .notN => fun x y H Q => y = .non ∧ Q (.bl (!decide (x = .non))) H
  | .inn => fun x y H Q => rIn K false x y H Q ∨ rInDct x y H Q
  | .nin => fun x y H Q => rIn K true x y H Q ∨ rNinDct x y H Q
theorem op_cm {X : Cx} {op : Cm} {o : CmpOp} (h : op.is o = true) (hu : X.A.units + 64 < cLine) : OpR X (compareOp o) (rCm X.K op) := by
  cases op <;> cases o <;> first | (simp [Cm.is] at h; done) | skip
  · exact OpR.or op_eq (op_eqD hu)
  · exact OpR.or op_ne (op_neD hu)
  · exact op_lt
  · exact op_le
  · exact op_gt
  · exact op_ge
  · exact op_isN
  · exact op_notN
  · exact OpR.or op_in_seq (op_inDct (by omega))
  · exact OpR.or op_notIn_seq (op_ninDct (by omega))
section
variable {K : PySem.W.Frag} {H : Hp} {Q : VK}
theorem isKey_flat {x : I} {v : V} (h : isKey x = true) (r : IR K H x v) : flatV v = true := by
  cases r <;> first | rfl | (simp [isKey] at h)
theorem all_flat : ∀ {xs : List I} {vs : List V}, xs.all isKey = true → IRs K H xs vs → vs.all flatV = true
  | _, _, _, .nil => rfl
  | _, _, h, .cons a r => by
    rw [List.all_cons, Bool.and_eq_true] at h
    rw [List.all_cons, isKey_flat h.1 a, all_flat h.2 r]
    rfl
theorem eqV_key {x y : I} {v u : V} {e : Bool} (hx : isKey x = true) (hy : isKey y = true) (rx : IR K H x v) (ry : IR K H y u) (h : I.eq y x = some e) : eqV u v = e := by
  cases rx <;> first | (simp [isKey] at hx; done) | skip
  all_goals cases ry <;> first | (simp [isKey] at hy; done) | skip
  all_goals simp only [I.eq] at h
  all_goals cases h
  all_goals rfl
theorem mem_inV {x : I} {v : V} (hx : isKey x = true) (rx : IR K H x v) : ∀ {ys : List I} {us : List V} {b : Bool}, ys.all isKey = true → IRs K H ys us → memI x ys = some b → inV v us = b
  | [], _, b, _, .nil, h => by cases h; rfl
  | y :: ys, _ :: _, b, hy, .cons a r, h => by
    rw [List.all_cons, Bool.and_eq_true] at hy
    rw [memI] at h
    cases e1 : I.eq y x with
    | none => rw [e1] at h; cases h
    | some p =>
      cases e2 : memI x ys with
      | none => rw [e1, e2] at h; cases h
      | some q =>
        rw [e1, e2] at h
        cases h
        show (eqV _ v || inV v _) = (p || q)
        rw [eqV_key hx hy.1 rx a e1, mem_inV hx rx hy.2 r e2]
theorem cm_ok {op : Cm} {x y : D} {b : Bool} {v u : V} {L M : List Addr} (h : cmpD op x y = some b) (dx : DR K H x v L) (dy : DR K H y u M) (q : Q (.bl b) H) : rCm K op v u H Q := by
  unfold cmpD at h
  split at h
  · rename_i a c
    cases h
    obtain rfl := dx.str_inv
    obtain rfl := dy.str_inv
    refine .inl ⟨rfl, ?_⟩
    have e : decide (V.str a = V.str c) = decide (a = c) := by rw [dec_str]; rfl
    rw [e]; exact q
  · rename_i a c
    cases h
    obtain rfl := dx.str_inv
    obtain rfl := dy.str_inv
    refine .inl ⟨rfl, ?_⟩
    have e : decide (V.str a = V.str c) = decide (a = c) := by rw [dec_str]; rfl
    rw [e]; exact q
  · rename_i x y _
    split at h
    · rename_i hs
      rw [Bool.and_eq_true] at hs
      cases dx with
      | im rx =>
        cases dy with
        | im ry =>
          refine .inr ⟨_, _, dp_of rx, dp_of ry, py_shaped hs.1, py_shaped hs.2, ?_⟩
          rw [eq_py x y b h]; exact q
    · cases h
  · rename_i x y _
    split at h
    · rename_i hs
      rw [Bool.and_eq_true] at hs
      cases e : I.eq x y with
      | none => rw [e] at h; cases h
      | some c =>
        rw [e] at h
        cases h
        cases dx with
        | im rx =>
          cases dy with
          | im ry =>
            refine .inr ⟨_, _, dp_of rx, dp_of ry, py_shaped hs.1, py_shaped hs.2, ?_⟩
            rw [eq_py x y c e]; exact q
    · cases h
  · rename_i x
    obtain rfl := dy.non_inv
    cases h
    refine ⟨rfl, ?_⟩
    cases dx with
    | im rx => cases rx <;> exact q
  · rename_i x
    obtain rfl := dy.non_inv
    cases h
    refine ⟨rfl, ?_⟩
    cases dx with
    | im rx => cases rx <;> exact q
  · cases h; obtain rfl := dx.int_inv; obtain rfl := dy.int_inv; exact ⟨_, _, rfl, rfl, q⟩
  · cases h; obtain rfl := dx.int_inv; obtain rfl := dy.int_inv; exact ⟨_, _, rfl, rfl, q⟩
  · cases h; obtain rfl := dx.int_inv; obtain rfl := dy.int_inv; exact ⟨_, _, rfl, rfl, q⟩
  · cases h; obtain rfl := dx.int_inv; obtain rfl := dy.int_inv; exact ⟨_, _, rfl, rfl, q⟩
  · rename_i x ys
    split at h
    · rename_i hs
      rw [Bool.and_eq_true] at hs
      obtain ⟨a, vs, rfl, sa, ra⟩ := dy.tup_inv
      cases dx with
      | im rx =>
        refine .inl ⟨a, vs, rfl, .inr sa, isKey_flat hs.1 rx, all_flat hs.2 ra, ?_⟩
        rw [mem_inV hs.1 rx hs.2 ra h]; exact q
    · cases h
  · rename_i x ys
    split at h
    · rename_i hs
      rw [Bool.and_eq_true] at hs
      obtain ⟨a, vs, rfl, sa, ra⟩ := dy.tup_inv
      cases e : memI x ys with
      | none => rw [e] at h; cases h
      | some c =>
        rw [e] at h
        cases h
        cases dx with
        | im rx =>
          refine .inl ⟨a, vs, rfl, .inr sa, isKey_flat hs.1 rx, all_flat hs.2 ra, ?_⟩
          rw [mem_inV hs.1 rx hs.2 ra e]; exact q
    · cases h
  · rename_i x t kvs
    split at h
    · rename_i hs
      obtain ⟨rfl, p, hp⟩ := keyOk_some hs
      obtain ⟨a, ws, R, rfl, ha, ra, _⟩ := dy.dct_inv rfl
      cases e : lkup x kvs with
      | none => rw [e] at h; cases h
      | some o =>
        rw [e] at h
        cases h
        cases dx with
        | im rx =>
          obtain rfl := key_val hp rx
          refine .inr ⟨a, valV ws p, rfl, .inl ⟨ws, p, ha, rfl, rfl⟩, ?_⟩
          rcases lkup_K ra hp e with ⟨rfl, h2⟩ | ⟨d, v, R', rfl, h2, _, _⟩
          · rw [h2]; exact q
          · rw [h2]; exact q
    · cases h
  · rename_i x t kvs
    split at h
    · rename_i hs
      obtain ⟨rfl, p, hp⟩ := keyOk_some hs
      obtain ⟨a, ws, R, rfl, ha, ra, _⟩ := dy.dct_inv rfl
      cases e : lkup x kvs with
      | none => rw [e] at h; cases h
      | some o =>
        rw [e] at h
        cases h
        cases dx with
        | im rx =>
          obtain rfl := key_val hp rx
          refine .inr ⟨a, valV ws p, rfl, .inl ⟨ws, p, ha, rfl, rfl⟩, ?_⟩
          rcases lkup_K ra hp e with ⟨rfl, h2⟩ | ⟨d, v, R', rfl, h2, _, _⟩
          · rw [h2]; exact q
          · rw [h2]; exact q
    · cases h
  · cases h
end
end Kh

set_option Elab.async false
set_option linter.all false
set_option maxRecDepth 100000
set_option maxHeartbeats 1000000
namespace Kh
open PySem PySem.Spec PyProof.Rows L2

section
variable {K : PySem.W.Frag} {H : Hp} {Q : VK}
theorem IRs.at {xs : List I} {vs : List V} {i : Int} {x : I} (r : IRs K H xs vs) (h : atI xs i = some x) : ∃ v, atI vs i = some v ∧ IR K H x v := by
  unfold atI at h ⊢
  rw [← r.length]
  cases e : ixN xs.length i with
  | none => rw [e] at h; cases h
  | some j => rw [e] at h; exact r.get h
theorem DRs.at {xs : List D} {vs : List V} {S : List Addr} {i : Int} {x : D} (r : DRs K H xs vs S) (h : atI xs i = some x) : ∃ v R, atI vs i = some v ∧ DR K H x v R ∧ ∀ a ∈ R, a ∈ S := by
  unfold atI at h ⊢
  rw [← r.length]
  cases e : ixN xs.length i with
  | none => rw [e] at h; cases h
  | some j => rw [e] at h; exact r.get h
theorem atI_map {α β : Type} (f : α → β) (xs : List α) (i : Int) : atI (xs.map f) i = (atI xs i).map f := by
  unfold atI
  rw [List.length_map]
  cases ixN xs.length i with
  | none => rfl
  | some j => exact List.getElem?_map
theorem POk.im {x : I} {v : V} {L : List Addr} (q : POk K H (.im x) L Q) (h : IR K H x v) : Q v H := q v [] (.im h) fun _ m => absurd m List.not_mem_nil
theorem ix_ok {x y z : D} {v u : V} {L M : List Addr} (h : ixD x y = some z) (nd : ∀ t kvs, x ≠ .dct t kvs) (dx : DR K H x v L) (dy : DR K H y u M) (q : POk K H z L Q) : rIx K v u H Q := by
  unfold ixD at h
  split at h
  · rename_i xs i
    obtain rfl := dy.int_inv
    obtain ⟨a, vs, rfl, sa, ra⟩ := dx.tup_inv
    cases e : atI xs i with
    | none => rw [e] at h; cases h
    | some p =>
      rw [e] at h; cases h
      obtain ⟨w, e2, r2⟩ := ra.at e
      exact .inr (.inl ⟨a, vs, i, w, rfl, rfl, sa, e2, q.im r2⟩)
  · rename_i xs i
    obtain rfl := dy.int_inv
    cases dx with
    | tup sa ra =>
      obtain ⟨w, R, e2, r2, s2⟩ := ra.at h
      exact .inr (.inl ⟨_, _, i, w, rfl, rfl, sa, e2, q w R r2 s2⟩)
  · rename_i xs i
    obtain rfl := dy.int_inv
    obtain ⟨a, vs, R, rfl, sa, ra, rfl⟩ := dx.lst_inv
    obtain ⟨w, R', e2, r2, s2⟩ := ra.at h
    exact .inl ⟨_, _, i, w, rfl, rfl, SqL.of sa, e2, q w R' r2 fun a m => List.mem_cons_of_mem _ (s2 a m)⟩
  · rename_i ns i
    obtain rfl := dy.int_inv
    cases dx with
    | scr sa =>
      cases e : atI ns i with
      | none => rw [e] at h; cases h
      | some p =>
        rw [e] at h; cases h
        exact .inl ⟨_, _, i, .int p, rfl, rfl, sa.l, by rw [atI_map, e]; rfl, q.im (.int p)⟩
  · exact absurd rfl (nd _ _)
  · cases h
theorem ix_dct {t : Bool} {kvs : List (I × D)} {y z : D} {v u : V} {L M : List Addr} (h : ixD (.dct t kvs) y = some z) (dx : DR K H (.dct t kvs) v L) (dy : DR K H y u M) (q : POk K H z L Q) :
    ∃ a w, v = .ref a ∧ DGet H a u (some w) ∧ Q w H := by
  cases y with
  | im k =>
    replace h : (if keyOk t k then (lkup k kvs).join else none) = some z := by cases k <;> exact h
    split at h
    · rename_i hs
      obtain ⟨rfl, p, hp⟩ := keyOk_some hs
      obtain ⟨a, ws, R, rfl, ha, ra, rfl, _⟩ := dx.dct_inv rfl
      cases e : lkup k kvs with
      | none => rw [e] at h; cases h
      | some o =>
        rw [e] at h
        have h' : o = some z := h
        subst h'
        cases dy with
        | im rx =>
          obtain rfl := key_val hp rx
          rcases lkup_K ra hp e with ⟨e1, _⟩ | ⟨d, w, R', e1, h2, h3, h4⟩
          · cases e1
          · cases e1
            exact ⟨a, w, rfl, .inl ⟨ws, p, ha, rfl, h2.symm⟩, q w R' h3 fun a m => List.mem_cons_of_mem _ (h4 a m)⟩
    · cases h
  | tup _ => simp [ixD] at h
  | lst _ => simp [ixD] at h
  | dct _ _ => simp [ixD] at h
  | scr _ => simp [ixD] at h

/-! ### slices -/
theorem IRs.drop : ∀ (n : Nat) {xs : List I} {vs : List V}, IRs K H xs vs → IRs K H (xs.drop n) (vs.drop n)
  | 0, _, _, r => r
  | _ + 1, _, _, .nil => .nil
  | n + 1, _, _, .cons _ r => IRs.drop n r
theorem IRs.take : ∀ (n : Nat) {xs : List I} {vs : List V}, IRs K H xs vs → IRs K H (xs.take n) (vs.take n)
  | 0, _, _, _ => .nil
  | _ + 1, _, _, .nil => .nil
  | n + 1, _, _, .cons a r => .cons a (IRs.take n r)
theorem IRs.cut {xs : List I} {vs : List V} (lo hi : Option Int) (r : IRs K H xs vs) : IRs K H (cutL xs lo hi) (cutV vs lo hi) := by
  unfold cutL cutV
  rw [← r.length]
  exact (r.drop _).take _
theorem cut_all {α : Type} {xs : List α} {lo hi : Option Int} (h : HT.sIx xs.length 0 lo = 0 ∧ HT.sIx xs.length xs.length hi = xs.length) : cutL xs lo hi = xs := by
  unfold cutL
  rw [h.1, h.2, List.drop_zero, Nat.sub_zero, List.take_length]
theorem cutL_map {α β : Type} (f : α → β) (xs : List α) (lo hi : Option Int) : cutL (xs.map f) lo hi = (cutL xs lo hi).map f := by
  unfold cutL
  rw [List.length_map, List.map_take, List.map_drop]
end
def rSl (K : PySem.W.Frag) : V → Option Int → Option Int → Hp → VK → Prop := fun x lo hi H Q => rSlA K x lo hi H Q ∨ rSlL K x lo hi H Q
theorem sl_all {X : Cx} : SlR X (rSl X.K) := SlR.or sl_tupA sl_list
section
variable {K : PySem.W.Frag} {H : Hp} {Q : VK}
theorem sl_ok {x z : D} {lo hi : Option Int} {v : V} {L : List Addr} (h : slD x lo hi = some z) (dx : DR K H x v L) (q : VOk K H z Q) : rSl K v lo hi H Q := by
  unfold slD at h
  split at h
  · rename_i xs
    cases h
    obtain ⟨a, vs, rfl, sa, ra⟩ := dx.tup_inv
    refine .inl ⟨a, vs, rfl, sa, fun e => ?_, fun _ => q.tup (ra.cut lo hi)⟩
    rw [← ra.length] at e
    rw [cut_all e] at q
    exact q.im (.tup sa ra)
  · rename_i xs
    cases e : ims xs with
    | none => rw [e] at h; cases h
    | some ys =>
      rw [e] at h
      cases h
      obtain ⟨a, vs, R, rfl, sa, ra, _⟩ := dx.lst_inv
      obtain ⟨rfl, rfl, ri⟩ := DRs.of_ims ra e
      refine .inr ⟨a, vs, rfl, SqL.of sa, ?_⟩
      rw [cutL_map] at q
      exact q.lst (DRs.ims (ri.cut lo hi))
  · cases h
end

/-! ### sorted(dict with int keys), any number -/
theorem ints_at : ∀ (us : List Value) (ks : List Int), us.length = ks.length → (∀ (j : Nat) (v : Value), us[j]? = some v → ∃ (x : Int) (t : Tok), ks[j]? = some x ∧ v = Value.int x t) → IntsAre us ks
  | [], [], _, _ => .nil
  | [], _ :: _, h, _ => nomatch h
  | _ :: _, [], h, _ => nomatch h
  | u :: us, k :: ks, hl, h => by
    obtain ⟨x, t, e1, rfl⟩ := h 0 u rfl
    cases Option.some.inj e1
    exact .cons _ _ (ints_at us ks (Nat.succ.inj hl) fun j v e => h (j + 1) v e)
def rSortDct : List V → Hp → VK → Prop := fun xs H Q => ∃ (a : Addr) (ws : List (Key × V)) (ks : List Int), xs = [.ref a] ∧ Rd H a (.dK ws) ∧ ws.map (·.1) = ks.map Sum.inl ∧
  ∀ (ys : List Int) (p : Addr), ys.Perm ks → ys.Pairwise (· ≤ ·) → H p = none → Q (.ref p) (upd H p (.lst (ys.map V.int)))
theorem sort_dct {X : Cx} (hc : X.calm = true) : CallR X (.builtin "sorted") rSortDct := by
  intro pins s σ H xs us Q I r q
  obtain ⟨a, ws, ks, rfl, hd, hks, q⟩ := q
  obtain rfl : us = [Value.ref a] := Vals.ref1 r
  obtain ⟨z, lo, vs, rel, dd⟩ := dk_rd I.hok hd
  obtain ⟨ep, hat⟩ := dd.dictAt
  have hkeys : vs.map (·.1) = ks.map Sum.inl := rel.keys.symm.trans hks
  have hl : vs.length = ks.length := by simpa using congrArg List.length hkeys
  have hz : vs.length ≤ sizeLine := by rw [← rel.length]; exact z
  refine Calls.call_function_entry PyProof.Rows.kind_sorted PyProof.Rows.plain_sorted PyProof.Rows.entry_sorted (PyProof.Rows.args_sorted1 _) ?_
  unfold Builtin.«sorted»
  refine wpAny_bind (m := checkCount "sorted" 1 1 _) (wpAny_pure ?_)
  have src := PySem.W.kdl_dict (prog := X.prog) (w := X.w) (knd := mixKind X.prog X.w) (kvs := vs) (ep := ep) lo
  refine wpAny_bind (PySem.W.kdu_collect (A := X.A.in1) src (I.ok.hd hc) hat hz fun h' tk acc hk hacc => ?_)
  have hal : acc.toList.length = ks.length := by rw [Array.length_toList, hacc.1, hl]
  have hS : IntsAre acc.toList ks := by
    refine ints_at _ _ hal fun j v e => ?_
    obtain ⟨k, x, e1, e2⟩ := hacc.2 j v (by rw [← Array.getElem?_toList]; exact e)
    have e3 : (ks.map Sum.inl)[j]? = some k := by rw [← hkeys, List.getElem?_map, e1]; rfl
    rw [List.getElem?_map] at e3
    cases e4 : ks[j]? with
    | none => rw [e4] at e3; cases e3
    | some y =>
      rw [e4] at e3
      cases e3
      rcases keyIs_shape (show keyIs (Sum.inl y) v = true from e2) with ⟨i, t, ek, ev⟩ | ⟨_, _, ek, _⟩
      · cases ek; exact ⟨y, t, rfl, ev⟩
      · cases ek
  have I1 : Inv X pins σ H { s with heap := h', toks := tk } := I.kept hk
  have hz' : acc.toList.length ≤ sizeLine := by rw [hal, ← hl]; exact hz
  refine wpAny_bind (wpAny_newList ?_ hz')
  have hoL : (h'.push (seqObj "list" acc.toList.toArray 0)).get? h'.objs.size = some (seqObj "list" acc.toList.toArray 0) := Heap.get?_push_size _ rfl
  show wpAny _ _ _ _ _ { s with heap := h'.push (seqObj "list" acc.toList.toArray 0), toks := tk }
  refine wpAny_bind (wpAny_holding (wpAny_call_entry PyProof.Rows.slot_list_sort ⟨_, hoL, rfl⟩ PyProof.Rows.entry_list_sort
    (SrtO.list_sort_ord SrtO.swo_int (s := { s with heap := h'.push (seqObj "list" acc.toList.toArray 0), toks := tk }) hoL hz' (fun h2 => SrtO.ints_sortable hS h2) fun out h1 h2 => ⟨_, rfl, ?_⟩) (PyProof.Rows.args_list_sort _)))
  obtain ⟨k1, k2, k3⟩ := SrtO.ints_out hS h1 h2
  obtain ⟨e', he'⟩ := PyProof.Rows.sortedHeap_at (vs := acc.toList) (out := out.toArray) hoL
  have hlen : ((out.map SrtO.iv).map V.int).length ≤ sizeLine := by
    rw [List.length_map, k2.length_eq, ← hl]; exact hz
  refine wpAny_pure ⟨_, rfl, .ref h'.objs.size, upd H h'.objs.size (.lst ((out.map SrtO.iv).map V.int)), I1.laid (t' := tk) (fun b u e => ?_) (Nat.le_refl _) ⟨hlen, out, e', vals_of_ints k1, he'⟩, rfl, q _ _ k2 k3 (I1.hok.fresh (Nat.le_refl _))⟩
  have hb : b < h'.objs.size := Heap.lt_size e
  rw [PyProof.Rows.sortedHeap_old (Nat.ne_of_lt hb) (by rw [PyProof.Rows.size_push']; exact Nat.lt_succ_of_lt hb)]
  exact Heap.get?_push_of_some _ e
theorem sort_same {ys ks : List Int} (hp : ys.Perm ks) (hs : ys.Pairwise (· ≤ ·)) : ys = ks.mergeSort (fun a b => decide (a ≤ b)) := by
  refine List.Perm.eq_of_pairwise (le := fun a b : Int => a ≤ b) (fun x y _ _ h1 h2 => Int.le_antisymm h1 h2) hs ?_ (hp.trans (List.mergeSort_perm ks _).symm)
  have h := List.pairwise_mergeSort (le := fun a b : Int => decide (a ≤ b)) (fun a b c h1 h2 => by simp at *; omega) (fun a b => by simp; omega) ks
  exact h.imp fun h => of_decide_eq_true h
end Kh

set_option Elab.async false
set_option linter.all false
set_option maxRecDepth 100000
set_option maxHeartbeats 1000000
namespace Kh
open PySem PySem.Spec PyProof.Rows L2

/-! ### the heads that are served -/
def plainX : Expr → Bool
  | .Starred _ _ => false
  | .Set _ _ _ => false
  | .Slice _ _ _ _ => false
  | .SetComp _ _ _ _ => false
  | .DictComp _ _ _ _ _ => false
  | .Call (.Name _ _) [] [] _ => false
  | _ => true
theorem chkEs_len {c : Cs} : ∀ {es : Es} {xs : List Expr}, chkEs c es xs = true → xs.length = es.len
  | .nil, [], _ => rfl
  | .nil, _ :: _, h => by simp [chkEs] at h
  | .cons _ _, [], h => by simp [chkEs] at h
  | .cons e r, x :: xs, h => by
    simp only [chkEs, Bool.and_eq_true] at h
    exact congrArg (· + 1) (chkEs_len h.2)
theorem chk_plain {c : Cs} {e : E} {x : Expr} (h : chkE c e x = true) : plainX x = true := by
  unfold chkE at h
  split at h <;> first | rfl | (exact absurd h Bool.false_ne_true) | skip
  · rename_i f es g p xs pos
    simp only [Bool.and_eq_true, decide_eq_true_eq] at h
    cases xs with
    | nil => have := chkEs_len h.1.2; have := h.2; simp at *; omega
    | cons y ys => rfl
  · rename_i f es g p xs pos
    simp only [Bool.and_eq_true, decide_eq_true_eq] at h
    cases xs with
    | nil => have := chkEs_len h.1.1.2; have := h.1.2; simp at *; omega
    | cons y ys => rfl
theorem pl_star {x : Expr} {xs : List Expr} {env : PySem.Env} (h : plainX x = true) : starEach (x :: xs) env = (false, eval x env) :: starEach xs env := by
  cases x <;> first | rfl | (exact absurd h Bool.false_ne_true)
theorem pl_mark {x : Expr} {op : CmpOp} (h : plainX x = true) : behindInMarks op x = false := by
  cases x <;> first | rfl | (exact absurd h Bool.false_ne_true)
theorem pl_ix {x : Expr} (h : plainX x = true) : ∀ o i, subscripted x false o i = operate [o, i] (getItem o i) := by
  cases x <;> first | (intro o i; rfl) | (exact absurd h Bool.false_ne_true)
theorem pl_set {x : Expr} {env : PySem.Env} (h : plainX x = true) : ∀ v, foldedSetIterable x env v = pure v := by
  cases x <;> first | (intro v; rfl) | (exact absurd h Bool.false_ne_true)
theorem pl_attr {x : Expr} {a : Str} {env : PySem.Env} (h : plainX x = true) : attributeBase x a env (eval x env) = eval x env := by
  cases x <;> first | rfl | skip
  rename_i f as ks pos
  cases f <;> first | rfl | skip
  cases as with
  | nil =>
    cases ks with
    | nil => exact absurd h Bool.false_ne_true
    | cons _ _ => rfl
  | cons _ _ => rfl
def isLC : Expr → Bool
  | .ListComp _ _ _ _ => true
  | _ => false
theorem pl_swap {x : Expr} {t : Option Expr} {n : Nat} {env : PySem.Env} (h : plainX x = true) (l : isLC x = false) : swapsWith x t n env = pure false := by
  cases x <;> first | rfl | (exact absurd h Bool.false_ne_true) | (exact absurd l (by simp [isLC]))
/-- heads whose test is that of their value -/
def valTest : Expr → Bool
  | .UnaryOp .Not _ _ => false
  | .BoolOp _ _ _ => false
  | .IfExp _ _ _ _ => false
  | .Compare _ _ _ _ => false
  | _ => true
theorem pl_test {x : Expr} {env : PySem.Env} (h : valTest x = true) : ∀ whole, isTrue x env whole = (do let v ← whole; standAt x.pos; holding [v] (truthy v)) := by
  cases x <;> first | (intro w; rfl) | (exact absurd h Bool.false_ne_true) | skip
  rename_i op a pos
  cases op <;> first | (intro w; rfl) | (exact absurd h Bool.false_ne_true)
end Kh

set_option Elab.async false
set_option linter.all false
set_option maxRecDepth 100000
set_option maxHeartbeats 1000000
/-! built-in functions by values -/
namespace Kh
open PySem PySem.Spec PyProof.Rows L2

def Bi.ty : Bi → Option String
  | .tuple => some "tuple" | .list => some "list" | .int => some "int" | .str => some "str" | .range => some "range"
  | _ => none
def Bi.id : Bi → String
  | .len => "len" | .abs => "abs" | .min => "min" | .max => "max" | .sum => "sum" | .any => "any" | .all => "all" | .sorted => "sorted" | .gcd => "math.gcd" | _ => ""
def Bi.val (f : Bi) : Value := match f.ty with
  | some t => .type t
  | none => .builtin f.id
/-- found among the built-ins -/
def Bi.blt : Bi → Bool
  | .gcd => false
  | _ => true
theorem boot_bi {f : Bi} (h : f.blt = true) : bootBuiltins f.nm = some f.val := by
  cases f <;> first | (exact absurd h Bool.false_ne_true) | decide +kernel
theorem nm_in {f : Bi} (h : f.blt = true) : f.nm ∈ builtins := by
  cases f <;> first | (exact absurd h Bool.false_ne_true) | decide +kernel
theorem nm_fine (f : Bi) : f.nm ≠ "__name__" ∧ (f.nm == ("__debug__" : Str)) = false := by
  cases f <;> decide +kernel
def rNoBi : List V → Hp → VK → Prop := fun _ _ _ => False
def rLen (K : PySem.W.Frag) : List V → Hp → VK → Prop := fun xs H Q => (∃ p ys, xs = [.ref p] ∧ (SqL K H p ys ∨ SqT K H p ys) ∧ Q (.int ys.length) H) ∨ (∃ z, xs = [.str z] ∧ z.length ≤ sizeLine ∧ Q (.int z.length) H)
def rBi (K : PySem.W.Frag) : Bi → List V → Hp → VK → Prop
  | .len => fun xs H Q => rLen K xs H Q ∨ ∃ a kvs, xs = [V.ref a] ∧ Rd H a (.dK kvs) ∧ Q (.int kvs.length) H
  | .tuple => fun xs H Q => ∃ p ys, xs = [.ref p] ∧ ((SqL K H p ys ∧ ∀ l, H l = none → Q (.ref l) (upd H l (.tup ys))) ∨ (SqT K H p ys ∧ Q (.ref p) H))
  | .list => fun xs H Q => ∃ p ys, xs = [.ref p] ∧ (SqL K H p ys ∨ SqT K H p ys) ∧ ∀ l, H l = none → Q (.ref l) (upd H l (.lst ys))
  | .int => fun xs H Q => (∃ i, xs = [.int i] ∧ Q (.int i) H) ∨ ∃ k, xs = [.bl k] ∧ Q (.int (if k then 1 else 0)) H
  | .abs => fun xs H Q => ∃ i, xs = [.int i] ∧ Q (.int (if i < 0 then -i else i)) H
  | .min => fun xs H Q => ∃ i j, xs = [.int i, .int j] ∧ Q (.int (if j < i then j else i)) H
  | .max => fun xs H Q => ∃ i j, xs = [.int i, .int j] ∧ Q (.int (if j > i then j else i)) H
  | .sum => rSum K
  | .sorted => fun xs H Q => rSortedI K xs H Q ∨ rSortDct xs H Q
  | _ => rNoBi
theorem len_dct {X : Cx} : CallR X (.builtin "len") (fun xs H Q => ∃ a kvs, xs = [V.ref a] ∧ Rd H a (.dK kvs) ∧ Q (.int kvs.length) H) := by
  intro pins s σ H xs us Q I r h
  obtain ⟨a, kvs, rfl, e, q⟩ := h
  obtain rfl : us = [Value.ref a] := Vals.ref1 r
  exact d_len I e fun t s' I' => ⟨.int kvs.length, H, I', ⟨t, rfl⟩, q⟩
theorem cr_no {X : Cx} {f : Value} : CallR X f rNoBi := fun _ _ _ _ _ _ _ _ _ h => h.elim
theorem cr_bi {X : Cx} (hc : X.calm = true) (f : Bi) : CallR X f.val (rBi X.K f) := by
  cases f
  case len => exact CallR.or (CallR.or call_len_seq call_len_str) len_dct
  case tuple => exact call_tuple_of
  case list => exact call_list_of
  case int => exact call_int1
  case abs => exact call_abs
  case min => exact call_min2 hc
  case max => exact call_max2 hc
  case sum => exact cr_sum hc
  case sorted => exact CallR.or cr_sortedI (sort_dct hc)
  all_goals exact cr_no
theorem pe_bi {X : Cx} {f : Bi} {g : Str} {p pos : Pos} {e : Expr} {es : List Expr} {t : TA} (hb : f.blt = true) (hc : X.calm = true) (hg : Gl X g) (en : g = f.nm) (hm : X.mg g = none) (ha : PA X (e :: es) t)
    (h1 : starEach (e :: es) X.env = (false, eval e X.env) :: starEach es X.env) (h2 : ∀ pos, (backTo pos (starEach es X.env)).any (·.1) = false) : PE X (.Call (.Name g p) (e :: es) [] pos) (tCB (rBi X.K f) t) := by
  subst en
  have hv := boot_bi hb
  have cr := cr_bi hc f
  unfold Bi.val at hv cr
  cases q : f.ty with
  | some T =>
    rw [q] at hv cr
    exact pe_callTy cr hg hm hv ha (nm_fine f).1 (nm_fine f).2 h1 (h2 pos)
  | none =>
    rw [q] at hv cr
    exact pe_callB cr hg hm hv ha (nm_fine f).1 (nm_fine f).2 h1 (h2 pos)

section
variable {K : PySem.W.Frag} {H : Hp} {Q : VK}
theorem KRs.intKeys : ∀ {kvs : List (I × D)} {ws : List (Key × V)} {S : List Addr} {ns : List Int}, KRs K H kvs ws S → intsOf (kvs.map (·.1)) = some ns → ws.map (·.1) = ns.map Sum.inl
  | _, _, _, ns, .nil, h => by cases h; rfl
  | (.int i, d) :: kvs, (q, v) :: ws, _, ns, .cons e a r, h => by
    rw [List.map_cons] at h
    cases e1 : intsOf (kvs.map (·.1)) with
    | none => rw [intsOf, e1] at h; cases h
    | some ms =>
      rw [intsOf, e1] at h
      cases h
      cases e
      rw [List.map_cons, KRs.intKeys r e1]
      rfl
  | (.non, _) :: _, _, _, _, .cons e a r, h => by cases e
  | (.bl _, _) :: _, _, _, _, .cons e a r, h => by cases e
  | (.str _, _) :: _, _, _, _, .cons e a r, h => by simp [intsOf] at h
  | (.tup _, _) :: _, _, _, _, .cons e a r, h => by cases e
theorem VOk.ints {ns : List Int} (q : VOk K H (.lst (ns.map fun n => .im (.int n))) Q) : ∀ p, H p = none → Q (.ref p) (upd H p (.lst (ns.map V.int))) := by
  have h := DRs.ims (K := K) (H := H) (IRs.ints ns)
  rw [List.map_map] at h
  exact q.lst h
theorem bi1_ok {f : Bi} {x z : D} {v : V} {L : List Addr} (h : biD f [x] = some z) (dx : DR K H x v L) (q : VOk K H z Q) : rBi K f [v] H Q := by
  unfold biD at h
  split at h
  · rename_i xs e; cases e; cases h
    obtain ⟨a, vs, rfl, sa, ra⟩ := dx.tup_inv
    rw [ra.length] at q
    exact .inl (.inl ⟨a, vs, rfl, .inr sa, q.int⟩)
  · rename_i xs e; cases e; cases h
    cases dx with
    | tup sa ra => rw [ra.length] at q; exact .inl (.inl ⟨_, _, rfl, .inr sa, q.int⟩)
  · rename_i xs e; cases e; cases h
    obtain ⟨a, vs, R, rfl, sa, ra, _⟩ := dx.lst_inv
    rw [ra.length] at q
    exact .inl (.inl ⟨a, vs, rfl, .inl (SqL.of sa), q.int⟩)
  · rename_i xs e; cases e; cases h
    cases dx with
    | scr sa =>
      have e : (xs.length : Int) = ((xs.map V.int).length : Int) := by rw [List.length_map]
      rw [e] at q
      exact .inl (.inl ⟨_, _, rfl, .inl sa.l, q.int⟩)
  · rename_i xs e; cases e; cases h
    cases dx with
    | dK sn sa ra => rw [ra.length] at q; exact .inr ⟨_, _, rfl, sa, q.int⟩
  · rename_i xs e; cases e; cases h
    obtain ⟨a, vs, rfl, sa, ra⟩ := dx.tup_inv
    exact ⟨a, vs, rfl, .inr ⟨sa, q.im (.tup sa ra)⟩⟩
  · rename_i xs e; cases e
    cases e : ims xs with
    | none => rw [e] at h; cases h
    | some ys =>
      rw [e] at h; cases h
      obtain ⟨a, vs, R, rfl, sa, ra, _⟩ := dx.lst_inv
      obtain ⟨rfl, rfl, ri⟩ := DRs.of_ims ra e
      exact ⟨a, vs, rfl, .inl ⟨SqL.of sa, q.tup ri⟩⟩
  · rename_i xs e; cases e; cases h
    obtain ⟨a, vs, rfl, sa, ra⟩ := dx.tup_inv
    exact ⟨a, vs, rfl, .inr sa, q.lst (DRs.ims ra)⟩
  · rename_i xs e; cases e
    cases e : ims xs with
    | none => rw [e] at h; cases h
    | some ys =>
      rw [e] at h; cases h
      obtain ⟨a, vs, R, rfl, sa, ra, _⟩ := dx.lst_inv
      obtain ⟨rfl, _, _⟩ := DRs.of_ims ra e
      exact ⟨a, vs, rfl, .inl (SqL.of sa), q.lst ra⟩
  · rename_i ns e; cases e; cases h
    cases dx with
    | scr sa => exact ⟨_, _, rfl, .inl sa.l, q.ints⟩
  · rename_i i e; cases e; cases h
    obtain rfl := dx.int_inv
    exact .inl ⟨i, rfl, q.int⟩
  · rename_i i e; cases e; cases h
    obtain rfl := dx.int_inv
    refine ⟨i, rfl, ?_⟩
    have e : (if i < 0 then -i else i) = (i.natAbs : Int) := by split <;> omega
    rw [e]; exact q.int
  · rename_i e; cases e
  · rename_i e; cases e
  · rename_i xs e; cases e
    cases e1 : ims xs with
    | none => rw [e1] at h; cases h
    | some ys =>
      cases e2 : intsOf ys with
      | none => rw [e1] at h; simp [e2] at h
      | some ns =>
        rw [e1] at h
        simp only [Option.bind_some, e2, Option.map_some, Option.some.injEq] at h
        subst h
        obtain ⟨a, vs, R, rfl, sa, ra, _⟩ := dx.lst_inv
        obtain ⟨rfl, rfl, ri⟩ := DRs.of_ims ra e1
        obtain rfl := ri.of_ints e2
        exact ⟨a, ns, rfl, SqL.of sa, q.int⟩
  · rename_i kvs e; cases e
    cases e1 : intsOf (kvs.map (·.1)) with
    | none => rw [e1] at h; cases h
    | some ns =>
      rw [e1] at h; cases h
      obtain ⟨a, ws, R, rfl, ha, ra, _⟩ := dx.dct_inv rfl
      refine .inr ⟨a, ws, ns, rfl, ha, ra.intKeys e1, fun ys p h1 h2 hp => ?_⟩
      rw [sort_same h1 h2]
      exact q.ints p hp
  · rename_i xs e; cases e
    cases e1 : ims xs with
    | none => rw [e1] at h; cases h
    | some ys =>
      cases e2 : intsOf ys with
      | none => rw [e1] at h; simp [e2] at h
      | some ns =>
        rw [e1] at h
        simp only [Option.bind_some, e2, Option.map_some, Option.some.injEq] at h
        subst h
        obtain ⟨a, vs, R, rfl, sa, ra, _⟩ := dx.lst_inv
        obtain ⟨rfl, rfl, ri⟩ := DRs.of_ims ra e1
        obtain rfl := ri.of_ints e2
        refine .inl ⟨a, ns, rfl, SqL.of sa, fun ys p h1 h2 hp => ?_⟩
        rw [sort_same h1 h2]
        exact q.ints p hp
  · cases h
theorem bi2_ok {f : Bi} {x y z : D} {v u : V} {L M : List Addr} (h : biD f [x, y] = some z) (dx : DR K H x v L) (dy : DR K H y u M) (q : VOk K H z Q) : rBi K f [v, u] H Q := by
  unfold biD at h
  split at h <;> rename_i e <;> first | (cases e; done) | skip
  · rename_i i j
    cases e; cases h
    obtain rfl := dx.int_inv
    obtain rfl := dy.int_inv
    refine ⟨_, _, rfl, ?_⟩
    have e : ∀ i j : Int, (if j < i then j else i) = min i j := fun i j => by split <;> omega
    rw [e]; exact q.int
  · cases e; cases h
    obtain rfl := dx.int_inv
    obtain rfl := dy.int_inv
    refine ⟨_, _, rfl, ?_⟩
    have e : ∀ i j : Int, (if j > i then j else i) = max i j := fun i j => by split <;> omega
    rw [e]; exact q.int
  · cases h
end
end Kh

set_option Elab.async false
set_option linter.all false
set_option maxRecDepth 100000
set_option maxHeartbeats 2000000
/-! expressions: what the evaluator says the model does -/
namespace Kh
open PySem PySem.Spec PyProof.Rows L2

/-- a def's promise by its function on places -/
def spF (K : PySem.W.Frag) (mg : Str → Option Value) (n : Nat) (g : Fn) : Sp := fun vs H Q E => vs.length = n ∧ ∃ (as : List Slot) (Pr : List Addr) (S : Foot), SR K Pr H (vs.map some) as S ∧
  (match g as with
    | .ok d fin => ∀ v H' S' L, SR K Pr H' (vs.map some) fin S' → Fr false H S H' S' → DR K H' d v L → Res true [] Pr H S H' S' L → Q v H'
    | .exc c x y _ => ∀ C dd H', mg c = some (.ref C) → (∀ a o, H a = some o → (∀ i, a ∉ S i) → H' a = some o) → ExcAt K H' dd x y → E (.ref C) (some dd) H'
    | .bad => False)

structure Gd (lv : Nat) (c : Cs) (W : WX) (P : Program) (w : World) (K : PySem.W.Frag) (mg : Str → Option Value) (base : Heap) (X : Cx) : Prop where
  hP : X.prog = P
  hw : X.w = w
  hK : X.K = K
  hm : X.mg = mg
  hb : X.base = base
  sc : X.env.scope = c.sc
  N : X.N = c.N
  nd : c.N.Nodup
  calm : X.calm = true
  un : X.A.units + 100 < cLine
  room : Room lv X.A
  fnl : ∀ x, c.loc x = true → Loc c.sc x ∧ (X.fn x = true ∨ c.sc.names.lookup x = some .local)
  tk : Takes X W
structure Gl0 (T : Tab) (lv : Nat) (P : Program) (w : World) (K : PySem.W.Frag) (mg : Str → Option Value) (base : Heap) : Prop where
  blt : ∀ x ∈ builtins, mg x = none
  gl : ∀ x v, T.gl x = some v → ∃ vv u, mg x = some u ∧ RelV vv u ∧ ∀ H, IR K H v vv
  fn : ∀ f g, T.fn f = some g → ∃ a fd ps, mg f = some (.ref a) ∧ PySem.W.keepIn K (.ref a) = true ∧ Binds K fd ps [] ∧ FnOk P w K mg base (L2.CX P w) lv a fd ps (spF K mg ps.length g) ∧ ∀ as, g as ≠ .bad → as.length = ps.length

section
variable {T : Tab} {lv : Nat} {P : Program} {w : World} {K : PySem.W.Frag} {mg : Str → Option Value} {base : Heap}
variable (T lv P w K mg base)
def SpE (W : WX) (me : E) (t : TE) : Prop := ∀ own σ H ρ S Pr Q, SR K Pr H σ ρ S → OkP K mg W (me.pure && !own) Pr σ H S (finE K own me.src Pr H S Q) (evalE T me own ρ) → t σ H Q
def SpT (W : WX) (me : E) (t : TT) : Prop := ∀ σ H ρ S Pr Q, SR K Pr H σ ρ S → OkP K mg W me.pure Pr σ H S (fun b _ H' _ => Q b H') (evalT T me ρ) → t σ H Q
def SpEs (W : WX) (es : Es) (t : TA) : Prop := ∀ σ H ρ S Pr Q, SR K Pr H σ ρ S → OkP K mg W false Pr σ H S (finEs K Pr H S Q) (evalEs T es ρ) → t σ H Q
def SpBs (W : WX) (es : Es) (t : TA) : Prop := ∀ σ H ρ S Pr Q, SR K Pr H σ ρ S → OkP K mg W es.pure Pr σ H S (fun xs _ H' _ => ∀ vs, IRs K H' xs vs → Q vs H') (evalBs T es ρ) → t σ H Q
def SE (c : Cs) (W : WX) (me : E) (x : Expr) : Prop := ∃ t : TE, (∀ X, Gd lv c W P w K mg base X → PE X x t) ∧ SpE T K mg W me t
def isBool : Expr → Bool
  | .BoolOp _ _ _ => true
  | _ => false
def ST (c : Cs) (W : WX) (me : E) (x : Expr) : Prop := ∃ t : TT, (∀ X, Gd lv c W P w K mg base X → PT X x t ∧ (isBool x = true → PW X x t)) ∧ SpT T K mg W me t
end
section
variable {T : Tab} {lv : Nat} {P : Program} {w : World} {K : PySem.W.Frag} {mg : Str → Option Value} {base : Heap} {c : Cs} {W : WX}

theorem _root_.Kh.Fr.weak' {p : Bool} {H H' : Hp} {S S' : Foot} (h : Fr false H S H' S') : Fr (p && !true) H S H' S' := by
  rw [Bool.not_true, Bool.and_false]; exact h
theorem isVar_vis {sc : Scope} {x : Str} (h : isVar (sc.names.lookup x) = true) : Vis sc x := by
  unfold Vis
  unfold isVar at h
  split at h <;> first | exact .inl (by assumption) | exact .inr (.inl (by assumption)) | exact .inr (.inr (by assumption)) | cases h
theorem fine_of {x : Str} (h : fine x = true) : (x == ("__debug__" : Str)) = false ∧ (x == ("__classdict__" : Str)) = false ∧ x ≠ "__name__" := by
  unfold fine at h
  simp only [Bool.and_eq_true, Bool.not_eq_true'] at h
  exact ⟨h.1.1, h.1.2, fun e => by rw [e] at h; simp at h⟩
theorem isGlo_gl {X : Cx} {x : Str} (e : X.env.scope = c.sc) (h : c.glo x = true) : Gl X x := by
  unfold Gl
  show X.env.scope.names.lookup x = _
  rw [e]
  unfold Cs.glo isGlo at h
  split at h
  · assumption
  · cases h

/-! ### names and constants -/
theorem se_var' {i : Nat} {x : Str} {pos : Pos} (h : chkE c (.var i) (.Name x pos) = true) : (∀ X, Gd lv c W P w K mg base X → PE X (.Name x pos) (tVar i)) ∧ SpE T K mg W (.var i) (tVar i) := by
  simp only [chkE, Bool.and_eq_true, decide_eq_true_eq] at h
  obtain ⟨⟨h1, h2⟩, h3⟩ := h
  obtain ⟨d1, d2, _⟩ := fine_of h3
  refine ⟨fun X g => pe_var (by rw [g.N]; exact h1) (by rw [g.sc]; exact isVar_vis h2) d1 d2, fun own σ H ρ S Pr Q R ok => ?_⟩
  simp only [evalE, readS] at ok
  split at ok
  · -- an own value that never changes
    rename_i x' e
    obtain ⟨v, e1, d⟩ := R.own i _ e
    exact ⟨v, e1, ok H S R Fr.refl v [] (.im d.im_inv.2) Res.nil⟩
  · rename_i d hd e
    obtain ⟨v, e1, dr⟩ := R.own i _ e
    refine ⟨v, e1, ?_⟩
    cases own with
    | false =>
      simp only [Bool.false_eq_true, if_false] at ok
      refine ok H S R Fr.refl v (S i) dr ⟨fun a m => .inr (.inl ⟨i, List.mem_singleton.mpr rfl, m⟩), fun e => nomatch e⟩
    | true =>
      simp only [if_true] at ok
      refine ok H (S.set i []) (R.drop' i) Fr.drop.weak' v (S i) dr (Res.of ⟨R.nd i, fun a m => ⟨fun j n => ?_, R.pt i a m, .inl ⟨i, m⟩, R.mu i a m⟩⟩)
      by_cases q : j = i
      · subst q; rw [Foot.set_same] at n; cases n
      · rw [Foot.set_ne q] at n; exact q (R.dj j i a n m)
  · rename_i x' e
    obtain ⟨v, L, e1, d, _⟩ := R.bor i _ e
    exact ⟨v, e1, ok H S R Fr.refl v [] (.im d.im_inv.2) Res.nil⟩
  · rename_i d hd e
    obtain ⟨v, L, e1, dr, hL⟩ := R.bor i _ e
    refine ⟨v, e1, ?_⟩
    cases own with
    | false =>
      simp only [Bool.false_eq_true, if_false] at ok
      exact ok H S R Fr.refl v L dr ⟨fun a m => .inl (hL a m), fun e => nomatch e⟩
    | true => exact ok.elim
  · exact ok.elim
theorem se_var {i : Nat} {x : Str} {pos : Pos} (h : chkE c (.var i) (.Name x pos) = true) : SE T lv P w K mg base c W (.var i) (.Name x pos) := ⟨tVar i, se_var' h⟩

theorem use_E {α : Type} {a : E} {ta : TE} {q : Bool} {σ : L2.St} {H : Hp} {ρ : En} {S : Foot} {Pr : List Addr} {Q : VK} {fin : α → En → Hp → Foot → Prop} {f : D → En → Out α} (ea : SpE T K mg W a ta) (R : SR K Pr H σ ρ S)
    (ok : OkP K mg W (a.pure && q) Pr σ H S fin ((evalE T a false ρ).bind f))
    (k : ∀ d e1 H1 S1 v L, SR K Pr H1 σ e1 S1 → Fr a.pure H S H1 S1 → DR K H1 d v L → Res false a.src Pr H S H1 S1 L → OkP K mg W q Pr σ H1 S1 fin (f d e1) → Q v H1) : ta σ H Q := by
  refine ea false σ H ρ S Pr Q R ?_
  rw [Bool.not_false, Bool.and_true]
  exact ok.bind2.mono fun d e1 H1 S1 R1 F1 h v L dr rs => k d e1 H1 S1 v L R1 F1 dr rs h
theorem use_O {α : Type} {a : E} {ta : TE} {q : Bool} {σ : L2.St} {H : Hp} {ρ : En} {S : Foot} {Pr : List Addr} {Q : VK} {fin : α → En → Hp → Foot → Prop} {f : D → En → Out α} (ea : SpE T K mg W a ta) (R : SR K Pr H σ ρ S)
    (ok : OkP K mg W false Pr σ H S fin ((evalE T a true ρ).bind f))
    (k : ∀ d e1 H1 S1 v L, SR K Pr H1 σ e1 S1 → Fr false H S H1 S1 → DR K H1 d v L → Res true a.src Pr H S H1 S1 L → OkP K mg W q Pr σ H1 S1 fin (f d e1) → Q v H1) : ta σ H Q := by
  refine ea true σ H ρ S Pr Q R ?_
  rw [Bool.not_true, Bool.and_false]
  exact ok.bind0.mono fun d e1 H1 S1 R1 F1 h v L dr rs => k d e1 H1 S1 v L R1 F1 dr rs h
theorem use_T {α : Type} {a : E} {ta : TT} {q : Bool} {σ : L2.St} {H : Hp} {ρ : En} {S : Foot} {Pr : List Addr} {Q : Bool → Hp → Prop} {fin : α → En → Hp → Foot → Prop} {f : Bool → En → Out α} (ea : SpT T K mg W a ta) (R : SR K Pr H σ ρ S)
    (ok : OkP K mg W (a.pure && q) Pr σ H S fin ((evalT T a ρ).bind f))
    (k : ∀ d e1 H1 S1, SR K Pr H1 σ e1 S1 → Fr a.pure H S H1 S1 → OkP K mg W q Pr σ H1 S1 fin (f d e1) → Q d H1) : ta σ H Q :=
  ea σ H ρ S Pr Q R (ok.bind2.mono fun d e1 H1 S1 R1 F1 h => k d e1 H1 S1 R1 F1 h)
theorem okInt {α : Type} {q : Bool} {σ : L2.St} {H : Hp} {ρ : En} {S : Foot} {Pr : List Addr} {fin : α → En → Hp → Foot → Prop} {d : D} {f : Int → En → Out α} (ok : OkP K mg W q Pr σ H S fin ((asInt d ρ).bind f)) :
    ∃ i, d = .im (.int i) ∧ OkP K mg W q Pr σ H S fin (f i ρ) := by
  unfold asInt at ok
  split at ok
  · exact ⟨_, rfl, ok⟩
  · exact ok.elim
theorem okBool {α : Type} {q : Bool} {σ : L2.St} {H : Hp} {ρ : En} {S : Foot} {Pr : List Addr} {fin : α → En → Hp → Foot → Prop} {d : D} {f : Bool → En → Out α} (ok : OkP K mg W q Pr σ H S fin ((asBool d ρ).bind f)) :
    ∃ i, d = .im (.bl i) ∧ OkP K mg W q Pr σ H S fin (f i ρ) := by
  unfold asBool at ok
  split at ok
  · exact ⟨_, rfl, ok⟩
  · exact ok.elim
theorem okBool0 {q : Bool} {σ : L2.St} {H : Hp} {ρ : En} {S : Foot} {Pr : List Addr} {fin : Bool → En → Hp → Foot → Prop} {d : D} (ok : OkP K mg W q Pr σ H S fin (asBool d ρ)) :
    ∃ i, d = .im (.bl i) ∧ OkP K mg W q Pr σ H S fin (.ok i ρ) := by
  unfold asBool at ok
  split at ok
  · exact ⟨_, rfl, ok⟩
  · exact ok.elim

theorem se_cst {n : I} {v : Const} {k : Nat} {pos : Pos} (h : chkE c (.cst n) (.Constant v k pos) = true) : SE T lv P w K mg base c W (.cst n) (.Constant v k pos) := by
  have fin : ∀ {u : V}, (∀ H, IR K H n u) → SpE T K mg W (.cst n) (tC u) := fun {u} r own σ H ρ S Pr Q R ok => by
    simp only [evalE] at ok
    exact (fin_fresh ok R (Fr.refl (p := true))).im (r H)
  cases n <;> cases v <;> simp only [chkE] at h <;> first | (exact absurd h Bool.false_ne_true) | skip
  · exact ⟨tC .non, fun X g => pe_non, fin fun _ => .non⟩
  · cases eq_of_beq h; exact ⟨_, fun X g => pe_bl, fin fun _ => .bl _⟩
  · cases eq_of_beq h; exact ⟨_, fun X g => pe_int, fin fun _ => .int _⟩
  · cases eq_of_beq h; exact ⟨_, fun X g => pe_str, fin fun _ => .str _⟩
theorem se_glob (G : Gl0 T lv P w K mg base) {x y : Str} {pos : Pos} (h : chkE c (.glob x) (.Name y pos) = true) : SE T lv P w K mg base c W (.glob x) (.Name y pos) := by
  simp only [chkE, Bool.and_eq_true] at h
  obtain ⟨⟨h1, h2⟩, h3⟩ := h
  obtain ⟨d1, d2, _⟩ := fine_of h3
  cases eq_of_beq h1
  cases q : T.gl x with
  | none => exact ⟨fun _ _ _ => False, fun X g => ⟨fun _ _ _ _ _ _ z => z.elim⟩, fun own σ H ρ S Pr Q R ok => by
      simp only [evalE, q] at ok; exact ok.elim⟩
  | some v =>
    obtain ⟨vv, u, h4, h5, h6⟩ := G.gl x v q
    refine ⟨tC vv, fun X g => pe_glob (isGlo_gl g.sc h2) (by rw [g.hm]; exact h4) h5 d1, fun own σ H ρ S Pr Q R ok => ?_⟩
    simp only [evalE, q] at ok
    exact (fin_fresh ok R (Fr.refl (p := true))).im (h6 H)
theorem se_bin {op : Op} {o : Operator} {a b : E} {x y : Expr} {pos : Pos} (h : op.is o = true) (sa : SE T lv P w K mg base c W a x) (sb : SE T lv P w K mg base c W b y) : SE T lv P w K mg base c W (.bin op a b) (.BinOp x o y pos) := by
  obtain ⟨ta, pa, ea⟩ := sa
  obtain ⟨tb, pb, eb⟩ := sb
  refine ⟨tOp (rBin K op) ta tb, fun X g => ?_, fun own σ H ρ S Pr Q R ok => ?_⟩
  · have r := op_bin (X := X) h
    rw [g.hK] at r
    exact pe_op r (pa X g) (pb X g)
  · simp only [evalE, E.pure, Bool.and_assoc] at ok
    show ta σ H _
    refine use_E ea R ok fun x' e1 H1 S1 v L R1 F1 d1 _ ok1 => ?_
    obtain ⟨hs, ok2⟩ := still_ok ok1
    show tb σ H1 _
    refine use_E eb R1 ok2 fun y' e2 H2 S2 u M R2 F2 d2 _ ok3 => ?_
    obtain ⟨z, hz, ok4⟩ := lift_ok ok3
    exact bin_ok hz (d1.still hs F2 R1) d2 (fin_fresh ok4 R2 (F1.trans F2))
theorem se_cmp {op : Cm} {o : CmpOp} {a b : E} {x y : Expr} {pos : Pos} (h : op.is o = true) (hy : plainX y = true) (sa : SE T lv P w K mg base c W a x) (sb : SE T lv P w K mg base c W b y) :
    SE T lv P w K mg base c W (.cmp op a b) (.Compare x [o] [y] pos) ∧ ST T lv P w K mg base c W (.cmp op a b) (.Compare x [o] [y] pos) := by
  obtain ⟨ta, pa, ea⟩ := sa
  obtain ⟨tb, pb, eb⟩ := sb
  have sp : SpE T K mg W (.cmp op a b) (tOp (rCm K op) ta tb) := fun own σ H ρ S Pr Q R ok => by
    simp only [evalE, E.pure, Bool.and_assoc] at ok
    show ta σ H _
    refine use_E ea R ok fun x' e1 H1 S1 v L R1 F1 d1 _ ok1 => ?_
    obtain ⟨hs, ok2⟩ := still_ok ok1
    show tb σ H1 _
    refine use_E eb R1 ok2 fun y' e2 H2 S2 u M R2 F2 d2 _ ok3 => ?_
    obtain ⟨z, hz, ok4⟩ := lift_ok ok3
    cases e : cmpD op x' y' with
    | none => rw [e] at hz; cases hz
    | some k =>
      rw [e] at hz; cases hz
      exact cm_ok e (d1.still hs F2 R1) d2 (fin_fresh ok4 R2 (F1.trans F2)).bl
  have rule : ∀ X, Gd lv c W P w K mg base X → OpR X (compareOp o) (rCm K op) := fun X g => by
    have r := op_cm (X := X) h (Nat.lt_trans (Nat.add_lt_add_left (by decide) _) g.un)
    rw [g.hK] at r
    exact r
  refine ⟨⟨_, fun X g => pe_cmpR (rule X g) (pa X g) (pb X g) (pl_mark hy), sp⟩, ⟨_, fun X g => ⟨pt_cmpR (rule X g) (pa X g) (pb X g) (pl_mark hy), fun e => nomatch e⟩, fun σ H ρ S Pr Q R ok => ?_⟩⟩
  refine sp false σ H ρ S Pr _ R ?_
  rw [Bool.not_false, Bool.and_true]
  simp only [evalT] at ok
  refine ok.last.mono fun d e1 H1 S1 R1 F1 h v L dr rs => ?_
  obtain ⟨k, rfl, ok'⟩ := okBool0 h
  exact ⟨k, dr.bl_inv, ok' H1 S1 R1 Fr.refl⟩
/-- a test of a value -/
theorem st_val {a : E} {x : Expr} (hv : valTest x = true) (hT : ∀ ρ, evalT T a ρ = (evalE T a false ρ).bind fun d e => asBool d e) (s : SE T lv P w K mg base c W a x) : ST T lv P w K mg base c W a x := by
  obtain ⟨t, p, sp⟩ := s
  refine ⟨tB t, fun X g => ⟨pt_val (p X g) (pl_test hv), fun e => ?_⟩, fun σ H ρ S Pr Q R ok => ?_⟩
  · cases x <;> first | (exact absurd e Bool.false_ne_true) | (exact absurd hv Bool.false_ne_true)
  · refine sp false σ H ρ S Pr _ R ?_
    rw [Bool.not_false, Bool.and_true]
    rw [hT] at ok
    refine ok.last.mono fun d e1 H1 S1 R1 F1 h v L dr rs => ?_
    obtain ⟨k, rfl, ok'⟩ := okBool0 h
    exact ⟨k, dr.bl_inv, ok' H1 S1 R1 Fr.refl⟩
end
end Kh

set_option Elab.async false
set_option linter.all false
set_option maxRecDepth 100000
set_option maxHeartbeats 2000000
/-! expressions, further -/
namespace Kh
open PySem PySem.Spec PyProof.Rows L2

theorem PE.or {X : Cx} {e : Expr} {t u : TE} (h : PE X e t) (k : PE X e u) : PE X e (fun σ H Q => t σ H Q ∨ u σ H Q) :=
  ⟨fun pins s σ H Q I z => z.elim (h.run pins s σ H Q I) (k.run pins s σ H Q I)⟩
theorem PE.fls {X : Cx} {e : Expr} : PE X e (fun _ _ _ => False) := ⟨fun _ _ _ _ _ _ z => z.elim⟩
theorem PT.fls {X : Cx} {e : Expr} : PT X e (fun _ _ _ => False) := ⟨fun _ _ _ _ _ _ z => z.elim⟩
theorem PA.fls {X : Cx} {e : List Expr} : PA X e (fun _ _ _ => False) := ⟨fun _ _ _ _ _ _ _ z => z.elim⟩

section
variable {T : Tab} {lv : Nat} {P : Program} {w : World} {K : PySem.W.Frag} {mg : Str → Option Value} {base : Heap} {c : Cs} {W : WX}
variable {σ : L2.St} {H : Hp} {ρ : En} {S : Foot} {Pr : List Addr} {p q : Bool}

theorem OkP.le {α : Type} {fin : α → En → Hp → Foot → Prop} {o : Out α} (h : OkP K mg W q Pr σ H S fin o) (le : q = true → p = true) : OkP K mg W p Pr σ H S fin o := by
  cases o with
  | bad => exact h
  | exc c x y e => exact h
  | ok d e => exact fun H' S' R F => h H' S' R ⟨F.keep, F.own, fun z => F.pur (le z)⟩
theorem finE_back {own : Bool} {src : List Nat} {H0 H1 : Hp} {S0 S1 : Foot} {Q : VK} (F : Fr p H0 S0 H1 S1) {d : D} {e : En} {H' : Hp} {S' : Foot} (h : finE K own src Pr H0 S0 Q d e H' S') : finE K own src Pr H1 S1 Q d e H' S' :=
  fun v L dr rs => h v L dr (Res.back F rs)
theorem finE_src {own : Bool} {src src' : List Nat} {H0 : Hp} {S0 : Foot} {Q : VK} (s : ∀ i ∈ src, i ∈ src') {d : D} {e : En} {H' : Hp} {S' : Foot} (h : finE K own src' Pr H0 S0 Q d e H' S') : finE K own src Pr H0 S0 Q d e H' S' :=
  fun v L dr rs => h v L dr (rs.src s)
def opI (o : CmpOp) (f : Cm) : Prop := ∀ X : Cx, OpR X (compareOp o) (rI0 fun i j => .bl (cmpI f i j))
def isOrd : Cm → Bool
  | .lt => true | .le => true | .gt => true | .ge => true
  | _ => false
theorem op_ord {f : Cm} {o : CmpOp} (h : f.is o = true) (k : isOrd f = true) : opI o f := by
  intro X
  cases f <;> cases o <;> first | (simp [Cm.is] at h; done) | (simp [isOrd] at k; done) | skip
  · exact op_lt
  · exact op_le
  · exact op_gt
  · exact op_ge
theorem okIt {α : Type} {fin : α → En → Hp → Foot → Prop} {k : Bool} {a b : Out α} (h : OkP K mg W q Pr σ H S fin (if k = true then a else b)) : if k = true then OkP K mg W q Pr σ H S fin a else OkP K mg W q Pr σ H S fin b := by
  cases k <;> exact h

theorem se_neg {a : E} {x : Expr} {pos : Pos} (sa : SE T lv P w K mg base c W a x) : SE T lv P w K mg base c W (.neg a) (.UnaryOp .USub x pos) := by
  obtain ⟨ta, pa, ea⟩ := sa
  refine ⟨tUn (rU fun i => .int (-i)) ta, fun X g => pe_un un_neg (pa X g), fun own σ H ρ S Pr Q R ok => ?_⟩
  simp only [evalE, E.pure] at ok
  show ta σ H _
  refine use_E ea R ok fun d e1 H1 S1 v L R1 F1 d1 _ ok1 => ?_
  obtain ⟨i, rfl, ok2⟩ := okInt ok1
  exact ⟨i, d1.int_inv, (fin_fresh ok2 R1 F1).int⟩
theorem se_not {a : E} {x : Expr} {pos : Pos} (sa : SE T lv P w K mg base c W a x) : SE T lv P w K mg base c W (.not a) (.UnaryOp .Not x pos) := by
  obtain ⟨ta, pa, ea⟩ := sa
  refine ⟨tNotV ta, fun X g => pe_not (pa X g), fun own σ H ρ S Pr Q R ok => ?_⟩
  simp only [evalE, E.pure] at ok
  show ta σ H _
  refine use_E ea R ok fun d e1 H1 S1 v L R1 F1 d1 _ ok1 => ?_
  obtain ⟨i, rfl, ok2⟩ := okBool ok1
  exact ⟨i, d1.bl_inv, (fin_fresh ok2 R1 F1).bl⟩
theorem st_not {a : E} {x : Expr} {pos : Pos} (sa : ST T lv P w K mg base c W a x) : ST T lv P w K mg base c W (.not a) (.UnaryOp .Not x pos) := by
  obtain ⟨ta, pa, ea⟩ := sa
  refine ⟨tNot ta, fun X g => ⟨pt_not (pa X g).1, fun e => nomatch e⟩, fun σ H ρ S Pr Q R ok => ?_⟩
  simp only [evalT, E.pure] at ok
  rw [← Bool.and_true a.pure] at ok
  show ta σ H _
  exact use_T ea R ok fun d e1 H1 S1 R1 F1 ok1 => ok1 H1 S1 R1 Fr.refl
theorem se_chain {o1 o2 : Cm} {p1 p2 : CmpOp} {a b d : E} {x y z : Expr} {pos : Pos} (h1 : o1.is p1 = true) (h2 : o2.is p2 = true) (k1 : isOrd o1 = true) (k2 : isOrd o2 = true) (hz : plainX z = true)
    (sa : SE T lv P w K mg base c W a x) (sb : SE T lv P w K mg base c W b y) (sd : SE T lv P w K mg base c W d z) :
    SE T lv P w K mg base c W (.chain o1 o2 a b d) (.Compare x [p1, p2] [y, z] pos) ∧ ST T lv P w K mg base c W (.chain o1 o2 a b d) (.Compare x [p1, p2] [y, z] pos) := by
  obtain ⟨ta, pa, ea⟩ := sa
  obtain ⟨tb, pb, eb⟩ := sb
  obtain ⟨td, pd, ed⟩ := sd
  have sp : SpE T K mg W (.chain o1 o2 a b d) (tChain (rI0 fun i j => .bl (cmpI o1 i j)) (rI0 fun i j => .bl (cmpI o2 i j)) ta tb td) := fun own σ H ρ S Pr Q R ok => by
    simp only [evalE, E.pure, Bool.and_assoc] at ok
    show ta σ H _
    refine use_E ea R ok fun x' e1 H1 S1 v L R1 F1 d1 _ ok1 => ?_
    obtain ⟨i, rfl, ok2⟩ := okInt ok1
    show tb σ H1 _
    refine use_E eb R1 ok2 fun y' e2 H2 S2 u M R2 F2 d2 _ ok3 => ?_
    obtain ⟨j, rfl, ok4⟩ := okInt ok3
    refine ⟨i, j, d1.int_inv, d2.int_inv, cmpI o1 i j, rfl, ?_⟩
    have ok5 := okIt ok4
    split
    · rename_i e
      rw [if_pos e] at ok5
      refine use_E ed R2 ok5 fun z' e3 H3 S3 u3 M3 R3 F3 d3 _ ok6 => ?_
      obtain ⟨k, rfl, ok7⟩ := okInt ok6
      exact ⟨j, k, d2.int_inv, d3.int_inv, (fin_fresh ok7 R3 ((F1.trans F2).trans F3)).bl⟩
    · rename_i e
      rw [if_neg e] at ok5
      exact (fin_fresh ok5 R2 (F1.trans F2)).bl
  refine ⟨⟨_, fun X g => pe_chain (op_ord h1 k1 X) (op_ord h2 k2 X) (pa X g) (pb X g) (pd X g) (pl_mark hz), sp⟩, ⟨_, fun X g => ⟨pt_chain (op_ord h1 k1 X) (op_ord h2 k2 X) (pa X g) (pb X g) (pd X g) (pl_mark hz), fun e => nomatch e⟩, fun σ H ρ S Pr Q R ok => ?_⟩⟩
  refine sp false σ H ρ S Pr _ R ?_
  rw [Bool.not_false, Bool.and_true]
  simp only [evalT] at ok
  refine ok.last.mono fun d e1 H1 S1 R1 F1 h v L dr rs => ?_
  obtain ⟨k, rfl, ok'⟩ := okBool0 h
  exact ⟨k, dr.bl_inv, ok' H1 S1 R1 Fr.refl⟩
theorem se_one {a : E} {op : BoolOp} {x : Expr} {pos : Pos} (sa : SE T lv P w K mg base c W a x) : SE T lv P w K mg base c W (.one a) (.BoolOp op [x] pos) := by
  obtain ⟨ta, pa, ea⟩ := sa
  refine ⟨ta, fun X g => pe_one (pa X g), fun own σ H ρ S Pr Q R ok => ?_⟩
  simp only [evalE, E.pure, E.src] at ok
  exact ea own σ H ρ S Pr Q R ok
theorem st_one {a : E} {op : BoolOp} {x : Expr} {pos : Pos} (sa : ST T lv P w K mg base c W a x) : ST T lv P w K mg base c W (.one a) (.BoolOp op [x] pos) := by
  obtain ⟨ta, pa, ea⟩ := sa
  refine ⟨ta, fun X g => ?_, fun σ H ρ S Pr Q R ok => ?_⟩
  · cases op with
    | And => exact ⟨(pw_and1 (pa X g).1).pt, fun _ => pw_and1 (pa X g).1⟩
    | Or => exact ⟨(pw_or1 (pa X g).1).pt, fun _ => pw_or1 (pa X g).1⟩
  · simp only [evalT, E.pure] at ok
    exact ea σ H ρ S Pr Q R ok
theorem se_and {a b : E} {x y : Expr} {r : List Expr} {pos : Pos} (sa : SE T lv P w K mg base c W a x) (sb : SE T lv P w K mg base c W b (.BoolOp .And (y :: r) pos)) : SE T lv P w K mg base c W (.and a b) (.BoolOp .And (x :: y :: r) pos) := by
  obtain ⟨ta, pa, ea⟩ := sa
  obtain ⟨tb, pb, eb⟩ := sb
  refine ⟨tAndV ta tb, fun X g => pe_and (pa X g) (pb X g), fun own σ H ρ S Pr Q R ok => ?_⟩
  simp only [evalE, E.pure, E.src, Bool.and_assoc] at ok
  show ta σ H _
  refine use_E ea R ok fun x' e1 H1 S1 v L R1 F1 d1 _ ok1 => ?_
  obtain ⟨k, rfl, ok2⟩ := okBool ok1
  refine ⟨k, d1.bl_inv, ?_⟩
  have ok3 := okIt ok2
  split
  · rename_i e
    rw [if_pos e] at ok3
    exact eb own σ H1 e1 S1 Pr Q R1 (ok3.mono fun d e H' S' _ _ h => finE_back F1 h)
  · rename_i e
    rw [if_neg e] at ok3
    exact (fin_fresh ok3 R1 F1).bl
theorem se_or {a b : E} {x y : Expr} {r : List Expr} {pos : Pos} (sa : SE T lv P w K mg base c W a x) (sb : SE T lv P w K mg base c W b (.BoolOp .Or (y :: r) pos)) : SE T lv P w K mg base c W (.or a b) (.BoolOp .Or (x :: y :: r) pos) := by
  obtain ⟨ta, pa, ea⟩ := sa
  obtain ⟨tb, pb, eb⟩ := sb
  refine ⟨tOrV ta tb, fun X g => pe_or (pa X g) (pb X g), fun own σ H ρ S Pr Q R ok => ?_⟩
  simp only [evalE, E.pure, E.src, Bool.and_assoc] at ok
  show ta σ H _
  refine use_E ea R ok fun x' e1 H1 S1 v L R1 F1 d1 _ ok1 => ?_
  obtain ⟨k, rfl, ok2⟩ := okBool ok1
  refine ⟨k, d1.bl_inv, ?_⟩
  have ok3 := okIt ok2
  split
  · rename_i e
    rw [if_pos e] at ok3
    exact (fin_fresh ok3 R1 F1).bl
  · rename_i e
    rw [if_neg e] at ok3
    exact eb own σ H1 e1 S1 Pr Q R1 (ok3.mono fun d e H' S' _ _ h => finE_back F1 h)
theorem st_and {a b : E} {x y : Expr} {r : List Expr} {pos : Pos} (sa : ST T lv P w K mg base c W a x) (sb : ST T lv P w K mg base c W b (.BoolOp .And (y :: r) pos)) : ST T lv P w K mg base c W (.and a b) (.BoolOp .And (x :: y :: r) pos) := by
  obtain ⟨ta, pa, ea⟩ := sa
  obtain ⟨tb, pb, eb⟩ := sb
  refine ⟨tAnd ta tb, fun X g => have z := pw_and (pa X g).1 ((pb X g).2 rfl); ⟨z.pt, fun _ => z⟩, fun σ H ρ S Pr Q R ok => ?_⟩
  simp only [evalT, E.pure] at ok
  show ta σ H _
  refine use_T ea R ok fun k e1 H1 S1 R1 F1 ok1 => ?_
  have ok3 := okIt ok1
  split
  · rename_i e
    rw [if_pos e] at ok3
    exact eb σ H1 e1 S1 Pr Q R1 ok3
  · rename_i e
    rw [if_neg e] at ok3
    exact ok3 H1 S1 R1 Fr.refl
theorem st_or {a b : E} {x y : Expr} {r : List Expr} {pos : Pos} (sa : ST T lv P w K mg base c W a x) (sb : ST T lv P w K mg base c W b (.BoolOp .Or (y :: r) pos)) : ST T lv P w K mg base c W (.or a b) (.BoolOp .Or (x :: y :: r) pos) := by
  obtain ⟨ta, pa, ea⟩ := sa
  obtain ⟨tb, pb, eb⟩ := sb
  refine ⟨tOr ta tb, fun X g => have z := pw_or (pa X g).1 ((pb X g).2 rfl); ⟨z.pt, fun _ => z⟩, fun σ H ρ S Pr Q R ok => ?_⟩
  simp only [evalT, E.pure] at ok
  show ta σ H _
  refine use_T ea R ok fun k e1 H1 S1 R1 F1 ok1 => ?_
  have ok3 := okIt ok1
  split
  · rename_i e
    rw [if_pos e] at ok3
    exact ok3 H1 S1 R1 Fr.refl
  · rename_i e
    rw [if_neg e] at ok3
    exact eb σ H1 e1 S1 Pr Q R1 ok3
theorem se_ite {a b d : E} {x y z : Expr} {pos : Pos} (sa : ST T lv P w K mg base c W a x) (sb : SE T lv P w K mg base c W b y) (sd : SE T lv P w K mg base c W d z) : SE T lv P w K mg base c W (.ite a b d) (.IfExp x y z pos) := by
  obtain ⟨ta, pa, ea⟩ := sa
  obtain ⟨tb, pb, eb⟩ := sb
  obtain ⟨td, pd, ed⟩ := sd
  refine ⟨tIf ta tb td, fun X g => pe_ifExp (pa X g).1 (pb X g) (pd X g), fun own σ H ρ S Pr Q R ok => ?_⟩
  simp only [evalE, E.pure, E.src, Bool.and_assoc] at ok
  show ta σ H _
  refine use_T ea R ok fun k e1 H1 S1 R1 F1 ok1 => ?_
  have ok3 := okIt ok1
  split
  · rename_i e
    rw [if_pos e] at ok3
    refine eb own σ H1 e1 S1 Pr Q R1 ((ok3.mono fun d e H' S' _ _ h => finE_src (fun i m => List.mem_append_left _ m) (finE_back F1 h)).le fun z => ?_)
    simp only [Bool.and_eq_true] at z ⊢
    exact ⟨z.1, z.2.2⟩
  · rename_i e
    rw [if_neg e] at ok3
    refine ed own σ H1 e1 S1 Pr Q R1 ((ok3.mono fun d e H' S' _ _ h => finE_src (fun i m => List.mem_append_right _ m) (finE_back F1 h)).le fun z => ?_)
    simp only [Bool.and_eq_true] at z ⊢
    exact z.2

/-! ### items, slices -/
theorem okNeed {own : Bool} {fin : D → En → Hp → Foot → Prop} {d : D} (h : OkP K mg W q Pr σ H S fin (needIm own d ρ)) : (own = true → d.isIm = true) ∧ OkP K mg W q Pr σ H S fin (.ok d ρ) := by
  unfold needIm at h
  split at h
  · rename_i e
    split at h
    · rename_i e2; exact ⟨fun _ => e2, h⟩
    · exact h.elim
  · rename_i e; exact ⟨fun z => absurd z e, h⟩
theorem isIm_inv {d : D} (h : d.isIm = true) : ∃ x, d = .im x := by
  cases d <;> first | exact ⟨_, rfl⟩ | cases h
theorem bind_assoc' {α β γ : Type} (o : Out α) (f : α → En → Out β) (g : β → En → Out γ) : (o.bind f).bind g = o.bind fun a e => (f a e).bind g := by
  cases o <;> rfl
theorem still_bind {α : Type} {d : D} {b : Bool} {o : Out D} {f : D → En → Out α} {fin : α → En → Hp → Foot → Prop} (h : OkP K mg W p Pr σ H S fin ((still d b o).bind f)) : (d.isIm || b) = true ∧ OkP K mg W p Pr σ H S fin (o.bind f) := by
  unfold still at h
  split at h
  · rename_i e; exact ⟨e, h⟩
  · exact h.elim
theorem lift_bind {α β : Type} {o : Option β} {e : En} {f : β → En → Out α} {fin : α → En → Hp → Foot → Prop} (h : OkP K mg W p Pr σ H S fin ((lift o e).bind f)) : ∃ a, o = some a ∧ OkP K mg W p Pr σ H S fin (f a e) := by
  cases o with
  | none => exact h.elim
  | some a => exact ⟨a, rfl, h⟩
theorem use_Ee {α : Type} {a : E} {ta : TE} {Q : VK} {fin : α → En → Hp → Foot → Prop} {f : D → En → Out α} (ea : SpE T K mg W a ta) (R : SR K Pr H σ ρ S)
    (ok : OkP K mg W (a.pure && q) Pr σ H S fin ((evalE T a false ρ).bind f))
    (k : ∀ d e1 H1 S1 v L, evalE T a false ρ = .ok d e1 → SR K Pr H1 σ e1 S1 → Fr a.pure H S H1 S1 → DR K H1 d v L → Res false a.src Pr H S H1 S1 L → OkP K mg W q Pr σ H1 S1 fin (f d e1) → Q v H1) : ta σ H Q := by
  refine ea false σ H ρ S Pr Q R ?_
  rw [Bool.not_false, Bool.and_true]
  have ok' := ok.bind2
  cases e : evalE T a false ρ with
  | bad => rw [e] at ok'; exact ok'
  | exc _ _ _ _ => rw [e] at ok'; exact ok'
  | ok d e1 =>
    rw [e] at ok'
    exact fun H1 S1 R1 F1 v L dr rs => k d e1 H1 S1 v L e R1 F1 dr rs (ok' H1 S1 R1 F1)
theorem se_ix {a b : E} {x y : Expr} {pos : Pos} (hy : plainX y = true) (sa : SE T lv P w K mg base c W a x) (sb : SE T lv P w K mg base c W b y) : SE T lv P w K mg base c W (.ix a b) (.Subscript x y pos) := by
  obtain ⟨ta, pa, ea⟩ := sa
  obtain ⟨tb, pb, eb⟩ := sb
  refine ⟨fun σ H Q => tOp (rIx K) ta tb σ H Q ∨ tDGet ta tb σ H Q, fun X g => ?_, fun own σ H ρ S Pr Q R ok => ?_⟩
  · have r := @ix_seq X
    rw [g.hK] at r
    exact PE.or (pe_ix r (pa X g) (pb X g) (pl_ix hy)) (pe_dget (Nat.lt_trans (Nat.add_lt_add_left (by decide) _) g.un) (pa X g) (pb X g) (pl_ix hy))
  · simp only [evalE, E.pure, E.src, Bool.and_assoc, bind_assoc'] at ok
    -- what is behind both
    have key : ∀ {x' y' z : D} {v u : V} {L M : List Addr} {e1 e2 : En} {H1 H2 : Hp} {S1 S2 : Foot}, SR K Pr H1 σ e1 S1 → SR K Pr H2 σ e2 S2 → Fr a.pure H S H1 S1 → Fr b.pure H1 S1 H2 S2 → DR K H1 x' v L → Res false a.src Pr H S H1 S1 L → (x'.isIm || b.pure) = true →
        OkP K mg W (!own) Pr σ H2 S2 (finE K own a.src Pr H S Q) (needIm own z e2) → POk K H2 z L Q := by
      intro x' y' z v u L M e1 e2 H1 H2 S1 S2 R1 R2 F1 F2 d1 r1 hs ok
      obtain ⟨hi, ok⟩ := okNeed ok
      intro w' L' dz hL
      refine ok H2 S2 R2 Fr.refl w' L' dz ⟨fun q m => ?_, fun e => ?_⟩
      · cases hx : x'.isIm with
        | true =>
          obtain ⟨i, rfl⟩ := isIm_inv hx
          obtain ⟨rfl, _⟩ := d1.im_inv
          exact absurd (hL q m) List.not_mem_nil
        | false =>
          rw [hx, Bool.false_or] at hs
          obtain ⟨e1, _⟩ := F2.pur hs
          rw [e1]
          exact r1.any q (hL q m)
      · obtain ⟨i, rfl⟩ := isIm_inv (hi e)
        obtain ⟨rfl, _⟩ := dz.im_inv
        exact ⟨List.nodup_nil, fun q m => absurd m List.not_mem_nil⟩
    by_cases hd : ∃ t kvs e, evalE T a false ρ = .ok (.dct t kvs) e
    · refine .inr ?_
      obtain ⟨t, kvs, e0, he⟩ := hd
      show ta σ H _
      refine use_Ee ea R ok fun x' e1 H1 S1 v L hq R1 F1 d1 r1 ok1 => ?_
      rw [he] at hq
      cases hq
      obtain ⟨hs, ok2⟩ := still_bind ok1
      rw [bind_assoc'] at ok2
      show tb σ H1 _
      refine use_E eb R1 ok2 fun y' e2 H2 S2 u M R2 F2 d2 _ ok3 => ?_
      obtain ⟨z, hz, ok4⟩ := lift_bind ok3
      obtain ⟨a', w', rfl, g, q⟩ := ix_dct hz (d1.still hs F2 R1) d2 (key (y' := y') (u := u) (M := M) R1 R2 F1 F2 d1 r1 hs ok4)
      exact ⟨a', w', rfl, g, q⟩
    · refine .inl ?_
      show ta σ H _
      refine use_Ee ea R ok fun x' e1 H1 S1 v L hq R1 F1 d1 r1 ok1 => ?_
      obtain ⟨hs, ok2⟩ := still_bind ok1
      rw [bind_assoc'] at ok2
      show tb σ H1 _
      refine use_E eb R1 ok2 fun y' e2 H2 S2 u M R2 F2 d2 _ ok3 => ?_
      obtain ⟨z, hz, ok4⟩ := lift_bind ok3
      exact ix_ok hz (fun t kvs e => hd ⟨t, kvs, e1, by rw [hq, e]⟩) (d1.still hs F2 R1) d2 (key (y' := y') (u := u) (M := M) R1 R2 F1 F2 d1 r1 hs ok4)
end
end Kh

set_option Elab.async false
set_option linter.all false
set_option maxRecDepth 100000
set_option maxHeartbeats 2000000
/-! expressions: parts of slices, lists of expressions, displays, built-in calls -/
namespace Kh
open PySem PySem.Spec PyProof.Rows L2

section
variable (T : Tab) (lv : Nat) (P : Program) (w : World) (K : PySem.W.Frag) (mg : Str → Option Value) (base : Heap)
def SpO (W : WX) (mo : Eo) (t : TO) : Prop := ∀ σ H ρ S Pr Q, SR K Pr H σ ρ S → OkP K mg W mo.pure Pr σ H S (fun o _ H' _ => Q o H') (evalO T mo ρ) → t σ H Q
def SO (c : Cs) (W : WX) (mo : Eo) (xo : Option Expr) : Prop := ∃ t : TO, (∀ X, Gd lv c W P w K mg base X → PO X xo t) ∧ SpO T K mg W mo t
/-- the arguments of a call on the heap, apart from what is left in the places -/
structure ArgR (Pr : List Addr) (H : Hp) (S : Foot) (σ : L2.St) (H1 : Hp) (S1 : Foot) (as : List (Slot × Option Nat)) (vs : List V) (Sa : Foot) : Prop where
  sr : SR K Pr H1 (vs.map some) (as.map (·.1)) Sa
  ap : ∀ (k : Nat) (a : Addr), a ∈ Sa k → ∀ i : Nat, a ∉ S1 i
  pv : ∀ (k : Nat) (a : Addr), a ∈ Sa k → (∃ i : Nat, a ∈ S i) ∨ H a = none
  ld : ∀ (k i : Nat) (s : Slot), as[k]? = some (s, some i) → ∃ v, vs[k]? = some v ∧ σ[i]? = some (some v)
def SpAs (W : WX) (es : Es) (t : TA) : Prop := ∀ σ H ρ S Pr Q, SR K Pr H σ ρ S → OkP K mg W false Pr σ H S (fun as _ H1 S1 => ∀ vs Sa, ArgR K Pr H S σ H1 S1 as vs Sa → Q vs H1) (evalAs T es ρ) → t σ H Q
def SEs (c : Cs) (W : WX) (es : Es) (xs : List Expr) : Prop := ∃ t : TA, (∀ X, Gd lv c W P w K mg base X → PA X xs t) ∧ SpEs T K mg W es t ∧ SpBs T K mg W es t ∧ SpAs T K mg W es t
end
section
variable {T : Tab} {lv : Nat} {P : Program} {w : World} {K : PySem.W.Frag} {mg : Str → Option Value} {base : Heap} {c : Cs} {W : WX}
variable {σ : L2.St} {H : Hp} {ρ : En} {S : Foot} {Pr : List Addr} {p q : Bool}

theorem so_no : SO T lv P w K mg base c W .no none :=
  ⟨tNoPart, fun X g => po_none, fun σ H ρ S Pr Q R ok => by
    simp only [evalO] at ok
    exact ok H S R Fr.refl⟩
theorem so_some {a : E} {x : Expr} (sa : SE T lv P w K mg base c W a x) : SO T lv P w K mg base c W (.so a) (some x) := by
  obtain ⟨ta, pa, ea⟩ := sa
  refine ⟨tPart ta, fun X g => po_some (pa X g), fun σ H ρ S Pr Q R ok => ?_⟩
  simp only [evalO, Eo.pure] at ok
  rw [← Bool.and_true a.pure] at ok
  show ta σ H _
  refine use_E ea R ok fun d e1 H1 S1 v L R1 F1 d1 _ ok1 => ?_
  obtain ⟨i, rfl, ok2⟩ := okInt ok1
  exact ⟨i, d1.int_inv, ok2 H1 S1 R1 Fr.refl⟩
theorem use_O2 {α : Type} {a : Eo} {ta : TO} {Q : Option Int → Hp → Prop} {fin : α → En → Hp → Foot → Prop} {f : Option Int → En → Out α} (ea : SpO T K mg W a ta) (R : SR K Pr H σ ρ S)
    (ok : OkP K mg W (a.pure && q) Pr σ H S fin ((evalO T a ρ).bind f))
    (k : ∀ d e1 H1 S1, SR K Pr H1 σ e1 S1 → Fr a.pure H S H1 S1 → OkP K mg W q Pr σ H1 S1 fin (f d e1) → Q d H1) : ta σ H Q :=
  ea σ H ρ S Pr Q R (ok.bind2.mono fun d e1 H1 S1 R1 F1 h => k d e1 H1 S1 R1 F1 h)
theorem fin_need {own : Bool} {H0 : Hp} {S0 : Foot} {Q : VK} {z : D} {src : List Nat} (ok : OkP K mg W q Pr σ H S (finE K own src Pr H0 S0 Q) (needIm own z ρ)) (R : SR K Pr H σ ρ S) (F : Fr p H0 S0 H S) : VOk K H z Q :=
  fin_fresh (okNeed ok).2 R F
theorem se_sl {a : E} {lo hi : Eo} {x : Expr} {l h : Option Expr} {pos p2 : Pos} (sa : SE T lv P w K mg base c W a x) (sl : SO T lv P w K mg base c W lo l) (sh : SO T lv P w K mg base c W hi h) :
    SE T lv P w K mg base c W (.sl a lo hi) (.Subscript x (.Slice l h none p2) pos) := by
  obtain ⟨ta, pa, ea⟩ := sa
  obtain ⟨tl, pl, el⟩ := sl
  obtain ⟨th, ph, eh⟩ := sh
  refine ⟨tSl (rSl K) ta tl th, fun X g => ?_, fun own σ H ρ S Pr Q R ok => ?_⟩
  · have r := @sl_all X
    rw [g.hK] at r
    exact pe_slice r (pa X g) (pl X g) (ph X g)
  · simp only [evalE, E.pure, E.src, Bool.and_assoc, bind_assoc'] at ok
    show ta σ H _
    refine use_E ea R ok fun x' e1 H1 S1 v L R1 F1 d1 r1 ok1 => ?_
    obtain ⟨hs, ok2⟩ := still_bind ok1
    simp only [bind_assoc'] at ok2
    show tl σ H1 _
    refine use_O2 el R1 ok2 fun l e2 H2 S2 R2 F2 ok3 => ?_
    show th σ H2 _
    refine use_O2 eh R2 ok3 fun u e3 H3 S3 R3 F3 ok4 => ?_
    obtain ⟨z, hz, ok5⟩ := lift_bind ok4
    exact sl_ok hz (d1.still hs (F2.trans F3) R1) (fin_need ok5 R3 (F1.trans (F2.trans F3)))

/-! ### lists of expressions -/
theorem fin_own {H0 : Hp} {S0 : Foot} {Q : VK} {own : Bool} {src : List Nat} {z : D} {L : List Addr} {v : V} {H' : Hp} (ok : OkP K mg W q Pr σ H S (finE K own src Pr H0 S0 Q) (.ok z ρ)) (R : SR K Pr H σ ρ S) (g : ∀ a o, H a = some o → H' a = some o)
    (dr : DR K H' z v L) (nd : L.Nodup) (hL : ∀ a ∈ L, (∀ i, a ∉ S i) ∧ a ∉ Pr ∧ ((∃ i, a ∈ S0 i) ∨ H0 a = none) ∧ MutAt H' a) : Q v H' :=
  ok H' S (R.grow g) (Fr.ext g) v L dr (Res.of ⟨nd, hL⟩)
theorem MutAt.grow {H H' : Hp} {a : Addr} (h : MutAt H a) (g : ∀ a o, H a = some o → H' a = some o) : MutAt H' a := let ⟨o, e, z⟩ := h; ⟨o, g _ _ e, z⟩
theorem ses_nil : SEs T lv P w K mg base c W .nil [] := by
  refine ⟨tNil, fun X g => pa_nil, fun σ H ρ S Pr Q R ok => ?_, fun σ H ρ S Pr Q R ok => ?_, fun σ H ρ S Pr Q R ok => ?_⟩
  · simp only [evalEs] at ok
    exact ok H S R Fr.refl [] [] .nil Res.nil
  · simp only [evalBs] at ok
    exact ok H S R Fr.refl [] .nil
  · simp only [evalAs] at ok
    refine ok H S R Fr.refl [] (fun _ => []) ⟨⟨rfl, ?_, ?_, fun _ _ => rfl, fun _ => List.nodup_nil, ?_, ?_, ?_, R.pa⟩, ?_, ?_, ?_⟩ <;> simp
theorem okAsIm {α : Type} {fin : α → En → Hp → Foot → Prop} {d : D} {f : I → En → Out α} (ok : OkP K mg W q Pr σ H S fin ((asIm d ρ).bind f)) :
    ∃ i, d = .im i ∧ OkP K mg W q Pr σ H S fin (f i ρ) := by
  unfold asIm at ok
  split at ok
  · exact ⟨_, rfl, ok⟩
  · exact ok.elim
/-- an argument ahead of the others -/
theorem arg_cons {H1 H2 : Hp} {S1 S2 : Foot} {e1 : En} {s : Slot} {o : Option Nat} {v : V} {L : List Addr} {as : List (Slot × Option Nat)} {vs : List V} {Sa : Foot} (R : SR K Pr H σ ρ S) (R1 : SR K Pr H1 σ e1 S1) (F1 : Fr p H S H1 S1) (F2 : Fr q H1 S1 H2 S2)
    (A : ArgR K Pr H1 S1 σ H2 S2 as vs Sa) (hs : ∀ d, s = .own d → DR K H1 d v L) (hb : ∀ d, s = .bor d → L = [] ∧ ∃ R, DR K H1 d v R ∧ ∀ a ∈ R, a ∈ Pr) (hn : s ≠ .no) (nd : L.Nodup)
    (hL : ∀ a ∈ L, (∀ i, a ∉ S1 i) ∧ a ∉ Pr ∧ ((∃ i, a ∈ S i) ∨ H a = none) ∧ MutAt H1 a) (ho : ∀ i, o = some i → σ[i]? = some (some v)) :
    ArgR K Pr H S σ H2 S2 ((s, o) :: as) (v :: vs) (fun k => match k with | 0 => L | k + 1 => Sa k) := by
  have st : Stay H1 H2 L := R1.stay F2 fun a m => (hL a m).1
  have apart : ∀ a ∈ L, ∀ k, a ∉ Sa k := fun a m k n => by
    rcases A.pv k a n with ⟨i, z⟩ | z
    · exact (hL a m).1 i z
    · exact (hL a m).2.2.2.there z
  refine ⟨⟨?_, fun i d e => ?_, fun i d e => ?_, fun i e => ?_, fun i => ?_, fun i j a m n => ?_, fun i a m => ?_, fun i a m => ?_, A.sr.pa⟩, fun k a m => ?_, fun k a m => ?_, fun k i s' e => ?_⟩
  · have := A.sr.len; simp at this ⊢; exact this
  · cases i with
    | zero =>
      have e' : s = .own d := Option.some.inj e
      exact ⟨v, rfl, (hs d e').stay st⟩
    | succ i => exact A.sr.own i d e
  · cases i with
    | zero =>
      have e' : s = .bor d := Option.some.inj e
      obtain ⟨_, M, dr, hM⟩ := hb d e'
      exact ⟨v, M, rfl, dr.stay ((R1.stayP F2).mono hM), hM⟩
    | succ i => exact A.sr.bor i d e
  · cases i with
    | zero =>
      cases s with
      | no => exact absurd rfl hn
      | own d => exact absurd rfl (e d)
      | bor d => exact (hb d rfl).1
    | succ i => exact A.sr.emp i e
  · cases i with
    | zero => exact nd
    | succ i => exact A.sr.nd i
  · cases i with
    | zero =>
      cases j with
      | zero => rfl
      | succ j => exact absurd n (apart a m j)
    | succ i =>
      cases j with
      | zero => exact absurd m (apart a n i)
      | succ j => exact congrArg (· + 1) (A.sr.dj i j a m n)
  · cases i with
    | zero =>
      obtain ⟨o, e, z⟩ := (hL a m).2.2.2
      exact ⟨o, st a o e (.inr m), z⟩
    | succ i => exact A.sr.mu i a m
  · cases i with
    | zero => exact (hL a m).2.1
    | succ i => exact A.sr.pt i a m
  · cases k with
    | zero =>
      intro i n
      rcases F2.own i a n with ⟨j, z⟩ | z
      · exact (hL a m).1 j z
      · exact (hL a m).2.2.2.there z
    | succ k => exact A.ap k a m
  · cases k with
    | zero => exact (hL a m).2.2.1
    | succ k => exact F1.prov (A.pv k a m)
  · cases k with
    | zero =>
      have e' : (s, o) = (s', some i) := Option.some.inj e
      have e2 : o = some i := congrArg Prod.snd e'
      exact ⟨v, rfl, ho i e2⟩
    | succ k => exact A.ld k i s' e
theorem ses_cons {a : E} {x : Expr} {es : Es} {xs : List Expr} (hx : plainX x = true) (sa : SE T lv P w K mg base c W a x) (hv : ∀ i, a = .var i → (∀ X, Gd lv c W P w K mg base X → PE X x (tVar i)) ∧ SpE T K mg W (.var i) (tVar i)) (sr : SEs T lv P w K mg base c W es xs) : SEs T lv P w K mg base c W (.cons a es) (x :: xs) := by
  obtain ⟨ta, pa, ea, hvt⟩ : ∃ ta : TE, (∀ X, Gd lv c W P w K mg base X → PE X x ta) ∧ SpE T K mg W a ta ∧ ∀ i, a = .var i → ta = tVar i := by
    cases a with
    | var i => exact ⟨tVar i, (hv i rfl).1, (hv i rfl).2, fun j e => by cases e; rfl⟩
    | _ =>
      obtain ⟨ta, pa, ea⟩ := sa
      exact ⟨ta, pa, ea, fun i e => nomatch e⟩
  obtain ⟨tr, pr, er, br, ar⟩ := sr
  refine ⟨tCons ta tr, fun X g => pa_cons (pa X g) (pr X g) (pl_star hx), fun σ H ρ S Pr Q R ok => ?_, fun σ H ρ S Pr Q R ok => ?_, fun σ H ρ S Pr Q R ok => ?_⟩
  · simp only [evalEs] at ok
    show ta σ H _
    refine use_O (q := false) ea R ok fun d e1 H1 S1 v L R1 F1 d1 r1 ok1 => ?_
    show tr σ H1 _
    refine er σ H1 e1 S1 Pr _ R1 ((ok1.bind0 (q := true)).mono fun ds e2 H2 S2 R2 F2 ok2 vs L2 ds2 r2 => ?_)
    obtain ⟨n1, h1⟩ := r1.mine rfl
    obtain ⟨n2, h2⟩ := r2.mine rfl
    have st : Stay H1 H2 L := R1.stay F2 fun a m => (h1 a m).1
    have apart : ∀ a ∈ L, a ∉ L2 := fun a m n => by
      rcases (h2 a n).2.2.1 with ⟨i, z⟩ | z
      · exact (h1 a m).1 i z
      · exact (h1 a m).2.2.2.there z
    refine ok2 H2 S2 R2 (Fr.refl (p := true)) (v :: vs) (L ++ L2) (.cons (d1.stay st) ds2) (Res.of ⟨List.nodup_append.mpr ⟨n1, n2, fun a m b n e => apart a m (e ▸ n)⟩, fun a m => ?_⟩)
    rcases List.mem_append.mp m with m | m
    · refine ⟨fun i n => ?_, (h1 a m).2.1, (h1 a m).2.2.1, ?_⟩
      · rcases F2.own i a n with ⟨j, z⟩ | z
        · exact (h1 a m).1 j z
        · exact (h1 a m).2.2.2.there z
      · obtain ⟨o, e, z⟩ := (h1 a m).2.2.2
        exact ⟨o, st a o e (.inr m), z⟩
    · exact ⟨(h2 a m).1, (h2 a m).2.1, F1.prov (h2 a m).2.2.1, (h2 a m).2.2.2⟩
  · simp only [evalBs, Es.pure] at ok
    show ta σ H _
    refine use_E ea R ok fun d e1 H1 S1 v L R1 F1 d1 r1 ok1 => ?_
    obtain ⟨x', rfl, ok2⟩ := okAsIm ok1
    show tr σ H1 _
    refine br σ H1 e1 S1 Pr _ R1 (ok2.last.mono fun ds e2 H2 S2 R2 F2 ok3 vs rv => ?_)
    exact ok3 H2 S2 R2 Fr.refl (v :: vs) (.cons (d1.im_inv.2.stay (R1.stay (L := []) F2 fun a m => absurd m List.not_mem_nil)) rv)
  · have fin : ∀ {d : D} {e1 : En} {H1 : Hp} {S1 : Foot} {v : V} {L : List Addr} {s : Slot} {o : Option Nat}, SR K Pr H1 σ e1 S1 → Fr false H S H1 S1 →
        (∀ d, s = .own d → DR K H1 d v L) → (∀ d, s = .bor d → L = [] ∧ ∃ R, DR K H1 d v R ∧ ∀ a ∈ R, a ∈ Pr) → s ≠ .no → L.Nodup →
        (∀ a ∈ L, (∀ i, a ∉ S1 i) ∧ a ∉ Pr ∧ ((∃ i, a ∈ S i) ∨ H a = none) ∧ MutAt H1 a) → (∀ i, o = some i → σ[i]? = some (some v)) →
        OkP K mg W false Pr σ H1 S1 (fun as _ H1 S1 => ∀ vs Sa, ArgR K Pr H S σ H1 S1 as vs Sa → Q vs H1) ((evalAs T es e1).bind fun ss e => .ok ((s, o) :: ss) e) → tr σ H1 fun vs H2 => Q (v :: vs) H2 := by
      intro d e1 H1 S1 v L s o R1 F1 hs hb hn nd hL ho ok1
      refine ar σ H1 e1 S1 Pr _ R1 ((ok1.bind0 (q := true)).mono fun as e2 H2 S2 R2 F2 ok2 vs Sa A => ?_)
      exact ok2 H2 S2 R2 (Fr.refl (p := true)) (v :: vs) _ (arg_cons R R1 F1 F2 A hs hb hn nd hL ho)
    have gen : OkP K mg W false Pr σ H S (fun as _ H1 S1 => ∀ vs Sa, ArgR K Pr H S σ H1 S1 as vs Sa → Q vs H1) (((evalE T a true ρ).bind fun x e => .ok (Slot.own x, none) e).bind fun s e => (evalAs T es e).bind fun ss e => .ok (s :: ss) e) → ta σ H fun x H1 => tr σ H1 fun xs H2 => Q (x :: xs) H2 := by
      intro ok
      rw [bind_assoc'] at ok
      refine use_O (q := false) ea R ok fun d e1 H1 S1 v L R1 F1 d1 r1 ok1 => ?_
      obtain ⟨n1, h1⟩ := r1.mine rfl
      exact fin (d := d) (s := .own d) (o := none) R1 F1 (fun d' e => by cases e; exact d1) (fun d' e => nomatch e) (fun e => nomatch e) n1 h1 (fun i e => nomatch e) ok1
    cases a with
    | var i =>
      cases hvt i rfl
      simp only [evalAs, lendS] at ok
      split at ok
      · rename_i x' e
        obtain ⟨v, e1, dr⟩ := R.own i _ e
        exact ⟨v, e1, fin (d := .im x') (s := .own (.im x')) (o := none) R Fr.refl (fun d' e => by cases e; exact .im dr.im_inv.2) (fun d' e => nomatch e) (fun e => nomatch e) List.nodup_nil (fun a m => absurd m List.not_mem_nil) (fun i e => nomatch e) ok⟩
      · rename_i d hd e
        obtain ⟨v, e1, dr⟩ := R.own i _ e
        refine ⟨v, e1, fin (d := d) (s := .own d) (o := some i) (R.drop' i) Fr.drop (fun d' e => by cases e; exact dr) (fun d' e => nomatch e) (fun e => nomatch e) (R.nd i) (fun a m => ⟨fun j n => ?_, R.pt i a m, .inl ⟨i, m⟩, R.mu i a m⟩) (fun j e => by cases e; exact e1) (ok.shift0 (p := false) (S1 := S.set i []) Fr.drop)⟩
        by_cases q : j = i
        · subst q; rw [Foot.set_same] at n; cases n
        · rw [Foot.set_ne q] at n; exact q (R.dj j i a n m)
      · rename_i d e
        obtain ⟨v, L, e1, dr, hL⟩ := R.bor i _ e
        refine ⟨v, e1, ?_⟩
        cases d with
        | im x' => exact fin (d := .im x') (s := .own (.im x')) (o := none) R Fr.refl (fun d' e => by cases e; exact .im dr.im_inv.2) (fun d' e => nomatch e) (fun e => nomatch e) List.nodup_nil (fun a m => absurd m List.not_mem_nil) (fun i e => nomatch e) ok
        | tup ds => exact fin (d := .im .non) (s := .bor (.tup ds)) (o := none) R Fr.refl (fun d' e => nomatch e) (fun d' e => by cases e; exact ⟨rfl, L, dr, hL⟩) (fun e => nomatch e) List.nodup_nil (fun a m => absurd m List.not_mem_nil) (fun i e => nomatch e) ok
        | lst ds => exact fin (d := .im .non) (s := .bor (.lst ds)) (o := none) R Fr.refl (fun d' e => nomatch e) (fun d' e => by cases e; exact ⟨rfl, L, dr, hL⟩) (fun e => nomatch e) List.nodup_nil (fun a m => absurd m List.not_mem_nil) (fun i e => nomatch e) ok
        | dct t kvs => exact fin (d := .im .non) (s := .bor (.dct t kvs)) (o := none) R Fr.refl (fun d' e => nomatch e) (fun d' e => by cases e; exact ⟨rfl, L, dr, hL⟩) (fun e => nomatch e) List.nodup_nil (fun a m => absurd m List.not_mem_nil) (fun i e => nomatch e) ok
        | scr ns => exact fin (d := .im .non) (s := .bor (.scr ns)) (o := none) R Fr.refl (fun d' e => nomatch e) (fun d' e => by cases e; exact ⟨rfl, L, dr, hL⟩) (fun e => nomatch e) List.nodup_nil (fun a m => absurd m List.not_mem_nil) (fun i e => nomatch e) ok
      · exact ok.elim
    | _ => simp only [evalAs] at ok; exact gen ok
end
end Kh

set_option Elab.async false
set_option linter.all false
set_option maxRecDepth 100000
set_option maxHeartbeats 2000000
/-! displays, built-in calls, calls of the text's defs -/
namespace Kh
open PySem PySem.Spec PyProof.Rows L2

section
variable {T : Tab} {lv : Nat} {P : Program} {w : World} {K : PySem.W.Frag} {mg : Str → Option Value} {base : Heap} {c : Cs} {W : WX}
variable {σ : L2.St} {H : Hp} {ρ : En} {S : Foot} {Pr : List Addr} {p q : Bool}

theorem evalEs_len : ∀ {es : Es} {ρ : En} {ds : List D} {e : En}, evalEs T es ρ = .ok ds e → ds.length = es.len
  | .nil, _, ds, e, h => by
    simp only [evalEs] at h
    cases h; rfl
  | .cons a r, ρ, ds, e, h => by
    simp only [evalEs] at h
    cases h1 : evalE T a true ρ with
    | bad => rw [h1] at h; cases h
    | exc _ _ _ _ => rw [h1] at h; cases h
    | ok d e1 =>
      rw [h1] at h
      cases h2 : evalEs T r e1 with
      | bad => simp only [Out.bind, h2] at h; cases h
      | exc _ _ _ _ => simp only [Out.bind, h2] at h; cases h
      | ok xs e2 =>
        simp only [Out.bind, h2] at h
        cases h
        exact congrArg (· + 1) (evalEs_len h2)
theorem use_Es {α : Type} {es : Es} {ta : TA} {Q : List V → Hp → Prop} {fin : α → En → Hp → Foot → Prop} {f : List D → En → Out α} (ea : SpEs T K mg W es ta) (R : SR K Pr H σ ρ S)
    (ok : OkP K mg W false Pr σ H S fin ((evalEs T es ρ).bind f))
    (k : ∀ ds e1 H1 S1 vs L, ds.length = es.len → SR K Pr H1 σ e1 S1 → Fr false H S H1 S1 → DRs K H1 ds vs L → Res true [] Pr H S H1 S1 L → OkP K mg W q Pr σ H1 S1 fin (f ds e1) → Q vs H1) : ta σ H Q := by
  refine ea σ H ρ S Pr Q R ?_
  have ok' := ok.bind0 (p := false) (q := q)
  cases e : evalEs T es ρ with
  | bad => rw [e] at ok'; exact ok'
  | exc _ _ _ _ => rw [e] at ok'; exact ok'
  | ok ds e1 =>
    rw [e] at ok'
    exact fun H1 S1 R1 F1 vs L dr rs => k ds e1 H1 S1 vs L (evalEs_len e) R1 F1 dr rs (ok' H1 S1 R1 F1)
theorem thousand {n : Nat} (h : n ≤ 1000) : n ≤ sizeLine := Nat.le_trans h (by decide)
theorem not_mem_new {L : List Addr} {a : Addr} (h : ∀ b ∈ L, MutAt H b) (n : H a = none) : a ∉ L := fun m => (h a m).there n
theorem se_tup {es : Es} {xs : List Expr} {k : Nat} {pos : Pos} (hz : es.len ≤ 1000) (se : SEs T lv P w K mg base c W es xs) : SE T lv P w K mg base c W (.tup es) (.Tuple xs k pos) := by
  obtain ⟨t, pt, et, _, _⟩ := se
  refine ⟨tTup t, fun X g => pe_tup (pt X g), fun own σ H ρ S Pr Q R ok => ?_⟩
  simp only [evalE, E.pure, Bool.false_and] at ok
  show t σ H _
  refine use_Es (q := true) et R ok fun ds e1 H1 S1 vs L hl R1 F1 d1 r1 ok1 => ?_
  refine ⟨by rw [← d1.length, hl]; exact thousand hz, ?_⟩
  cases e : ims ds with
  | some ys =>
    have em : mkTup ds = .im (.tup ys) := by unfold mkTup; rw [e]
    rw [em] at ok1
    obtain ⟨rfl, _, ri⟩ := DRs.of_ims d1 e
    exact (fin_fresh ok1 R1 F1).tup ri
  | none =>
    have em : mkTup ds = .tup ds := by unfold mkTup; rw [e]
    rw [em] at ok1
    intro p hp
    obtain ⟨n1, h1⟩ := r1.mine rfl
    exact fin_own ok1 R1 (grow_new hp) (.tup sqT_new (d1.stay (stay_new hp))) n1 fun a m => ⟨(h1 a m).1, (h1 a m).2.1, (h1 a m).2.2.1, (h1 a m).2.2.2.grow (grow_new hp)⟩
theorem se_lst {es : Es} {xs : List Expr} {pos : Pos} (hz : es.len ≤ 1000) (se : SEs T lv P w K mg base c W es xs) : SE T lv P w K mg base c W (.lst es) (.List xs pos) := by
  obtain ⟨t, pt, et, _, _⟩ := se
  refine ⟨tLst t, fun X g => pe_lst (pt X g), fun own σ H ρ S Pr Q R ok => ?_⟩
  simp only [evalE, E.pure, Bool.false_and] at ok
  show t σ H _
  refine use_Es (q := true) et R ok fun ds e1 H1 S1 vs L hl R1 F1 d1 r1 ok1 => ?_
  refine ⟨by rw [← d1.length, hl]; exact thousand hz, fun p hp => ?_⟩
  obtain ⟨n1, h1⟩ := r1.mine rfl
  refine fin_own ok1 R1 (grow_new hp) (.lst upd_same (d1.stay (stay_new hp))) (List.nodup_cons.mpr ⟨not_mem_new (fun b m => (h1 b m).2.2.2) hp, n1⟩) fun a m => ?_
  rcases List.mem_cons.mp m with rfl | m
  · exact ⟨fun i n => (R1.mu i a n).there hp, fun n => (R1.pa a n).ne hp, F1.none_of hp, ⟨_, upd_same, rfl⟩⟩
  · exact ⟨(h1 a m).1, (h1 a m).2.1, (h1 a m).2.2.1, (h1 a m).2.2.2.grow (grow_new hp)⟩
theorem se_dnew {pos : Pos} : SE T lv P w K mg base c W .dnew (.Dict [] [] pos) := by
  refine ⟨tDNewK, fun X g => pe_dnewK, fun own σ H ρ S Pr Q R ok => ?_⟩
  simp only [evalE] at ok
  exact fun p hp => fin_fresh ok R (Fr.refl (p := true)) _ _ [p] (grow_new hp) (.dK (ws := []) List.nodup_nil (.inl upd_same) .nil) (Fresh.one hp rfl)
theorem star_all {env : PySem.Env} : ∀ {es : Es} {xs : List Expr}, chkEs c es xs = true → starEach xs env = xs.map fun x => (false, eval x env)
  | .nil, [], _ => rfl
  | .nil, _ :: _, h => by simp [chkEs] at h
  | .cons _ _, [], h => by simp [chkEs] at h
  | .cons e r, x :: xs, h => by
    simp only [chkEs, Bool.and_eq_true] at h
    rw [pl_star (chk_plain h.1), star_all h.2]
    rfl
theorem back_any {env : PySem.Env} {xs : List Expr} (pos : Pos) (h : starEach xs env = xs.map fun x => (false, eval x env)) : (backTo pos (starEach xs env)).any (·.1) = false := by
  rw [h]
  unfold backTo
  rw [List.map_map]
  induction xs with
  | nil => rfl
  | cons x xs ih => simp
theorem isGl_mg (G : Gl0 T lv P w K mg base) {X : Cx} (g : Gd lv c W P w K mg base X) {x : Str} (h : x ∈ builtins) : X.mg x = none := by
  rw [g.hm]; exact G.blt x h
theorem se_bi1 (G : Gl0 T lv P w K mg base) {f : Bi} {a : E} {g : Str} {x : Expr} {gp pos : Pos} (hb : f.blt = true) (hg : g = f.nm) (hgl : c.glo g = true) (hx : plainX x = true) (sa : SE T lv P w K mg base c W a x) :
    SE T lv P w K mg base c W (.bi f (.cons a .nil)) (.Call (.Name g gp) [x] [] pos) := by
  obtain ⟨ta, pa, ea⟩ := sa
  refine ⟨tCB (rBi K f) (tCons ta tNil), fun X gd => ?_, fun own σ H ρ S Pr Q R ok => ?_⟩
  · have r := pe_bi (X := X) (pos := pos) (p := gp) hb gd.calm (isGlo_gl gd.sc hgl) hg (by rw [hg]; exact isGl_mg G gd (nm_in hb)) (pa_cons (pa X gd) pa_nil (pl_star hx)) (pl_star hx) (fun _ => rfl)
    rw [gd.hK] at r
    exact r
  · simp only [evalE, E.pure, Es.pure, Bool.and_assoc] at ok
    show ta σ H _
    refine use_E ea R ok fun x' e1 H1 S1 v L R1 F1 d1 _ ok1 => ?_
    obtain ⟨z, hz, ok4⟩ := lift_ok ok1
    exact bi1_ok hz d1 (fin_fresh ok4 R1 F1)
theorem se_bi2 (G : Gl0 T lv P w K mg base) {f : Bi} {a b : E} {g : Str} {x y : Expr} {gp pos : Pos} (hb : f.blt = true) (hg : g = f.nm) (hgl : c.glo g = true) (hx : plainX x = true) (hy : plainX y = true) (sa : SE T lv P w K mg base c W a x) (sb : SE T lv P w K mg base c W b y) :
    SE T lv P w K mg base c W (.bi f (.cons a (.cons b .nil))) (.Call (.Name g gp) [x, y] [] pos) := by
  obtain ⟨ta, pa, ea⟩ := sa
  obtain ⟨tb, pb, eb⟩ := sb
  refine ⟨tCB (rBi K f) (tCons ta (tCons tb tNil)), fun X gd => ?_, fun own σ H ρ S Pr Q R ok => ?_⟩
  · have hs : starEach [y] X.env = [(false, eval y X.env)] := pl_star hy
    have r := pe_bi (X := X) (pos := pos) (p := gp) hb gd.calm (isGlo_gl gd.sc hgl) hg (by rw [hg]; exact isGl_mg G gd (nm_in hb)) (pa_cons (pa X gd) (pa_cons (pb X gd) pa_nil (pl_star hy)) (pl_star hx)) (pl_star hx) (fun _ => by rw [hs]; rfl)
    rw [gd.hK] at r
    exact r
  · simp only [evalE, E.pure, Es.pure, Bool.and_assoc] at ok
    show ta σ H _
    refine use_E ea R ok fun x' e1 H1 S1 v L R1 F1 d1 _ ok1 => ?_
    obtain ⟨hs, ok2⟩ := still_ok ok1
    show tb σ H1 _
    refine use_E eb R1 (q := (true && !own)) ok2 fun y' e2 H2 S2 u M R2 F2 d2 _ ok3 => ?_
    obtain ⟨z, hz, ok4⟩ := lift_ok ok3
    exact bi2_ok hz (d1.still hs F2 R1) d2 (fin_fresh ok4 R2 (F1.trans F2))
/-- an expression of which the evaluator says nothing -/
theorem se_bad {me : E} {x : Expr} (h : ∀ own ρ, evalE T me own ρ = .bad) : SE T lv P w K mg base c W me x :=
  ⟨fun _ _ _ => False, fun X g => PE.fls, fun own σ H ρ S Pr Q R ok => by rw [h own ρ] at ok; exact ok⟩
theorem use_Bs {α : Type} {es : Es} {ta : TA} {Q : List V → Hp → Prop} {fin : α → En → Hp → Foot → Prop} {f : List I → En → Out α} (ea : SpBs T K mg W es ta) (R : SR K Pr H σ ρ S)
    (ok : OkP K mg W (es.pure && q) Pr σ H S fin ((evalBs T es ρ).bind f))
    (k : ∀ ds e1 H1 S1 vs, SR K Pr H1 σ e1 S1 → Fr es.pure H S H1 S1 → IRs K H1 ds vs → OkP K mg W q Pr σ H1 S1 fin (f ds e1) → Q vs H1) : ta σ H Q :=
  ea σ H ρ S Pr Q R (ok.bind2.mono fun d e1 H1 S1 R1 F1 h vs r => k d e1 H1 S1 vs R1 F1 r h)
theorem se_get {a b d : E} {o x y : Expr} {apos pos : Pos} (ho : plainX o = true) (hx : plainX x = true) (hy : plainX y = true) (hl : (apos.endLine == pos.line) = true) (so : SE T lv P w K mg base c W a o) (sb : SE T lv P w K mg base c W b x) (sd : SE T lv P w K mg base c W d y) :
    SE T lv P w K mg base c W (.me .get a (.cons b (.cons d .nil))) (.Call (.Attribute o "get" apos) [x, y] [] pos) := by
  obtain ⟨ta, pa, ea⟩ := so
  obtain ⟨tb, pb, eb⟩ := sb
  obtain ⟨td, pd, ed⟩ := sd
  refine ⟨tDGet2 ta tb td, fun X g => ?_, fun own σ H ρ S Pr Q R ok => ?_⟩
  · have h2 : starEach [x, y] X.env = [(false, eval x X.env), (false, eval y X.env)] := by rw [pl_star hx, pl_star hy]; rfl
    exact pe_dget2 (Nat.lt_trans (Nat.add_lt_add_left (by decide) _) g.un) (pa X g) (pb X g) (pd X g) ⟨pl_attr ho, by rw [h2]; rfl, hl, by rw [h2]; rfl⟩
  · simp only [evalE, E.pure, Es.pure, Bool.and_assoc, evalBs, bind_assoc'] at ok
    show ta σ H _
    refine use_E ea R ok fun x' e1 H1 S1 v L R1 F1 d1 _ ok1 => ?_
    have ok1' := okIt ok1
    split at ok1'
    case isFalse => exact ok1'.elim
    rename_i hm
    obtain ⟨hs, ok2⟩ := still_ok ok1'
    rw [Bool.and_true] at hs
    obtain ⟨kvs, rfl⟩ : ∃ kvs, x' = .dct false kvs := by
      unfold meOk at hm
      split at hm
      · exact ⟨_, rfl⟩
      · cases hm
    obtain ⟨a', ws, R', rfl, ha, ra, hL, _⟩ := d1.dct_inv rfl
    refine ⟨a', rfl, .inl ⟨ws, ha⟩, ?_⟩
    refine use_E eb R1 ok2 fun y' e2 H2 S2 u M R2 F2 d2 _ ok3 => ?_
    obtain ⟨k, rfl, ok4⟩ := okAsIm ok3
    refine use_E ed R2 (q := (true && !own)) ok4 fun z' e3 H3 S3 u3 M3 R3 F3 d3 _ ok5 => ?_
    obtain ⟨k3, rfl, ok6⟩ := okAsIm ok5
    obtain ⟨z, hz, ok7⟩ := lift_ok ok6
    have dd := d1.still hs (F2.trans F3) R1
    obtain ⟨a2, ws2, R2', e2, ha2, ra2, _⟩ := dd.dct_inv rfl
    cases e2
    simp only [meD] at hz
    split at hz
    · rename_i hk
      obtain ⟨_, p, hp⟩ := keyOk_some hk
      cases e : lkup k kvs with
      | none => rw [e] at hz; cases hz
      | some o =>
        rw [e] at hz
        have hz' : getIm k3 o = some z := hz
        have q := fin_fresh ok7 R3 (F1.trans (F2.trans F3))
        have k2 := (d2.still (q := d.pure) (by rfl) F3 R2).im_inv.2
        obtain rfl := key_val hp k2
        refine ⟨valV ws2 p, .inl ⟨ws2, p, ha2, rfl, rfl⟩, ?_⟩
        rcases lkup_K ra2 hp e with ⟨rfl, h2⟩ | ⟨d', v', R'', rfl, h2, h3, _⟩
        · rw [h2]
          cases hz'
          exact q.im d3.im_inv.2
        · rw [h2]
          show Q v' H3
          cases d' with
          | im i => cases hz'; exact q.im h3.im_inv.2
          | _ => cases hz'
    · cases hz
end
end Kh

set_option Elab.async false
set_option linter.all false
set_option maxRecDepth 100000
set_option maxHeartbeats 2000000
/-! calls of the text's defs; methods that change a list -/
namespace Kh
open PySem PySem.Spec PyProof.Rows L2

section
variable {T : Tab} {lv : Nat} {P : Program} {w : World} {K : PySem.W.Frag} {mg : Str → Option Value} {base : Heap} {c : Cs} {W : WX}
variable {σ : L2.St} {H H' : Hp} {ρ : En} {S : Foot} {Pr : List Addr} {p q : Bool}

/-- the places stand while another's things change -/
theorem SR.framed {Sa : Foot} (R : SR K Pr H σ ρ S) (k : ∀ a o, H a = some o → (∀ i, a ∉ Sa i) → H' a = some o) (ap : ∀ (i : Nat) (a : Addr), a ∈ Sa i → ∀ j, a ∉ S j) (hp : ∀ (i : Nat) (a : Addr), a ∈ Sa i → a ∉ Pr) (hm : ∀ (i : Nat) (a : Addr), a ∈ Sa i → MutAt H a) : SR K Pr H' σ ρ S := by
  have st : ∀ {L : List Addr}, (∀ a ∈ L, ∀ i, a ∉ Sa i) → Stay H H' L := fun {L} h a o e z => by
    refine k a o e fun i m => ?_
    rcases z with z | z
    · obtain ⟨u, e', w⟩ := hm i a m
      rw [e] at e'; cases e'
      cases o <;> simp_all [isPers, isMut]
    · exact h a z i m
  refine ⟨R.len, fun i d e => ?_, fun i d e => ?_, R.emp, R.nd, R.dj, fun i a m => ?_, R.pt, fun a m => ?_⟩
  · obtain ⟨v, e1, dr⟩ := R.own i d e
    exact ⟨v, e1, dr.stay (st fun a m j n => ap j a n i m)⟩
  · obtain ⟨v, L, e1, dr, hL⟩ := R.bor i d e
    exact ⟨v, L, e1, dr.stay (st fun a m j n => hp j a n (hL a m)), hL⟩
  · obtain ⟨o, e, z⟩ := R.mu i a m
    exact ⟨o, k a o e fun j n => ap j a n i m, z⟩
  · obtain ⟨o, e⟩ := R.pa a m
    exact ⟨o, k a o e fun j n => hp j a n m⟩
theorem SR.tail {s : Slot} {v : Option V} (R : SR K Pr H (v :: σ) (s :: ρ) S) : SR K Pr H σ ρ (fun k => S (k + 1)) :=
  ⟨by have := R.len; simp at this; exact this, fun i d e => R.own (i + 1) d e, fun i d e => R.bor (i + 1) d e, fun i e => R.emp (i + 1) e, fun i => R.nd (i + 1), fun i j a m n => Nat.succ.inj (R.dj (i + 1) (j + 1) a m n), fun i a m => R.mu (i + 1) a m, fun i a m => R.pt (i + 1) a m, R.pa⟩
theorem give_ok : ∀ (ls : List (Option Nat)) (fs : List Slot) (e e' : En) (Sg : Foot) (vs : List V) (S' : Foot), giveBack ls fs e = some e' → SR K Pr H σ e Sg → SR K Pr H (vs.map some) fs S' → (∀ (k : Nat) (a : Addr), a ∈ S' k → ∀ i, a ∉ Sg i) →
    (∀ (k i : Nat), ls[k]? = some (some i) → ∃ v, vs[k]? = some v ∧ σ[i]? = some (some v)) → ∃ Sg', SR K Pr H σ e' Sg' ∧ ∀ (i : Nat) (a : Addr), a ∈ Sg' i → a ∈ Sg i ∨ ∃ k, a ∈ S' k
  | [], fs, e, e', Sg, vs, S', h, R, A, ap, hv => by
    simp only [giveBack] at h
    cases h
    exact ⟨Sg, R, fun i a m => .inl m⟩
  | none :: r, [], e, e', Sg, vs, S', h, R, A, ap, hv => by simp [giveBack] at h
  | some i :: r, [], e, e', Sg, vs, S', h, R, A, ap, hv => by simp [giveBack] at h
  | none :: r, f :: fs, e, e', Sg, [], S', h, R, A, ap, hv => by have := A.len; simp at this
  | some i :: r, f :: fs, e, e', Sg, [], S', h, R, A, ap, hv => by have := A.len; simp at this
  | none :: r, f :: fs, e, e', Sg, v :: vs, S', h, R, A, ap, hv => by
    simp only [giveBack] at h
    obtain ⟨Sg', R', o⟩ := give_ok r fs e e' Sg vs _ h R A.tail (fun k a m => ap (k + 1) a m) fun k i q => hv (k + 1) i q
    exact ⟨Sg', R', fun i a m => (o i a m).imp id fun ⟨k, z⟩ => ⟨k + 1, z⟩⟩
  | some i :: r, f :: fs, e, e', Sg, v :: vs, S', h, R, A, ap, hv => by
    simp only [giveBack] at h
    split at h
    · rename_i en
      obtain ⟨v', e1, e2⟩ := hv 0 i rfl
      cases Option.some.inj e1
      have hi : i < e.length := (List.getElem?_eq_some_iff.mp en).1
      have e0 : Sg i = [] := R.emp i fun d q => by rw [en] at q; cases q
      have next : ∃ Sn : Foot, SR K Pr H σ (e.set i f) Sn ∧ ∀ (j : Nat) (a : Addr), a ∈ Sn j → a ∈ Sg j ∨ a ∈ S' 0 := by
        cases f with
        | no => exact ⟨_, R.drop' i, fun j a m => by
            by_cases q : j = i
            · subst q; rw [Foot.set_same] at m; cases m
            · rw [Foot.set_ne q] at m; exact .inl m⟩
        | own d =>
          obtain ⟨u, e3, dr⟩ := A.own 0 d rfl
          cases Option.some.inj e3
          have R2 := R.put (H' := H) (i := i) (d := d) (v := v) (L := S' 0) hi (fun a o q _ => q) dr (A.nd 0) fun a m => ⟨A.mu 0 a m, fun j _ => ap 0 a m j, A.pt 0 a m⟩
          rw [set_self e2] at R2
          exact ⟨_, R2, fun j a m => by
            by_cases q : j = i
            · subst q; rw [Foot.set_same] at m; exact .inr m
            · rw [Foot.set_ne q] at m; exact .inl m⟩
        | bor d =>
          obtain ⟨u, L, e3, dr, hL⟩ := A.bor 0 d rfl
          cases Option.some.inj e3
          have R2 := R.lend (i := i) dr hL
          rw [set_self e2] at R2
          exact ⟨_, R2, fun j a m => by
            by_cases q : j = i
            · subst q; rw [Foot.set_same] at m; cases m
            · rw [Foot.set_ne q] at m; exact .inl m⟩
      obtain ⟨Sn, Rn, on⟩ := next
      obtain ⟨Sg', R', o⟩ := give_ok r fs _ e' Sn vs _ h Rn A.tail (fun k a m j n => by
        rcases on j a n with z | z
        · exact ap (k + 1) a m j z
        · exact absurd (A.dj (k + 1) 0 a m z) (Nat.succ_ne_zero k)) fun k i q => hv (k + 1) i q
      refine ⟨Sg', R', fun j a m => ?_⟩
      rcases o j a m with z | ⟨k, z⟩
      · exact (on j a z).imp id fun z => ⟨0, z⟩
      · exact .inr ⟨k + 1, z⟩
    · cases h
theorem OkP.bindK {α β : Type} {fin : α → En → Hp → Foot → Prop} {o : Out β} {f : β → En → Out α} (h : OkP K mg W false Pr σ H S fin (o.bind f)) : OkP K mg W p Pr σ H S (fun b e _ _ => OkP K mg W false Pr σ H S fin (f b e)) o := by
  cases o with
  | bad => exact h
  | exc c x y e => exact h
  | ok b e => exact fun _ _ _ _ => h
theorem se_call (G : Gl0 T lv P w K mg base) {f g : Str} {es : Es} {x : Expr} {xs : List Expr} {gp pos : Pos} (hf : f = g) (hgl : c.glo g = true) (hn : fine g = true) (hc : chkEs c es (x :: xs) = true) (se : SEs T lv P w K mg base c W es (x :: xs)) :
    SE T lv P w K mg base c W (.call f es) (.Call (.Name g gp) (x :: xs) [] pos) := by
  subst hf
  obtain ⟨hx, r, hr⟩ : plainX x = true ∧ ∃ r, chkEs c r xs = true := by
    cases es with
    | nil => simp [chkEs] at hc
    | cons e r =>
      simp only [chkEs, Bool.and_eq_true] at hc
      exact ⟨chk_plain hc.1, r, hc.2⟩
  cases hq : T.fn f with
  | none => exact se_bad fun own ρ => by simp only [evalE, hq]
  | some gf =>
    obtain ⟨t, pt, _, _, at'⟩ := se
    obtain ⟨a, fd, ps, m1, m2, m3, m4, m5⟩ := G.fn f gf hq
    refine ⟨tCallS (spF K mg ps.length gf) (WE W) t, fun X gd => ?_, fun own σ H ρ S Pr Q R ok => ?_⟩
    · have gd0 := gd
      obtain ⟨h1, h2, h3, h4, h5, h6, _, _, _, _, hroom, _, htk⟩ := gd
      subst h1 h2 h3 h4 h5
      exact pe_callS m4 hroom (isGlo_gl h6 hgl) m1 m2 m3 (fun σ => passAt htk σ) (pt X gd0) (fine_of hn).1 (pl_star hx) (back_any pos (star_all hr))
    · simp only [evalE, hq, E.pure, Bool.false_and] at ok
      show t σ H _
      refine at' σ H ρ S Pr _ R ((ok.bindK (p := false)).mono fun as e1 H1 S1 R1 F1 ok1 vs Sa A => ?_)
      unfold callF at ok1
      have hl : as.length = vs.length := by have := A.sr.len; simpa using this
      have hz : gf (as.map (·.1)) ≠ .bad := fun e => by rw [e] at ok1; exact ok1
      have keep : ∀ {H' : Hp}, (∀ a o, H1 a = some o → (∀ i, a ∉ Sa i) → H' a = some o) → ∀ a o, H a = some o → (∀ i, a ∉ S i) → H' a = some o := fun {H'} hk a o q n => by
        refine hk a o (F1.keep a o q n) fun k m => ?_
        rcases A.pv k a m with ⟨i, z⟩ | z
        · exact n i z
        · rw [z] at q; cases q
      refine ⟨by rw [← hl, ← m5 _ hz, List.length_map], as.map (·.1), Pr, Sa, A.sr, ?_⟩
      cases e : gf (as.map (·.1)) with
      | bad => exact absurd e hz
      | exc c' x' y' e' =>
        rw [e] at ok1
        intro C dd H' hm hk hx
        have R' := R1.framed hk (fun i a m j => A.ap i a m j) A.sr.pt A.sr.mu
        exact ok1 C dd H' S1 hm R' ⟨keep hk, F1.own, fun e => nomatch e⟩ hx
      | ok d fin =>
        rw [e] at ok1
        intro v H' S' L A' F' dr rs
        have R' := R1.framed F'.keep (fun i a m j => A.ap i a m j) A.sr.pt A.sr.mu
        have ap' : ∀ (k : Nat) (a : Addr), a ∈ S' k → ∀ i, a ∉ S1 i := fun k a m i n => by
          rcases F'.own k a m with ⟨j, z⟩ | z
          · exact A.ap j a z i n
          · exact (R1.mu i a n).there z
        cases e2 : giveBack (as.map (·.2)) fin e1 with
        | none => simp only [e2] at ok1; exact ok1.elim
        | some e' =>
          simp only [e2] at ok1
          obtain ⟨Sg, Rg, og⟩ := give_ok _ _ _ _ _ vs S' e2 R' A' ap' fun k i q => by
            rw [List.getElem?_map] at q
            cases z : as[k]? with
            | none => rw [z] at q; cases q
            | some s =>
              rw [z] at q
              have q' : s.2 = some i := Option.some.inj q
              exact A.ld k i s.1 (by rw [z, ← q'])
          have prov : ∀ (a : Addr), (∃ j, a ∈ Sa j) ∨ H1 a = none → (∃ i, a ∈ S i) ∨ H a = none := fun a h => by
            rcases h with ⟨j, z⟩ | z
            · exact A.pv j a z
            · exact F1.none_of z
          obtain ⟨n1, h1⟩ := rs.mine rfl
          refine ok1 H' Sg Rg ⟨keep F'.keep, fun i a m => ?_, fun e => nomatch e⟩ v L dr (Res.of ⟨n1, fun a m => ⟨fun i n => ?_, (h1 a m).2.1, prov a (h1 a m).2.2.1, (h1 a m).2.2.2⟩⟩)
          · rcases og i a m with z | ⟨k, z⟩
            · exact F1.own i a z
            · exact prov a (F'.own k a z)
          · rcases og i a n with z | ⟨k, z⟩
            · rcases (h1 a m).2.2.1 with ⟨j, y⟩ | y
              · exact A.ap j a y i z
              · exact (R1.mu i a z).there y
            · exact (h1 a m).1 k z
end
end Kh

set_option Elab.async false
set_option linter.all false
set_option maxRecDepth 100000
set_option maxHeartbeats 2000000
/-! methods that change a list -/
namespace Kh
open PySem PySem.Spec PyProof.Rows L2

section
variable {T : Tab} {lv : Nat} {P : Program} {w : World} {K : PySem.W.Frag} {mg : Str → Option Value} {base : Heap} {c : Cs} {W : WX}
variable {σ : L2.St} {H H' : Hp} {ρ : En} {S : Foot} {Pr : List Addr} {p q : Bool}

theorem DRs.snoc {d : D} {v : V} {R : List Addr} : ∀ {xs : List D} {vs : List V} {L : List Addr}, DRs K H xs vs L → DR K H d v R → DRs K H (xs ++ [d]) (vs ++ [v]) (L ++ R) := fun {xs vs L} r h => by
  have q := r.append (DRs.cons h .nil)
  rw [List.append_nil] at q
  exact q
theorem DRs.last : ∀ {xs : List D} {vs : List V} {L : List Addr} {d : D}, DRs K H xs vs L → xs.getLast? = some d → ∃ v L1 L2, vs[vs.length - 1]? = some v ∧ DRs K H xs.dropLast vs.dropLast L1 ∧ DR K H d v L2 ∧ L = L1 ++ L2
  | _, _, _, _, .nil, h => by cases h
  | [x], [v], _, d, .cons (S := S) a .nil, h => by
    cases h
    exact ⟨v, [], S, rfl, .nil, a, by simp⟩
  | x :: y :: xs, v :: u :: vs, _, d, .cons (S := S) a r, h => by
    rw [List.getLast?_cons_cons] at h
    obtain ⟨z, L1, L2, h1, h2, h3, h4⟩ := DRs.last r h
    refine ⟨z, S ++ L1, L2, ?_, .cons a h2, h3, by rw [h4, List.append_assoc]⟩
    show (v :: u :: vs)[(u :: vs).length]? = _
    rw [List.getElem?_cons]
    simpa using h1
def rMm : Mm → V → List V → Hp → VK → Prop
  | .append => rAppend
  | .extend => rExtend
  | .pop => rPop
  | _ => fun _ _ _ _ => False
def Mm.idl : Mm → String
  | .append => "list.append" | .extend => "list.extend" | .pop => "list.pop" | _ => "list.append"
theorem mt_mm {X : Cx} {m : Mm} : MtR X m.idl (rMm m) := by
  cases m
  case append => exact mt_append
  case extend => exact mt_extend
  case pop => exact mt_pop
  all_goals exact fun _ _ _ _ _ _ _ _ _ _ _ _ h => h.elim
theorem slot_mm {m : Mm} (h : m.sup = true) : PySem.Slot "list" m.nm m.idl := by
  cases m
  case append => exact PySem.F.slot_list_append
  case extend => exact PySem.F.slot_list_extend
  case pop => exact PySem.F.slot_list_pop
  all_goals exact absurd h Bool.false_ne_true
theorem type_mm {m : Mm} (h : m.sup = true) : typeOf (.builtin m.idl) = pure (.type "method_descriptor") := by
  cases m
  case append => exact PySem.F.type_list_append
  case extend => exact PySem.F.type_list_extend
  case pop => exact PySem.F.type_list_pop
  all_goals exact absurd h Bool.false_ne_true
/-- a place's list is changed in place -/
theorem SR.lst {i : Nat} {xs : List D} (R : SR K Pr H σ ρ S) (e : ρ[i]? = some (.own (.lst xs))) : ∃ a vs L, σ[i]? = some (some (.ref a)) ∧ H a = some (.lst vs) ∧ DRs K H xs vs L ∧ S i = a :: L ∧
    ∀ ys us M, DRs K H ys us M → M.Nodup → (∀ b ∈ M, b ≠ a ∧ MutAt H b ∧ (∀ j, j ≠ i → b ∉ S j) ∧ b ∉ Pr) → SR K Pr (upd H a (.lst us)) σ (ρ.set i (.own (.lst ys))) (S.set i (a :: M)) := by
  obtain ⟨v, e1, dr⟩ := R.own i _ e
  generalize hs : S i = Si at dr
  obtain ⟨a, vs, L, rfl, ha, ra, rfl⟩ := dr.lst_inv
  refine ⟨a, vs, L, e1, ha, ra, rfl, fun ys us M rm nd hM => ?_⟩
  have hi : i < ρ.length := (List.getElem?_eq_some_iff.mp e).1
  have ma : a ∈ S i := by rw [hs]; exact List.mem_cons_self
  have k : ∀ b o, H b = some o → b ∉ S i → (upd H a (.lst us)) b = some o := fun b o q n => by
    rw [upd_ne (fun z : b = a => n (z ▸ ma))]; exact q
  have st : Stay H (upd H a (.lst us)) M := fun b o q z => by
    rw [upd_ne fun y : b = a => ?_]
    · exact q
    · subst y
      rcases z with z | z
      · exact R.pers q z i ma
      · exact (hM b z).1 rfl
  have r := R.put (d := .lst ys) (v := .ref a) (L := a :: M) hi k (.lst upd_same (rm.stay st)) (List.nodup_cons.mpr ⟨fun m => (hM a m).1 rfl, nd⟩) fun b m => by
    rcases List.mem_cons.mp m with rfl | m
    · exact ⟨⟨_, upd_same, rfl⟩, fun j n z => n (R.dj j i b z ma), R.pt i b ma⟩
    · obtain ⟨o, q, z⟩ := (hM b m).2.1
      exact ⟨⟨o, st b o q (.inr m), z⟩, (hM b m).2.2.1, (hM b m).2.2.2⟩
  rw [set_self e1] at r
  exact r
theorem Fr.lstK {H0 : Hp} {S0 : Foot} {i : Nat} {a : Addr} {us : List V} {M : List Addr} (F : Fr p H0 S0 H S) (ma : a ∈ S i) (hM : ∀ b ∈ M, (∃ j, b ∈ S0 j) ∨ H0 b = none) : Fr false H0 S0 (upd H a (.lst us)) (S.set i (a :: M)) := by
  refine ⟨fun b o q n => ?_, fun j b m => ?_, fun e => nomatch e⟩
  · rw [upd_ne fun z : b = a => ?_]
    · exact F.keep b o q n
    · subst z
      rcases F.own i b ma with ⟨j, y⟩ | y
      · exact n j y
      · rw [y] at q; cases q
  · by_cases h : j = i
    · subst h
      rw [Foot.set_same] at m
      rcases List.mem_cons.mp m with rfl | m
      · exact F.own j b ma
      · exact hM b m
    · rw [Foot.set_ne h] at m
      exact F.own j b m
theorem use_EsK {α : Type} {es : Es} {ta : TA} {Q : List V → Hp → Prop} {fin : α → En → Hp → Foot → Prop} {f : List D → En → Out α} (ea : SpEs T K mg W es ta) (R : SR K Pr H σ ρ S)
    (ok : OkP K mg W false Pr σ H S fin ((evalEs T es ρ).bind f))
    (k : ∀ ds e1 H1 S1 vs L, ds.length = es.len → SR K Pr H1 σ e1 S1 → Fr false H S H1 S1 → DRs K H1 ds vs L → Res true [] Pr H S H1 S1 L → OkP K mg W false Pr σ H S fin (f ds e1) → Q vs H1) : ta σ H Q := by
  refine ea σ H ρ S Pr Q R ?_
  cases e : evalEs T es ρ with
  | bad => rw [e] at ok; exact ok
  | exc _ _ _ _ => rw [e] at ok; exact ok
  | ok ds e1 =>
    rw [e] at ok
    exact fun H1 S1 R1 F1 vs L dr rs => k ds e1 H1 S1 vs L (evalEs_len e) R1 F1 dr rs ok
theorem few_ok {env : PySem.Env} {pos : Pos} {xs : List Expr} (h : starEach xs env = xs.map fun x => (false, eval x env)) (hl : xs.length < 20) :
    ((backTo pos (starEach xs env)).all (fun x => !x.1) && (backToKw pos (keywordEach [] env)).all (fun x => x.1.isSome) && decide (xs.length + ([] : List Keyword).length + (if ([] : List Keyword).isEmpty then 0 else 1) < 30)) = true := by
  have h1 : (backTo pos (starEach xs env)).all (fun x => !x.1) = true := by
    rw [h]
    unfold backTo
    rw [List.map_map, List.all_map]
    exact List.all_eq_true.mpr fun x _ => rfl
  have h2 : xs.length + ([] : List Keyword).length + (if ([] : List Keyword).isEmpty then 0 else 1) < 30 := by
    show xs.length + 0 + 0 < 30
    omega
  rw [h1, decide_eq_true h2]
  rfl
theorem se_mut {m : Mm} {i : Nat} {es : Es} {x : Str} {xs : List Expr} {xp apos pos : Pos} (hv : chkE c (.var i) (.Name x xp) = true) (hc : chkEs c es xs = true) (hl : (apos.endLine == pos.line) = true) (hz : es.len < 20) (se : SEs T lv P w K mg base c W es xs) :
    SE T lv P w K mg base c W (.mut m i es) (.Call (.Attribute (.Name x xp) m.nm apos) xs [] pos) := by
  cases hs : m.sup with
  | false => exact se_bad fun own ρ => by simp [evalE, hs]
  | true =>
    obtain ⟨t, pt, et, hnil⟩ : ∃ t : TA, (∀ X, Gd lv c W P w K mg base X → PA X xs t) ∧ SpEs T K mg W es t ∧ (xs = [] → t = tNil) := by
      cases es with
      | nil =>
        cases xs with
        | nil => exact ⟨tNil, fun X g => pa_nil, fun σ H ρ S Pr Q R ok => by
            simp only [evalEs] at ok
            exact ok H S R Fr.refl [] [] .nil Res.nil, fun _ => rfl⟩
        | cons _ _ => simp [chkEs] at hc
      | cons _ _ =>
        obtain ⟨t, pt, et, _, _⟩ := se
        cases xs with
        | nil => simp [chkEs] at hc
        | cons _ _ => exact ⟨t, pt, et, fun e => nomatch e⟩
    obtain ⟨pv', _⟩ := se_var' (T := T) (lv := lv) (P := P) (w := w) (K := K) (mg := mg) (base := base) (W := W) hv
    have spec : ∀ (Q : VK) (σ : L2.St) (H : Hp) (ρ : En) (S : Foot) (Pr : List Addr) (own : Bool), SR K Pr H σ ρ S → OkP K mg W false Pr σ H S (finE K own [] Pr H S Q) (evalE T (.mut m i es) own ρ) →
        ∃ v, σ[i]? = some (some v) ∧ tyV K "list" v H ∧ t σ H fun xs H2 => rMm m v xs H2 Q := by
      intro Q σ H ρ S Pr own R ok
      simp only [evalE, hs, Bool.true_eq_false, if_false] at ok
      split at ok
      · rename_i xs0 e0
        obtain ⟨a, vs0, L0, e1, ha, _, _, _⟩ := R.lst e0
        refine ⟨.ref a, e1, .inl ⟨rfl, vs0, SqL.of ha⟩, ?_⟩
        refine use_EsK et R ok fun ds e2 H1 S1 vs L hlen R1 F1 d1 r1 ok1 => ?_
        split at ok1
        · rename_i d ed
          split at ok1
          · rename_i r d' hm
            obtain ⟨n1, h1⟩ := r1.mine rfl
            -- what the list owns
            have inn : ∀ {L2 : List Addr}, S1 i = a :: L2 → a ∈ S1 i ∧ (∀ b ∈ L2, b ∈ S1 i) ∧ a ∉ L2 ∧ L2.Nodup := fun {L2} es => by
              have nd := R1.nd i
              rw [es] at nd
              rw [es]
              exact ⟨List.mem_cons_self, fun b m => List.mem_cons_of_mem _ m, (List.nodup_cons.mp nd).1, (List.nodup_cons.mp nd).2⟩
            have old : ∀ b ∈ S1 i, b ≠ a → b ≠ a ∧ MutAt H1 b ∧ (∀ j, j ≠ i → b ∉ S1 j) ∧ b ∉ Pr := fun b m n => ⟨n, R1.mu i b m, fun j q z => q (R1.dj j i b z m), R1.pt i b m⟩
            unfold mutD at hm
            split at hm
            · -- append
              rename_i xs d0
              split at hm
              · rename_i hz
                cases hm
                obtain ⟨a2, us, L2, e3, ha2, ra, es, mk⟩ := R1.lst ed
                rw [e1] at e3; cases e3
                obtain ⟨ma, inL, na, n2⟩ := inn es
                cases d1 with
                | cons dd nn =>
                  cases nn with
                  | nil =>
                    rename_i y Sy
                    rw [List.append_nil] at n1 h1
                    refine ⟨a, us, y, rfl, rfl, ha2, ?_, ?_⟩
                    · rw [← ra.length]; exact Nat.lt_of_lt_of_le hz (by decide)
                    · have nd : (L2 ++ Sy).Nodup := List.nodup_append.mpr ⟨n2, n1, fun b m b' m' z => (h1 b' m').1 i (z ▸ inL b m)⟩
                      refine ok1 _ _ (mk _ _ _ (ra.snoc dd) nd fun b m => ?_) (Fr.lstK F1 ma fun b m => ?_) .non [] (.im .non) Res.nil
                      · rcases List.mem_append.mp m with m | m
                        · exact old b (inL b m) fun z => na (z ▸ m)
                        · exact ⟨fun z => (h1 b m).1 i (z ▸ ma), (h1 b m).2.2.2, fun j _ => (h1 b m).1 j, (h1 b m).2.1⟩
                      · rcases List.mem_append.mp m with m | m
                        · exact F1.own i b (inL b m)
                        · exact (h1 b m).2.2.1
              · cases hm
            · -- extend
              rename_i xs ys
              split at hm
              · rename_i hz
                cases hm
                obtain ⟨a2, us, L2, e3, ha2, ra, es, mk⟩ := R1.lst ed
                rw [e1] at e3; cases e3
                obtain ⟨ma, inL, na, n2⟩ := inn es
                cases d1 with
                | cons dd nn =>
                  cases nn with
                  | nil =>
                    rename_i y Sy
                    rw [List.append_nil] at n1 h1
                    obtain ⟨b0, ws, L3, rfl, hb, rb, rfl⟩ := dd.lst_inv
                    refine ⟨a, b0, us, ws, rfl, rfl, ha2, hb, ?_, ?_⟩
                    · rw [← ra.length, ← rb.length]; exact big_line hz
                    · have n3 := (List.nodup_cons.mp n1).2
                      have nd : (L2 ++ L3).Nodup := List.nodup_append.mpr ⟨n2, n3, fun b m b' m' z => (h1 b' (List.mem_cons_of_mem _ m')).1 i (z ▸ inL b m)⟩
                      refine ok1 _ _ (mk _ _ _ (ra.append rb) nd fun b m => ?_) (Fr.lstK F1 ma fun b m => ?_) .non [] (.im .non) Res.nil
                      · rcases List.mem_append.mp m with m | m
                        · exact old b (inL b m) fun z => na (z ▸ m)
                        · have m := List.mem_cons_of_mem b0 m
                          exact ⟨fun z => (h1 b m).1 i (z ▸ ma), (h1 b m).2.2.2, fun j _ => (h1 b m).1 j, (h1 b m).2.1⟩
                      · rcases List.mem_append.mp m with m | m
                        · exact F1.own i b (inL b m)
                        · exact (h1 b (List.mem_cons_of_mem b0 m)).2.2.1
              · cases hm
            · -- pop
              rename_i xs
              cases hg : xs.getLast? with
              | none => rw [hg] at hm; cases hm
              | some d0 =>
                rw [hg] at hm
                cases hm
                obtain ⟨a2, us, L2, e3, ha2, ra, es, mk⟩ := R1.lst ed
                rw [e1] at e3; cases e3
                obtain ⟨ma, inL, na, n2⟩ := inn es
                obtain ⟨y, M1, M2, h3, h4, h5, rfl⟩ := ra.last hg
                cases d1 with
                | nil =>
                  obtain ⟨m1, m2, m3⟩ := List.nodup_append.mp n2
                  have sub : ∀ b ∈ M1, b ∈ M1 ++ M2 := fun b m => List.mem_append_left _ m
                  have sub2 : ∀ b ∈ M2, b ∈ M1 ++ M2 := fun b m => List.mem_append_right _ m
                  refine ⟨a, us, y, rfl, rfl, ha2, h3, ?_⟩
                  refine ok1 _ _ (mk _ _ _ h4 m1 fun b m => old b (inL b (sub b m)) fun z => na (z ▸ sub b m)) (Fr.lstK F1 ma fun b m => F1.own i b (inL b (sub b m))) y M2 (h5.stay fun b o q z => ?_) (Res.of ⟨m2, fun b m => ⟨fun j z => ?_, R1.pt i b (inL b (sub2 b m)), F1.own i b (inL b (sub2 b m)), ?_⟩⟩)
                  · rw [upd_ne fun w : b = a => ?_]
                    · exact q
                    · subst w
                      rcases z with z | z
                      · exact R1.pers q z i ma
                      · exact na (sub2 b z)
                  · by_cases hj : j = i
                    · subst hj
                      rw [Foot.set_same] at z
                      rcases List.mem_cons.mp z with rfl | z
                      · exact na (sub2 b m)
                      · exact m3 b z b m rfl
                    · rw [Foot.set_ne hj] at z
                      exact hj (R1.dj j i b z (inL b (sub2 b m)))
                  · obtain ⟨o, q, z⟩ := R1.mu i b (inL b (sub2 b m))
                    exact ⟨o, by rw [upd_ne fun w : b = a => na (w ▸ sub2 b m)]; exact q, z⟩
            · cases hm
          · exact ok1.elim
        · exact ok1.elim
      · exact ok.elim
    refine ⟨fun σ H Q => ∃ v, σ[i]? = some (some v) ∧ tyV K "list" v H ∧ t σ H fun xs H2 => rMm m v xs H2 Q, fun X g => ?_, fun own σ H ρ S Pr Q R ok => ?_⟩
    · cases xs with
      | nil =>
        rw [hnil rfl]
        have r : PE X (.Call (.Attribute (.Name x xp) m.nm apos) [] [] pos) (tBM0 X.K "list" (rMm m) (tVar i)) := pe_bm0 PySem.F.plainAttrs_list (slot_mm hs) (type_mm hs) mt_mm (pv' X g) (pl_attr rfl) hl
        rw [g.hK] at r
        exact ⟨fun pins s σ H Q I ⟨v, h1, h2, h3⟩ => r.run pins s σ H Q I ⟨v, h1, h2, h3⟩⟩
      | cons y ys =>
        have hs' := star_all (env := X.env) hc
        obtain ⟨hy, r0, hr0⟩ : plainX y = true ∧ ∃ r, chkEs c r ys = true := by
          cases es with
          | nil => simp [chkEs] at hc
          | cons e r =>
            simp only [chkEs, Bool.and_eq_true] at hc
            exact ⟨chk_plain hc.1, r, hc.2⟩
        have hlen := chkEs_len hc
        have r : PE X (.Call (.Attribute (.Name x xp) m.nm apos) (y :: ys) [] pos) (tBM X.K "list" (rMm m) (tVar i) t) := by
          refine pe_bm PySem.F.plainAttrs_list (slot_mm hs) (type_mm hs) mt_mm (pv' X g) (pt X g) (pl_attr rfl) (few_ok hs' (by omega)) hl (pl_star hy) (back_any pos (star_all hr0))
        rw [g.hK] at r
        exact r
    · simp only [E.pure, Bool.false_and, E.src] at ok
      exact spec Q σ H ρ S Pr own R ok
end
end Kh

set_option Elab.async false
set_option linter.all false
set_option maxRecDepth 100000
set_option maxHeartbeats 2000000
/-! locking places, clearing them, settling behind a loop -/
namespace Kh
open PySem PySem.Spec PyProof.Rows L2

section
variable {K : PySem.W.Frag} {σ : L2.St} {H H' : Hp} {ρ : En} {S : Foot} {Pr : List Addr}

theorem SR.wipe : ∀ (vs : List Nat), SR K Pr H σ ρ S → ∃ S', SR K Pr H (L2.wipe σ vs) (clear vs ρ) S' ∧ ∀ (i : Nat) (a : Addr), a ∈ S' i → a ∈ S i
  | [], R => ⟨S, R, fun _ _ m => m⟩
  | v :: vs, R => by
    obtain ⟨S', R', o⟩ := SR.wipe vs R
    refine ⟨_, R'.drop v (w := none), fun i a m => ?_⟩
    by_cases h : i = v
    · subst h; rw [Foot.set_same] at m; cases m
    · rw [Foot.set_ne h] at m; exact o i a m
theorem SR.clear : ∀ (vs : List Nat), SR K Pr H σ ρ S → ∃ S', SR K Pr H σ (clear vs ρ) S' ∧ ∀ (i : Nat) (a : Addr), a ∈ S' i → a ∈ S i
  | [], R => ⟨S, R, fun _ _ m => m⟩
  | v :: vs, R => by
    obtain ⟨S', R', o⟩ := SR.clear vs R
    refine ⟨_, R'.drop' v, fun i a m => ?_⟩
    by_cases h : i = v
    · subst h; rw [Foot.set_same] at m; cases m
    · rw [Foot.set_ne h] at m; exact o i a m
/-- more is locked that nobody owns -/
theorem SR.protect {L : List Addr} (R : SR K Pr H σ ρ S) (h : ∀ a ∈ L, (∀ i, a ∉ S i) ∧ There H a) : SR K (Pr ++ L) H σ ρ S :=
  ⟨R.len, R.own, fun i d e => let ⟨v, M, e1, dr, hM⟩ := R.bor i d e; ⟨v, M, e1, dr, fun a m => List.mem_append_left _ (hM a m)⟩, R.emp, R.nd, R.dj, R.mu,
    fun i a m n => (List.mem_append.mp n).elim (R.pt i a m) fun n => (h a n).1 i m, fun a m => (List.mem_append.mp m).elim (R.pa a) fun m => (h a m).2⟩
/-- the owned places among src become borrowed ones -/
theorem SR.lock : ∀ (src : List Nat) {ρ : En} {S : Foot} {Pr : List Addr}, SR K Pr H σ ρ S → ∃ P' S', SR K P' H σ (lockAll src ρ) S' ∧ (∀ a ∈ Pr, a ∈ P') ∧ (∀ (i : Nat) (a : Addr), a ∈ S' i → a ∈ S i) ∧
    (∀ a ∈ P', a ∈ Pr ∨ ∃ i ∈ src, a ∈ S i) ∧ ∀ i ∈ src, ∀ a ∈ S i, a ∈ P' ∧ ∀ j, a ∉ S' j
  | [], ρ, S, Pr, R => ⟨Pr, S, R, fun _ m => m, fun _ _ m => m, fun _ m => .inl m, fun _ m => absurd m List.not_mem_nil⟩
  | i :: r, ρ, S, Pr, R => by
    -- one place
    have one : ∃ P1 S1, SR K P1 H σ (match ρ[i]? with
        | some (.own d) => if d.isIm then ρ else ρ.set i (.bor d)
        | _ => ρ) S1 ∧ (∀ a ∈ Pr, a ∈ P1) ∧ (∀ (j : Nat) (a : Addr), a ∈ S1 j → a ∈ S j) ∧ (∀ a ∈ P1, a ∈ Pr ∨ a ∈ S i) ∧ (∀ a ∈ S i, a ∈ P1 ∧ ∀ j, a ∉ S1 j) ∧ ∀ j, j ≠ i → ∀ a ∈ S j, a ∈ S1 j := by
      cases e : ρ[i]? with
      | none => exact ⟨Pr, S, R, fun _ m => m, fun _ _ m => m, fun _ m => .inl m, (fun a m => by rw [R.emp i (fun d q => by rw [e] at q; cases q)] at m; cases m), fun _ _ _ m => m⟩
      | some s =>
        cases s with
        | no => exact ⟨Pr, S, R, fun _ m => m, fun _ _ m => m, fun _ m => .inl m, (fun a m => by rw [R.emp i (fun d q => by rw [e] at q; cases q)] at m; cases m), fun _ _ _ m => m⟩
        | bor d => exact ⟨Pr, S, R, fun _ m => m, fun _ _ m => m, fun _ m => .inl m, (fun a m => by rw [R.emp i (fun d q => by rw [e] at q; cases q)] at m; cases m), fun _ _ _ m => m⟩
        | own d =>
          obtain ⟨v, e1, dr⟩ := R.own i d e
          cases hd : d.isIm with
          | true =>
            obtain ⟨x, rfl⟩ := isIm_inv hd
            have z : S i = [] := dr.im_inv.1
            exact ⟨Pr, S, by simp only [D.isIm, if_true]; exact R, fun _ m => m, fun _ _ m => m, fun _ m => .inl m, (fun a m => by rw [z] at m; cases m), fun _ _ _ m => m⟩
          | false =>
            have hi : i < ρ.length := (List.getElem?_eq_some_iff.mp e).1
            have R1 := (R.drop' i).protect (L := S i) fun a m => ⟨fun j n => by
              by_cases q : j = i
              · subst q; rw [Foot.set_same] at n; cases n
              · rw [Foot.set_ne q] at n; exact q (R.dj j i a n m), let ⟨o, q, _⟩ := R.mu i a m; ⟨o, q⟩⟩
            have R2 := R1.lend (i := i) dr fun a m => List.mem_append_right _ m
            rw [set_self e1, List.set_set] at R2
            refine ⟨_, _, by simp only [hd, Bool.false_eq_true, if_false]; exact R2, fun a m => List.mem_append_left _ m, fun j a m => ?_, fun a m => List.mem_append.mp m, fun a m => ⟨List.mem_append_right _ m, fun j n => ?_⟩, fun j q a m => by rw [Foot.set_ne q, Foot.set_ne q]; exact m⟩
            · by_cases q : j = i
              · subst q; rw [Foot.set_same] at m; cases m
              · rw [Foot.set_ne q, Foot.set_ne q] at m; exact m
            · by_cases q : j = i
              · subst q; rw [Foot.set_same] at n; cases n
              · rw [Foot.set_ne q, Foot.set_ne q] at n; exact q (R.dj j i a n m)
    obtain ⟨P1, S1, R1, a1, a2, a3, a4, a5⟩ := one
    obtain ⟨P2, S2, R2, b1, b2, b3, b4⟩ := SR.lock r R1
    refine ⟨P2, S2, R2, fun a m => b1 a (a1 a m), fun j a m => a2 j a (b2 j a m), fun a m => ?_, fun j hj a m => ?_⟩
    · rcases b3 a m with m | ⟨j, hj, m⟩
      · exact (a3 a m).imp id fun z => ⟨i, List.mem_cons_self, z⟩
      · exact .inr ⟨j, List.mem_cons_of_mem _ hj, a2 j a m⟩
    · rcases List.mem_cons.mp hj with rfl | hj
      · exact ⟨b1 a (a4 a m).1, fun k n => (a4 a m).2 k (b2 k a n)⟩
      · by_cases z : a ∈ S1 j
        · exact b4 j hj a z
        · by_cases q : j = i
          · subst q; exact ⟨b1 a (a4 a m).1, fun k n => (a4 a m).2 k (b2 k a n)⟩
          · exact absurd (a5 j q a m) z

/-! ### settling -/
theorem settleGo_get {src asg own : List Nat} : ∀ (k : Nat) (w s : En) (i : Nat), (settleGo src asg own k w s)[i]? = (match w[i]?, s[i]? with
    | some a, some b => some (if a.isOwnMut && src.contains (k + i) then a else if own.contains (k + i) then a.imOf else match b with
      | .bor _ => if asg.contains (k + i) then .no else a.borOf
      | b => b)
    | _, _ => none)
  | _, [], s, i => by simp [settleGo]
  | _, a :: w, [], i => by
    simp only [settleGo, List.getElem?_nil]
    cases (a :: w)[i]? <;> rfl
  | k, a :: w, b :: s, 0 => by
    simp only [settleGo, List.getElem?_cons_zero, Nat.add_zero] <;> rfl
  | k, a :: w, b :: s, i + 1 => by
    have h := settleGo_get (src := src) (asg := asg) (own := own) (k + 1) w s i
    simp only [settleGo, List.getElem?_cons_succ]
    rw [h]
    have e : k + 1 + i = k + (i + 1) := by omega
    rw [e]
theorem settleGo_len {src asg own : List Nat} : ∀ (k : Nat) (w s : En), (settleGo src asg own k w s).length = min w.length s.length
  | _, [], s => by simp [settleGo]
  | _, _ :: _, [] => by simp [settleGo]
  | k, a :: w, b :: s => by simp [settleGo, settleGo_len (k + 1) w s]
theorem SR.settle {σ' τ : L2.St} {e' : En} {S' : Foot} {P' : List Addr} {src asg own : List Nat} (R : SR K Pr H σ ρ S) (R' : SR K P' H' σ' e' S') (st : Stay H H' P') (sub : ∀ a ∈ Pr, a ∈ P')
    (lk : ∀ i ∈ src, ∀ a ∈ S i, a ∈ P') (hl : τ.length = σ.length) (hl' : σ'.length = σ.length) (hs : ∀ i : Nat, i ∉ asg ∨ i ∈ own → τ[i]? = σ[i]?) (hs' : ∀ i : Nat, i ∉ own → τ[i]? = σ'[i]?) (hd : ∀ i : Nat, i ∈ src → τ[i]? = σ[i]?) :
    ∃ S'', SR K Pr H' τ (Kh.settle ρ src asg own e') S'' ∧ ∀ (i : Nat) (a : Addr), a ∈ S'' i → a ∈ S' i ∨ a ∈ S i ∧ a ∈ P' := by
  have own_src : ∀ {i : Nat} {s : Slot}, ρ[i]? = some s → s.isOwnMut = true → ∃ d, s = .own d ∧ d.isIm = false := fun {i s} e h => by
    cases s with
    | no => cases h
    | bor d => cases h
    | own d => cases d <;> first | exact ⟨_, rfl, rfl⟩ | cases h
  have get : ∀ i : Nat, (Kh.settle ρ src asg own e')[i]? = (match ρ[i]?, e'[i]? with
    | some a, some b => some (if a.isOwnMut && src.contains i then a else if own.contains i then a.imOf else match b with
      | .bor _ => if asg.contains i then .no else a.borOf
      | b => b)
    | _, _ => none) := fun i => by
    have h := settleGo_get (src := src) (asg := asg) (own := own) 0 ρ e' i
    rw [Nat.zero_add] at h
    exact h
  have both : ∀ {i : Nat} {a : Slot}, ρ[i]? = some a → ∃ b, e'[i]? = some b := fun {i a} e => by
    have h1 := (List.getElem?_eq_some_iff.mp e).1
    have h2 : i < e'.length := by rw [R'.len, hl', ← R.len]; exact h1
    exact ⟨e'[i], List.getElem?_eq_getElem h2⟩
  have both' : ∀ {i : Nat} {b : Slot}, e'[i]? = some b → ∃ a, ρ[i]? = some a := fun {i b} e => by
    have h1 := (List.getElem?_eq_some_iff.mp e).1
    have h2 : i < ρ.length := by rw [R.len, ← hl', ← R'.len]; exact h1
    exact ⟨ρ[i], List.getElem?_eq_getElem h2⟩
  -- the three kinds of places
  have lockd : ∀ {i : Nat}, ((∃ s, ρ[i]? = some s ∧ s.isOwnMut = true) ∧ i ∈ src) → ∃ d, ρ[i]? = some (.own d) ∧ (Kh.settle ρ src asg own e')[i]? = some (.own d) := fun {i} h => by
    obtain ⟨⟨s, e, z⟩, m⟩ := h
    obtain ⟨d, rfl, _⟩ := own_src e z
    obtain ⟨b, eb⟩ := both e
    refine ⟨d, e, ?_⟩
    rw [get, e, eb]
    simp [z, m]
  have owned : ∀ {i : Nat}, ¬ ((∃ s, ρ[i]? = some s ∧ s.isOwnMut = true) ∧ i ∈ src) → i ∈ own → ∀ t, (Kh.settle ρ src asg own e')[i]? = some t → ∃ a, ρ[i]? = some a ∧ t = a.imOf := fun {i} h m t e => by
    rw [get] at e
    cases ea : ρ[i]? with
    | none => rw [ea] at e; cases e
    | some a =>
      obtain ⟨b, eb⟩ := both ea
      rw [ea, eb] at e
      have z : (a.isOwnMut && src.contains i) = false := by
        cases q : (a.isOwnMut && src.contains i) with
        | false => rfl
        | true =>
          simp at q
          exact absurd ⟨⟨a, ea, q.1⟩, q.2⟩ h
      simp only [z, Bool.false_eq_true, if_false, List.contains_iff_mem, m, if_true] at e
      exact ⟨a, rfl, (Option.some.inj e).symm⟩
  have other : ∀ {i : Nat}, ¬ ((∃ s, ρ[i]? = some s ∧ s.isOwnMut = true) ∧ i ∈ src) → i ∉ own → (Kh.settle ρ src asg own e')[i]? = (match ρ[i]?, e'[i]? with
      | some a, some b => some (match b with
        | .bor _ => if asg.contains i then .no else a.borOf
        | b => b)
      | _, _ => none) := fun {i} h m => by
    rw [get]
    cases ea : ρ[i]? with
    | none => rfl
    | some a =>
      obtain ⟨b, eb⟩ := both ea
      rw [eb]
      have z : (a.isOwnMut && src.contains i) = false := by
        cases q : (a.isOwnMut && src.contains i) with
        | false => rfl
        | true =>
          simp at q
          exact absurd ⟨⟨a, ea, q.1⟩, q.2⟩ h
      have z2 : own.contains i = false := by
        cases q : own.contains i with
        | false => rfl
        | true => exact absurd (List.contains_iff_mem.mp q) m
      simp only [z, z2, Bool.false_eq_true, if_false]
  refine ⟨fun i => if (∃ s, ρ[i]? = some s ∧ s.isOwnMut = true) ∧ i ∈ src then S i else if i ∈ own then [] else S' i, ⟨?_, fun i d e => ?_, fun i d e => ?_, fun i e => ?_, fun i => ?_, fun i j a m n => ?_, fun i a m => ?_, fun i a m => ?_, fun a m => ?_⟩, fun i a m => ?_⟩
  · unfold Kh.settle
    rw [settleGo_len, R.len, R'.len, hl, hl', Nat.min_self]
  · by_cases h : (∃ s, ρ[i]? = some s ∧ s.isOwnMut = true) ∧ i ∈ src
    · obtain ⟨d', e1, e2⟩ := lockd h
      rw [e] at e2
      cases e2
      obtain ⟨v, ev, dr⟩ := R.own i _ e1
      rw [if_pos h]
      exact ⟨v, by rw [hd i h.2]; exact ev, dr.stay (st.mono (lk i h.2))⟩
    · rw [if_neg h]
      by_cases m : i ∈ own
      · rw [if_pos m]
        obtain ⟨a, ea, ez⟩ := owned h m _ e
        cases a with
        | no => cases ez
        | bor _ => cases ez
        | own d' =>
          cases d' with
          | im x =>
            cases ez
            obtain ⟨v, ev, dr⟩ := R.own i _ ea
            exact ⟨v, by rw [hs i (.inr m)]; exact ev, .im (dr.im_inv.2.stay (st.mono (R := []) fun _ m => absurd m List.not_mem_nil))⟩
          | _ => cases ez
      · rw [if_neg m]
        rw [other h m] at e
        cases ea : ρ[i]? with
        | none => rw [ea] at e; cases e
        | some a =>
          obtain ⟨b, eb⟩ := both ea
          rw [ea, eb] at e
          cases b with
          | no => cases e
          | own d' =>
            cases e
            obtain ⟨v, ev, dr⟩ := R'.own i _ eb
            exact ⟨v, by rw [hs' i m]; exact ev, dr⟩
          | bor d' =>
            have e' : (if asg.contains i then Slot.no else a.borOf) = Slot.own d := Option.some.inj e
            split at e'
            · cases e'
            · cases a <;> cases e'
  · by_cases h : (∃ s, ρ[i]? = some s ∧ s.isOwnMut = true) ∧ i ∈ src
    · obtain ⟨d', e1, e2⟩ := lockd h
      rw [e] at e2
      cases e2
    · by_cases m : i ∈ own
      · obtain ⟨a, ea, ez⟩ := owned h m _ e
        cases a with
        | no => cases ez
        | bor _ => cases ez
        | own d' => cases d' <;> cases ez
      · rw [other h m] at e
        cases ea : ρ[i]? with
        | none => rw [ea] at e; cases e
        | some a =>
          obtain ⟨b, eb⟩ := both ea
          rw [ea, eb] at e
          cases b with
          | no => cases e
          | own d' => cases e
          | bor d' =>
            have e' : (if asg.contains i then Slot.no else a.borOf) = Slot.bor d := Option.some.inj e
            split at e'
            · cases e'
            · rename_i na
              cases a with
              | no => cases e'
              | own _ => cases e'
              | bor d2 =>
                cases e'
                obtain ⟨v, M, ev, dr, hM⟩ := R.bor i _ ea
                exact ⟨v, M, by rw [hs i (.inl fun z => na (List.contains_iff_mem.mpr z))]; exact ev, dr.stay (st.mono fun a m => sub a (hM a m)), hM⟩
  · by_cases h : (∃ s, ρ[i]? = some s ∧ s.isOwnMut = true) ∧ i ∈ src
    · obtain ⟨d', e1, e2⟩ := lockd h
      exact absurd e2 (e d')
    · rw [if_neg h]
      by_cases m : i ∈ own
      · rw [if_pos m]
      · rw [if_neg m]
        refine R'.emp i fun d q => ?_
        obtain ⟨a, ea⟩ := both' q
        refine e d ?_
        rw [other h m, ea, q]
  · split
    · exact R.nd i
    · split
      · exact List.nodup_nil
      · exact R'.nd i
  · skip
    split at m
    · rename_i hi
      split at n
      · exact R.dj i j a m n
      · split at n
        · cases n
        · exact absurd (lk i hi.2 a m) (R'.pt j a n)
    · split at m
      · cases m
      · split at n
        · rename_i hj
          exact absurd (lk j hj.2 a n) (R'.pt i a m)
        · split at n
          · cases n
          · exact R'.dj i j a m n
  · skip
    split at m
    · rename_i hi
      obtain ⟨o, q, z⟩ := R.mu i a m
      exact ⟨o, st a o q (.inr (lk i hi.2 a m)), z⟩
    · split at m
      · cases m
      · exact R'.mu i a m
  · skip
    split at m
    · exact R.pt i a m
    · split at m
      · cases m
      · exact fun z => R'.pt i a m (sub a z)
  · obtain ⟨o, q⟩ := R.pa a m
    exact ⟨o, st a o q (.inr (sub a m))⟩
  · dsimp only at m
    split at m
    · rename_i hi
      exact .inr ⟨m, lk i hi.2 a m⟩
    · split at m
      · cases m
      · exact .inl m
end
end Kh

set_option Elab.async false
set_option linter.all false
set_option maxRecDepth 100000
set_option maxHeartbeats 2000000
/-! targets; what a for walks -/
namespace Kh
open PySem PySem.Spec PyProof.Rows L2

section
variable (K : PySem.W.Frag)
/-- where a value that is bound comes from -/
def Mode (b : Bool) (Pr : List Addr) (H : Hp) (S : Foot) (L : List Addr) : Prop :=
  if b then ∀ a ∈ L, a ∈ Pr else L.Nodup ∧ ∀ a ∈ L, MutAt H a ∧ (∀ i, a ∉ S i) ∧ a ∉ Pr
def SpG (t : Tg) (g : TG) : Prop := ∀ (b : Bool) (d : D) (e e' : En) (v : V) (L : List Addr) (σ : L2.St) (H : Hp) (S : Foot) (Pr : List Addr) (Q : L2.St → Hp → Prop), bindT t d b e = some e' → SR K Pr H σ e S → DR K H d v L → Mode b Pr H S L →
  (∀ σ' S', SR K Pr H σ' e' S' → (∀ i : Nat, i ∉ t.slots → σ'[i]? = σ[i]?) → σ'.length = σ.length → (∀ (i : Nat) (a : Addr), a ∈ S' i → a ∈ S i ∨ a ∈ L) → Q σ' H) → g v σ H Q
def SpGs (t : Tgs) (g : TGs) : Prop := ∀ (b : Bool) (ds : List D) (e e' : En) (vs : List V) (L : List Addr) (σ : L2.St) (H : Hp) (S : Foot) (Pr : List Addr) (Q : L2.St → Hp → Prop), bindTs t ds b e = some e' → SR K Pr H σ e S → DRs K H ds vs L → Mode b Pr H S L →
  (∀ σ' S', SR K Pr H σ' e' S' → (∀ i : Nat, i ∉ t.slots → σ'[i]? = σ[i]?) → σ'.length = σ.length → (∀ (i : Nat) (a : Addr), a ∈ S' i → a ∈ S i ∨ a ∈ L) → Q σ' H) → g vs σ H Q
end
section
variable {T : Tab} {lv : Nat} {P : Program} {w : World} {K : PySem.W.Frag} {mg : Str → Option Value} {base : Heap} {c : Cs} {W : WX}

theorem spg_name {i : Nat} : SpG K (.name i) (gName i) := by
  intro b d e e' v L σ H S Pr Q hb R dr md k
  simp only [bindT] at hb
  split at hb
  · rename_i hi
    cases hb
    show Q (σ.set i (some v)) H
    have off : ∀ j : Nat, j ∉ (Tg.name i).slots → (σ.set i (some v))[j]? = σ[j]? := fun j n => List.getElem?_set_ne fun z => n (by rw [Tg.slots]; exact List.mem_singleton.mpr z.symm)
    have ln : (σ.set i (some v)).length = σ.length := List.length_set
    have put : L.Nodup → (∀ a ∈ L, MutAt H a ∧ (∀ j, a ∉ S j) ∧ a ∉ Pr) → SR K Pr H (σ.set i (some v)) (e.set i (.own d)) (S.set i L) := fun nd hL =>
      R.put hi (fun a o q _ => q) dr nd fun a m => ⟨(hL a m).1, fun j _ => (hL a m).2.1 j, (hL a m).2.2⟩
    have sub : ∀ (j : Nat) (a : Addr), a ∈ (S.set i L) j → a ∈ S j ∨ a ∈ L := fun j a m => by
      by_cases q : j = i
      · subst q; rw [Foot.set_same] at m; exact .inr m
      · rw [Foot.set_ne q] at m; exact .inl m
    cases d with
    | im x =>
      obtain ⟨rfl, _⟩ := dr.im_inv
      exact k _ _ (put List.nodup_nil fun a m => absurd m List.not_mem_nil) off ln sub
    | _ =>
      cases b with
      | false => exact k _ _ (put md.1 md.2) off ln sub
      | true =>
        refine k _ _ (R.lend dr md) off ln fun j a m => ?_
        by_cases q : j = i
        · subst q; rw [Foot.set_same] at m; cases m
        · rw [Foot.set_ne q] at m; exact .inl m
  · cases hb
theorem Mode.left {b : Bool} {Pr : List Addr} {H : Hp} {S : Foot} {L M : List Addr} (h : Mode b Pr H S (L ++ M)) : Mode b Pr H S L := by
  cases b with
  | true => exact fun a m => h a (List.mem_append_left _ m)
  | false => exact ⟨(List.nodup_append.mp h.1).1, fun a m => h.2 a (List.mem_append_left _ m)⟩
theorem spgs_nil : SpGs K .nil gNil := by
  intro b ds e e' vs L σ H S Pr Q hb R dr md k
  cases ds with
  | nil =>
    simp only [bindTs] at hb
    cases hb
    cases dr
    exact ⟨rfl, k σ S R (fun _ _ => rfl) rfl fun _ _ m => .inl m⟩
  | cons _ _ => simp [bindTs] at hb
theorem spgs_cons {t : Tg} {r : Tgs} {g : TG} {u : TGs} (h1 : SpG K t g) (h2 : SpGs K r u) : SpGs K (.cons t r) (gCons g u) := by
  intro b ds e e' vs L σ H S Pr Q hb R dr md k
  cases ds with
  | nil => simp [bindTs] at hb
  | cons d ds =>
    simp only [bindTs] at hb
    cases q : bindT t d b e with
    | none => rw [q] at hb; cases hb
    | some e1 =>
      rw [q] at hb
      have hb' : bindTs r ds b e1 = some e' := hb
      cases dr with
      | cons d1 d2 =>
        rename_i v S1 vs S2
        refine ⟨v, vs, rfl, ?_⟩
        refine h1 b d e e1 v S1 σ H S Pr _ q R d1 md.left fun σ1 S' R1 o1 l1 s1 => ?_
        have md2 : Mode b Pr H S' S2 := by
          cases b with
          | true => exact fun a m => md a (List.mem_append_right _ m)
          | false =>
            obtain ⟨n1, n2, n3⟩ := List.nodup_append.mp md.1
            refine ⟨n2, fun a m => ⟨(md.2 a (List.mem_append_right _ m)).1, fun i z => ?_, (md.2 a (List.mem_append_right _ m)).2.2⟩⟩
            rcases s1 i a z with z | z
            · exact (md.2 a (List.mem_append_right _ m)).2.1 i z
            · exact n3 a z a m rfl
        refine h2 b ds e1 e' vs S2 σ1 H S' Pr _ hb' R1 d2 md2 fun σ2 S2' R2 o2 l2 s2 => ?_
        refine k σ2 S2' R2 (fun i n => ?_) (l2.trans l1) fun i a m => ?_
        · rw [Tgs.slots, List.mem_append, not_or] at n
          rw [o2 i n.2, o1 i n.1]
        · rcases s2 i a m with z | z
          · exact (s1 i a z).imp id fun z => List.mem_append_left _ z
          · exact .inr (List.mem_append_right _ z)
theorem Tgs.len_vs {K : PySem.W.Frag} : ∀ {ts : Tgs} {ds : List D} {b : Bool} {e e' : En} {n : Nat}, bindTs ts ds b e = some e' → ds.length = n → ∀ {xs : List Expr}, chkTs c ts xs = true → xs.length = n
  | .nil, [], b, e, e', n, _, hl, [], _ => hl
  | .nil, _ :: _, b, e, e', n, h, _, _, _ => by simp [bindTs] at h
  | .nil, [], b, e, e', n, _, hl, _ :: _, h => by simp [chkTs] at h
  | .cons t r, [], b, e, e', n, h, _, _, _ => by simp [bindTs] at h
  | .cons t r, d :: ds, b, e, e', n, h, hl, [], hc => by simp [chkTs] at hc
  | .cons t r, d :: ds, b, e, e', n, h, hl, x :: xs, hc => by
    simp only [bindTs] at h
    simp only [chkTs, Bool.and_eq_true] at hc
    cases q : bindT t d b e with
    | none => rw [q] at h; cases h
    | some e1 =>
      rw [q] at h
      have h' : bindTs r ds b e1 = some e' := h
      rw [← hl]
      exact congrArg (· + 1) (Tgs.len_vs (K := K) h' rfl hc.2)
theorem spg_tup {ts : Tgs} {g : TGs} {n : Nat} {xs : List Expr} (hc : chkTs c ts xs = true) (hn : xs.length = n) (h : SpGs K ts g) : SpG K (.tup ts) (gTup K n g) := by
  intro b d e e' v L σ H S Pr Q hb R dr md k
  cases d with
  | im x =>
    cases x with
    | tup ys =>
      simp only [bindT] at hb
      obtain ⟨a, vs, rfl, sa, ra⟩ := dr.tup_inv
      obtain ⟨rfl, _⟩ := dr.im_inv
      refine ⟨a, vs, rfl, sa, ?_, h b _ e e' vs [] σ H S Pr Q hb R (DRs.ims ra) md k⟩
      rw [← ra.length, ← hn]
      exact ((Tgs.len_vs (K := K) hb (by rw [List.length_map]) hc)).symm
    | _ => simp [bindT] at hb
  | tup ds =>
    simp only [bindT] at hb
    cases dr with
    | tup sa ra =>
      refine ⟨_, _, rfl, sa, ?_, h b _ e e' _ L σ H S Pr Q hb R ra md k⟩
      rw [← ra.length, ← hn]
      exact ((Tgs.len_vs (K := K) hb rfl hc)).symm
  | _ => simp [bindT] at hb

/-! ### the targets of the text -/
def SG (lv : Nat) (P : Program) (w : World) (K : PySem.W.Frag) (mg : Str → Option Value) (base : Heap) (c : Cs) (W : WX) (t : Tg) (x : Expr) : Prop := ∃ g : TG, (∀ X, Gd lv c W P w K mg base X → PG X x g) ∧ SpG K t g
def SGs (lv : Nat) (P : Program) (w : World) (K : PySem.W.Frag) (mg : Str → Option Value) (base : Heap) (c : Cs) (W : WX) (t : Tgs) (xs : List Expr) : Prop := ∃ g : TGs, (∀ X, Gd lv c W P w K mg base X → PGs X xs g) ∧ SpGs K t g
theorem chkT_noStar {t : Tg} {x : Expr} {xs : List Expr} {env : PySem.Env} (h : chkT c t x = true) : assignEach (x :: xs) env = (false, assign x env) :: assignEach xs env := by
  unfold chkT at h
  split at h
  · rfl
  · rfl
  · cases h
theorem assign_all {env : PySem.Env} : ∀ {ts : Tgs} {xs : List Expr}, chkTs c ts xs = true → (assignEach xs env).length = xs.length ∧ (assignEach xs env).findIdx? (·.1) = none
  | .nil, [], _ => ⟨rfl, rfl⟩
  | .nil, _ :: _, h => by simp [chkTs] at h
  | .cons _ _, [], h => by simp [chkTs] at h
  | .cons t r, x :: xs, h => by
    simp only [chkTs, Bool.and_eq_true] at h
    obtain ⟨a, b⟩ := assign_all (env := env) h.2
    rw [chkT_noStar h.1]
    refine ⟨by rw [List.length_cons, a, List.length_cons], ?_⟩
    rw [List.findIdx?_cons, b]
    rfl
mutual
theorem sg_ok : ∀ (t : Tg) (x : Expr), chkT c t x = true → SG lv P w K mg base c W t x
  | .name i, x, h => by
    unfold chkT at h
    split at h
    · rename_i i' y pos e
      cases e
      simp only [Bool.and_eq_true, decide_eq_true_eq] at h
      refine ⟨gName i, fun X g => ?_, spg_name⟩
      obtain ⟨h1, h2⟩ := g.fnl y h.2
      exact pg_name (by rw [g.N]; exact g.nd) (by rw [g.N]; exact h.1) (by rw [g.sc]; exact h1) (by rw [g.sc]; exact h2)
    · rename_i e; cases e
    · cases h
  | .tup ts, x, h => by
    unfold chkT at h
    split at h
    · rename_i e; cases e
    · rename_i ts' xs k pos e
      cases e
      obtain ⟨g, pg, sg⟩ := sgs_ok ts xs h
      refine ⟨gTup K xs.length g, fun X gd => ?_, spg_tup h rfl sg⟩
      have r := pg_tup (X := X) (es := xs) (k := k) (pos := pos) gd.calm (pg X gd) (assign_all h).1 (assign_all h).2
      rw [gd.hK] at r
      exact r
    · cases h
theorem sgs_ok : ∀ (t : Tgs) (xs : List Expr), chkTs c t xs = true → SGs lv P w K mg base c W t xs
  | .nil, [], _ => ⟨gNil, fun X g => pgs_nil, spgs_nil⟩
  | .nil, _ :: _, h => by simp [chkTs] at h
  | .cons _ _, [], h => by simp [chkTs] at h
  | .cons t r, x :: xs, h => by
    simp only [chkTs, Bool.and_eq_true] at h
    obtain ⟨g, pg, sg⟩ := sg_ok t x h.1
    obtain ⟨u, pu, su⟩ := sgs_ok r xs h.2
    exact ⟨gCons g u, fun X gd => pgs_cons (pg X gd) (pu X gd) (by rw [chkT_noStar h.1]; rfl), spgs_cons sg su⟩
end
end
end Kh

set_option Elab.async false
set_option linter.all false
set_option maxRecDepth 100000
set_option maxHeartbeats 2000000
/-! what a for walks -/
namespace Kh
open PySem PySem.Spec PyProof.Rows L2

/-- an iterator over data that lie at L -/
structure Wlk (K : PySem.W.Frag) (J : It) (H1 : Hp) (ds : List D) (L : List Addr) : Prop where
  go : ∀ i H, i < ds.length → Stay H1 H L → J.go i H
  stop : ∀ H, Stay H1 H L → J.stop ds.length H
  yld : ∀ i H x H', i < ds.length → Stay H1 H L → J.yld i H x H' → (∀ a o, H a = some o → H' a = some o) ∧ ∃ d R, ds[i]? = some d ∧ DR K H' d x R ∧ ∀ a ∈ R, a ∈ L
section
variable {K : PySem.W.Frag} {H1 : Hp} {a : Addr} {vs : List V} {ds : List D} {L : List Addr}
theorem DRs.getV : ∀ {ds : List D} {vs : List V} {L : List Addr} {i : Nat} {x : V}, DRs K H1 ds vs L → vs[i]? = some x → ∃ d R, ds[i]? = some d ∧ DR K H1 d x R ∧ ∀ a ∈ R, a ∈ L := fun {ds vs L i x} r e => by
  have h1 := (List.getElem?_eq_some_iff.mp e).1
  rw [← r.length] at h1
  obtain ⟨u, R, h2, h3, h4⟩ := r.get (List.getElem?_eq_getElem h1)
  rw [e] at h2
  cases h2
  exact ⟨ds[i], R, List.getElem?_eq_getElem h1, h3, h4⟩
theorem wlk_list (h : H1 a = some (.lst vs)) (r : DRs K H1 ds vs L) : Wlk K (Itl K a) H1 ds (a :: L) := by
  have hs : ∀ H, Stay H1 H (a :: L) → SqL K H a vs := fun H st => SqL.of (st a _ h (.inr List.mem_cons_self))
  refine ⟨fun i H hi st => ?_, fun H st => ⟨vs, hs H st, by rw [r.length]; exact Nat.le_refl _⟩, fun i H x H' hi st y => ?_⟩
  · rw [r.length] at hi
    exact ⟨vs, vs[i], hs H st, List.getElem?_eq_getElem hi⟩
  · obtain ⟨rfl, y⟩ := y
    obtain ⟨d, R, e, dr, hR⟩ := r.getV (y vs (hs H' st))
    exact ⟨fun _ _ q => q, d, R, e, dr.stay (st.mono fun b m => List.mem_cons_of_mem _ (hR b m)), fun b m => List.mem_cons_of_mem _ (hR b m)⟩
theorem wlk_tup (h : SqT K H1 a vs) (r : DRs K H1 ds vs L) : Wlk K (Itt K a) H1 ds L := by
  have hs : ∀ H, Stay H1 H L → SqT K H a vs := fun H st => SqT.stay st h
  refine ⟨fun i H hi st => ?_, fun H st => ⟨vs, hs H st, by rw [r.length]; exact Nat.le_refl _⟩, fun i H x H' hi st y => ?_⟩
  · rw [r.length] at hi
    exact ⟨vs, vs[i], hs H st, List.getElem?_eq_getElem hi⟩
  · obtain ⟨rfl, y⟩ := y
    obtain ⟨d, R, e, dr, hR⟩ := r.getV (y vs (hs H' st))
    exact ⟨fun _ _ q => q, d, R, e, dr.stay (st.mono fun b m => (hR b m)), hR⟩
theorem drs_ints (ns : List Int) : DRs K H1 (ns.map fun n => D.im (.int n)) (ns.map V.int) [] := by
  have h := DRs.ims (K := K) (H := H1) (IRs.ints ns)
  rw [List.map_map] at h
  exact h
theorem wlk_scr {ns : List Int} (h : SqF K H1 a (ns.map V.int)) : Wlk K (Itl K a) H1 (ns.map fun n => .im (.int n)) [] := by
  have hs : ∀ H, Stay H1 H [] → SqL K H a (ns.map V.int) := fun H st => (h.stay st).l
  have r := drs_ints (K := K) (H1 := H1) ns
  refine ⟨fun i H hi st => ?_, fun H st => ⟨_, hs H st, by rw [r.length]; exact Nat.le_refl _⟩, fun i H x H' hi st y => ?_⟩
  · rw [r.length] at hi
    exact ⟨_, (ns.map V.int)[i], hs H st, List.getElem?_eq_getElem hi⟩
  · obtain ⟨rfl, y⟩ := y
    obtain ⟨d, R, e, dr, hR⟩ := r.getV (y _ (hs H' st))
    exact ⟨fun _ _ q => q, d, R, e, dr.stay (st.mono fun b m => (hR b m)), hR⟩
theorem rangeL_len (lo : Int) (n : Nat) : (rangeL lo n).length = n := by unfold rangeL; simp
theorem wlk_range (lo : Int) (n : Nat) : Wlk K (Itr lo n) H1 (rangeL lo n) [] := by
  refine ⟨fun i H hi st => by rw [rangeL_len] at hi; exact hi, fun H st => by rw [rangeL_len]; exact Nat.le_refl _, fun i H x H' hi st y => ?_⟩
  obtain ⟨rfl, rfl⟩ := y
  rw [rangeL_len] at hi
  refine ⟨fun _ _ q => q, .im (.int (lo + i)), [], ?_, .im (.int _), fun _ m => absurd m List.not_mem_nil⟩
  unfold rangeL
  rw [List.getElem?_map, List.getElem?_range hi]
  rfl
theorem rev_get {α : Type} {xs : List α} {i : Nat} (h : i < xs.length) : xs.reverse[i]? = xs[xs.length - 1 - i]? := List.getElem?_reverse h
theorem wlk_revL (h : H1 a = some (.lst vs)) (r : DRs K H1 ds vs L) : Wlk K (Itv K a vs.length) H1 ds.reverse (a :: L) := by
  have hs : ∀ H, Stay H1 H (a :: L) → SqL K H a vs := fun H st => SqL.of (st a _ h (.inr List.mem_cons_self))
  have hl : ds.reverse.length = vs.length := by rw [List.length_reverse, r.length]
  refine ⟨fun i H hi st => ?_, fun H st => by rw [hl]; exact Nat.le_refl _, fun i H x H' hi st y => ?_⟩
  · rw [hl] at hi
    exact ⟨hi, vs, vs[vs.length - 1 - i]'(by omega), hs H st, List.getElem?_eq_getElem _⟩
  · obtain ⟨rfl, y⟩ := y
    rw [hl] at hi
    obtain ⟨d, R, e, dr, hR⟩ := r.getV (y _ (hs H' st))
    refine ⟨fun _ _ q => q, d, R, ?_, dr.stay (st.mono fun b m => List.mem_cons_of_mem _ (hR b m)), fun b m => List.mem_cons_of_mem _ (hR b m)⟩
    rw [rev_get (by rw [r.length]; exact hi), r.length]; exact e
theorem wlk_revT (h : SqT K H1 a vs) (r : DRs K H1 ds vs L) : Wlk K (RT.ItvT K a vs.length) H1 ds.reverse L := by
  have hs : ∀ H, Stay H1 H L → SqT K H a vs := fun H st => SqT.stay st h
  have hl : ds.reverse.length = vs.length := by rw [List.length_reverse, r.length]
  refine ⟨fun i H hi st => ?_, fun H st => by rw [hl]; exact Nat.le_refl _, fun i H x H' hi st y => ?_⟩
  · rw [hl] at hi
    exact ⟨hi, vs, vs[vs.length - 1 - i]'(by omega), hs H st, List.getElem?_eq_getElem _⟩
  · obtain ⟨rfl, y⟩ := y
    rw [hl] at hi
    obtain ⟨d, R, e, dr, hR⟩ := r.getV (y _ (hs H' st))
    refine ⟨fun _ _ q => q, d, R, ?_, dr.stay (st.mono fun b m => hR b m), hR⟩
    rw [rev_get (by rw [r.length]; exact hi), r.length]; exact e
theorem wlk_revS {ns : List Int} (h : SqF K H1 a (ns.map V.int)) : Wlk K (Itv K a (ns.map V.int).length) H1 (ns.map fun n => D.im (.int n)).reverse [] := by
  have hs : ∀ H, Stay H1 H [] → SqL K H a (ns.map V.int) := fun H st => (h.stay st).l
  have r := drs_ints (K := K) (H1 := H1) ns
  have hl : (ns.map fun n => D.im (.int n)).reverse.length = (ns.map V.int).length := by rw [List.length_reverse, r.length]
  refine ⟨fun i H hi st => ?_, fun H st => by rw [hl]; exact Nat.le_refl _, fun i H x H' hi st y => ?_⟩
  · rw [hl] at hi
    exact ⟨hi, _, (ns.map V.int)[(ns.map V.int).length - 1 - i]'(by omega), hs H st, List.getElem?_eq_getElem _⟩
  · obtain ⟨rfl, y⟩ := y
    rw [hl] at hi
    obtain ⟨d, R, e, dr, hR⟩ := r.getV (y _ (hs H' st))
    refine ⟨fun _ _ q => q, d, R, ?_, dr.stay (st.mono fun b m => hR b m), hR⟩
    rw [rev_get (by rw [r.length]; exact hi), r.length]; exact e
end

theorem PI.or {X : Cx} {tg e : Expr} {t u : TI} (h : PI X tg e t) (k : PI X tg e u) : PI X tg e (fun σ H R => t σ H R ∨ u σ H R) :=
  ⟨fun pins s σ H R I z => z.elim (h.run pins s σ H R I) (k.run pins s σ H R I)⟩
theorem PI.fls {X : Cx} {tg e : Expr} : PI X tg e (fun _ _ _ => False) := ⟨fun _ _ _ _ _ _ z => z.elim⟩

section
variable (T : Tab) (lv : Nat) (P : Program) (w : World) (K : PySem.W.Frag) (mg : Str → Option Value) (base : Heap)
def SpW (W : WX) (mw : Wk) (wi : TI) : Prop := ∀ σ H ρ S Pr (R : It → Hp → Prop), SR K Pr H σ ρ S → OkP K mg W false Pr σ H S (fun ds e1 H1 S1 => ∀ J L, Wlk K J H1 ds L → (∀ a ∈ L, There H1 a) → (∀ a ∈ L, a ∈ Pr ∨ (∃ i ∈ mw.src, a ∈ S1 i) ∨ ∀ i, a ∉ S1 i) → R J H1) (evalW T mw ρ) → wi σ H R
def SW (c : Cs) (W : WX) (mw : Wk) (x : Expr) : Prop := ∃ wi : TI, (∀ X, Gd lv c W P w K mg base X → ∀ tg, PI X tg x wi) ∧ SpW T K mg W mw wi
end
section
variable {T : Tab} {lv : Nat} {P : Program} {w : World} {K : PySem.W.Frag} {mg : Str → Option Value} {base : Heap} {c : Cs} {W : WX}
variable {σ : L2.St} {H : Hp} {ρ : En} {S : Foot} {Pr : List Addr} {p q : Bool}
theorem use_EK {α : Type} {a : E} {ta : TE} {Q : VK} {fin : α → En → Hp → Foot → Prop} {f : D → En → Out α} (ea : SpE T K mg W a ta) (R : SR K Pr H σ ρ S)
    (ok : OkP K mg W false Pr σ H S fin ((evalE T a false ρ).bind f))
    (k : ∀ d e1 H1 S1 v L, evalE T a false ρ = .ok d e1 → SR K Pr H1 σ e1 S1 → Fr false H S H1 S1 → DR K H1 d v L → Res false a.src Pr H S H1 S1 L → OkP K mg W false Pr σ H S fin (f d e1) → Q v H1) : ta σ H Q := by
  refine ea false σ H ρ S Pr Q R ?_
  cases e : evalE T a false ρ with
  | bad => rw [e] at ok; exact ok
  | exc _ _ _ _ => rw [e] at ok; exact ok
  | ok d e1 =>
    rw [e] at ok
    exact fun H1 S1 R1 F1 v L dr rs => k d e1 H1 S1 v L e R1 F1.weak dr rs ok
def isSeqL : D → Bool
  | .lst _ => true
  | .scr _ => true
  | _ => false
theorem sw_it {a : E} {x : Expr} (sa : SE T lv P w K mg base c W a x) : SW T lv P w K mg base c W (.it a) x := by
  obtain ⟨ta, pa, ea⟩ := sa
  refine ⟨fun σ H R => iList K ta σ H R ∨ iTup K ta σ H R, fun X g tg => ?_, fun σ H ρ S Pr R' R ok => ?_⟩
  · have r1 := pi_list (X := X) (tg := tg) (pa X g)
    have r2 := pi_tup (X := X) (tg := tg) (pa X g)
    rw [g.hK] at r1 r2
    exact PI.or r1 r2
  · simp only [evalW] at ok
    by_cases hd : ∃ d e, evalE T a false ρ = .ok d e ∧ isSeqL d = true
    · obtain ⟨d0, e0, he, hs⟩ := hd
      refine .inl ?_
      show ta σ H _
      refine use_EK ea R ok fun d e1 H1 S1 v L hq R1 F1 d1 r1 ok1 => ?_
      rw [he] at hq; cases hq
      obtain ⟨xs, hx, ok2⟩ := lift_ok ok1
      cases d0 with
      | lst ys =>
        cases hx
        obtain ⟨a', vs, M, rfl, ha, ra, rfl⟩ := d1.lst_inv
        exact ⟨a', rfl, ⟨vs, SqL.of ha⟩, ok2 H1 S1 R1 F1 _ _ (wlk_list ha ra) (fun b m => d1.there b m) r1.any⟩
      | scr ns =>
        cases hx
        cases d1 with
        | scr sa => exact ⟨_, rfl, ⟨_, sa.l⟩, ok2 H1 S1 R1 F1 _ _ (wlk_scr sa) (fun b m => absurd m List.not_mem_nil) fun b m => absurd m List.not_mem_nil⟩
      | _ => cases hs
    · refine .inr ?_
      show ta σ H _
      refine use_EK ea R ok fun d e1 H1 S1 v L hq R1 F1 d1 r1 ok1 => ?_
      obtain ⟨xs, hx, ok2⟩ := lift_ok ok1
      cases d with
      | im y =>
        cases y with
        | tup ys =>
          cases hx
          obtain ⟨a', vs, rfl, sa, ra⟩ := d1.tup_inv
          exact ⟨a', rfl, ⟨vs, sa⟩, ok2 H1 S1 R1 F1 _ _ (wlk_tup sa (DRs.ims ra)) (fun b m => absurd m List.not_mem_nil) fun b m => absurd m List.not_mem_nil⟩
        | _ => cases hx
      | lst ys => exact absurd ⟨_, _, hq, rfl⟩ hd
      | scr ys => exact absurd ⟨_, _, hq, rfl⟩ hd
      | _ => cases hx
theorem sw_rev (G : Gl0 T lv P w K mg base) {a : E} {x : Expr} {g : Str} {gp pos : Pos} (hg : g = ("reversed" : Str)) (hgl : c.glo g = true) (hx : plainX x = true) (sa : SE T lv P w K mg base c W a x) : SW T lv P w K mg base c W (.rev a) (.Call (.Name g gp) [x] [] pos) := by
  subst hg
  obtain ⟨ta, pa, ea⟩ := sa
  refine ⟨RT.iRevA K ta, fun X g tg => ?_, fun σ H ρ S Pr R' R ok => ?_⟩
  · have r1 := RT.pi_revA (X := X) (tg := tg) (p := gp) (pos := pos) (isGlo_gl g.sc hgl) (isGl_mg G g (by decide)) (pa X g) (pl_star hx)
    rw [g.hK] at r1
    exact r1
  · simp only [evalW] at ok
    show ta σ H _
    refine use_EK ea R ok fun d e1 H1 S1 v L hq R1 F1 d1 r1 ok1 => ?_
    obtain ⟨xs, hx, ok2⟩ := lift_ok ok1
    cases d with
    | im y =>
      cases y with
      | tup ys =>
        cases hx
        obtain ⟨a', vs, rfl, sa, ra⟩ := d1.tup_inv
        exact ⟨a', vs, rfl, .inr ⟨sa, ok2 H1 S1 R1 F1 _ _ (wlk_revT sa (DRs.ims ra)) (fun b m => absurd m List.not_mem_nil) fun b m => absurd m List.not_mem_nil⟩⟩
      | _ => cases hx
    | lst ys =>
      cases hx
      obtain ⟨a', vs, M, rfl, ha, ra, rfl⟩ := d1.lst_inv
      exact ⟨a', vs, rfl, .inl ⟨SqL.of ha, ok2 H1 S1 R1 F1 _ _ (wlk_revL ha ra) (fun b m => d1.there b m) r1.any⟩⟩
    | scr ns =>
      cases hx
      cases d1 with
      | scr sa => exact ⟨_, _, rfl, .inl ⟨sa.l, ok2 H1 S1 R1 F1 _ _ (wlk_revS sa) (fun b m => absurd m List.not_mem_nil) fun b m => absurd m List.not_mem_nil⟩⟩
    | _ => cases hx
theorem sw_bad {mw : Wk} {x : Expr} (h : ∀ ρ, evalW T mw ρ = .bad) : SW T lv P w K mg base c W mw x :=
  ⟨fun _ _ _ => False, fun X g tg => PI.fls, fun σ H ρ S Pr R' R ok => by rw [h ρ] at ok; exact ok⟩
theorem sw_range (G : Gl0 T lv P w K mg base) {es : Es} {xs : List Expr} {g : Str} {gp pos : Pos} (hg : g = ("range" : Str)) (hgl : c.glo g = true) (hc : chkEs c es xs = true) (se : SEs T lv P w K mg base c W es xs) : SW T lv P w K mg base c W (.range es) (.Call (.Name g gp) xs [] pos) := by
  subst hg
  by_cases hn : es.len = 0 ∨ 2 < es.len
  · exact sw_bad fun ρ => by simp only [evalW, hn, if_true]
  · obtain ⟨t, pt, et, _, _⟩ := se
    have hl := chkEs_len hc
    match xs, hl, hc, pt with
    | [], hl, _, _ => exact absurd hl.symm fun e => hn (.inl e)
    | _ :: _ :: _ :: _, hl, _, _ => exact absurd hl fun e => hn (.inr (by rw [← e]; simp))
    | [x], hl, hc, pt =>
      refine ⟨iRng1 t, fun X g tg => pi_range1 (isGlo_gl g.sc hgl) (isGl_mg G g (by decide)) (pt X g) (star_all hc), fun σ H ρ S Pr R' R ok => ?_⟩
      simp only [evalW, hn, if_false] at ok
      show t σ H _
      refine use_EsK et R ok fun ds e1 H1 S1 vs L hd R1 F1 d1 r1 ok1 => ?_
      split at ok1
      · split at ok1
        · rename_i j hj
          cases d1 with
          | cons d2 d3 =>
            cases d3
            obtain rfl := d2.int_inv
            exact ⟨j, rfl, by omega, by omega, ok1 H1 S1 R1 F1 _ _ (wlk_range 0 _) (fun b m => absurd m List.not_mem_nil) fun b m => absurd m List.not_mem_nil⟩
        · exact ok1.elim
      · rw [← hl] at hd; simp at hd
      · exact ok1.elim
    | [x, y], hl, hc, pt =>
      refine ⟨iRng2 t, fun X g tg => pi_range2 (isGlo_gl g.sc hgl) (isGl_mg G g (by decide)) (pt X g) (star_all hc) ?_, fun σ H ρ S Pr R' R ok => ?_⟩
      · cases es with
        | nil => simp [chkEs] at hc
        | cons e r =>
          simp only [chkEs, Bool.and_eq_true] at hc
          exact star_all hc.2
      · simp only [evalW, hn, if_false] at ok
        show t σ H _
        refine use_EsK et R ok fun ds e1 H1 S1 vs L hd R1 F1 d1 r1 ok1 => ?_
        split at ok1
        · rw [← hl] at hd; simp at hd
        · split at ok1
          · rename_i i j hj
            cases d1 with
            | cons d2 d3 =>
              cases d3 with
              | cons d4 d5 =>
                cases d5
                obtain rfl := d2.int_inv
                obtain rfl := d4.int_inv
                exact ⟨i, j, rfl, by omega, ok1 H1 S1 R1 F1 _ _ (wlk_range i _) (fun b m => absurd m List.not_mem_nil) fun b m => absurd m List.not_mem_nil⟩
          · exact ok1.elim
        · exact ok1.elim
end
end Kh

set_option Elab.async false
set_option linter.all false
set_option maxRecDepth 100000
set_option maxHeartbeats 2000000
/-! comprehensions -/
namespace Kh
open PySem PySem.Spec PyProof.Rows L2

/-- where no error leaves -/
abbrev W0 : WX := fun _ _ _ _ => False
theorem blk_loc {c : Cs} {scope : Scope} {x : Str} (h : (c.blk scope).loc x = true) : Loc (c.blk scope).sc x ∧ ((scope.names.lookup x == some .cell) = true ∨ (c.blk scope).sc.names.lookup x = some .local) := by
  unfold Cs.loc isLoc at h
  have e : (c.blk scope).raw = scope := rfl
  rw [e] at h
  split at h
  · rename_i q
    have z : (c.blk scope).sc.names.lookup x = some .local := lookup_relS_keep (by intro h; cases h) q
    exact ⟨.inl z, .inr z⟩
  · rename_i q
    have z : (c.blk scope).sc.names.lookup x = some .cell := lookup_relS_keep (by intro h; cases h) q
    exact ⟨.inr z, .inl (by rw [q]; rfl)⟩
  · cases h
theorem wipe_get {σ : L2.St} : ∀ {vs : List Nat} {i : Nat}, (wipe σ vs)[i]? = if i ∈ vs then (if i < σ.length then some none else none) else σ[i]?
  | [], i => by simp [wipe]
  | v :: vs, i => by
    unfold wipe
    by_cases h : v = i
    · subst h
      rw [List.getElem?_set]
      simp [wipe_length]
    · rw [List.getElem?_set_ne h, wipe_get (vs := vs) (i := i)]
      have : (i ∈ v :: vs) ↔ i ∈ vs := by
        rw [List.mem_cons]
        exact ⟨fun z => z.elim (fun e => absurd e.symm h) id, .inr⟩
      simp only [this]
theorem wipe_eq {σ σ' : L2.St} {vs : List Nat} (hl : σ'.length = σ.length) (h : ∀ i : Nat, i ∉ vs → σ'[i]? = (wipe σ vs)[i]?) : wipe σ' vs = wipe σ vs := by
  apply List.ext_getElem?
  intro i
  rw [wipe_get, wipe_get]
  by_cases m : i ∈ vs
  · simp only [m, if_true, hl]
  · simp only [m, if_false]
    rw [h i m, wipe_get]
    simp only [m, if_false]

section
variable {T : Tab} {lv : Nat} {P : Program} {w : World} {K : PySem.W.Frag} {mg : Str → Option Value} {base : Heap} {c : Cs} {W : WX}
theorem gd_blk {X : Cx} {scope : Scope} {s : Shared} {H : Hp} {C : Addr} {cl : List (Str × Addr)} {fp : List Addr} (g : Gd lv c W P w K mg base X) : Gd lv (c.blk scope) W0 P w K mg base (X.blk s H scope (compEnvC scope cl C X.env) fp) := by
  have hs := g.sc
  refine ⟨g.hP, g.hw, g.hK, g.hm, g.hb, ?_, g.N, g.nd, g.calm, g.un, g.room, fun x h => ?_, takes0⟩
  · show relS scope X.env.scope = _
    rw [hs]; rfl
  · exact blk_loc h
variable (T lv P w K mg base)
def SpC (W : WX) (me : Eo) (t : TT) : Prop := ∀ σ H ρ S Pr Q, SR K Pr H σ ρ S → OkP K mg W false Pr σ H S (fun b _ H' _ => Q b H') (evalC T me ρ) → t σ H Q
def SC (c : Cs) (W : WX) (me : Eo) (xs : List Expr) : Prop := ∃ t : TT, (∀ X, Gd lv c W P w K mg base X → PTs X xs t) ∧ SpC T K mg W me t
variable {T lv P w K mg base}
theorem sc_no : SC T lv P w K mg base c W .no [] := ⟨tYes, fun X g => pts_nil, fun σ H ρ S Pr Q R ok => by
  simp only [evalC] at ok
  exact ok H S R Fr.refl⟩
theorem sc_so {e : E} {x : Expr} (h : ST T lv P w K mg base c W e x) : SC T lv P w K mg base c W (.so e) [x] := by
  obtain ⟨t, pt, et⟩ := h
  refine ⟨t, fun X g => pts_one (pt X g).1, fun σ H ρ S Pr Q R ok => ?_⟩
  simp only [evalC] at ok
  exact et σ H ρ S Pr Q R ok.weak

/-! ### the turns -/
variable (T) in
/-- one turn -/
def lcT (tg : Tg) (own : List Nat) (cn : Eo) (elt : E) : D → En → Out (Option D) := fun d e => match bindT tg d true e with
  | some e1 => ((evalC T cn e1).bind fun k e2 => if k then (evalE T elt true e2).bind fun y e3 => .ok (some y) (clear own e3) else .ok none (clear own e2)).nx
  | none => .bad
theorem lcT_inv {tg : Tg} {own : List Nat} {cn : Eo} {elt : E} {d : D} {e e' : En} {o : Option D} (h : lcT T tg own cn elt d e = .ok o e') : ∃ e1 k e2, bindT tg d true e = some e1 ∧ evalC T cn e1 = .ok k e2 ∧
    ((k = true ∧ ∃ y e3, evalE T elt true e2 = .ok y e3 ∧ o = some y ∧ e' = clear own e3) ∨ (k = false ∧ o = none ∧ e' = clear own e2)) := by
  unfold lcT at h
  split at h
  · rename_i e1 h1
    cases h2 : evalC T cn e1 with
    | bad => rw [h2] at h; cases h
    | exc _ _ _ _ => rw [h2] at h; cases h
    | ok k e2 =>
      rw [h2] at h
      refine ⟨e1, k, e2, h1, h2 ▸ rfl, ?_⟩
      cases k with
      | false =>
        simp only [Out.bind, Bool.false_eq_true, if_false, Out.nx] at h
        cases h
        exact .inr ⟨rfl, rfl, rfl⟩
      | true =>
        simp only [Out.bind, if_true] at h
        cases h3 : evalE T elt true e2 with
        | bad => rw [h3] at h; cases h
        | exc _ _ _ _ => rw [h3] at h; cases h
        | ok y e3 =>
          rw [h3] at h
          simp only [Out.nx] at h
          cases h
          exact .inl ⟨rfl, y, e3, rfl, rfl, rfl⟩
  · cases h
theorem lcT_nx {tg : Tg} {own : List Nat} {cn : Eo} {elt : E} {d : D} {e : En} : (∃ o e', lcT T tg own cn elt d e = .ok o e') ∨ lcT T tg own cn elt d e = .bad := by
  unfold lcT
  split
  · rename_i e1 h1
    cases (evalC T cn e1).bind _ with
    | bad => exact .inr rfl
    | exc _ _ _ _ => exact .inr rfl
    | ok _ _ => exact .inl ⟨_, _, rfl⟩
  · exact .inr rfl
theorem lcGo_nx {turn : D → En → Out (Option D)} (h : ∀ d e, (∃ o e', turn d e = .ok o e') ∨ turn d e = .bad) : ∀ (ds : List D) (e : En), (∃ ys e', lcGo turn ds e = .ok ys e') ∨ lcGo turn ds e = .bad
  | [], e => .inl ⟨_, _, rfl⟩
  | d :: ds, e => by
    unfold lcGo
    rcases h d e with ⟨o, e', h1⟩ | h1
    · rcases lcGo_nx h ds e' with ⟨ys, e'', h2⟩ | h2
      · rw [h1]
        simp only [Out.bind, h2]
        exact .inl ⟨_, _, rfl⟩
      · exact .inr (by rw [h1]; simp only [Out.bind, h2])
    · exact .inr (by rw [h1]; rfl)
theorem lcGo_cons {turn : D → En → Out (Option D)} {d : D} {ds : List D} {e e' : En} {ys : List D} (h : lcGo turn (d :: ds) e = .ok ys e') : ∃ o e1 zs, turn d e = .ok o e1 ∧ lcGo turn ds e1 = .ok zs e' ∧ ys = (match o with
    | some y => y :: zs
    | none => zs) := by
  unfold lcGo at h
  cases h1 : turn d e with
  | bad => rw [h1] at h; cases h
  | exc _ _ _ _ => rw [h1] at h; cases h
  | ok o e1 =>
    rw [h1] at h
    simp only [Out.bind] at h
    cases h2 : lcGo turn ds e1 with
    | bad => rw [h2] at h; cases h
    | exc _ _ _ _ => rw [h2] at h; cases h
    | ok zs e2 =>
      rw [h2] at h
      cases h
      exact ⟨o, e1, zs, rfl, h2, rfl⟩
theorem drop_cons {α : Type} {xs : List α} {i : Nat} {x : α} (h : xs[i]? = some x) : xs.drop i = x :: xs.drop (i + 1) := by
  obtain ⟨h1, h2⟩ := List.getElem?_eq_some_iff.mp h
  rw [List.drop_eq_getElem_cons h1, h2]

/-- what holds ahead of turn i -/
def LcI (K : PySem.W.Frag) (P2 : List Addr) (H1 : Hp) (S3 : Foot) (σ : L2.St) (turn : D → En → Out (Option D)) (ds ys : List D) (ef : En) (Dd : Addr) (i : Nat) (H : Hp) : Prop :=
  ∃ acc La done zs e S, H Dd = some (.lst acc) ∧ DRs K H done acc La ∧ La.Nodup ∧ (∀ a ∈ La, a ≠ Dd ∧ MutAt H a ∧ (∀ j, a ∉ S j) ∧ a ∉ P2 ∧ ((∃ j, a ∈ S3 j) ∨ H1 a = none)) ∧
    SR K P2 H σ e S ∧ (∀ j, Dd ∉ S j) ∧ Fr false H1 S3 H S ∧ lcGo turn (ds.drop i) e = .ok zs ef ∧ done ++ zs = ys ∧ done.length ≤ i ∧ i ≤ ds.length

theorem se_lc {mw : Wk} {tg : Tg} {own : List (Str × Nat)} {cn : Eo} {elt : E} {y t it : Expr} {ifs : List Expr} {scope : Scope} (hb : blkC c.N c.sc scope own = true) (hit : plainX it = true)
    (hsl : tg.slots.all (fun i => (own.map (·.2)).contains i) = true) (sw : SW T lv P w K mg base c W mw it) (sg : SG lv P w K mg base (c.blk scope) W0 tg t) (sc : SC T lv P w K mg base (c.blk scope) W0 cn ifs) (se : SE T lv P w K mg base (c.blk scope) W0 elt y) :
    ∃ wi g tt te, (∀ X, Gd lv c W P w K mg base X → (∀ tg, PI X tg it wi) ∧ BlkOk X.N X.env.scope scope own ∧ (∀ (s : Shared) (H : Hp) (C : Addr) (cl : List (Str × Addr)) (fp : List Addr), PG (X.blk s H scope (compEnvC scope cl C X.env) fp) t g) ∧
      (∀ (s : Shared) (H : Hp) (C : Addr) (cl : List (Str × Addr)) (fp : List Addr), PTs (X.blk s H scope (compEnvC scope cl C X.env) fp) ifs tt) ∧ (∀ (s : Shared) (H : Hp) (C : Addr) (cl : List (Str × Addr)) (fp : List Addr), PE (X.blk s H scope (compEnvC scope cl C X.env) fp) y te) ∧ ∀ x, foldedSetIterable it X.env x = pure x) ∧
      SpE T K mg W (.lc mw tg own cn elt) (tLc wi g tt te (own.map (·.2))) := by
  obtain ⟨wi, pw, ew⟩ := sw
  obtain ⟨g, pg, eg⟩ := sg
  obtain ⟨tt, pt, et⟩ := sc
  obtain ⟨te, pe, ee⟩ := se
  refine ⟨wi, g, tt, te, fun X gd => ⟨pw X gd, by rw [gd.N, gd.sc]; exact blkOk_by hb, fun s H C cl fp => pg _ (gd_blk gd), fun s H C cl fp => pt _ (gd_blk gd), fun s H C cl fp => pe _ (gd_blk gd), pl_set hit⟩, ?_⟩
  intro ow σ H0 ρ S0 Pr Q R0 ok
  simp only [evalE, E.pure, Bool.false_and] at ok
  show wi σ H0 _
  refine ew σ H0 ρ S0 Pr _ R0 ((ok.bindK (p := false)).mono fun ds e1 H1 S1 R1 F1 ok1 J L wl hth hL Dd hD => ?_)
  split at ok1
  · rename_i hbig
    generalize hvs : own.map (·.2) = vs at ok1 hsl ⊢
    obtain ⟨P', S', RL, l1, l2, l3, l4⟩ := SR.lock mw.src R1
    have R2 := RL.protect (L := L) fun a m => ⟨fun i n => by
      rcases hL a m with z | ⟨j, hj, z⟩ | z
      · exact RL.pt i a n (l1 a z)
      · exact (l4 j hj a z).2 i n
      · exact z i (l2 i a n), hth a m⟩
    obtain ⟨S3, R3, w1⟩ := R2.wipe vs
    have s31 : ∀ (i : Nat) (a : Addr), a ∈ S3 i → a ∈ S1 i := fun i a m => l2 i a (w1 i a m)
    generalize hP2 : P' ++ L = P2 at R3
    have pr2 : ∀ a ∈ Pr, a ∈ P2 := fun a m => by rw [← hP2]; exact List.mem_append_left _ (l1 a m)
    have L2' : ∀ a ∈ L, a ∈ P2 := fun a m => by rw [← hP2]; exact List.mem_append_right _ m
    have lk : ∀ i ∈ mw.src, ∀ a ∈ S1 i, a ∈ P2 := fun i hi a m => by rw [← hP2]; exact List.mem_append_left _ (l4 i hi a m).1
    have hDP : Dd ∉ P2 := fun m => (R3.pa Dd m).ne hD
    -- the run
    have ok2 : OkP K mg W false Pr σ H0 S0 (finE K ow [] Pr H0 S0 Q) ((lcGo (lcT T tg vs cn elt) ds (clear vs (lockAll mw.src e1))).bind fun ys e' => .ok (.lst ys) (settle e1 mw.src vs vs e')) := ok1
    rcases lcGo_nx (fun d e => lcT_nx) ds (clear vs (lockAll mw.src e1)) with ⟨ys, ef, hrun⟩ | hrun
    · rw [hrun] at ok2
      have stayL : ∀ {H : Hp} {S : Foot}, Fr false H1 S3 H S → Stay H1 H P2 := fun F => R3.stayP F
      refine ⟨fun i m H => m = ds.length - i ∧ LcI K P2 H1 S3 (wipe σ vs) (lcT T tg vs cn elt) ds ys ef Dd i H, ⟨ds.length, by simp, ?_⟩, ?_⟩
      · refine ⟨[], [], [], ys, _, S3, upd_same, .nil, List.nodup_nil, fun a m => absurd m List.not_mem_nil, R3.grow (grow_new hD), fun j m => (R3.mu j Dd m).there hD, Fr.ext (grow_new hD), by rw [List.drop_zero]; exact hrun, rfl, Nat.le_refl _, Nat.zero_le _⟩
      · rintro i m H ⟨rfl, acc, La, done, zs, e, S, hd, rd, nd, hLa, R, dS, F, hz, hys, hdl, hi⟩
        by_cases hlt : i < ds.length
        · refine .inr ⟨wl.go i H hlt ((stayL F).mono L2'), fun H' => LcI K P2 H1 S3 (wipe σ vs) (lcT T tg vs cn elt) ds ys ef Dd (i + 1) H', fun H' q => ⟨ds.length - (i + 1), by omega, rfl, q⟩, fun x H' yl => ?_⟩
          obtain ⟨ex, d, Rr, hdi, dx, hRr⟩ := wl.yld i H x H' hlt ((stayL F).mono L2') yl
          rw [drop_cons hdi] at hz
          obtain ⟨o, e2, zs', ht, hz', hzs⟩ := lcGo_cons hz
          obtain ⟨eb, k, ec, hbind, hcn, hcase⟩ := lcT_inv ht
          have RH := R.grow ex
          refine eg true d e eb x Rr _ H' S P2 _ hbind RH dx (fun a m => L2' a (hRr a m)) fun σ2 S2 Rb ob lb sb => ?_
          have s2 : ∀ (j : Nat) (a : Addr), a ∈ S2 j → a ∈ S j := fun j a m => by
            rcases sb j a m with z | z
            · exact z
            · exact absurd (L2' a (hRr a z)) (Rb.pt j a m)
          have hw : wipe σ2 vs = wipe σ vs := wipe_eq (by rw [lb, wipe_length]) fun j n => ob j fun z => n (by
            have := List.all_eq_true.mp hsl j z
            exact List.contains_iff_mem.mp this)
          refine ⟨hw, ?_⟩
          refine et σ2 H' eb S2 P2 _ Rb ?_
          rw [hcn]
          intro H3 S3' Rc Fc
          -- what stood ahead of the turn, seen from a later heap
          have later : ∀ {H4 : Hp} {S4 : Foot}, Fr false H' S2 H4 S4 → H4 Dd = some (.lst acc) ∧ DRs K H4 done acc La ∧ (∀ j, Dd ∉ S4 j) ∧ Fr false H1 S3 H4 S4 ∧ ∀ a ∈ La, a ≠ Dd ∧ MutAt H4 a ∧ (∀ j, a ∉ S4 j) ∧ a ∉ P2 ∧ ((∃ j, a ∈ S3 j) ∨ H1 a = none) := fun {H4 S4} G => by
            have no : ∀ a, (∀ j, a ∉ S j) → There H' a → ∀ j, a ∉ S4 j := fun a n th j m => by
              rcases G.own j a m with ⟨l, z⟩ | z
              · exact n l (s2 l a z)
              · exact th.ne z
            refine ⟨G.keep _ _ (ex _ _ hd) fun j m => dS j (s2 j _ m), (rd.stay (Stay.ext ex)).stay (Rb.stay G fun a m j n => (hLa a m).2.2.1 j (s2 j a n)), no Dd dS ⟨_, ex _ _ hd⟩, ?_, fun a m => ?_⟩
            · have F' : Fr false H1 S3 H' S2 := ⟨fun a o q n => ex a o (F.keep a o q n), fun j a m => F.own j a (s2 j a m), fun e => nomatch e⟩
              exact F'.trans' G
            · obtain ⟨h1, ⟨o, h2, h2'⟩, h3, h4, h5⟩ := hLa a m
              exact ⟨h1, ⟨o, G.keep a o (ex a o h2) fun j n => h3 j (s2 j a n), h2'⟩, no a h3 ⟨o, ex a o h2⟩, h4, h5⟩
          rcases hcase with ⟨rfl, yv, e3, hel, rfl, rfl⟩ | ⟨rfl, rfl, rfl⟩
          · simp only [if_true]
            refine ee true σ2 H3 ec S3' P2 _ Rc ?_
            rw [hel, Bool.not_true, Bool.and_false]
            intro H4 S4 Rd Fd v Ly dv rv
            have G := Fc.trans' Fd
            obtain ⟨g1, g2, g3, g4, g5⟩ := later G
            have rv' := rv.back Fc
            obtain ⟨n1, h1⟩ := rv'.mine rfl
            have hal : acc.length = done.length := g2.length.symm
            refine ⟨acc, g1, by rw [hal]; exact Nat.lt_of_lt_of_le (Nat.lt_of_le_of_lt hdl hlt) (Nat.le_trans hbig (by decide)), ?_⟩
            obtain ⟨S5, R5, w5⟩ := Rd.wipe vs
            rw [hw] at R5
            have up : ∀ a o, H4 a = some o → a ≠ Dd → (upd H4 Dd (.lst (acc ++ [v]))) a = some o := fun a o q n => by rw [upd_ne n]; exact q
            have stU : ∀ {M : List Addr}, (∀ a ∈ M, a ≠ Dd) → Stay H4 (upd H4 Dd (.lst (acc ++ [v]))) M := fun {M} hM a o q z => up a o q fun e => by
              subst e
              rcases z with z | z
              · rw [g1] at q; cases q; cases z
              · exact hM a z rfl
            have yD : ∀ a ∈ Ly, a ≠ Dd := fun a m e => by
              subst e
              rcases (h1 a m).2.2.1 with ⟨j, z⟩ | z
              · exact dS j (s2 j a z)
              · rw [ex _ _ hd] at z; cases z
            refine ⟨acc ++ [v], La ++ Ly, done ++ [yv], zs', _, S5, upd_same, (g2.stay (stU fun a m => (g5 a m).1)).snoc (dv.stay (stU yD)), ?_, fun a m => ?_, ?_, fun j m => g3 j (w5 j _ m), ?_, hz', ?_, ?_, hlt⟩
            · refine List.nodup_append.mpr ⟨nd, n1, fun a m b n e => ?_⟩
              subst e
              rcases (h1 a n).2.2.1 with ⟨j, z⟩ | z
              · exact (hLa a m).2.2.1 j (s2 j a z)
              · obtain ⟨o, q, _⟩ := (hLa a m).2.1
                rw [ex a o q] at z; cases z
            · rcases List.mem_append.mp m with m | m
              · obtain ⟨z1, ⟨o, q, z2⟩, z3, z4, z5⟩ := g5 a m
                exact ⟨z1, ⟨o, up a o q z1, z2⟩, fun j n => z3 j (w5 j a n), z4, z5⟩
              · obtain ⟨z1, z2, z3, ⟨o, q, z4⟩⟩ := h1 a m
                refine ⟨yD a m, ⟨o, up a o q (yD a m), z4⟩, fun j n => z1 j (w5 j a n), z2, ?_⟩
                rcases z3 with ⟨j, z⟩ | z
                · exact F.own j a (s2 j a z)
                · refine F.none_of ?_
                  cases q' : H a with
                  | none => rfl
                  | some o' => rw [ex a o' q'] at z; cases z
            · refine R5.framed (Sa := fun _ => [Dd]) (fun a o q n => up a o q fun e => n 0 (by rw [e]; exact List.mem_singleton.mpr rfl)) (fun _ a m j n => ?_) (fun _ a m => ?_) fun _ a m => ?_
              · rw [List.mem_singleton.mp m] at n; exact g3 j (w5 j _ n)
              · rw [List.mem_singleton.mp m]; exact hDP
              · rw [List.mem_singleton.mp m]; exact ⟨_, g1, rfl⟩
            · refine ⟨fun a o q n => up a o (g4.keep a o q n) fun e => ?_, fun j a m => g4.own j a (w5 j a m), fun e => nomatch e⟩
              rw [e, hD] at q; cases q
            · rw [← hys, hzs, List.append_assoc]; rfl
            · rw [List.length_append]; exact Nat.add_le_add_right hdl 1
          · simp only [Bool.false_eq_true, if_false]
            obtain ⟨g1, g2, g3, g4, g5⟩ := later Fc
            obtain ⟨S5, R5, w5⟩ := Rc.wipe vs
            rw [hw] at R5
            refine ⟨acc, La, done, zs', _, S5, g1, g2, nd, fun a m => ?_, R5, fun j m => g3 j (w5 j _ m), ⟨g4.keep, fun j a m => g4.own j a (w5 j a m), fun e => nomatch e⟩, hz', ?_, Nat.le_succ_of_le hdl, hlt⟩
            · obtain ⟨z1, z2, z3, z4, z5⟩ := g5 a m
              exact ⟨z1, z2, fun j n => z3 j (w5 j a n), z4, z5⟩
            · rw [← hys, hzs]
        · have hie : i = ds.length := by omega
          subst hie
          refine .inl ⟨wl.stop H ((stayL F).mono L2'), ?_⟩
          rw [List.drop_length] at hz
          cases hz
          rw [List.append_nil] at hys
          subst hys
          obtain ⟨S'', R'', o''⟩ := SR.settle (τ := σ) (src := mw.src) (asg := vs) (own := vs) R1 R (stayL F) pr2 lk rfl (wipe_length _ _) (fun _ _ => rfl) (fun j n => by rw [wipe_get]; simp only [n, if_false]) fun _ _ => rfl
          refine ok2 H S'' R'' ⟨fun a o q n => F.keep a o (F1.keep a o q n) fun j m => ?_, fun j a m => ?_, fun e => nomatch e⟩ (.ref Dd) (Dd :: La) (.lst hd rd) (Res.of ⟨List.nodup_cons.mpr ⟨fun m => (hLa Dd m).1 rfl, nd⟩, fun a m => ?_⟩)
          · rcases F1.own j a (s31 j a m) with ⟨l, z⟩ | z
            · exact n l z
            · rw [z] at q; cases q
          · rcases o'' j a m with z | z
            · refine F1.prov ((F.own j a z).imp (fun ⟨l, z⟩ => ⟨l, s31 l a z⟩) id)
            · exact F1.own j a z.1
          · rcases List.mem_cons.mp m with rfl | m
            · refine ⟨fun j n => ?_, fun n => hDP (pr2 a n), F1.prov (.inr hD), ⟨_, hd, rfl⟩⟩
              rcases o'' j a n with z | z
              · exact dS j z
              · exact hDP z.2
            · obtain ⟨z1, z2, z3, z4, z5⟩ := hLa a m
              refine ⟨fun j n => ?_, fun n => z4 (pr2 a n), F1.prov (z5.imp (fun ⟨l, z⟩ => ⟨l, s31 l a z⟩) id), z2⟩
              rcases o'' j a n with z | z
              · exact z3 j z
              · exact z4 z.2
    · rw [hrun] at ok2
      exact ok2.elim
  · exact ok1.elim
end
end Kh

set_option Elab.async false
set_option linter.all false
set_option maxRecDepth 100000
set_option maxHeartbeats 2000000
/-! all expressions of the text -/
namespace Kh
open PySem PySem.Spec PyProof.Rows L2
section
variable {T : Tab} {lv : Nat} {P : Program} {w : World} {K : PySem.W.Frag} {mg : Str → Option Value} {base : Heap}
theorem st_bad {c : Cs} {W : WX} {me : E} {x : Expr} (h : ∀ ρ, evalT T me ρ = .bad) : ST T lv P w K mg base c W me x :=
  ⟨fun _ _ _ => False, fun X g => ⟨PT.fls, fun _ => ⟨fun _ _ _ _ _ _ _ z => z.elim⟩⟩, fun σ H ρ S Pr Q R ok => by rw [h ρ] at ok; exact ok⟩
theorem ord_of {o : Cm} (h : (match o with | .lt => true | .le => true | .gt => true | .ge => true | _ => false) = true) : isOrd o = true := by
  cases o <;> first | rfl | exact h
theorem vt {c : Cs} {a : E} {x : Expr} (h : chkE c a x = true) (k : (match a with | .not _ => false | .cmp _ _ _ => false | .chain _ _ _ _ _ => false | .one _ => false | .and _ _ => false | .or _ _ => false | .ite _ _ _ => false | _ => true) = true) : valTest x = true := by
  unfold chkE at h
  split at h <;> first | rfl | (exact absurd h Bool.false_ne_true) | (exact absurd k Bool.false_ne_true)
theorem vb {c : Cs} {W : WX} {a : E} {x : Expr} (h : chkE c a x = true) (k : (match a with | .not _ => false | .cmp _ _ _ => false | .chain _ _ _ _ _ => false | .one _ => false | .and _ _ => false | .or _ _ => false | .ite _ _ _ => false | _ => true) = true)
    (hT : ∀ ρ, evalT T a ρ = (evalE T a false ρ).bind fun d e => asBool d e) (s : SE T lv P w K mg base c W a x) : SE T lv P w K mg base c W a x ∧ ST T lv P w K mg base c W a x := ⟨s, st_val (vt h k) hT s⟩
variable (G : Gl0 T lv P w K mg base)
include G
mutual
theorem e_ok : ∀ (a : E) (x : Expr) (c : Cs) (W : WX), chkE c a x = true → SE T lv P w K mg base c W a x ∧ ST T lv P w K mg base c W a x
  | .var i, x, c, W, h => by
    have hh := h
    have h0 := h
    unfold chkE at h
    split at h <;> first | (exact absurd h Bool.false_ne_true) | (rename_i e; cases e)
    exact vb hh rfl (fun ρ => by simp only [evalT]) (se_var h0)
  | .cst n, x, c, W, h => by
    cases x <;> first | exact vb h rfl (fun ρ => by simp only [evalT]) (se_cst h) | (cases n <;> exact absurd h Bool.false_ne_true)
  | .glob y, x, c, W, h => by
    have hh := h
    have h0 := h
    unfold chkE at h
    split at h <;> first | (exact absurd h Bool.false_ne_true) | (rename_i e; cases e)
    exact vb hh rfl (fun ρ => by simp only [evalT]) (se_glob G h0)
  | .tup es, x, c, W, h => by
    have hh := h
    unfold chkE at h
    split at h <;> first | (exact absurd h Bool.false_ne_true) | (rename_i e; cases e)
    simp only [Bool.and_eq_true, decide_eq_true_eq] at h
    exact vb hh rfl (fun ρ => by simp only [evalT]) (se_tup h.2 (es_ok _ _ c W h.1))
  | .lst es, x, c, W, h => by
    have hh := h
    unfold chkE at h
    split at h <;> first | (exact absurd h Bool.false_ne_true) | (rename_i e; cases e)
    simp only [Bool.and_eq_true, decide_eq_true_eq] at h
    exact vb hh rfl (fun ρ => by simp only [evalT]) (se_lst h.2 (es_ok _ _ c W h.1))
  | .dnew, x, c, W, h => by
    have hh := h
    unfold chkE at h
    split at h <;> first | (exact absurd h Bool.false_ne_true) | (rename_i e; cases e)
    exact vb hh rfl (fun ρ => by simp only [evalT]) (se_dnew)
  | .bin op a b, x, c, W, h => by
    have hh := h
    unfold chkE at h
    split at h <;> first | (exact absurd h Bool.false_ne_true) | (rename_i e; cases e)
    simp only [Bool.and_eq_true] at h
    exact vb hh rfl (fun ρ => by simp only [evalT]) (se_bin h.1.1 (e_ok _ _ c W h.1.2).1 (e_ok _ _ c W h.2).1)
  | .neg a, x, c, W, h => by
    have hh := h
    unfold chkE at h
    split at h <;> first | (exact absurd h Bool.false_ne_true) | (rename_i e; cases e)
    exact vb hh rfl (fun ρ => by simp only [evalT]) (se_neg (e_ok _ _ c W h).1)
  | .not a, x, c, W, h => by
    unfold chkE at h
    split at h <;> first | (exact absurd h Bool.false_ne_true) | (rename_i e; cases e)
    exact ⟨se_not (e_ok _ _ c W h).1, st_not (e_ok _ _ c W h).2⟩
  | .cmp op a b, x, c, W, h => by
    unfold chkE at h
    split at h <;> first | (exact absurd h Bool.false_ne_true) | (rename_i e; cases e)
    simp only [Bool.and_eq_true] at h
    exact se_cmp h.1.1 (chk_plain h.2) (e_ok _ _ c W h.1.2).1 (e_ok _ _ c W h.2).1
  | .chain o1 o2 a b d, x, c, W, h => by
    unfold chkE at h
    split at h <;> first | (exact absurd h Bool.false_ne_true) | (rename_i e; cases e)
    simp only [Bool.and_eq_true] at h
    exact se_chain h.1.1.1.1.1.1 h.1.1.1.1.1.2 (ord_of h.1.2) (ord_of h.2) (chk_plain h.1.1.2) (e_ok _ _ c W h.1.1.1.1.2).1 (e_ok _ _ c W h.1.1.1.2).1 (e_ok _ _ c W h.1.1.2).1
  | .one a, x, c, W, h => by
    unfold chkE at h
    split at h <;> first | (exact absurd h Bool.false_ne_true) | (rename_i e; cases e)
    exact ⟨se_one (e_ok _ _ c W h).1, st_one (e_ok _ _ c W h).2⟩
  | .and a b, x, c, W, h => by
    unfold chkE at h
    split at h <;> first | (exact absurd h Bool.false_ne_true) | (rename_i e; cases e)
    simp only [Bool.and_eq_true] at h
    exact ⟨se_and (e_ok _ _ c W h.1).1 (e_ok _ _ c W h.2).1, st_and (e_ok _ _ c W h.1).2 (e_ok _ _ c W h.2).2⟩
  | .or a b, x, c, W, h => by
    unfold chkE at h
    split at h <;> first | (exact absurd h Bool.false_ne_true) | (rename_i e; cases e)
    simp only [Bool.and_eq_true] at h
    exact ⟨se_or (e_ok _ _ c W h.1).1 (e_ok _ _ c W h.2).1, st_or (e_ok _ _ c W h.1).2 (e_ok _ _ c W h.2).2⟩
  | .ite a b d, x, c, W, h => by
    unfold chkE at h
    split at h <;> first | (exact absurd h Bool.false_ne_true) | (rename_i e; cases e)
    simp only [Bool.and_eq_true] at h
    exact ⟨se_ite (e_ok _ _ c W h.1.1).2 (e_ok _ _ c W h.1.2).1 (e_ok _ _ c W h.2).1, st_bad fun ρ => by simp only [evalT]⟩
  | .ix a b, x, c, W, h => by
    have hh := h
    unfold chkE at h
    split at h <;> first | (exact absurd h Bool.false_ne_true) | (rename_i e; cases e)
    simp only [Bool.and_eq_true] at h
    exact vb hh rfl (fun ρ => by simp only [evalT]) (se_ix (chk_plain h.2) (e_ok _ _ c W h.1).1 (e_ok _ _ c W h.2).1)
  | .sl a lo hi, x, c, W, h => by
    have hh := h
    unfold chkE at h
    split at h <;> first | (exact absurd h Bool.false_ne_true) | (rename_i e; cases e)
    simp only [Bool.and_eq_true] at h
    exact vb hh rfl (fun ρ => by simp only [evalT]) (se_sl (e_ok _ _ c W h.1.1).1 (o_ok _ _ c W h.1.2) (o_ok _ _ c W h.2))
  | .rev a, x, c, W, h => vb h rfl (fun ρ => by simp only [evalT]) (se_bad fun own ρ => by simp only [evalE])
  | .call f es, x, c, W, h => by
    have hh := h
    unfold chkE at h
    split at h <;> first | (exact absurd h Bool.false_ne_true) | (rename_i e; cases e)
    simp only [Bool.and_eq_true, decide_eq_true_eq] at h
    obtain ⟨⟨⟨⟨h1, h2⟩, h3⟩, h4⟩, h5⟩ := h
    rename_i g gp xs pos
    have se := es_ok _ _ c W h4
    cases xs with
    | nil => have := chkEs_len h4; simp at this; omega
    | cons y ys => exact vb hh rfl (fun ρ => by simp only [evalT]) (se_call G (eq_of_beq h1) h2 h3 h4 se)
  | .bi f .nil, x, c, W, h => vb h rfl (fun ρ => by simp only [evalT]) (se_bad fun own ρ => by simp only [evalE])
  | .bi f (.cons a (.cons b (.cons d es))), x, c, W, h => vb h rfl (fun ρ => by simp only [evalT]) (se_bad fun own ρ => by simp only [evalE])
  | .bi f (.cons a .nil), x, c, W, h => by
    have hh := h
    unfold chkE at h
    split at h <;> first | (exact absurd h Bool.false_ne_true) | (rename_i e; cases e)
    simp only [Bool.and_eq_true, decide_eq_true_eq] at h
    obtain ⟨⟨⟨⟨h1, h2⟩, h3⟩, h4⟩, h5⟩ := h
    have hb : f.blt = true := by cases f <;> first | rfl | exact h5
    rename_i g gp xs pos
    match xs, h3 with
    | [y], h3 =>
      simp only [chkEs, Bool.and_eq_true] at h3
      exact vb hh rfl (fun ρ => by simp only [evalT]) (se_bi1 G hb (eq_of_beq h1) h2 (chk_plain h3.1) (e_ok a y c W h3.1).1)
    | [], h3 => simp [chkEs] at h3
    | _ :: _ :: _, h3 => simp [chkEs] at h3
  | .bi f (.cons a (.cons b .nil)), x, c, W, h => by
    have hh := h
    unfold chkE at h
    split at h <;> first | (exact absurd h Bool.false_ne_true) | (rename_i e; cases e)
    simp only [Bool.and_eq_true, decide_eq_true_eq] at h
    obtain ⟨⟨⟨⟨h1, h2⟩, h3⟩, h4⟩, h5⟩ := h
    have hb : f.blt = true := by cases f <;> first | rfl | exact h5
    rename_i g gp xs pos
    match xs, h3 with
    | [y, z], h3 =>
      simp only [chkEs, Bool.and_eq_true] at h3
      exact vb hh rfl (fun ρ => by simp only [evalT]) (se_bi2 G hb (eq_of_beq h1) h2 (chk_plain h3.1) (chk_plain h3.2.1) (e_ok a y c W h3.1).1 (e_ok b z c W h3.2.1).1)
    | [], h3 => simp [chkEs] at h3
    | [_], h3 => simp [chkEs] at h3
    | _ :: _ :: _ :: _, h3 => simp [chkEs] at h3
  | .me m r es, x, c, W, h => by
    have hh := h
    unfold chkE at h
    split at h <;> first | (exact absurd h Bool.false_ne_true) | (rename_i e; cases e)
    simp only [Bool.and_eq_true, decide_eq_true_eq] at h
    obtain ⟨⟨⟨⟨⟨h1, h2⟩, h3⟩, h4⟩, h5⟩, h6⟩ := h
    rename_i o at' apos xs pos
    cases m <;> first | (exact absurd h5 Bool.false_ne_true) | skip
    cases eq_of_beq h1
    match es, xs, h6, h3 with
    | .cons a (.cons b .nil), [y, z], _, h3 =>
      simp only [chkEs, Bool.and_eq_true] at h3
      exact vb hh rfl (fun ρ => by simp only [evalT]) (se_get (chk_plain h2) (chk_plain h3.1) (chk_plain h3.2.1) h4 (e_ok r o c W h2).1 (e_ok a y c W h3.1).1 (e_ok b z c W h3.2.1).1)
    | .cons a (.cons b .nil), [], _, h3 => simp [chkEs] at h3
    | .cons a (.cons b .nil), [_], _, h3 => simp [chkEs] at h3
    | .cons a (.cons b .nil), _ :: _ :: _ :: _, _, h3 => simp [chkEs] at h3
    | .nil, _, h6, _ => simp [Es.len] at h6
    | .cons _ .nil, _, h6, _ => simp [Es.len] at h6
    | .cons _ (.cons _ (.cons _ _)), _, h6, _ => simp [Es.len] at h6
  | .mut m i es, x, c, W, h => by
    have hh := h
    unfold chkE at h
    split at h <;> first | (exact absurd h Bool.false_ne_true) | (rename_i e; cases e)
    simp only [Bool.and_eq_true, decide_eq_true_eq] at h
    obtain ⟨⟨⟨⟨⟨⟨h1, h2⟩, h3⟩, h4⟩, h5⟩, h6⟩, h7⟩ := h
    cases eq_of_beq h1
    exact vb hh rfl (fun ρ => by simp only [evalT]) (se_mut (by simp only [chkE, Bool.and_eq_true, decide_eq_true_eq]; exact ⟨⟨h2, h3⟩, h4⟩) h5 h6 h7 (es_ok _ _ c W h5))
  | .lc wk tg own cn elt, x, c, W, h => by
    have hh := h
    unfold chkE at h
    split at h <;> first | (exact absurd h Bool.false_ne_true) | (rename_i e; cases e)
    simp only [Bool.and_eq_true] at h
    obtain ⟨⟨⟨⟨⟨h1, h2⟩, h3⟩, h4⟩, h5⟩, h6⟩ := h
    rename_i y t it ifs scope pos
    obtain ⟨hp, sw⟩ := w_ok _ _ c W h2
    obtain ⟨wi, g, tt, te, hX, sp⟩ := se_lc h1 hp h6 sw (sg_ok _ _ h3) (c_ok _ _ _ W0 h4) (e_ok _ _ _ W0 h5).1
    exact vb hh rfl (fun ρ => by simp only [evalT]) ⟨_, fun X gd => have ⟨a1, a2, a3, a4, a5, a6⟩ := hX X gd; pe_lc gd.calm (by rw [gd.N]; exact gd.nd) (a1 _) a2 a3 a4 a5 a6, sp⟩
theorem es_ok : ∀ (a : Es) (x : List Expr) (c : Cs) (W : WX), chkEs c a x = true → SEs T lv P w K mg base c W a x
  | .nil, [], c, W, h => ses_nil
  | .nil, _ :: _, c, W, h => by simp [chkEs] at h
  | .cons _ _, [], c, W, h => by simp [chkEs] at h
  | .cons e r, x :: xs, c, W, h => by
    simp only [chkEs, Bool.and_eq_true] at h
    refine ses_cons (chk_plain h.1) (e_ok e x c W h.1).1 (fun i q => ?_) (es_ok r xs c W h.2)
    subst q
    have h0 := h.1
    have h1 := h.1
    unfold chkE at h1
    split at h1 <;> first | (exact absurd h1 Bool.false_ne_true) | (rename_i e; cases e)
    exact se_var' h0
theorem o_ok : ∀ (a : Eo) (x : Option Expr) (c : Cs) (W : WX), chkO c a x = true → SO T lv P w K mg base c W a x
  | .no, none, c, W, h => so_no
  | .no, some _, c, W, h => by simp [chkO] at h
  | .so _, none, c, W, h => by simp [chkO] at h
  | .so e, some x, c, W, h => so_some (e_ok e x c W (by simpa only [chkO] using h)).1
theorem c_ok : ∀ (a : Eo) (x : List Expr) (c : Cs) (W : WX), chkC c a x = true → SC T lv P w K mg base c W a x
  | .no, [], c, W, h => sc_no
  | .no, _ :: _, c, W, h => by simp [chkC] at h
  | .so _, [], c, W, h => by simp [chkC] at h
  | .so _, _ :: _ :: _, c, W, h => by simp [chkC] at h
  | .so e, [x], c, W, h => sc_so (e_ok e x c W (by simpa only [chkC] using h)).2
theorem w_ok : ∀ (a : Wk) (x : Expr) (c : Cs) (W : WX), chkW c a x = true → plainX x = true ∧ SW T lv P w K mg base c W a x
  | .it e, x, c, W, h => by
    have h : chkE c e x = true := by simpa only [chkW] using h
    exact ⟨chk_plain h, sw_it (e_ok e x c W h).1⟩
  | .rev e, x, c, W, h => by
    unfold chkW at h
    split at h <;> first | (exact absurd h Bool.false_ne_true) | (rename_i e; cases e)
    simp only [Bool.and_eq_true] at h
    exact ⟨rfl, sw_rev G (eq_of_beq h.1.1) h.1.2 (chk_plain h.2) (e_ok _ _ c W h.2).1⟩
  | .range es, x, c, W, h => by
    unfold chkW at h
    split at h <;> first | (exact absurd h Bool.false_ne_true) | (rename_i e; cases e)
    simp only [Bool.and_eq_true, decide_eq_true_eq] at h
    rename_i g gp xs pos
    refine ⟨?_, sw_range G (eq_of_beq h.1.1.1) h.1.1.2 h.1.2 (es_ok _ _ c W h.1.2)⟩
    cases xs with
    | nil => have := chkEs_len h.1.2; have := h.2; simp at *; omega
    | cons y ys => rfl
  | .enum e, x, c, W, h => absurd h (by simp [chkW])
  | .zip a b, x, c, W, h => absurd h (by simp [chkW])
  | .items a, x, c, W, h => absurd h (by simp [chkW])
end
end
end Kh

set_option Elab.async false
set_option linter.all false
set_option maxRecDepth 100000
set_option maxHeartbeats 2000000
/-! statements: what they do by values -/
namespace Kh
open PySem PySem.Spec PyProof.Rows L2

/-! ### statements -/
inductive Fl where | nx | rt (d : D) | bk | ct
def stepClear (dead : List Nat) : Out Fl → Out Fl
  | .ok (.rt d) e => .ok (.rt d) e
  | .ok f e => .ok f (clear dead e)
  | o => o
def forGo (turn : D → En → Out Fl) : List D → En → Out Fl
  | [], e => .ok .nx e
  | d :: ds, e => match turn d e with
    | .ok .nx e => forGo turn ds e
    | .ok .ct e => forGo turn ds e
    | .ok .bk e => .ok .nx e
    | .ok (.rt d) e => .ok (.rt d) e
    | .exc c x y e => .exc c x y e
    | .bad => .bad
def whileN (test : En → Out Bool) (body : En → Out Fl) : Nat → En → Out Fl
  | 0, _ => .bad
  | n + 1, e => match test e with
    | .ok true e => (match body e with
      | .ok .nx e => whileN test body n e
      | .ok .ct e => whileN test body n e
      | .ok .bk e => .ok .nx e
      | .ok (.rt d) e => .ok (.rt d) e
      | .exc c x y e => .exc c x y e
      | .bad => .bad)
    | .ok false e => .ok .nx e
    | .exc c x y e => .exc c x y e
    | .bad => .bad
open Classical in
noncomputable def whileGo (test : En → Out Bool) (body : En → Out Fl) (e : En) : Out Fl :=
  if h : ∃ n, whileN test body n e ≠ .bad then whileN test body (choose h) e else .bad
def settleF (was : En) (src asg : List Nat) : Out Fl → Out Fl
  | .ok f e => .ok f (settle was src asg [] e)
  | .exc c x y e => .exc c x y (settle was src asg [] e)
  | .bad => .bad
mutual
def S.stores : S → List Nat
  | .setv i _ => [i]
  | .asg t _ => t.slots
  | .par i j _ _ => [i, j]
  | .ifs _ a b => a.stores ++ b.stores
  | .fors _ t _ b => t.slots ++ b.stores
  | .whiles _ _ b => b.stores
  | .tryx a _ (some v) b => v :: (a.stores ++ b.stores)
  | .tryx a _ none b => a.stores ++ b.stores
  | _ => []
def Ss.stores : Ss → List Nat
  | .nil => []
  | .cons s r => s.stores ++ r.stores
end
section
variable (T : Tab)
mutual
noncomputable def exec : S → En → Out Fl
  | .setv i a, e => (evalE T a true e).bind fun d e => if i < e.length then .ok .nx (e.set i (.own d)) else .bad
  | .asg t a, e => (evalE T a true e).bind fun d e => (lift (bindT t d false e) e).bind fun e' _ => .ok .nx e'
  | .par i j a b, e => (evalEs T (.cons a (.cons b .nil)) e).bind fun ds e => (match ds with
    | [x, y] => if i < e.length ∧ j < e.length then .ok .nx ((e.set i (.own x)).set j (.own y)) else .bad
    | _ => .bad)
  | .ret a, e => (evalE T a true e).bind fun d e => .ok (.rt d) e
  | .retN, e => .ok (.rt (.im .non)) e
  | .expr a, e => (evalE T a false e).bind fun _ e => .ok .nx e
  | .doc, e => .ok .nx e
  | .pass, e => .ok .nx e
  | .brk, e => .ok .bk e
  | .cont, e => .ok .ct e
  | .ifs c a b, e => (evalT T c e).bind fun k e => if k then execs a e else execs b e
  | .fors w t dead body, e => (evalW T w e).bind fun xs e =>
      settleF e w.src (t.slots ++ body.stores) (forGo (fun d e => match bindT t d true e with
        | some e1 => stepClear dead (execs body e1)
        | none => .bad) xs (clear dead (lockAll w.src e)))
  | .whiles c dead body, e => whileGo (evalT T c) (fun e => stepClear dead (execs body e)) e
  | .raise c es, e => (evalEs T es e).bind fun ds e => (match ds with
    | [.im x] => .exc c x (.int 0) e
    | [.im x, .im y] => .exc c x y e
    | _ => .bad)
  | .tryx _ _ _ _, _ => .bad
  | .setix i path a, e => (evalE T a true e).bind fun v e => (match path with
    | .cons p .nil => (match e[i]? with
      | some (.own (.im _)) => .bad
      | some (.own _) => (evalE T p false e).bind fun k e => (match e[i]? with
        | some (.own d) => (match setD d k v with
          | some d' => .ok .nx (e.set i (.own d'))
          | none => .bad)
        | _ => .bad)
      | _ => .bad)
    | _ => .bad)
noncomputable def execs : Ss → En → Out Fl
  | .nil, e => .ok .nx e
  | .cons s r, e => match exec s e with
    | .ok .nx e => execs r e
    | o => o
end
/-- a def of the text: its parameters, its places, its body -/
structure Fd where
  ps : Nat
  n : Nat
  body : Ss
noncomputable def Fd.sem (d : Fd) : Fn := fun as =>
  if as.length = d.ps then (match execs T d.body (as ++ List.replicate (d.n - d.ps) .no) with
    | .ok (.rt v) e => .ok v ((clear d.body.stores e).take d.ps)
    | .ok .nx e => .ok (.im .non) ((clear d.body.stores e).take d.ps)
    | .ok _ _ => .bad
    | .exc c x y _ => .exc c x y []
    | .bad => .bad) else .bad
end
end Kh

set_option Elab.async false
set_option linter.all false
set_option maxRecDepth 100000
set_option maxHeartbeats 2000000
/-! statements: soundness -/
namespace Kh
open PySem PySem.Spec PyProof.Rows L2

def Off (st : List Nat) (σ σ' : L2.St) : Prop := σ'.length = σ.length ∧ ∀ i : Nat, i ∉ st → σ'[i]? = σ[i]?
theorem Off.refl {st : List Nat} {σ : L2.St} : Off st σ σ := ⟨rfl, fun _ _ => rfl⟩
theorem Off.trans {st : List Nat} {σ σ' σ'' : L2.St} (a : Off st σ σ') (b : Off st σ' σ'') : Off st σ σ'' := ⟨b.1.trans a.1, fun i n => (b.2 i n).trans (a.2 i n)⟩
theorem Off.mono {st st' : List Nat} {σ σ' : L2.St} (h : Off st σ σ') (s : ∀ i ∈ st, i ∈ st') : Off st' σ σ' := ⟨h.1, fun i n => h.2 i fun m => n (s i m)⟩
theorem Off.set {st : List Nat} {σ : L2.St} {i : Nat} {w : Option V} (h : i ∈ st) : Off st σ (σ.set i w) := ⟨List.length_set, fun j n => List.getElem?_set_ne fun e => n (by rw [← e]; exact h)⟩
section
variable (K : PySem.W.Frag) (mg : Str → Option Value)
def FlP (Pr : List Addr) (H : Hp) (S : Foot) (D : Ends) (σ' : L2.St) (H' : Hp) (S' : Foot) : Fl → Prop
  | .nx => D.nx σ' H'
  | .bk => D.bk σ' H'
  | .ct => D.ct σ' H'
  | .rt d => ∀ v L, DR K H' d v L → Res true [] Pr H S H' S' L → D.rt v H'
def OkS (W : WX) (st : List Nat) (Pr : List Addr) (σ : L2.St) (H : Hp) (S : Foot) (D : Ends) : Out Fl → Prop
  | .ok f e => ∀ σ' H' S', SR K Pr H' σ' e S' → Fr false H S H' S' → Off st σ σ' → FlP K Pr H S D σ' H' S' f
  | .exc c x y e => ∀ C dd σ' H' S', mg c = some (.ref C) → SR K Pr H' σ' e S' → Fr false H S H' S' → Off st σ σ' → ExcAt K H' dd x y → W (.ref C) (some dd) σ' H'
  | .bad => False
end
section
variable {K : PySem.W.Frag} {mg : Str → Option Value} {W : WX} {st st' : List Nat} {Pr : List Addr} {σ σ1 : L2.St} {H H1 : Hp} {S S1 : Foot} {D D' : Ends} {p : Bool}
theorem FlP.back {σ' : L2.St} {H' : Hp} {S' : Foot} {f : Fl} (F : Fr p H S H1 S1) (h : FlP K Pr H S D σ' H' S' f) : FlP K Pr H1 S1 D σ' H' S' f := by
  cases f with
  | rt d => exact fun v L dr rs => h v L dr (rs.back F)
  | _ => exact h
theorem OkS.shift {o : Out Fl} (h : OkS K mg W st Pr σ H S D o) (F : Fr p H S H1 S1) (O : Off st σ σ1) : OkS K mg W st Pr σ1 H1 S1 D o := by
  cases o with
  | bad => exact h
  | ok f e => exact fun σ' H' S' R F' O' => (h σ' H' S' R (F.trans' F') (O.trans O')).back F
  | exc c x y e => exact fun C dd σ' H' S' m R F' O' x => h C dd σ' H' S' m R (F.trans' F') (O.trans O') x
theorem OkS.sub {o : Out Fl} (h : OkS K mg W st' Pr σ H S D o) (s : ∀ i ∈ st, i ∈ st') : OkS K mg W st Pr σ H S D o := by
  cases o with
  | bad => exact h
  | ok f e => exact fun σ' H' S' R F' O' => h σ' H' S' R F' (O'.mono s)
  | exc c x y e => exact fun C dd σ' H' S' m R F' O' x => h C dd σ' H' S' m R F' (O'.mono s) x
theorem OkS.bind {β : Type} {o : Out β} {f : β → En → Out Fl} (h : OkS K mg W st Pr σ H S D (o.bind f)) : OkP K mg W p Pr σ H S (fun b e H1 S1 => OkS K mg W st Pr σ H1 S1 D (f b e)) o := by
  cases o with
  | bad => exact h
  | exc c x y e => exact fun C dd H' S' m R F x => h C dd σ H' S' m R F .refl x
  | ok b e => exact fun H1 S1 R F => h.shift F .refl
theorem OkS.bindK {β : Type} {o : Out β} {f : β → En → Out Fl} (h : OkS K mg W st Pr σ H S D (o.bind f)) : OkP K mg W p Pr σ H S (fun b e _ _ => OkS K mg W st Pr σ H S D (f b e)) o := by
  cases o with
  | bad => exact h
  | exc c x y e => exact fun C dd H' S' m R F x => h C dd σ H' S' m R F .refl x
  | ok b e => exact fun H1 S1 R F => h

end
structure Gs (lv : Nat) (c : Cs) (W : WX) (P : Program) (w : World) (K : PySem.W.Frag) (mg : Str → Option Value) (base : Heap) (X : Cx) : Prop where
  gd : Gd lv c W P w K mg base X
  po : PassesOwn (model X.prog X.w) X.A X.env X.xe
  kd : X.env.scope.kind = .function
section
variable (T : Tab) (lv : Nat) (P : Program) (w : World) (K : PySem.W.Frag) (mg : Str → Option Value) (base : Heap)
def SpS (W : WX) (s : S) (t : TS) : Prop := ∀ σ H ρ S Pr D, SR K Pr H σ ρ S → OkS K mg W s.stores Pr σ H S D (exec T s ρ) → t D σ H
def SpSs (W : WX) (s : Ss) (t : TS) : Prop := ∀ σ H ρ S Pr D, SR K Pr H σ ρ S → OkS K mg W s.stores Pr σ H S D (execs T s ρ) → t D σ H
def SS (c : Cs) (W : WX) (s : S) (x : Stmt) : Prop := ∃ t : TS, (∀ X, Gs lv c W P w K mg base X → PS X x t) ∧ SpS T K mg W s t
def SSs (c : Cs) (W : WX) (s : Ss) (x : List Stmt) : Prop := ∃ t : TS, (∀ X, Gs lv c W P w K mg base X → PSs X x t) ∧ SpSs T K mg W s t
end
section
variable {T : Tab} {lv : Nat} {P : Program} {w : World} {K : PySem.W.Frag} {mg : Str → Option Value} {base : Heap} {c : Cs} {W : WX}
variable {st : List Nat} {σ : L2.St} {H : Hp} {ρ : En} {Sv : Foot} {Pr : List Addr} {Dv : Ends}

theorem useS_O {a : E} {ta : TE} {Q : VK} {f : D → En → Out Fl} (ea : SpE T K mg W a ta) (R : SR K Pr H σ ρ Sv) (ok : OkS K mg W st Pr σ H Sv Dv ((evalE T a true ρ).bind f))
    (k : ∀ d e1 H1 S1 v L, SR K Pr H1 σ e1 S1 → Fr false H Sv H1 S1 → DR K H1 d v L → Res true a.src Pr H Sv H1 S1 L → OkS K mg W st Pr σ H Sv Dv (f d e1) → Q v H1) : ta σ H Q := by
  refine ea true σ H ρ Sv Pr Q R ?_
  rw [Bool.not_true, Bool.and_false]
  exact ok.bindK.mono fun d e1 H1 S1 R1 F1 h v L dr rs => k d e1 H1 S1 v L R1 F1 dr rs h
theorem useS_E {a : E} {ta : TE} {Q : VK} {f : D → En → Out Fl} (ea : SpE T K mg W a ta) (R : SR K Pr H σ ρ Sv) (ok : OkS K mg W st Pr σ H Sv Dv ((evalE T a false ρ).bind f))
    (k : ∀ d e1 H1 S1 v L, SR K Pr H1 σ e1 S1 → Fr a.pure H Sv H1 S1 → DR K H1 d v L → Res false a.src Pr H Sv H1 S1 L → OkS K mg W st Pr σ H Sv Dv (f d e1) → Q v H1) : ta σ H Q := by
  refine ea false σ H ρ Sv Pr Q R ?_
  rw [Bool.not_false, Bool.and_true]
  exact ok.bindK.mono fun d e1 H1 S1 R1 F1 h v L dr rs => k d e1 H1 S1 v L R1 F1 dr rs h
theorem useS_T {a : E} {ta : TT} {Q : Bool → Hp → Prop} {f : Bool → En → Out Fl} (ea : SpT T K mg W a ta) (R : SR K Pr H σ ρ Sv) (ok : OkS K mg W st Pr σ H Sv Dv ((evalT T a ρ).bind f))
    (k : ∀ d e1 H1 S1, SR K Pr H1 σ e1 S1 → Fr a.pure H Sv H1 S1 → OkS K mg W st Pr σ H Sv Dv (f d e1) → Q d H1) : ta σ H Q :=
  ea σ H ρ Sv Pr Q R (ok.bindK.mono fun d e1 H1 S1 R1 F1 h => k d e1 H1 S1 R1 F1 h)

/-! ### blocks -/
theorem ss_nil : SSs T lv P w K mg base c W .nil [] := ⟨tNext, fun X g => pss_nil, fun σ H ρ S Pr D R ok => by
  simp only [execs] at ok
  exact ok σ H S R Fr.refl .refl⟩
theorem ss_cons {s : S} {r : Ss} {x : Stmt} {xs : List Stmt} (h1 : SS T lv P w K mg base c W s x) (h2 : SSs T lv P w K mg base c W r xs) : SSs T lv P w K mg base c W (.cons s r) (x :: xs) := by
  obtain ⟨t, pt, et⟩ := h1
  obtain ⟨u, pu, eu⟩ := h2
  refine ⟨tSeq t u, fun X g => pss_cons (pt X g) (pu X g), fun σ H ρ S Pr D R ok => ?_⟩
  simp only [execs, Ss.stores] at ok
  refine et σ H ρ S Pr _ R ?_
  have s1 : ∀ i ∈ s.stores, i ∈ s.stores ++ r.stores := fun i m => List.mem_append_left _ m
  have s2 : ∀ i ∈ r.stores, i ∈ s.stores ++ r.stores := fun i m => List.mem_append_right _ m
  cases e : exec T s ρ with
  | bad => rw [e] at ok; exact ok
  | exc c x y e' => rw [e] at ok; exact ok.sub s1
  | ok f e' =>
    rw [e] at ok
    cases f with
    | nx => exact fun σ' H' S' R' F' O' => eu σ' H' e' S' Pr D R' ((ok.shift F' (O'.mono s1)).sub s2)
    | rt d => exact fun σ' H' S' R' F' O' => (ok σ' H' S' R' F' (O'.mono s1) : FlP K Pr H S D σ' H' S' (.rt d))
    | bk => exact fun σ' H' S' R' F' O' => (ok σ' H' S' R' F' (O'.mono s1) : FlP K Pr H S D σ' H' S' .bk)
    | ct => exact fun σ' H' S' R' F' O' => (ok σ' H' S' R' F' (O'.mono s1) : FlP K Pr H S D σ' H' S' .ct)

/-! ### small statements -/
theorem ss_pass {pos : Pos} : SS T lv P w K mg base c W .pass (.Pass pos) := ⟨tNext, fun X g => ps_pass, fun σ H ρ S Pr D R ok => by
  simp only [exec] at ok
  exact ok σ H S R Fr.refl .refl⟩
theorem ss_brk {pos : Pos} : SS T lv P w K mg base c W .brk (.Break pos) := ⟨tBreak, fun X g => ps_break, fun σ H ρ S Pr D R ok => by
  simp only [exec] at ok
  exact ok σ H S R Fr.refl .refl⟩
theorem ss_cont {pos : Pos} : SS T lv P w K mg base c W .cont (.Continue pos) := ⟨tCont, fun X g => ps_continue, fun σ H ρ S Pr D R ok => by
  simp only [exec] at ok
  exact ok σ H S R Fr.refl .refl⟩
theorem ss_doc {x : Str} {j : Nat} {p pos : Pos} : SS T lv P w K mg base c W .doc (.Expr (.Constant (.str x) j p) pos) := ⟨tNext, fun X g => ps_doc, fun σ H ρ S Pr D R ok => by
  simp only [exec] at ok
  exact ok σ H S R Fr.refl .refl⟩
theorem ss_expr {a : E} {x : Expr} {pos : Pos} (hx : plainX x = true) (hl : isLC x = false) (sa : SE T lv P w K mg base c W a x) : SS T lv P w K mg base c W (.expr a) (.Expr x pos) := by
  obtain ⟨ta, pa, ea⟩ := sa
  refine ⟨tDrop ta, fun X g => ps_expr (pa X g.gd) (pl_swap hx hl), fun σ H ρ S Pr D R ok => ?_⟩
  simp only [exec] at ok
  show ta σ H _
  exact useS_E ea R ok fun d e1 H1 S1 v L R1 F1 d1 r1 ok1 => ok1 σ H1 S1 R1 F1.weak .refl
theorem ss_ret {a : E} {x : Expr} {pos : Pos} (sa : SE T lv P w K mg base c W a x) : SS T lv P w K mg base c W (.ret a) (.Return (some x) pos) := by
  obtain ⟨ta, pa, ea⟩ := sa
  refine ⟨tRet ta, fun X g => ps_ret (pa X g.gd), fun σ H ρ S Pr D R ok => ?_⟩
  simp only [exec] at ok
  show ta σ H _
  exact useS_O ea R ok fun d e1 H1 S1 v L R1 F1 d1 r1 ok1 => ok1 σ H1 S1 R1 F1 .refl v L d1 ⟨fun a m => .inr (.inr ((r1.mine rfl).2 a m).1), r1.mine⟩
theorem ss_retN {pos : Pos} : SS T lv P w K mg base c W .retN (.Return none pos) := ⟨tRetN, fun X g => ps_retN, fun σ H ρ S Pr D R ok => by
  simp only [exec] at ok
  exact ok σ H S R Fr.refl .refl .non [] (.im .non) Res.nil⟩
theorem ss_ifs {a : E} {p q : Ss} {x : Expr} {xs ys : List Stmt} {pos : Pos} (sa : ST T lv P w K mg base c W a x) (sp : SSs T lv P w K mg base c W p xs) (sq : SSs T lv P w K mg base c W q ys) : SS T lv P w K mg base c W (.ifs a p q) (.If x xs ys pos) := by
  obtain ⟨ta, pa, ea⟩ := sa
  obtain ⟨t, pt, et⟩ := sp
  obtain ⟨u, pu, eu⟩ := sq
  refine ⟨tIfS ta t u, fun X g => ps_if (pa X g.gd).1 (pt X g) (pu X g), fun σ H ρ S Pr D R ok => ?_⟩
  simp only [exec, Kh.S.stores] at ok
  show ta σ H _
  refine useS_T ea R ok fun k e1 H1 S1 R1 F1 ok1 => ?_
  cases k with
  | true =>
    simp only [if_true] at ok1 ⊢
    exact et σ H1 e1 S1 Pr D R1 ((ok1.shift F1 .refl).sub fun i m => List.mem_append_left _ m)
  | false =>
    simp only [Bool.false_eq_true, if_false] at ok1 ⊢
    exact eu σ H1 e1 S1 Pr D R1 ((ok1.shift F1 .refl).sub fun i m => List.mem_append_right _ m)

/-! ### storing -/
theorem Fr.putS {p : Bool} {H0 : Hp} {S0 : Foot} {i : Nat} {L : List Addr} (F : Fr p H0 S0 H Sv) (hL : ∀ b ∈ L, (∃ j, b ∈ S0 j) ∨ H0 b = none) : Fr false H0 S0 H (Sv.set i L) := ⟨F.keep, fun j b m => by
  by_cases h : j = i
  · subst h; rw [Foot.set_same] at m; exact hL b m
  · rw [Foot.set_ne h] at m; exact F.own j b m, fun e => nomatch e⟩
theorem ss_setv' {i : Nat} {a : E} {x : Stmt} {ta : TE} (pa : ∀ X, Gs lv c W P w K mg base X → PS X x (tAsg ta (gName i))) (ea : SpE T K mg W a ta) : SS T lv P w K mg base c W (.setv i a) x := by
  refine ⟨tAsg ta (gName i), pa, fun σ H ρ S Pr D R ok => ?_⟩
  simp only [exec, Kh.S.stores] at ok
  show ta σ H _
  refine useS_O ea R ok fun d e1 H1 S1 v L R1 F1 d1 r1 ok1 => ?_
  split at ok1
  · rename_i hi
    obtain ⟨n1, h1⟩ := r1.mine rfl
    exact ok1 _ H1 _ (R1.put hi (fun a o q _ => q) d1 n1 fun a m => ⟨(h1 a m).2.2.2, fun j _ => (h1 a m).1 j, (h1 a m).2.1⟩) (F1.putS fun b m => (h1 b m).2.2.1) (Off.set (List.mem_singleton.mpr rfl))
  · exact ok1.elim
theorem ss_setv {i : Nat} {a : E} {y : Str} {py pos : Pos} {x : Expr} (hi : c.N[i]? = some y) (hy : c.loc y = true) (hx : plainX x = true) (hl : isLC x = false) (sa : SE T lv P w K mg base c W a x) : SS T lv P w K mg base c W (.setv i a) (.Assign [.Name y py] x pos) := by
  obtain ⟨ta, pa, ea⟩ := sa
  refine ss_setv' (fun X g => ?_) ea
  obtain ⟨h1, h2⟩ := g.gd.fnl y hy
  exact ps_set (by rw [g.gd.N]; exact g.gd.nd) (by rw [g.gd.N]; exact hi) (by rw [g.gd.sc]; exact h1) (pa X g.gd) (pl_swap hx hl) (by rw [g.gd.sc]; exact h2)
theorem ss_asg {t : Tg} {a : E} {y x : Expr} {ts : List Expr} {k : Nat} {p pos : Pos} (ht : y = .Tuple ts k p) (hx : plainX x = true) (hl : isLC x = false) (hp : (match x with | .Tuple _ _ _ => false | _ => true) = true) (sg : SG lv P w K mg base c W t y) (sa : SE T lv P w K mg base c W a x) :
    SS T lv P w K mg base c W (.asg t a) (.Assign [y] x pos) := by
  subst ht
  obtain ⟨ta, pa, ea⟩ := sa
  obtain ⟨g, pg, eg⟩ := sg
  refine ⟨tAsg ta g, fun X gs => ps_asg (pa X gs.gd) (pg X gs.gd) (by unfold swapsWithSole; exact pl_swap hx hl) (by cases x <;> first | rfl | (exact absurd hp Bool.false_ne_true)), fun σ H ρ S Pr D R ok => ?_⟩
  simp only [exec, Kh.S.stores] at ok
  show ta σ H _
  refine useS_O ea R ok fun d e1 H1 S1 v L R1 F1 d1 r1 ok1 => ?_
  obtain ⟨n1, h1⟩ := r1.mine rfl
  cases q : bindT t d false e1 with
  | none => rw [q] at ok1; exact ok1.elim
  | some e' =>
    rw [q] at ok1
    refine eg false d e1 e' v L σ H1 S1 Pr _ q R1 d1 ⟨n1, fun a m => ⟨(h1 a m).2.2.2, (h1 a m).1, (h1 a m).2.1⟩⟩ fun σ' S' R' o' l' s' => ?_
    exact ok1 σ' H1 S' R' ⟨F1.keep, fun i a m => (s' i a m).elim (F1.own i a) fun z => (h1 a z).2.2.1, fun e => nomatch e⟩ ⟨l', o'⟩
end
end Kh

set_option Elab.async false
set_option linter.all false
set_option maxRecDepth 100000
set_option maxHeartbeats 2000000
/-! loops -/
namespace Kh
open PySem PySem.Spec PyProof.Rows L2
section
variable {T : Tab} {lv : Nat} {P : Program} {w : World} {K : PySem.W.Frag} {mg : Str → Option Value} {base : Heap} {c : Cs} {W : WX}

/-- one turn of a for -/
noncomputable def forT (T : Tab) (t : Tg) (dead : List Nat) (body : Ss) : D → En → Out Fl := fun d e => match bindT t d true e with
  | some e1 => stepClear dead (execs T body e1)
  | none => .bad
theorem ss_for {mw : Wk} {tg : Tg} {dead : List Nat} {body : Ss} {t it : Expr} {xs : List Stmt} {pos : Pos} (hit : plainX it = true) (hd : mw.src.all (fun i => !(tg.slots ++ body.stores).contains i) = true) (sw : SW T lv P w K mg base c W mw it) (sg : SG lv P w K mg base c W tg t)
    (sb : SSs T lv P w K mg base c W body xs) : SS T lv P w K mg base c W (.fors mw tg dead body) (.For t it xs [] pos) := by
  obtain ⟨wi, pw, ew⟩ := sw
  obtain ⟨g, pg, eg⟩ := sg
  obtain ⟨tb, pb, eb⟩ := sb
  refine ⟨tFor wi g tb, fun X gs => ps_for gs.po gs.gd.calm (pw X gs.gd t) (pg X gs.gd) (pb X gs) (pl_set hit), fun σ H0 ρ S0 Pr De R0 ok => ?_⟩
  simp only [exec, Kh.S.stores] at ok
  generalize hst : tg.slots ++ body.stores = st at ok hd
  have d1 : ∀ i ∈ mw.src, i ∉ st := fun i m n => by
    have := List.all_eq_true.mp hd i m
    rw [List.contains_iff_mem.mpr n] at this
    cases this
  have t1 : ∀ i ∈ tg.slots, i ∈ st := fun i m => by rw [← hst]; exact List.mem_append_left _ m
  have t2 : ∀ i ∈ body.stores, i ∈ st := fun i m => by rw [← hst]; exact List.mem_append_right _ m
  show wi σ H0 _
  refine ew σ H0 ρ S0 Pr _ R0 (ok.bindK.mono fun ds e1 H1 S1 R1 F1 ok1 J L wl hth hL => ?_)
  obtain ⟨P', S', RL, l1, l2, l3, l4⟩ := SR.lock mw.src R1
  have R2 := RL.protect (L := L) fun a m => ⟨fun i n => by
    rcases hL a m with z | ⟨j, hj, z⟩ | z
    · exact RL.pt i a n (l1 a z)
    · exact (l4 j hj a z).2 i n
    · exact z i (l2 i a n), hth a m⟩
  obtain ⟨S3, R3, w1⟩ := R2.clear dead
  have s31 : ∀ (i : Nat) (a : Addr), a ∈ S3 i → a ∈ S1 i := fun i a m => l2 i a (w1 i a m)
  generalize hP2 : P' ++ L = P2 at R3
  have pr2 : ∀ a ∈ Pr, a ∈ P2 := fun a m => by rw [← hP2]; exact List.mem_append_left _ (l1 a m)
  have L2' : ∀ a ∈ L, a ∈ P2 := fun a m => by rw [← hP2]; exact List.mem_append_right _ m
  have lk : ∀ i ∈ mw.src, ∀ a ∈ S1 i, a ∈ P2 := fun i hi a m => by rw [← hP2]; exact List.mem_append_left _ (l4 i hi a m).1
  have ok2 : OkS K mg W st Pr σ H0 S0 De (settleF e1 mw.src st (forGo (forT T tg dead body) ds (clear dead (lockAll mw.src e1)))) := ok1
  have stayL : ∀ {H : Hp} {S : Foot}, Fr false H1 S3 H S → Stay H1 H P2 := fun F => R3.stayP F
  -- the end of the loop
  have fin : ∀ {σ' : L2.St} {H' : Hp} {e : En} {S : Foot}, SR K P2 H' σ' e S → Fr false H1 S3 H' S → Off st σ σ' → ∃ S'', SR K Pr H' σ' (settle e1 mw.src st [] e) S'' ∧ Fr false H0 S0 H' S'' ∧ ∀ (i : Nat) (a : Addr), a ∈ S'' i → a ∈ S i ∨ a ∈ S1 i ∧ a ∈ P2 := fun {σ' H' e S} R F O => by
    obtain ⟨S'', R'', o''⟩ := SR.settle (τ := σ') (src := mw.src) (asg := st) (own := []) R1 R (stayL F) pr2 lk O.1 O.1 (fun i h => h.elim (O.2 i) fun m => absurd m List.not_mem_nil) (fun _ _ => rfl) fun i m => O.2 i (d1 i m)
    refine ⟨S'', R'', ⟨fun a o q n => F.keep a o (F1.keep a o q n) fun j m => ?_, fun j a m => ?_, fun e => nomatch e⟩, o''⟩
    · rcases F1.own j a (s31 j a m) with ⟨l, z⟩ | z
      · exact n l z
      · rw [z] at q; cases q
    · rcases o'' j a m with z | z
      · exact F1.prov ((F.own j a z).imp (fun ⟨l, z⟩ => ⟨l, s31 l a z⟩) id)
      · exact F1.own j a z.1
  have prov : ∀ {H' : Hp} {S : Foot} {a : Addr}, Fr false H1 S3 H' S → (∃ i, a ∈ S i) ∨ H' a = none → (∃ i, a ∈ S0 i) ∨ H0 a = none := fun {H' S a} F h => F1.prov ((F.prov h).imp (fun ⟨l, z⟩ => ⟨l, s31 l a z⟩) id)
  generalize ho : forGo (forT T tg dead body) ds (clear dead (lockAll mw.src e1)) = o at ok2
  refine ⟨fun i m σ' H => m = ds.length - i ∧ i ≤ ds.length ∧ Off st σ σ' ∧ ∃ e S, SR K P2 H σ' e S ∧ Fr false H1 S3 H S ∧ forGo (forT T tg dead body) (ds.drop i) e = o, ⟨ds.length, by simp, Nat.zero_le _, .refl, _, S3, R3, Fr.refl, by rw [List.drop_zero]; exact ho⟩, ?_⟩
  rintro i m σ' H ⟨rfl, hi, O, e, S, R, F, hz⟩
  by_cases hlt : i < ds.length
  · refine .inr ⟨wl.go i H hlt ((stayL F).mono L2'), fun σ' H => i + 1 ≤ ds.length ∧ Off st σ σ' ∧ ∃ e S, SR K P2 H σ' e S ∧ Fr false H1 S3 H S ∧ forGo (forT T tg dead body) (ds.drop (i + 1)) e = o, fun σ' H' q => ⟨ds.length - (i + 1), by omega, rfl, q⟩, fun x H' yl => ?_⟩
    obtain ⟨ex, d, Rr, hdi, dx, hRr⟩ := wl.yld i H x H' hlt ((stayL F).mono L2') yl
    rw [drop_cons hdi] at hz
    unfold forGo at hz
    have RH := R.grow ex
    cases hb : bindT tg d true e with
    | none =>
      simp only [forT, hb] at hz
      rw [← hz] at ok2
      exact ok2.elim
    | some eb' =>
    refine eg true d e eb' x Rr σ' H' S P2 _ hb RH dx (fun a m => L2' a (hRr a m)) fun σ2 S2 Rb ob lb sb => ?_
    have s2 : ∀ (j : Nat) (a : Addr), a ∈ S2 j → a ∈ S j := fun j a m => by
      rcases sb j a m with z | z
      · exact z
      · exact absurd (L2' a (hRr a z)) (Rb.pt j a m)
    have O2 : Off st σ σ2 := O.trans ⟨lb, fun j n => ob j fun z => n (t1 j z)⟩
    have F2 : Fr false H1 S3 H' S2 := ⟨fun a o q n => ex a o (F.keep a o q n), fun j a m => F.own j a (s2 j a m), fun e => nomatch e⟩
    refine eb σ2 H' eb' S2 P2 _ Rb ?_
    have hft : forT T tg dead body d e = stepClear dead (execs T body eb') := by simp only [forT, hb]
    rw [hft] at hz
    cases hx : execs T body eb' with
    | bad =>
      rw [hx] at hz
      simp only [stepClear] at hz
      rw [← hz] at ok2
      exact ok2.elim
    | exc cc xx yy e3 =>
      rw [hx] at hz
      simp only [stepClear] at hz
      rw [← hz] at ok2
      intro C dd σ3 H3 S3' hm R3' F3 O3 hx'
      have O4 := O2.trans (O3.mono t2)
      obtain ⟨S'', R'', F'', _⟩ := fin R3' (F2.trans' F3) O4
      exact ok2 C dd σ3 H3 S'' hm R'' F'' O4 hx'
    | ok f e3 =>
      rw [hx] at hz
      intro σ3 H3 S3' R3' F3 O3
      have O4 := O2.trans (O3.mono t2)
      obtain ⟨S5, R5, w5⟩ := R3'.clear dead
      have F5 : Fr false H1 S3 H3 S5 := ⟨(F2.trans' F3).keep, fun j a m => (F2.trans' F3).own j a (w5 j a m), fun e => nomatch e⟩
      cases f with
      | nx =>
        simp only [stepClear] at hz
        exact ⟨hlt, O4, _, S5, R5, F5, hz⟩
      | ct =>
        simp only [stepClear] at hz
        exact ⟨hlt, O4, _, S5, R5, F5, hz⟩
      | bk =>
        simp only [stepClear] at hz
        rw [← hz] at ok2
        obtain ⟨S'', R'', F'', _⟩ := fin R5 F5 O4
        exact ok2 σ3 H3 S'' R'' F'' O4
      | rt dv =>
        simp only [stepClear] at hz
        rw [← hz] at ok2
        obtain ⟨S'', R'', F'', o''⟩ := fin R3' (F2.trans' F3) O4
        intro v M dr rs
        obtain ⟨n1, h1⟩ := rs.mine rfl
        refine ok2 σ3 H3 S'' R'' F'' O4 v M dr (Res.of ⟨n1, fun a m => ⟨fun j z => ?_, fun z => (h1 a m).2.1 (pr2 a z), prov F2 (h1 a m).2.2.1, (h1 a m).2.2.2⟩⟩)
        rcases o'' j a z with z | z
        · exact (h1 a m).1 j z
        · exact (h1 a m).2.1 z.2
  · have hie : i = ds.length := by omega
    subst hie
    refine .inl ⟨wl.stop H ((stayL F).mono L2'), ?_⟩
    rw [List.drop_length] at hz
    unfold forGo at hz
    rw [← hz] at ok2
    obtain ⟨S'', R'', F'', _⟩ := fin R F O
    exact ok2 σ' H S'' R'' F'' O

/-! ### while -/
theorem ss_while {a : E} {dead : List Nat} {body : Ss} {x : Expr} {xs : List Stmt} {pos : Pos} (sa : ST T lv P w K mg base c W a x) (sb : SSs T lv P w K mg base c W body xs) : SS T lv P w K mg base c W (.whiles a dead body) (.While x xs [] pos) := by
  obtain ⟨ta, pa, ea⟩ := sa
  obtain ⟨tb, pb, eb⟩ := sb
  refine ⟨tWhile ta tb, fun X gs => ps_while gs.po (pa X gs.gd).1 (pb X gs), fun σ H0 ρ S0 Pr De R0 ok => ?_⟩
  simp only [exec, Kh.S.stores] at ok
  unfold whileGo at ok
  split at ok
  · rename_i hex
    generalize hn : Classical.choose hex = n at ok
    generalize ho : whileN (evalT T a) (fun e => stepClear dead (execs T body e)) n ρ = o at ok
    refine ⟨fun m σ' H => Off body.stores σ σ' ∧ ∃ e S, SR K Pr H σ' e S ∧ Fr false H0 S0 H S ∧ whileN (evalT T a) (fun e => stepClear dead (execs T body e)) m e = o, ⟨n, .refl, ρ, S0, R0, Fr.refl, ho⟩, ?_⟩
    rintro m σ' H ⟨O, e, S, R, F, hz⟩
    cases m with
    | zero =>
      unfold whileN at hz
      rw [← hz] at ok
      exact ok.elim
    | succ m =>
      unfold whileN at hz
      refine ea σ' H e S Pr _ R ?_
      cases ht : evalT T a e with
      | bad =>
        rw [ht] at hz
        simp only at hz
        rw [← hz] at ok
        exact ok.elim
      | exc cc xx yy e' =>
        rw [ht] at hz
        simp only at hz
        rw [← hz] at ok
        exact fun C dd H' S' hm R' F' hx => ok C dd σ' H' S' hm R' (F.trans' F') O hx
      | ok k e1 =>
        rw [ht] at hz
        intro H1 S1 R1 F1
        cases k with
        | false =>
          simp only at hz
          rw [← hz] at ok
          exact ok σ' H1 S1 R1 (F.trans' F1) O
        | true =>
          simp only at hz
          simp only [if_true]
          refine ⟨fun σ'' H'' => Off body.stores σ σ'' ∧ ∃ e S, SR K Pr H'' σ'' e S ∧ Fr false H0 S0 H'' S ∧ whileN (evalT T a) (fun e => stepClear dead (execs T body e)) m e = o, fun σ'' H'' q => ⟨m, Nat.lt_succ_self _, q⟩, ?_⟩
          refine eb σ' H1 e1 S1 Pr _ R1 ?_
          have FF := F.trans' F1
          cases hx : execs T body e1 with
          | bad =>
            rw [hx] at hz
            simp only [stepClear] at hz
            rw [← hz] at ok
            exact ok.elim
          | exc cc xx yy e3 =>
            rw [hx] at hz
            simp only [stepClear] at hz
            rw [← hz] at ok
            exact fun C dd σ3 H3 S3 hm R3 F3 O3 hx' => ok C dd σ3 H3 S3 hm R3 (FF.trans' F3) (O.trans O3) hx'
          | ok f e3 =>
            rw [hx] at hz
            intro σ3 H3 S3 R3 F3 O3
            have O4 := O.trans O3
            obtain ⟨S5, R5, w5⟩ := R3.clear dead
            have F5 : Fr false H0 S0 H3 S5 := ⟨(FF.trans' F3).keep, fun j a m => (FF.trans' F3).own j a (w5 j a m), fun e => nomatch e⟩
            cases f with
            | nx =>
              simp only [stepClear] at hz
              exact ⟨O4, _, S5, R5, F5, hz⟩
            | ct =>
              simp only [stepClear] at hz
              exact ⟨O4, _, S5, R5, F5, hz⟩
            | bk =>
              simp only [stepClear] at hz
              rw [← hz] at ok
              exact ok σ3 H3 S5 R5 F5 O4
            | rt dv =>
              simp only [stepClear] at hz
              rw [← hz] at ok
              exact (ok σ3 H3 S3 R3 (FF.trans' F3) O4).back FF
  · exact ok.elim
end
end Kh

set_option Elab.async false
set_option linter.all false
set_option maxRecDepth 100000
set_option maxHeartbeats 2000000
/-! o[i] = v; names set to comprehensions; two names at once -/
namespace Kh
open PySem PySem.Spec PyProof.Rows L2
section
variable {K : PySem.W.Frag} {H : Hp}
theorem DRs.setAt {d : D} {v : V} {R : List Addr} (h : DR K H d v R) : ∀ {xs : List D} {vs : List V} {L : List Addr} {j : Nat}, DRs K H xs vs L → j < xs.length → ∃ L1 L2 L3, L = L1 ++ (L2 ++ L3) ∧ DRs K H (xs.set j d) (vs.set j v) (L1 ++ (R ++ L3))
  | _, _, _, 0, .cons (S := S) (R := L3) a r, _ => ⟨[], S, L3, rfl, DRs.cons (S := R) h r⟩
  | _, _, _, j + 1, .cons (S := S) a r, hj => by
    obtain ⟨L1, L2, L3, e, q⟩ := DRs.setAt h r (Nat.lt_of_succ_lt_succ hj)
    refine ⟨S ++ L1, L2, L3, by rw [e, List.append_assoc], ?_⟩
    rw [List.append_assoc]
    exact .cons a q
  | _, _, _, _, .nil, hj => absurd hj (Nat.not_lt_zero _)
theorem KRs.app {k : I} {q : Key} {d : D} {v : V} {R : List Addr} (hk : keyOf k = some q) (h : DR K H d v R) : ∀ {kvs : List (I × D)} {ws : List (Key × V)} {L : List Addr}, KRs K H kvs ws L → KRs K H (kvs ++ [(k, d)]) (ws ++ [(q, v)]) (L ++ R)
  | _, _, _, .nil => by
    have r := KRs.cons hk h (.nil (K := K) (H := H))
    rw [List.append_nil] at r
    exact r
  | _, _, _, .cons (S := S) (R := R') e a r => by
    rw [List.append_assoc]
    exact .cons e a (KRs.app hk h r)
theorem putK_skip {ws : List (Key × V)} {p : Key × V} {q : Key} {v : V} (h : ¬ p.1 = q) : putK (p :: ws) q v = p :: putK ws q v := by
  unfold putK
  simp only [List.any_cons, h, decide_false, Bool.false_or, List.map_cons, if_false]
  split <;> rfl
theorem putK_hit {ws : List (Key × V)} {p : Key × V} {q : Key} {v : V} (h : p.1 = q) (n : q ∉ ws.map (·.1)) : putK (p :: ws) q v = (q, v) :: ws := by
  unfold putK
  simp only [List.any_cons, h, decide_true, Bool.true_or, if_true, List.map_cons]
  congr 1
  refine (List.map_congr_left fun a m => ?_).trans (List.map_id _)
  rw [if_neg fun e => n (List.mem_map.mpr ⟨a, m, e⟩)]
  rfl
theorem KRs.put {k : I} {q : Key} {d : D} {v : V} {R : List Addr} (hk : keyOf k = some q) (h : DR K H d v R) : ∀ {kvs kvs' : List (I × D)} {ws : List (Key × V)} {L : List Addr}, KRs K H kvs ws L → (ws.map (·.1)).Nodup → dput k d kvs = some kvs' →
    (∃ L1 L2 L3, L = L1 ++ (L2 ++ L3) ∧ KRs K H kvs' (putK ws q v) (L1 ++ (R ++ L3))) ∧ ((putK ws q v).map (·.1)).Nodup ∧ ∀ x ∈ (putK ws q v).map (·.1), x ∈ ws.map (·.1) ∨ x = q
  | _, _, _, _, .nil, _, e => by
    simp only [dput] at e
    cases e
    refine ⟨⟨[], [], [], rfl, ?_⟩, by simp [putK], fun x m => .inr (by simpa [putK] using m)⟩
    exact KRs.cons (S := R) (R := []) hk h .nil
  | _, kvs', _, _, .cons (k := j) (q := q') (d := dd) (v := vv) (S := S) (ds := ds) (vs := vs) (R := L3) e a r, n, eq => by
    simp only [dput] at eq
    rw [key_inj e hk] at eq
    have n1 : q' ∉ vs.map (·.1) := by
      have := n; simp only [List.map_cons, List.nodup_cons] at this; exact this.1
    have n2 : (vs.map (·.1)).Nodup := by
      have := n; simp only [List.map_cons, List.nodup_cons] at this; exact this.2
    by_cases z : q' = q
    · subst z
      simp only [decide_true, Option.bind_some, if_true] at eq
      cases eq
      rw [putK_hit (p := (q', vv)) rfl n1]
      exact ⟨⟨[], S, L3, rfl, KRs.cons (S := R) e h r⟩, n, fun x m => .inl m⟩
    · simp only [z, decide_false, Option.bind_some, Bool.false_eq_true, if_false] at eq
      cases y : dput k d ds with
      | none => rw [y] at eq; cases eq
      | some ds' =>
        rw [y] at eq
        cases eq
        obtain ⟨⟨L1, L2, L3', e1, e2⟩, m1, m2⟩ := KRs.put hk h r n2 y
        rw [putK_skip (p := (q', vv)) z]
        refine ⟨⟨S ++ L1, L2, L3', by rw [e1, List.append_assoc], ?_⟩, ?_, fun x m => ?_⟩
        · rw [List.append_assoc]
          exact .cons e a e2
        · rw [List.map_cons, List.nodup_cons]
          refine ⟨fun m => ?_, m1⟩
          rcases m2 _ m with m | m
          · exact n1 m
          · exact z m
        · rw [List.map_cons, List.mem_cons] at m
          rcases m with m | m
          · exact .inl (by rw [m]; exact List.mem_cons_self)
          · exact (m2 x m).imp (fun m => List.mem_cons_of_mem _ m) id
theorem PSet.or {X : Cx} {t u : TSet} (h : PSet X t) (k : PSet X u) : PSet X (fun o i v H Q => t o i v H Q ∨ u o i v H Q) :=
  fun pins s σ H o i v ov iv uu Q I r1 r2 r3 z => z.elim (h pins s σ H o i v ov iv uu Q I r1 r2 r3) (k pins s σ H o i v ov iv uu Q I r1 r2 r3)
theorem pl_swapS {x o i : Expr} {p : Pos} {n : Nat} {env : PySem.Env} (h : plainX x = true) : swapsWith x (some (.Subscript o i p)) n env = pure false := by
  cases x <;> first | rfl | (exact absurd h Bool.false_ne_true)
end
section
variable {K : PySem.W.Frag} {H : Hp} {σ : L2.St} {ρ : En} {Sv : Foot} {Pr : List Addr} {p : Bool}
/-- a place's container is changed in place: r its address; M the new parts -/
theorem SR.mutA {i : Nat} {d d' : D} {a : Addr} {L M : List Addr} {o : HO} (R : SR K Pr H σ ρ Sv) (e : ρ[i]? = some (.own d)) (es : σ[i]? = some (some (.ref a))) (hs : Sv i = a :: L) (ho : isMut o = true)
    (hd : ∀ H', H' a = some o → Stay H H' M → DR K H' d' (.ref a) (a :: M)) (nd : M.Nodup) (hM : ∀ b ∈ M, b ≠ a ∧ MutAt H b ∧ (∀ j, j ≠ i → b ∉ Sv j) ∧ b ∉ Pr) : SR K Pr (upd H a o) σ (ρ.set i (.own d')) (Sv.set i (a :: M)) := by
  have hi : i < ρ.length := (List.getElem?_eq_some_iff.mp e).1
  have ma : a ∈ Sv i := by rw [hs]; exact List.mem_cons_self
  have k : ∀ b u, H b = some u → b ∉ Sv i → (upd H a o) b = some u := fun b u q n => by
    rw [upd_ne (fun z : b = a => n (z ▸ ma))]; exact q
  have st : Stay H (upd H a o) M := fun b u q z => by
    rw [upd_ne fun y : b = a => ?_]
    · exact q
    · subst y
      rcases z with z | z
      · exact R.pers q z i ma
      · exact (hM b z).1 rfl
  have r := R.put (d := d') (v := .ref a) (L := a :: M) hi k (hd _ upd_same st) (List.nodup_cons.mpr ⟨fun m => (hM a m).1 rfl, nd⟩) fun b m => by
    rcases List.mem_cons.mp m with rfl | m
    · exact ⟨⟨_, upd_same, ho⟩, fun j n z => n (R.dj j i b z ma), R.pt i b ma⟩
    · obtain ⟨u, q, z⟩ := (hM b m).2.1
      exact ⟨⟨u, st b u q (.inr m), z⟩, (hM b m).2.2.1, (hM b m).2.2.2⟩
  rw [set_self es] at r
  exact r
theorem Fr.mutK {H0 : Hp} {S0 : Foot} {i : Nat} {a : Addr} {o : HO} {M : List Addr} (F : Fr p H0 S0 H Sv) (ma : a ∈ Sv i) (hM : ∀ b ∈ M, (∃ j, b ∈ S0 j) ∨ H0 b = none) : Fr false H0 S0 (upd H a o) (Sv.set i (a :: M)) := by
  refine ⟨fun b u q n => ?_, fun j b m => ?_, fun e => nomatch e⟩
  · rw [upd_ne fun z : b = a => ?_]
    · exact F.keep b u q n
    · subst z
      rcases F.own i b ma with ⟨j, y⟩ | y
      · exact n j y
      · rw [y] at q; cases q
  · by_cases h : j = i
    · subst h
      rw [Foot.set_same] at m
      rcases List.mem_cons.mp m with rfl | m
      · exact F.own j b ma
      · exact hM b m
    · rw [Foot.set_ne h] at m
      exact F.own j b m
end
section
variable {T : Tab} {lv : Nat} {P : Program} {w : World} {K : PySem.W.Frag} {mg : Str → Option Value} {base : Heap} {c : Cs} {W : WX}
variable {σ : L2.St} {H : Hp} {ρ : En} {Sv : Foot} {Pr : List Addr}
theorem OkS.bindF {D : Ends} {st : List Nat} {H1 : Hp} {S1 : Foot} {p q : Bool} {β : Type} {o : Out β} {f : β → En → Out Fl} (h : OkS K mg W st Pr σ H Sv D (o.bind f)) (F : Fr p H Sv H1 S1) : OkP K mg W q Pr σ H1 S1 (fun b e _ _ => OkS K mg W st Pr σ H Sv D (f b e)) o := by
  cases o with
  | bad => exact h
  | exc c x y e => exact fun C dd H' S' m R F' x => h C dd σ H' S' m R (F.trans' F') .refl x
  | ok b e => exact fun _ _ _ _ => h
def rSet2 : TSet := fun o i v H Q => rSetL o i v H Q ∨ rSetD o i v H Q
theorem parts_nd {L1 L2 L3 R : List Addr} (h : (L1 ++ (L2 ++ L3)).Nodup) (hR : R.Nodup) (dj : ∀ a ∈ R, a ∉ L1 ++ (L2 ++ L3)) : (L1 ++ (R ++ L3)).Nodup ∧ ∀ a ∈ L1 ++ (R ++ L3), a ∈ L1 ++ (L2 ++ L3) ∨ a ∈ R := by
  obtain ⟨n1, n2, n3⟩ := List.nodup_append.mp h
  obtain ⟨m1, m2, m3⟩ := List.nodup_append.mp n2
  refine ⟨List.nodup_append.mpr ⟨n1, List.nodup_append.mpr ⟨hR, m2, fun a x b y e => ?_⟩, fun a x b y e => ?_⟩, fun a m => ?_⟩
  · subst e
    exact dj a x (List.mem_append_right _ (List.mem_append_right _ y))
  · subst e
    rcases List.mem_append.mp y with y | y
    · exact dj a y (List.mem_append_left _ x)
    · exact n3 a x a (List.mem_append_right _ y) rfl
  · rcases List.mem_append.mp m with m | m
    · exact .inl (List.mem_append_left _ m)
    · rcases List.mem_append.mp m with m | m
      · exact .inr m
      · exact .inl (List.mem_append_right _ (List.mem_append_right _ m))
/-- one step: o[k] = v at place i -/
theorem set_step {i : Nat} {d k v d' : D} {ov kv vv : V} {Lk Lv : List Addr} {H0 : Hp} {S0 : Foot} {q : Bool} {Q : Hp → Prop} (R : SR K Pr H σ ρ Sv) (F : Fr q H0 S0 H Sv) (e : ρ[i]? = some (.own d)) (es : σ[i]? = some (some ov)) (dk : DR K H k kv Lk) (dv : DR K H v vv Lv) (nd : Lv.Nodup)
    (hv : ∀ a ∈ Lv, MutAt H a ∧ (∀ j, a ∉ Sv j) ∧ a ∉ Pr ∧ ((∃ j, a ∈ S0 j) ∨ H0 a = none)) (h : setD d k v = some d') (ok : ∀ H' S', SR K Pr H' σ (ρ.set i (.own d')) S' → Fr false H0 S0 H' S' → Q H') : rSet2 ov kv vv H Q := by
  obtain ⟨v0, e0, dr⟩ := R.own i d e
  rw [es] at e0
  cases e0
  have nds := R.nd i
  have mus := R.mu i
  have pts := R.pt i
  have djs := fun j a (x : a ∈ Sv i) (y : a ∈ Sv j) => R.dj j i a y x
  have own := fun a (x : a ∈ Sv i) => F.own i a x
  have hvd := fun a (m : a ∈ Lv) => (hv a m).2.1 i
  generalize hsi : Sv i = Si at dr nds mus pts djs own hvd
  have new : ∀ {a : Addr} {L1 L2 L3 : List Addr}, Si = a :: (L1 ++ (L2 ++ L3)) → (L1 ++ (Lv ++ L3)).Nodup ∧ (∀ b ∈ L1 ++ (Lv ++ L3), b ≠ a ∧ MutAt H b ∧ (∀ j, j ≠ i → b ∉ Sv j) ∧ b ∉ Pr) ∧ ∀ b ∈ L1 ++ (Lv ++ L3), (∃ j, b ∈ S0 j) ∨ H0 b = none := fun {a L1 L2 L3} eS => by
    subst eS
    obtain ⟨n1, n2⟩ := List.nodup_cons.mp nds
    obtain ⟨z1, z2⟩ := parts_nd n2 nd fun b m x => hvd b m (List.mem_cons_of_mem _ x)
    refine ⟨z1, fun b m => ?_, fun b m => ?_⟩
    · rcases z2 b m with x | x
      · have x' : b ∈ a :: (L1 ++ (L2 ++ L3)) := List.mem_cons_of_mem _ x
        exact ⟨fun e => n1 (e ▸ x), mus b x', fun j hj y => hj (djs j b x' y), pts b x'⟩
      · obtain ⟨y1, y2, y3, y4⟩ := hv b x
        exact ⟨fun e => hvd b x (by rw [e]; exact List.mem_cons_self), y1, fun j _ => y2 j, y3⟩
    · rcases z2 b m with x | x
      · exact own b (List.mem_cons_of_mem _ x)
      · exact (hv b x).2.2.2
  cases d with
  | lst xs =>
    cases k with
    | im kk =>
      cases kk with
      | int n =>
        simp only [setD] at h
        cases hj : ixN xs.length n with
        | none => rw [hj] at h; cases h
        | some j =>
          rw [hj] at h
          cases h
          obtain ⟨a, vs, L, rfl, ha, ra, rfl⟩ := dr.lst_inv
          obtain rfl := dk.int_inv
          have hjl : j < xs.length := (ixN_seq hj).2.1
          obtain ⟨L1, L2, L3, eL, rs⟩ := DRs.setAt dv ra hjl
          obtain ⟨z1, z2, z3⟩ := new (by rw [eL])
          refine .inl ⟨a, vs, n, j, rfl, rfl, ha, by rw [← ra.length]; exact hj, ?_⟩
          exact ok _ _ (R.mutA e es hsi rfl (fun H' h' st => .lst h' (rs.stay st)) z1 z2) (F.mutK (by rw [hsi]; exact List.mem_cons_self) z3)
      | _ => simp [setD] at h
    | _ => simp [setD] at h
  | dct t kvs =>
    cases k with
    | im kk =>
      simp only [setD] at h
      split at h
      · rename_i hc
        simp only [Bool.and_eq_true, decide_eq_true_eq] at hc
        obtain ⟨rfl, q, hq⟩ := keyOk_some hc.1
        cases hp : dput kk v kvs with
        | none => rw [hp] at h; cases h
        | some kvs' =>
          rw [hp] at h
          cases h
          obtain ⟨a, ws, L, rfl, ha, ra, rfl, nk⟩ := dr.dct_inv rfl
          have ha' : H a = some (.dK ws) := by
            rcases ha with ha | ⟨o, ha⟩
            · exact ha
            · obtain ⟨u, q1, q2⟩ := mus a List.mem_cons_self
              rw [ha] at q1; cases q1; cases q2
          obtain ⟨⟨L1, L2, L3, eL, rs⟩, nk', _⟩ := KRs.put hq dv ra nk hp
          obtain ⟨z1, z2, z3⟩ := new (by rw [eL])
          have hkv : kv = kV q := key_val hq dk.im_inv.2
          refine .inr ⟨a, _, rfl, .inl ⟨ws, q, ha', hkv, by rw [← ra.length]; exact Nat.lt_of_lt_of_le hc.2 (by decide), rfl⟩, ?_⟩
          exact ok _ _ (R.mutA e es hsi rfl (fun H' h' st => .dK nk' (.inl h') (rs.stay st)) z1 z2) (F.mutK (by rw [hsi]; exact List.mem_cons_self) z3)
      · cases h
    | _ => simp [setD] at h
  | im x => cases k <;> simp [setD] at h
  | tup x => cases k <;> simp [setD] at h
  | scr x => cases k <;> simp [setD] at h
theorem ss_setix {i : Nat} {pe a : E} {y : Str} {yp sp pos : Pos} {kx x : Expr} (hv : chkE c (.var i) (.Name y yp) = true) (hk : plainX kx = true) (hx : plainX x = true) (sk : SE T lv P w K mg base c W pe kx) (sa : SE T lv P w K mg base c W a x) :
    SS T lv P w K mg base c W (.setix i (.cons pe .nil) a) (.Assign [.Subscript (.Name y yp) kx sp] x pos) := by
  obtain ⟨tk, pk, ek⟩ := sk
  obtain ⟨ta, pa, ea⟩ := sa
  have hv' := se_var' (T := T) (lv := lv) (P := P) (w := w) (K := K) (mg := mg) (base := base) (W := W) hv
  refine ⟨tAsg ta (gSub (tVar i) tk rSet2), fun X gs => ?_, fun σ H ρ S Pr De R ok => ?_⟩
  · have hu : X.A.units + 1 < cLine := Nat.lt_of_le_of_lt (Nat.add_le_add_left (by decide) _) gs.gd.un
    exact ps_asg (pa X gs.gd) (pg_sub (hv'.1 X gs.gd) (pk X gs.gd) (PSet.or set_list (set_dict hu)) (by cases kx <;> first | (intro v; rfl) | (exact absurd hk Bool.false_ne_true))) (by unfold swapsWithSole; exact pl_swapS hx) (by cases x <;> rfl) rfl
  · simp only [exec, Kh.S.stores] at ok
    show ta σ H _
    refine useS_O ea R ok fun d e1 H1 S1 v L R1 F1 d1 r1 ok1 => ?_
    obtain ⟨n1, h1⟩ := r1.mine rfl
    have fin : ∀ d0, e1[i]? = some (.own d0) → OkS K mg W [] Pr σ H S De ((evalE T pe false e1).bind fun k e => (match e[i]? with
        | some (.own d2) => (match setD d2 k d with
          | some d' => .ok .nx (e.set i (.own d'))
          | none => .bad)
        | _ => .bad)) → gSub (tVar i) tk rSet2 v σ H1 De.nx := fun d0 e0 ok2 => by
      obtain ⟨ov, es, _⟩ := R1.own i d0 e0
      refine ⟨ov, es, ?_⟩
      show tk σ H1 _
      refine ek false σ H1 e1 S1 Pr _ R1 ((ok2.bindF F1).mono fun k e2 H2 S2 R2 F2 ok3 kv Lk dk rk => ?_)
      split at ok3
      · rename_i d2 e3
        split at ok3
        · rename_i d' hset
          have st := R1.stay F2 (L := L) fun a m j => (h1 a m).1 j
          refine set_step R2 (F1.trans' F2) e3 es dk (d1.stay st) n1 (fun a m => ?_) hset fun H' S' R' F' => ?_
          · obtain ⟨z1, z2, z3, ⟨o, z4, z5⟩⟩ := h1 a m
            refine ⟨⟨o, st a o z4 (.inr m), z5⟩, fun j y => ?_, z2, z3⟩
            rcases F2.own j a y with ⟨l, y⟩ | y
            · exact z1 l y
            · rw [y] at z4; cases z4
          · exact ok3 σ H' S' R' F' .refl
        · exact ok3.elim
      · exact ok3.elim
    split at ok1
    · rename_i hm
      exact ok1.elim
    · rename_i d0 hne e0
      exact fin d0 e0 ok1
    · exact ok1.elim
end
end Kh

set_option Elab.async false
set_option linter.all false
set_option maxRecDepth 100000
set_option maxHeartbeats 2000000
/-! all statements of the text -/
namespace Kh
open PySem PySem.Spec PyProof.Rows L2

def swC (c : Cs) (y : Str) (py : Pos) : Expr → Bool
  | .ListComp _ _ scope pos => decide (c.sc.names.lookup y = some .local) && (py.line == pos.line) && !(scope.names.any fun (n, k) => n == y && (k == .local || k == .cell))
  | _ => false
def nswC (c : Cs) (y : Str) : Expr → Bool
  | .ListComp _ _ _ _ => decide (c.sc.names.lookup y = some .cell)
  | _ => false
def isTupX : Expr → Bool
  | .Tuple _ _ _ => true
  | _ => false
mutual
def chkS (c : Cs) : S → Stmt → Bool
  | .setv i a, .Assign [.Name y py] x _ => decide (c.N[i]? = some y) && c.loc y && chkE c a x && (!isLC x || swC c y py x || nswC c y x)
  | .asg t a, .Assign [.Tuple ts k p] x _ => chkT c t (.Tuple ts k p) && chkE c a x && !isLC x && !isTupX x
  | .par i j a b, .Assign [.Tuple [.Name x px, .Name y py] _ _] (.Tuple [v, u] _ _) _ => decide (c.N[i]? = some x) && decide (c.N[j]? = some y) && decide (i ≠ j) && decide (c.sc.names.lookup x = some .local) && decide (c.sc.names.lookup y = some .local) &&
      (py.line == px.line) && chkE c a v && chkE c b u && !(foldedForSure 8 v && foldedForSure 8 u) && !(constantsAlone 8 v && constantsAlone 8 u) && c.loc x && c.loc y
  | .ret a, .Return (some x) _ => chkE c a x
  | .retN, .Return none _ => true
  | .expr a, .Expr x _ => chkE c a x && !isLC x
  | .doc, .Expr (.Constant (.str _) _ _) _ => true
  | .ifs a p q, .If x xs ys _ => chkE c a x && chkSs c p xs && chkSs c q ys
  | .fors w t _ b, .For t' it xs [] _ => chkW c w it && chkT c t t' && chkSs c b xs && w.src.all (fun i => !(t.slots ++ b.stores).contains i)
  | .whiles a _ b, .While x xs [] _ => chkE c a x && chkSs c b xs
  | .pass, .Pass _ => true
  | .brk, .Break _ => true
  | .cont, .Continue _ => true
  | .setix i (.cons p .nil) a, .Assign [.Subscript (.Name y yp) kx _] x _ => chkE c (.var i) (.Name y yp) && chkE c p kx && chkE c a x
  | _, _ => false
def chkSs (c : Cs) : Ss → List Stmt → Bool
  | .nil, [] => true
  | .cons s r, x :: xs => chkS c s x && chkSs c r xs
  | _, _ => false
end

theorem swapped_two {x y : Str} {px py pt pt2 : Pos} {kt k2 : Nat} {a b : Expr} {env : PySem.Env} (hk : env.scope.kind = .function) (hx : env.scope.names.lookup x = some .local) (hy : env.scope.names.lookup y = some .local) (hl : (py.line == px.line) = true) (hn : x ≠ y)
    (ha : plainX a = true) (hb : plainX b = true) (hf : (foldedForSure 8 a && foldedForSure 8 b) = false) (hc : (constantsAlone 8 a && constantsAlone 8 b) = false) :
    swappedStores [.Tuple [.Name x px, .Name y py] kt pt] (.Tuple [a, b] k2 pt2) env = pure (some [x, y]) := by
  have kx : env.kindOf x = some .local := hx
  have ky : env.kindOf y = some .local := hy
  have hbk : env.blockKind = .function := by unfold Env.blockKind; rw [hk]; rfl
  have hyx : (y == x) = false := by
    cases z : (y == x) with
    | false => rfl
    | true => exact absurd (eq_of_beq z).symm hn
  have hl' : py.line = px.line := eq_of_beq hl
  have e1 : ([a, b] : List Expr).all (foldedForSure 8) = false := by simpa using hf
  have e2 : ([a, b] : List Expr).all (constantsAlone 8) = false := by simpa using hc
  unfold swappedStores
  simp only [hbk, e1, e2]
  rw [if_neg (by simp), if_neg ?_]
  · simp [List.filterMap, kx, ky, Expr.pos, hl', List.eraseDups_cons, hyx]
  · intro h
    simp only [List.any_cons, List.any_nil, Bool.or_false, Bool.or_eq_true] at h
    rcases h with h | h
    · cases a <;> first | (exact absurd h Bool.false_ne_true) | exact absurd ha Bool.false_ne_true
    · cases b <;> first | (exact absurd h Bool.false_ne_true) | exact absurd hb Bool.false_ne_true

section
variable {T : Tab} {lv : Nat} {P : Program} {w : World} {K : PySem.W.Frag} {mg : Str → Option Value} {base : Heap}
section
variable {c : Cs} {W : WX}
theorem ss_par {i j : Nat} {a b : E} {x y : Str} {px py pt pt2 pos : Pos} {kt k2 : Nat} {v u : Expr} (hi : c.N[i]? = some x) (hj : c.N[j]? = some y) (hij : i ≠ j) (hx : c.sc.names.lookup x = some .local) (hy : c.sc.names.lookup y = some .local) (hl : (py.line == px.line) = true)
    (pv : plainX v = true) (pu : plainX u = true) (hf : (foldedForSure 8 v && foldedForSure 8 u) = false) (hc : (constantsAlone 8 v && constantsAlone 8 u) = false) (se : SEs T lv P w K mg base c W (.cons a (.cons b .nil)) [v, u]) :
    SS T lv P w K mg base c W (.par i j a b) (.Assign [.Tuple [.Name x px, .Name y py] kt pt] (.Tuple [v, u] k2 pt2) pos) := by
  obtain ⟨ta, pa, ea, _, _⟩ := se
  refine ⟨tPar i j ta, fun X gs => ?_, fun σ H ρ S Pr De R ok => ?_⟩
  · have n := gs.gd.nd
    have hn : x ≠ y := fun e => by
      subst e
      exact hij ((List.getElem?_inj (List.getElem?_eq_some_iff.mp hi).1 n).mp (hi.trans hj.symm))
    exact ps_par gs.gd.calm (by rw [gs.gd.N]; exact n) (by rw [gs.gd.N]; exact hi) (by rw [gs.gd.N]; exact hj) hij (by rw [gs.gd.sc]; exact hx) (by rw [gs.gd.sc]; exact hy) (pa X gs.gd)
      (swapped_two gs.kd (by rw [gs.gd.sc]; exact hx) (by rw [gs.gd.sc]; exact hy) hl hn pv pu hf hc) (by rfl)
  · simp only [exec, Kh.S.stores] at ok
    show ta σ H _
    refine ea σ H ρ S Pr _ R (ok.bindK.mono fun ds e1 H1 S1 R1 F1 ok1 vs L dr rs => ?_)
    split at ok1
    · rename_i dx dy
      split at ok1
      · rename_i hz
        cases dr with
        | cons d1 d2 =>
          rename_i vx Lx vs' Ls
          cases d2 with
          | cons d3 d4 =>
            rename_i vy Ly vs'' Ls'
            cases d4
            obtain ⟨n1, h1⟩ := rs.mine rfl
            rw [List.append_nil] at n1 h1
            obtain ⟨m1, m2, m3⟩ := List.nodup_append.mp n1
            have hX := fun a (m : a ∈ Lx) => h1 a (List.mem_append_left _ m)
            have hY := fun a (m : a ∈ Ly) => h1 a (List.mem_append_right _ m)
            have Ra := R1.put hz.1 (fun a o q _ => q) d1 m1 fun a m => ⟨(hX a m).2.2.2, fun j _ => (hX a m).1 j, (hX a m).2.1⟩
            have Rb := Ra.put (i := j) (by rw [List.length_set]; exact hz.2) (fun a o q _ => q) d3 m2 fun a m => ⟨(hY a m).2.2.2, fun k hk q => ?_, (hY a m).2.1⟩
            · refine ⟨_, _, rfl, ok1 _ H1 _ Rb (((F1.putS fun b m => (hX b m).2.2.1).putS fun b m => (hY b m).2.2.1)) ?_⟩
              exact (Off.set (by simp)).trans (Off.set (by simp))
            · by_cases z : k = i
              · subst z; rw [Foot.set_same] at q; exact m3 a q a m rfl
              · rw [Foot.set_ne z] at q; exact (hY a m).1 k q
      · exact ok1.elim
    · exact ok1.elim
end
variable (G : Gl0 T lv P w K mg base)
include G
theorem ss_setLc {c : Cs} {W : WX} {i : Nat} {a : E} {y : Str} {py pos : Pos} {x : Expr} (hi : c.N[i]? = some y) (hy : c.loc y = true) (h : chkE c a x = true) (hl : isLC x = true) (hs : (swC c y py x || nswC c y x) = true) : SS T lv P w K mg base c W (.setv i a) (.Assign [.Name y py] x pos) := by
  have sa := (e_ok G a x c W h).1
  have h0 := h
  unfold chkE at h
  split at h <;> first | (exact absurd hl Bool.false_ne_true) | (exact absurd h Bool.false_ne_true) | skip
  rename_i wk tg own cn elt yy t it ifs scope lpos
  simp only [Bool.and_eq_true] at h
  obtain ⟨⟨⟨⟨⟨h1, h2⟩, h3⟩, h4⟩, h5⟩, h6⟩ := h
  cases hsw : swC c y py (.ListComp yy [⟨t, it, ifs, 0⟩] scope lpos) with
  | true =>
    simp only [swC, Bool.and_eq_true, decide_eq_true_eq, Bool.not_eq_true'] at hsw
    obtain ⟨hp, sw⟩ := w_ok G _ _ c W h2
    obtain ⟨wi, g, tt, te, hX, sp⟩ := se_lc h1 hp h6 sw (sg_ok _ _ h3) (c_ok G _ _ _ W0 h4) (e_ok G _ _ _ W0 h5).1
    refine ss_setv' (fun X gs => ?_) sp
    obtain ⟨a1, a2, a3, a4, a5, a6⟩ := hX X gs.gd
    exact ps_setLc gs.gd.calm (by rw [gs.gd.N]; exact gs.gd.nd) (by rw [gs.gd.N]; exact hi) (by rw [gs.gd.sc]; exact hsw.1.1) (sw_true gs.kd (by rw [gs.gd.sc]; exact hsw.1.1) hsw.1.2 hsw.2) (a1 _) a2 a3 a4 a5 a6
  | false =>
    rw [hsw, Bool.false_or] at hs
    simp only [nswC, decide_eq_true_eq] at hs
    obtain ⟨ta, pa, ea⟩ := sa
    refine ss_setv' (fun X gs => ?_) ea
    obtain ⟨k1, k2⟩ := gs.gd.fnl y hy
    refine ps_set (by rw [gs.gd.N]; exact gs.gd.nd) (by rw [gs.gd.N]; exact hi) (by rw [gs.gd.sc]; exact k1) (pa X gs.gd) ?_ (by rw [gs.gd.sc]; exact k2)
    have ky : X.env.kindOf y = some .cell := by
      show X.env.scope.names.lookup y = _
      rw [gs.gd.sc]; exact hs
    unfold swapsWith
    simp only [ky]
    have z : (some NameKind.cell == some NameKind.local) = false := rfl
    simp only [z, Bool.and_false, Bool.false_and]
mutual
theorem s_ok : ∀ (s : S) (x : Stmt) (c : Cs) (W : WX), chkS c s x = true → SS T lv P w K mg base c W s x
  | .setv i a, x, c, W, h => by
    unfold chkS at h
    split at h <;> first | (exact absurd h Bool.false_ne_true) | (rename_i e; cases e)
    simp only [Bool.and_eq_true, decide_eq_true_eq] at h
    rename_i y py x' pos
    cases hl : isLC x' with
    | false => exact ss_setv h.1.1.1 h.1.1.2 (chk_plain h.1.2) hl (e_ok G _ _ c W h.1.2).1
    | true =>
      have h2 := h.2
      rw [hl, Bool.not_true, Bool.false_or] at h2
      exact ss_setLc G h.1.1.1 h.1.1.2 h.1.2 hl h2
  | .asg t a, x, c, W, h => by
    unfold chkS at h
    split at h <;> first | (exact absurd h Bool.false_ne_true) | (rename_i e; cases e)
    simp only [Bool.and_eq_true, Bool.not_eq_true'] at h
    rename_i ts k p x' pos
    exact ss_asg rfl (chk_plain h.1.1.2) h.1.2 (by cases x' <;> first | rfl | exact h.2.symm) (sg_ok _ _ h.1.1.1) (e_ok G _ _ c W h.1.1.2).1
  | .par i j a b, x, c, W, h => by
    unfold chkS at h
    split at h <;> first | (exact absurd h Bool.false_ne_true) | (rename_i e; cases e)
    simp only [Bool.and_eq_true, decide_eq_true_eq, Bool.not_eq_true'] at h
    obtain ⟨⟨⟨⟨⟨⟨⟨⟨⟨⟨⟨h1, h2⟩, h3⟩, h4⟩, h5⟩, h6⟩, h7⟩, h8⟩, h9⟩, h10⟩, h11⟩, h12⟩ := h
    exact ss_par h1 h2 h3 h4 h5 h6 (chk_plain h7) (chk_plain h8) h9 h10 (es_ok G (.cons a (.cons b .nil)) _ c W (by simp only [chkEs, h7, h8]; rfl))
  | .ret a, x, c, W, h => by
    unfold chkS at h
    split at h <;> first | (exact absurd h Bool.false_ne_true) | (rename_i e; cases e)
    exact ss_ret (e_ok G _ _ c W h).1
  | .retN, x, c, W, h => by
    unfold chkS at h
    split at h <;> first | (exact absurd h Bool.false_ne_true) | (rename_i e; cases e)
    exact ss_retN
  | .expr a, x, c, W, h => by
    unfold chkS at h
    split at h <;> first | (exact absurd h Bool.false_ne_true) | (rename_i e; cases e)
    simp only [Bool.and_eq_true, Bool.not_eq_true'] at h
    exact ss_expr (chk_plain h.1) h.2 (e_ok G _ _ c W h.1).1
  | .doc, x, c, W, h => by
    unfold chkS at h
    split at h <;> first | (exact absurd h Bool.false_ne_true) | (rename_i e; cases e)
    exact ss_doc
  | .ifs a p q, x, c, W, h => by
    unfold chkS at h
    split at h <;> first | (exact absurd h Bool.false_ne_true) | (rename_i e; cases e)
    simp only [Bool.and_eq_true] at h
    exact ss_ifs (e_ok G _ _ c W h.1.1).2 (ss_ok _ _ c W h.1.2) (ss_ok _ _ c W h.2)
  | .fors mw t d b, x, c, W, h => by
    unfold chkS at h
    split at h <;> first | (exact absurd h Bool.false_ne_true) | (rename_i e; cases e)
    simp only [Bool.and_eq_true] at h
    obtain ⟨hp, sw⟩ := w_ok G _ _ c W h.1.1.1
    exact ss_for hp h.2 sw (sg_ok _ _ h.1.1.2) (ss_ok _ _ c W h.1.2)
  | .whiles a d b, x, c, W, h => by
    unfold chkS at h
    split at h <;> first | (exact absurd h Bool.false_ne_true) | (rename_i e; cases e)
    simp only [Bool.and_eq_true] at h
    exact ss_while (e_ok G _ _ c W h.1).2 (ss_ok _ _ c W h.2)
  | .pass, x, c, W, h => by
    unfold chkS at h
    split at h <;> first | (exact absurd h Bool.false_ne_true) | (rename_i e; cases e)
    exact ss_pass
  | .brk, x, c, W, h => by
    unfold chkS at h
    split at h <;> first | (exact absurd h Bool.false_ne_true) | (rename_i e; cases e)
    exact ss_brk
  | .cont, x, c, W, h => by
    unfold chkS at h
    split at h <;> first | (exact absurd h Bool.false_ne_true) | (rename_i e; cases e)
    exact ss_cont
  | .setix i p a, x, c, W, h => by
    unfold chkS at h
    split at h <;> first | (exact absurd h Bool.false_ne_true) | (rename_i e; cases e)
    simp only [Bool.and_eq_true] at h
    exact ss_setix h.1.1 (chk_plain h.1.2) (chk_plain h.2) (e_ok G _ _ c W h.1.2).1 (e_ok G _ _ c W h.2).1
  | .raise cn es, x, c, W, h => by simp [chkS] at h
  | .tryx b cn v s, x, c, W, h => by simp [chkS] at h
theorem ss_ok : ∀ (s : Ss) (x : List Stmt) (c : Cs) (W : WX), chkSs c s x = true → SSs T lv P w K mg base c W s x
  | .nil, [], c, W, h => ss_nil
  | .nil, _ :: _, c, W, h => by simp [chkSs] at h
  | .cons _ _, [], c, W, h => by simp [chkSs] at h
  | .cons s r, x :: xs, c, W, h => by
    simp only [chkSs, Bool.and_eq_true] at h
    exact ss_cons (s_ok s x c W h.1) (ss_ok r xs c W h.2)
end
end
end Kh

set_option Elab.async false
set_option linter.all false
set_option maxRecDepth 100000
set_option maxHeartbeats 2000000
/-! a def of the text does what its datum does; the table by levels -/
namespace Kh
open PySem PySem.Spec PyProof.Rows L2
section
variable {K : PySem.W.Frag} {Pr : List Addr} {H : Hp} {σ : L2.St} {ρ : En} {Sv : Foot}
theorem SR.ext (R : SR K Pr H σ ρ Sv) (k : Nat) : SR K Pr H (σ ++ List.replicate k none) (ρ ++ List.replicate k Slot.no) Sv := by
  have get : ∀ {i : Nat} {s : Slot}, (ρ ++ List.replicate k Slot.no)[i]? = some s → s ≠ .no → ρ[i]? = some s ∧ i < σ.length := fun {i s} e n => by
    by_cases h : i < ρ.length
    · rw [List.getElem?_append_left h] at e
      exact ⟨e, by rw [← R.len]; exact h⟩
    · rw [List.getElem?_append_right (by omega), List.getElem?_replicate] at e
      split at e
      · cases e; exact absurd rfl n
      · cases e
  refine ⟨by simp [R.len], fun i d e => ?_, fun i d e => ?_, fun i e => R.emp i fun d q => e d ?_, R.nd, R.dj, R.mu, R.pt, R.pa⟩
  · obtain ⟨e1, h⟩ := get e (by intro z; cases z)
    obtain ⟨v, e2, r⟩ := R.own i d e1
    exact ⟨v, by rw [List.getElem?_append_left h]; exact e2, r⟩
  · obtain ⟨e1, h⟩ := get e (by intro z; cases z)
    obtain ⟨v, M, e2, r⟩ := R.bor i d e1
    exact ⟨v, M, by rw [List.getElem?_append_left h]; exact e2, r⟩
  · rw [List.getElem?_append_left (List.getElem?_eq_some_iff.mp q).1]; exact q
theorem clear_get : ∀ {vs : List Nat} {i : Nat}, (clear vs ρ)[i]? = if i ∈ vs then (if i < ρ.length then some .no else none) else ρ[i]?
  | [], i => by simp [clear]
  | v :: vs, i => by
    have hl : (clear vs ρ).length = ρ.length := by
      clear clear_get
      induction vs with
      | nil => rfl
      | cons a r ih => simp [clear, ih]
    unfold clear
    by_cases h : v = i
    · subst h
      rw [List.getElem?_set]
      simp [hl]
    · rw [List.getElem?_set_ne h, clear_get (vs := vs) (i := i)]
      have : (i ∈ v :: vs) ↔ i ∈ vs := by
        rw [List.mem_cons]
        exact ⟨fun z => z.elim (fun e => absurd e.symm h) id, .inr⟩
      simp only [this]
/-- the parameters' places at the end -/
theorem SR.params {σ' : L2.St} {st : List Nat} {us : List (Option V)} {tl : List (Option V)} {n : Nat} (R : SR K Pr H σ' (Kh.clear st ρ) Sv) (O : Off st (us ++ tl) σ') (hn : us.length = n) : ∃ S', SR K Pr H us ((Kh.clear st ρ).take n) S' ∧ ∀ (i : Nat) (a : Addr), a ∈ S' i → a ∈ Sv i := by
  have hl : (Kh.clear st ρ).length = (us ++ tl).length := by rw [R.len, O.1]
  have get : ∀ {i : Nat} {s : Slot}, ((Kh.clear st ρ).take n)[i]? = some s → s ≠ .no → (Kh.clear st ρ)[i]? = some s ∧ i < n ∧ σ'[i]? = us[i]? := fun {i s} e ns => by
    rw [List.getElem?_take] at e
    split at e
    · rename_i h
      refine ⟨e, h, ?_⟩
      have m : i ∉ st := fun m => by
        rw [clear_get] at e
        simp only [m, if_true] at e
        split at e
        · cases e; exact ns rfl
        · cases e
      rw [O.2 i m, List.getElem?_append_left (by omega)]
    · cases e
  refine ⟨fun i => if i < n then Sv i else [], ⟨by rw [List.length_take, hl, List.length_append]; omega, fun i d e => ?_, fun i d e => ?_, fun i e => ?_, fun i => ?_, fun i j a m m' => ?_, fun i a m => ?_, fun i a m => ?_, R.pa⟩, fun i a m => ?_⟩
  · obtain ⟨e1, h, e2⟩ := get e (by intro z; cases z)
    obtain ⟨v, e3, r⟩ := R.own i d e1
    exact ⟨v, by rw [← e2]; exact e3, by rw [if_pos h]; exact r⟩
  · obtain ⟨e1, h, e2⟩ := get e (by intro z; cases z)
    obtain ⟨v, M, e3, r⟩ := R.bor i d e1
    exact ⟨v, M, by rw [← e2]; exact e3, r⟩
  · split
    · rename_i h
      exact R.emp i fun d q => e d (by rw [List.getElem?_take, if_pos h]; exact q)
    · rfl
  · split
    · exact R.nd i
    · exact List.nodup_nil
  · split at m
    · split at m'
      · exact R.dj i j a m m'
      · cases m'
    · cases m
  · split at m
    · exact R.mu i a m
    · cases m
  · split at m
    · exact R.pt i a m
    · cases m
  · dsimp only at m; split at m
    · exact m
    · cases m
end
section
variable {T : Tab} {lv : Nat} {P : Program} {w : World} {K : PySem.W.Frag} {mg : Str → Option Value} {base : Heap}
theorem fd_ok (G : Gl0 T lv P w K mg base) {x qual : Str} {args : Arguments} {body : List Stmt} {scope : Scope} {d : Fd} {N ps : List Str} {f : Addr} {fd : FuncData} {dvs : List V} {kws : List (Str × V)} (F : FunD K x qual args body scope dvs kws f fd) (S : FnScope N ps scope)
    (hps : ps.length = d.ps) (hn : N.length = d.n) (hc : chkSs ⟨N, scope, scope⟩ d.body body = true) : FnOk P w K mg base (L2.CX P w) (lv + 1) f fd ps (spF K mg ps.length (d.sem T)) := by
  refine F.ok S (fun vs H Q E h => h.1) fun cdv A outer s H vs Q E hr h => ?_
  obtain ⟨hl, as, Pr, Sv, R, hg⟩ := h
  obtain ⟨t, pt, et⟩ := ss_ok G d.body body ⟨N, scope, scope⟩ (fun cls dd _ H => E cls dd H) hc
  have gd : Gd lv ⟨N, scope, scope⟩ (fun cls dd _ H => E cls dd H) P w K mg base (cxOf (L2.CX P w) P w K mg base N qual scope f cdv A outer s H E) := by
    refine ⟨rfl, rfl, rfl, rfl, rfl, rfl, rfl, S.nd, rfl, ?_, hr, fun y hy => ⟨?_, .inl rfl⟩, takes_of rfl rfl rfl rfl⟩
    · have := hr.un
      show (A.deeper _).units + 100 < cLine
      omega
    · unfold Cs.loc isLoc at hy
      show L2.Loc scope y
      unfold L2.Loc
      have hy : (match scope.names.lookup y with
        | some .local => true
        | some .cell => true
        | _ => false) = true := hy
      split at hy
      · exact .inl (by assumption)
      · exact .inr (by assumption)
      · cases hy
  refine ⟨t, pt _ ⟨gd, passes_of rfl, S.kind⟩, ?_⟩
  have hla : as.length = vs.length := by have := R.len; simpa using this
  have hpN : ps.length ≤ N.length := by have := congrArg List.length S.pre; rw [List.length_take] at this; omega
  have hR := R.ext (N.length - vs.length)
  have hsem : as.length = d.ps := by rw [hla, hl, hps]
  refine et (start N vs) H (as ++ List.replicate (d.n - d.ps) .no) Sv Pr _ (by rw [← hn, ← hps, ← hl]; exact hR) ?_
  unfold Fd.sem at hg
  rw [if_pos hsem] at hg
  have fin : ∀ {σ' : L2.St} {e : En} {H' : Hp} {S' : Foot}, SR K Pr H' σ' e S' → Off d.body.stores (start N vs) σ' → ∃ S'', SR K Pr H' (vs.map some) ((clear d.body.stores e).take d.ps) S'' ∧ ∀ (i : Nat) (a : Addr), a ∈ S'' i → a ∈ S' i := fun {σ' e H' S'} R' O => by
    obtain ⟨S5, R5, w5⟩ := R'.clear d.body.stores
    obtain ⟨S6, R6, w6⟩ := R5.params (us := vs.map some) (tl := List.replicate (N.length - vs.length) none) (n := d.ps) O (by rw [List.length_map, hl, hps])
    exact ⟨S6, R6, fun i a m => w5 i a (w6 i a m)⟩
  have shr : ∀ {H' : Hp} {S' S'' : Foot}, Fr false H Sv H' S' → (∀ (i : Nat) (a : Addr), a ∈ S'' i → a ∈ S' i) → Fr false H Sv H' S'' := fun F h => ⟨F.keep, fun i a m => F.own i a (h i a m), fun e => nomatch e⟩
  cases hx : execs T d.body (as ++ List.replicate (d.n - d.ps) .no) with
  | bad => rw [hx] at hg; exact hg.elim
  | exc cc xx yy e =>
    rw [hx] at hg
    exact fun C dd σ' H' S' hm R' F' O' hex => hg C dd H' hm F'.keep hex
  | ok fl e =>
    rw [hx] at hg
    cases fl with
    | nx =>
      intro σ' H' S' R' F' O'
      obtain ⟨S'', R'', w''⟩ := fin R' O'
      exact hg .non H' S'' [] R'' (shr F' w'') (.im .non) Res.nil
    | rt v =>
      intro σ' H' S' R' F' O' vv L dr rs
      obtain ⟨S'', R'', w''⟩ := fin R' O'
      obtain ⟨n1, h1⟩ := rs.mine rfl
      exact hg vv H' S'' L R'' (shr F' w'') dr (Res.of ⟨n1, fun a m => ⟨fun i z => (h1 a m).1 i (w'' i a z), (h1 a m).2⟩⟩)
    | bk => exact hg.elim
    | ct => exact hg.elim
end

/-! ### the table by levels -/
noncomputable def tabL (fds : List (Str × Fd)) (gl : Str → Option I) : Nat → Tab
  | 0 => ⟨fun _ => none, gl⟩
  | k + 1 => ⟨fun f => (fds.lookup f).map fun d => d.sem (tabL fds gl k), gl⟩
/-- what the head tells -/
structure Hd (fds : List (Str × Fd)) (gl : Str → Option I) (K : PySem.W.Frag) (mg : Str → Option Value) : Prop where
  blt : ∀ x ∈ builtins, mg x = none
  gl : ∀ x v, gl x = some v → ∃ vv u, mg x = some u ∧ RelV vv u ∧ ∀ H, IR K H v vv
  fn : ∀ f d, fds.lookup f = some d → ∃ x qual args body scope a fd N ps, FunD K x qual args body scope [] [] a fd ∧ mg f = some (.ref a) ∧ Binds K fd ps [] ∧ FnScope N ps scope ∧ ps.length = d.ps ∧ N.length = d.n ∧ chkSs ⟨N, scope, scope⟩ d.body body = true
theorem gl_all {fds : List (Str × Fd)} {gl : Str → Option I} {P : Program} {w : World} {K : PySem.W.Frag} {mg : Str → Option Value} {base : Heap} (h : Hd fds gl K mg) : ∀ k, Gl0 (tabL fds gl k) k P w K mg base
  | 0 => ⟨h.blt, h.gl, fun f g e => nomatch e⟩
  | k + 1 => ⟨h.blt, h.gl, fun f g e => by
      have ih := gl_all (P := P) (w := w) (base := base) h k
      have e : (fds.lookup f).map (fun d => d.sem (tabL fds gl k)) = some g := e
      cases q : fds.lookup f with
      | none => rw [q] at e; cases e
      | some d =>
        rw [q] at e
        cases e
        obtain ⟨x, qual, args, body, scope, a, fd, N, ps, F, hm, hb, S, hps, hn, hc⟩ := h.fn f d q
        refine ⟨a, fd, ps, hm, F.kp, hb, fd_ok ih F S hps hn hc, fun as z => ?_⟩
        simp only [Fd.sem] at z
        split at z
        · rename_i hl
          rw [hl, hps]
        · exact absurd rfl z⟩
end Kh

set_option Elab.async false
set_option linter.all false
set_option maxRecDepth 100000
set_option maxHeartbeats 2000000
/-! from the top's facts to the table; the law's end -/
namespace Kh
open PySem PySem.Spec PyProof.Rows L2

/-! ### what never changes, among the top's values -/
mutual
def relI (K : PySem.W.Frag) : I → Value → Bool
  | .non, .none => true
  | .bl b, .bool d => b == d
  | .int i, .int j _ => decide (i = j)
  | .str s, .str t _ => decide (s = t)
  | .tup xs, .ref a => (match K.lookup a with
    | some ⟨.type n, _, .seq its _, _⟩ => decide (n = "tuple") && (decide (its.size ≤ sizeLine) && relIs K xs its.toList)
    | _ => false)
  | _, _ => false
def relIs (K : PySem.W.Frag) : List I → List Value → Bool
  | [], [] => true
  | x :: xs, u :: us => relI K x u && relIs K xs us
  | _, _ => false
end
mutual
theorem relI_ok {K : PySem.W.Frag} : ∀ (x : I) (u : Value), relI K x u = true → ∃ vv, RelV vv u ∧ ∀ H, IR K H x vv
  | .non, u, h => by
    cases u <;> first | exact ⟨.non, rfl, fun _ => .non⟩ | exact absurd h Bool.false_ne_true
  | .bl b, u, h => by
    cases u <;> first | exact absurd h Bool.false_ne_true | skip
    cases eq_of_beq h
    exact ⟨.bl _, rfl, fun _ => .bl _⟩
  | .int i, u, h => by
    cases u <;> first | exact absurd h Bool.false_ne_true | skip
    cases of_decide_eq_true h
    exact ⟨.int _, ⟨_, rfl⟩, fun _ => .int _⟩
  | .str s, u, h => by
    cases u <;> first | exact absurd h Bool.false_ne_true | skip
    cases of_decide_eq_true h
    exact ⟨.str _, ⟨_, rfl⟩, fun _ => .str _⟩
  | .tup xs, u, h => by
    cases u <;> first | exact absurd h Bool.false_ne_true | skip
    rename_i a
    cases q : K.lookup a with
    | none => simp [relI, q] at h
    | some o =>
      obtain ⟨oc, od, dt, osl⟩ := o
      cases oc with
      | type n =>
        cases dt with
        | seq its m =>
          simp only [relI, q, Bool.and_eq_true, decide_eq_true_eq] at h
          obtain ⟨h1, h2, h3⟩ := h
          obtain ⟨vs, r1, r2⟩ := relIs_ok xs its.toList h3
          exact ⟨.ref a, rfl, fun H => .tup (.inr ⟨_, its, m, q, by rw [h1], rfl, h2, r1⟩) (r2 H)⟩
        | _ => simp [relI, q] at h
      | _ => simp [relI, q] at h
theorem relIs_ok {K : PySem.W.Frag} : ∀ (xs : List I) (us : List Value), relIs K xs us = true → ∃ vs, Vals vs us ∧ ∀ H, IRs K H xs vs
  | [], [], _ => ⟨[], .nil, fun _ => .nil⟩
  | [], _ :: _, h => absurd h Bool.false_ne_true
  | _ :: _, [], h => absurd h Bool.false_ne_true
  | x :: xs, u :: us, h => by
    simp only [relIs, Bool.and_eq_true] at h
    obtain ⟨v, a1, a2⟩ := relI_ok x u h.1
    obtain ⟨vs, b1, b2⟩ := relIs_ok xs us h.2
    exact ⟨v :: vs, .cons a1 b1, fun H => .cons (a2 H) (b2 H)⟩
end
def glB (K : PySem.W.Frag) (q : Str × I) : Bool := match PySem.W.nsIn K mainGlobals q.1 with
  | some (some u) => relI K q.2 u
  | _ => false
theorem glB_ok {K : PySem.W.Frag} {h : Heap} {mg : Str → Option Value} (X : K.In h) (G : h.Ns mainGlobals mg) {x : Str} {i : I} (e : glB K (x, i) = true) : ∃ vv u, mg x = some u ∧ RelV vv u ∧ ∀ H, IR K H i vv := by
  unfold glB at e
  split at e
  · rename_i u q
    obtain ⟨vv, a, b⟩ := relI_ok i u e
    exact ⟨vv, u, PySem.W.mg_of X G q, a, b⟩
  · cases e

/-! ### the defs of the text, as data -/
structure DD where
  x : Str
  args : Arguments
  body : List Stmt
  scope : Scope
  fd : Fd
  N : List Str
  ps : List Str
def DD.dd (d : DD) : He.DefD := ⟨(d.x, none), d.x, d.x, d.args, d.body, d.scope, [], []⟩
/-- a def's names stand as a body wants them -/
def scD (N ps : List Str) (sc : Scope) : Bool :=
  (((match sc.kind with | .function => true | _ => false) && !sc.isCoroutine) && (!sc.isGenerator && decide N.Nodup)) && (decide (N.take ps.length = ps) && (ps.all (fun x => isLoc (sc.names.lookup x)) && sc.names.all fun y => !decide (y.2 = .free)))
theorem scD_ok {N ps : List Str} {sc : Scope} (h : scD N ps sc = true) : FnScope N ps sc := by
  unfold scD at h
  simp only [Bool.and_eq_true, Bool.not_eq_true', decide_eq_true_eq, List.all_eq_true, decide_eq_false_iff_not] at h
  obtain ⟨⟨⟨h1, h2⟩, h3, h4⟩, h5, h6, h7⟩ := h
  refine ⟨?_, h2, h3, h4, h5, fun x m => ?_, h7⟩
  · split at h1
    · assumption
    · cases h1
  · have z := h6 x m
    unfold isLoc at z
    split at z
    · exact .inl (by assumption)
    · exact .inr (by assumption)
    · cases z
theorem lookup_in {α : Type} {x : Str} {v : α} : ∀ {l : List (Str × α)}, l.lookup x = some v → (x, v) ∈ l
  | [], h => by cases h
  | (y, u) :: r, h => by
    rw [List.lookup_cons] at h
    cases q : (x == y) with
    | true =>
      rw [q] at h
      rw [eq_of_beq q, Option.some.inj h]
      exact List.mem_cons_self
    | false =>
      rw [q] at h
      exact List.mem_cons_of_mem _ (lookup_in h)
def DD.okB (d : DD) : Bool := scD d.N d.ps d.scope && decide (d.ps.length = d.fd.ps) && decide (d.N.length = d.fd.n) && chkSs ⟨d.N, d.scope, d.scope⟩ d.fd.body d.body
def DD.Bnd (d : DD) : Prop := ∀ (kV doc pm : Value) (an : Option Addr) (cdv ct : Value) (us : List Value), us.length = d.ps.length → bindArgs (PySem.W.fnOf d.x d.x d.args d.body d.scope .none kV doc pm an cdv ct) ⟨us, []⟩ = pure (d.ps.zip us)
def AllD : List DD → Prop
  | [] => True
  | d :: r => (d.okB = true ∧ d.Bnd) ∧ AllD r
theorem AllD.mem : ∀ {l : List DD} {d : DD}, AllD l → d ∈ l → d.okB = true ∧ d.Bnd
  | _ :: _, _, h, m => by
    rcases List.mem_cons.mp m with rfl | m
    · exact h.1
    · exact AllD.mem h.2 m
def fdsOf (l : List DD) : List (Str × Fd) := l.map fun d => (d.x, d.fd)
def factsOf (l : List DD) : List He.Fa := builtins.map .free ++ l.map fun d => .glo d.x
theorem lookup_fds : ∀ {l : List DD} {f : Str} {g : Fd}, (fdsOf l).lookup f = some g → ∃ d ∈ l, d.x = f ∧ d.fd = g
  | [], _, _, h => by cases h
  | d :: r, f, g, h => by
    unfold fdsOf at h
    rw [List.map_cons, List.lookup_cons] at h
    cases q : (f == d.x) with
    | true =>
      rw [q] at h
      exact ⟨d, List.mem_cons_self, (eq_of_beq q).symm, Option.some.inj h⟩
    | false =>
      rw [q] at h
      obtain ⟨d', m, e⟩ := lookup_fds (l := r) h
      exact ⟨d', List.mem_cons_of_mem _ m, e⟩
theorem hd_of {defs : List DD} {gls : List (Str × I)} {K : PySem.W.Frag} {h : Heap} {mg : Str → Option Value} (X : K.In h) (G : h.Ns mainGlobals mg) (ok : AllD defs) (c : He.SaysD (factsOf defs) (defs.map DD.dd) K) (e : gls.all (glB K) = true) : Hd (fdsOf defs) (fun x => gls.lookup x) K mg := by
  refine ⟨fun x m => He.free_ok X G (c.facts (f := .free x) (List.mem_append_left _ (List.mem_map_of_mem m))), fun x v q => ?_, fun f d q => ?_⟩
  · exact glB_ok X G (List.all_eq_true.mp e (x, v) (lookup_in q))
  · obtain ⟨dd, m, rfl, rfl⟩ := lookup_fds q
    obtain ⟨o1, o2⟩ := ok.mem m
    obtain ⟨fd, F⟩ := c.defs (d := dd.dd) (List.mem_map_of_mem m)
    have hg := He.glo_ok X G (c.facts (f := .glo dd.x) (List.mem_append_right _ (List.mem_map_of_mem (f := fun d => He.Fa.glo d.x) m)))
    unfold DD.okB at o1
    simp only [Bool.and_eq_true, decide_eq_true_eq] at o1
    exact ⟨dd.x, dd.x, dd.args, dd.body, dd.scope, _, fd, dd.N, dd.ps, F, hg, FunD.bindsN F o2, scD_ok o1.1.1.1, o1.1.1.2, o1.1.2, o1.2⟩

/-! ### the law's end -/
theorem walk_EB {l : PySem.W.OpenLaw} {n k : Nat} {q : Program} {loose : List Str} {XP : (Str → Option Value) → Heap → Prop} {YP : World → Heap → Prop} {d : DefRec} {x : Str}
    (hn : l.most = some n) (hn2 : n ≤ sizeLine) (hdf : d.params.defaults = []) (hr : Room k callerA)
    (F : ∀ (w : World) (mg : Str → Option Value) (fa : Addr) (h : Heap), YP w h → h.Ns mainGlobals mg → mg d.name = some (.ref fa) →
      ∃ (K : PySem.W.Frag) (fd : FuncData) (sp : Sp), K.In h ∧ (∀ (s : Shared) (u : Value), BindsTo s fd ⟨[u], []⟩ [(x, u)]) ∧
        (∀ (H : Hp) (a : Addr) (ns : List Int), ns.length ≤ n → (∀ z ∈ ns, Builtin.Int.intBits z ≤ 1048576) → Only H → SqL K H a (ns.map V.int) → sp [.ref a] H (fun v _ => v = .bl true) fun _ _ _ => False) ∧
        ∀ base : Heap, K.In base → base.Ns mainGlobals mg → FnOk l.prog w K mg base (L2.CX l.prog w) k fa fd [x] sp) :
    PySem.W.WalkO q loose XP YP l.row.toRowW d [] (fun f vs => PySem.call f vs) := by
  refine Att.attach_callB hn hdf fun w s₀ s₁ mg mb fa o pm cd doc a vs ns G Y ho hd hcd hmg hobj hints hlen hbits hg => ?_
  obtain ⟨K, fd, sp, KX, hb, hsp, hF⟩ := F w mg fa _ Y G.T.g hmg
  refine law_call KX G.T.g G.T.b G.T.builtins G.T.nolimit hg hobj hints (Nat.le_trans hlen hn2) hr hF hb (fun H hO hS => hsp H a ns hlen hbits hO hS) fun H e s' z => ?_
  obtain ⟨_, _, _, _, _, _, _, _, _, _, _, _, z⟩ := z
  exact z
theorem sqF_of {K : PySem.W.Frag} {H : Hp} {a : Addr} {xs : List V} (o : Only H) (h : SqL K H a xs) : SqF K H a xs := by
  rcases h with (h | ⟨u, h⟩) | h
  · rcases o a with e | ⟨u, ys, e⟩
    · rw [e] at h; cases h
    · rw [e] at h; cases h
  · exact .inl ⟨u, h⟩
  · exact .inr h
/-- a law keeps its word if its datum says so at every script -/
theorem law_sp {K : PySem.W.Frag} {mg : Str → Option Value} {g : Fn} {H : Hp} {a : Addr} {ns : List Int} (o : Only H) (h : SqL K H a (ns.map V.int)) (e : ∃ fin, g [.own (.scr ns)] = .ok (.im (.bl true)) fin) : spF K mg 1 g [.ref a] H (fun v _ => v = .bl true) fun _ _ _ => False := by
  obtain ⟨fin, e⟩ := e
  refine ⟨rfl, [.own (.scr ns)], [], fun _ => [], ⟨rfl, fun i d q => ?_, fun i d q => ?_, fun _ _ => rfl, fun _ => List.nodup_nil, fun _ _ _ m => absurd m List.not_mem_nil, fun _ _ m => absurd m List.not_mem_nil, fun _ _ m => absurd m List.not_mem_nil, fun _ m => absurd m List.not_mem_nil⟩, ?_⟩
  · cases i with
    | zero =>
      cases q
      exact ⟨.ref a, rfl, .scr (sqF_of o h)⟩
    | succ i => cases q
  · cases i with
    | zero => cases q
    | succ i => cases q
  · rw [e]
    intro v H' S' L R F dr rs
    exact dr.bl_inv
end Kh

set_option Elab.async false
set_option linter.all false
set_option maxRecDepth 100000
set_option maxHeartbeats 2000000
/-! running a datum: lemmas for plain laws -/
namespace Kh
open PySem L2
theorem lcGo_fm {α : Type} {turn : D → En → Out (Option D)} (g : α → D) (f : α → Option D) (e0 : En) : ∀ l : List α, (∀ a ∈ l, turn (g a) e0 = .ok (f a) e0) → lcGo turn (l.map g) e0 = .ok (l.filterMap f) e0
  | [], _ => rfl
  | a :: l, h => by
    have ih := lcGo_fm g f e0 l fun b m => h b (List.mem_cons_of_mem _ m)
    rw [List.map_cons]
    unfold lcGo
    rw [h a List.mem_cons_self]
    simp only [Out.bind, ih]
    rw [List.filterMap_cons]
    cases f a <;> rfl
theorem lcGo_map {α : Type} {turn : D → En → Out (Option D)} (g f : α → D) (e0 : En) (l : List α) (h : ∀ a ∈ l, turn (g a) e0 = .ok (some (f a)) e0) : lcGo turn (l.map g) e0 = .ok (l.map f) e0 := by
  rw [lcGo_fm g (fun a => some (f a)) e0 l h, List.filterMap_eq_map']
/-- a comprehension whose turns change a state that rides in the places -/
theorem lcGo_st {α σ : Type} {turn : D → En → Out (Option D)} (g : α → D) (E : σ → En) (Inv : σ → Prop) (Rel : D → Prop) : ∀ (l : List α) (s : σ), Inv s → (∀ a ∈ l, ∀ s, Inv s → ∃ y s', turn (g a) (E s) = .ok (some y) (E s') ∧ Inv s' ∧ Rel y) →
    ∃ ys s', lcGo turn (l.map g) (E s) = .ok ys (E s') ∧ Inv s' ∧ ys.length = l.length ∧ ∀ y ∈ ys, Rel y
  | [], s, i, _ => ⟨[], s, rfl, i, rfl, fun _ m => absurd m List.not_mem_nil⟩
  | a :: l, s, i, h => by
    obtain ⟨y, s1, h1, i1, r1⟩ := h a List.mem_cons_self s i
    obtain ⟨ys, s2, h2, i2, l2, r2⟩ := lcGo_st g E Inv Rel l s1 i1 fun b m => h b (List.mem_cons_of_mem _ m)
    refine ⟨y :: ys, s2, ?_, i2, by simp [l2], fun z m => ?_⟩
    · rw [List.map_cons]
      unfold lcGo
      rw [h1]
      simp only [Out.bind, h2]
    · rcases List.mem_cons.mp m with rfl | m
      · exact r1
      · exact r2 z m
theorem forGo_st {α σ : Type} {turn : D → En → Out Fl} (g : α → D) (E : σ → En) (step : σ → α → σ) (Inv : List α → σ → Prop) : ∀ (l : List α) (s : σ), Inv l s → (∀ a r s, Inv (a :: r) s → turn (g a) (E s) = .ok .nx (E (step s a)) ∧ Inv r (step s a)) →
    forGo turn (l.map g) (E s) = .ok .nx (E (l.foldl step s)) ∧ Inv [] (l.foldl step s)
  | [], s, i, _ => ⟨rfl, i⟩
  | a :: l, s, i, h => by
    obtain ⟨h1, i1⟩ := h a l s i
    obtain ⟨h2, i2⟩ := forGo_st g E step Inv l (step s a) i1 h
    refine ⟨?_, i2⟩
    rw [List.map_cons]
    unfold forGo
    rw [h1]
    exact h2
end Kh

set_option Elab.async false
set_option linter.all false
set_option maxRecDepth 100000
set_option maxHeartbeats 2000000
/-! the evaluator's rows as rewriting rules (loops and comprehensions apart) -/
namespace Kh
open PySem L2
variable {T : Tab}
theorem bo : (∀ {α β : Type} (a : α) (e : En) (f : α → En → Out β), (Out.ok a e).bind f = f a e) ∧ (∀ {α β : Type} (c : Str) (x y : I) (e : En) (f : α → En → Out β), (Out.exc c x y e).bind f = .exc c x y e) ∧ ∀ {α β : Type} (f : α → En → Out β), (Out.bad : Out α).bind f = .bad := ⟨fun _ _ _ => rfl, fun _ _ _ _ _ => rfl, fun _ => rfl⟩
theorem ev : (∀ i own e, evalE T (.var i) own e = readS i own e) ∧ (∀ x own e, evalE T (.cst x) own e = .ok (.im x) e) ∧ (∀ x own e, evalE T (.glob x) own e = lift ((T.gl x).map .im) e) ∧
    (∀ es own e, evalE T (.tup es) own e = (evalEs T es e).bind fun ds e => .ok (mkTup ds) e) ∧ (∀ es own e, evalE T (.lst es) own e = (evalEs T es e).bind fun ds e => .ok (.lst ds) e) ∧ (∀ own e, evalE T .dnew own e = .ok (.dct false []) e) ∧
    (∀ op a b own e, evalE T (.bin op a b) own e = (evalE T a false e).bind fun x e => still x b.pure ((evalE T b false e).bind fun y e => lift (binD op x y) e)) ∧
    (∀ a own e, evalE T (.neg a) own e = (evalE T a false e).bind fun x e => (asInt x e).bind fun i e => .ok (.im (.int (-i))) e) ∧
    (∀ a own e, evalE T (.not a) own e = (evalE T a false e).bind fun x e => (asBool x e).bind fun b e => .ok (.im (.bl (!b))) e) ∧
    (∀ op a b own e, evalE T (.cmp op a b) own e = (evalE T a false e).bind fun x e => still x b.pure ((evalE T b false e).bind fun y e => lift ((cmpD op x y).map fun b => .im (.bl b)) e)) ∧
    (∀ o1 o2 a b c own e, evalE T (.chain o1 o2 a b c) own e = (evalE T a false e).bind fun x e => (asInt x e).bind fun i e => (evalE T b false e).bind fun y e => (asInt y e).bind fun j e =>
      if cmpI o1 i j then (evalE T c false e).bind fun z e => (asInt z e).bind fun k e => .ok (.im (.bl (cmpI o2 j k))) e else .ok (.im (.bl false)) e) ∧
    (∀ a own e, evalE T (.one a) own e = evalE T a own e) ∧
    (∀ a b own e, evalE T (.and a b) own e = (evalE T a false e).bind fun x e => (asBool x e).bind fun k e => if k then evalE T b own e else .ok (.im (.bl false)) e) ∧
    (∀ a b own e, evalE T (.or a b) own e = (evalE T a false e).bind fun x e => (asBool x e).bind fun k e => if k then .ok (.im (.bl true)) e else evalE T b own e) ∧
    (∀ c a b own e, evalE T (.ite c a b) own e = (evalT T c e).bind fun k e => if k then evalE T a own e else evalE T b own e) ∧
    (∀ a b own e, evalE T (.ix a b) own e = (evalE T a false e).bind fun x e => (still x b.pure ((evalE T b false e).bind fun y e => lift (ixD x y) e)).bind fun d e => needIm own d e) ∧
    (∀ a lo hi own e, evalE T (.sl a lo hi) own e = (evalE T a false e).bind fun x e => (still x (lo.pure && hi.pure) ((evalO T lo e).bind fun l e => (evalO T hi e).bind fun h e => lift (slD x l h) e)).bind fun d e => needIm own d e) ∧
    (∀ f es own e, evalE T (.call f es) own e = match T.fn f with
      | some g => (evalAs T es e).bind fun as e => callF g as e
      | none => .bad) ∧
    (∀ f a own e, evalE T (.bi f (.cons a .nil)) own e = (evalE T a false e).bind fun x e => lift (biD f [x]) e) ∧
    (∀ f a b own e, evalE T (.bi f (.cons a (.cons b .nil))) own e = (evalE T a false e).bind fun x e => still x b.pure ((evalE T b false e).bind fun y e => lift (biD f [x, y]) e)) ∧
    (∀ m r es own e, evalE T (.me m r es) own e = (evalE T r false e).bind fun x e => if meOk m x then still x es.pure ((evalBs T es e).bind fun xs e => lift (meD m x xs) e) else .bad) ∧
    (∀ m i es own e, evalE T (.mut m i es) own e = if Mm.sup m = false then .bad else match e[i]? with
      | some (.own (.lst _)) => (evalEs T es e).bind fun ds e => (match e[i]? with
        | some (.own d) => (match mutD m d ds with
          | some (r, d') => .ok r (e.set i (.own d'))
          | none => .bad)
        | _ => .bad)
      | _ => .bad) := by
  refine ⟨?_, ?_, ?_, ?_, ?_, ?_, ?_, ?_, ?_, ?_, ?_, ?_, ?_, ?_, ?_, ?_, ?_, ?_, ?_, ?_, ?_, ?_⟩ <;> intros <;> simp only [evalE] <;> rfl
def argS (T : Tab) (a : E) (e : En) : Out (Slot × Option Nat) := match a with
  | .var i => lendS i e
  | a => (evalE T a true e).bind fun x e => .ok (Slot.own x, none) e
theorem args : (∀ i e, argS T (.var i) e = lendS i e) ∧
    (∀ i e, argS T (.cst i) e = (evalE T (.cst i) true e).bind fun x e => .ok (Slot.own x, none) e) ∧
    (∀ i e, argS T (.glob i) e = (evalE T (.glob i) true e).bind fun x e => .ok (Slot.own x, none) e) ∧
    (∀ es e, argS T (.tup es) e = (evalE T (.tup es) true e).bind fun x e => .ok (Slot.own x, none) e) ∧
    (∀ es e, argS T (.lst es) e = (evalE T (.lst es) true e).bind fun x e => .ok (Slot.own x, none) e) ∧
    (∀ e, argS T .dnew e = (evalE T .dnew true e).bind fun x e => .ok (Slot.own x, none) e) ∧
    (∀ op a b e, argS T (.bin op a b) e = (evalE T (.bin op a b) true e).bind fun x e => .ok (Slot.own x, none) e) ∧
    (∀ a e, argS T (.neg a) e = (evalE T (.neg a) true e).bind fun x e => .ok (Slot.own x, none) e) ∧
    (∀ c a b e, argS T (.ite c a b) e = (evalE T (.ite c a b) true e).bind fun x e => .ok (Slot.own x, none) e) ∧
    (∀ a b e, argS T (.ix a b) e = (evalE T (.ix a b) true e).bind fun x e => .ok (Slot.own x, none) e) ∧
    (∀ a lo hi e, argS T (.sl a lo hi) e = (evalE T (.sl a lo hi) true e).bind fun x e => .ok (Slot.own x, none) e) ∧
    (∀ f es e, argS T (.call f es) e = (evalE T (.call f es) true e).bind fun x e => .ok (Slot.own x, none) e) ∧
    (∀ f es e, argS T (.bi f es) e = (evalE T (.bi f es) true e).bind fun x e => .ok (Slot.own x, none) e) ∧
    (∀ m r es e, argS T (.me m r es) e = (evalE T (.me m r es) true e).bind fun x e => .ok (Slot.own x, none) e) ∧
    (∀ op a b e, argS T (.cmp op a b) e = (evalE T (.cmp op a b) true e).bind fun x e => .ok (Slot.own x, none) e) ∧
    (∀ m i es e, argS T (.mut m i es) e = (evalE T (.mut m i es) true e).bind fun x e => .ok (Slot.own x, none) e) ∧
    (∀ w tg own c elt e, argS T (.lc w tg own c elt) e = (evalE T (.lc w tg own c elt) true e).bind fun x e => .ok (Slot.own x, none) e) ∧
    (∀ a b e, argS T (.and a b) e = (evalE T (.and a b) true e).bind fun x e => .ok (Slot.own x, none) e) ∧
    (∀ a b e, argS T (.or a b) e = (evalE T (.or a b) true e).bind fun x e => .ok (Slot.own x, none) e) ∧
    (∀ a e, argS T (.not a) e = (evalE T (.not a) true e).bind fun x e => .ok (Slot.own x, none) e) := by
  refine ⟨?_, ?_, ?_, ?_, ?_, ?_, ?_, ?_, ?_, ?_, ?_, ?_, ?_, ?_, ?_, ?_, ?_, ?_, ?_, ?_⟩ <;> intros <;> rfl
theorem evs : (∀ e, evalEs T .nil e = .ok [] e) ∧ (∀ a r e, evalEs T (.cons a r) e = (evalE T a true e).bind fun x e => (evalEs T r e).bind fun xs e => .ok (x :: xs) e) ∧
    (∀ e, evalBs T .nil e = .ok [] e) ∧ (∀ a r e, evalBs T (.cons a r) e = (evalE T a false e).bind fun d e => (asIm d e).bind fun x e => (evalBs T r e).bind fun xs e => .ok (x :: xs) e) ∧
    (∀ e, evalAs T .nil e = .ok [] e) ∧ (∀ a r e, evalAs T (.cons a r) e = (argS T a e).bind fun s e => (evalAs T r e).bind fun ss e => .ok (s :: ss) e) ∧
    (∀ e, evalO T .no e = .ok none e) ∧ (∀ a e, evalO T (.so a) e = (evalE T a false e).bind fun x e => (asInt x e).bind fun i e => .ok (some i) e) ∧
    (∀ e, evalC T .no e = .ok true e) ∧ (∀ a e, evalC T (.so a) e = evalT T a e) ∧
    (∀ a e, evalT T (.not a) e = (evalT T a e).bind fun b e => .ok (!b) e) ∧ (∀ a e, evalT T (.one a) e = evalT T a e) ∧
    (∀ a b e, evalT T (.and a b) e = (evalT T a e).bind fun k e => if k then evalT T b e else .ok false e) ∧ (∀ a b e, evalT T (.or a b) e = (evalT T a e).bind fun k e => if k then .ok true e else evalT T b e) ∧
    (∀ op a b e, evalT T (.cmp op a b) e = (evalE T (.cmp op a b) false e).bind fun x e => asBool x e) ∧ (∀ o1 o2 a b c e, evalT T (.chain o1 o2 a b c) e = (evalE T (.chain o1 o2 a b c) false e).bind fun x e => asBool x e) ∧
    (∀ i e, evalT T (.var i) e = (evalE T (.var i) false e).bind fun x e => asBool x e) ∧ (∀ i e, evalT T (.cst i) e = (evalE T (.cst i) false e).bind fun x e => asBool x e) ∧
    (∀ f es e, evalT T (.call f es) e = (evalE T (.call f es) false e).bind fun x e => asBool x e) ∧ (∀ a b e, evalT T (.ix a b) e = (evalE T (.ix a b) false e).bind fun x e => asBool x e) ∧
    (∀ a e, evalW T (.it a) e = (evalE T a false e).bind fun x e => lift (wkD x) e) ∧ (∀ a e, evalW T (.rev a) e = (evalE T a false e).bind fun x e => lift ((wkD x).map List.reverse) e) ∧
    (∀ es e, evalW T (.range es) e = if es.len = 0 ∨ 2 < es.len then .bad else (evalEs T es e).bind fun ds e => (match ds with
      | [.im (.int j)] => if j ≤ 1000000 ∧ -1000000 ≤ j then .ok (rangeL 0 j.toNat) e else .bad
      | [.im (.int i), .im (.int j)] => if (j ≤ 1000000 ∧ -1000000 ≤ j) ∧ (i ≤ 1000000 ∧ -1000000 ≤ i) then .ok (rangeL i (j - i).toNat) e else .bad
      | _ => .bad)) := by
  refine ⟨?_, ?_, ?_, ?_, ?_, ?_, ?_, ?_, ?_, ?_, ?_, ?_, ?_, ?_, ?_, ?_, ?_, ?_, ?_, ?_, ?_, ?_, ?_⟩
  case refine_6 => intro a r e; cases a <;> (simp only [evalAs] <;> rfl)
  all_goals intros
  all_goals first | rfl | (simp only [evalEs]; done) | (simp only [evalBs]; done) | (simp only [evalAs] <;> rfl) | (simp only [evalO]; done) | (simp only [evalC]; done) | (simp only [evalT]; done) | (simp only [evalW] <;> rfl)
theorem exs : (∀ i a e, exec T (.setv i a) e = (evalE T a true e).bind fun d e => if i < e.length then .ok .nx (e.set i (.own d)) else .bad) ∧
    (∀ t a e, exec T (.asg t a) e = (evalE T a true e).bind fun d e => (lift (bindT t d false e) e).bind fun e' _ => .ok .nx e') ∧
    (∀ i j a b e, exec T (.par i j a b) e = (evalEs T (.cons a (.cons b .nil)) e).bind fun ds e => (match ds with
      | [x, y] => if i < e.length ∧ j < e.length then .ok .nx ((e.set i (.own x)).set j (.own y)) else .bad
      | _ => .bad)) ∧
    (∀ a e, exec T (.ret a) e = (evalE T a true e).bind fun d e => .ok (.rt d) e) ∧ (∀ e, exec T .retN e = .ok (.rt (.im .non)) e) ∧ (∀ a e, exec T (.expr a) e = (evalE T a false e).bind fun _ e => .ok .nx e) ∧
    (∀ e, exec T .doc e = .ok .nx e) ∧ (∀ e, exec T .pass e = .ok .nx e) ∧ (∀ e, exec T .brk e = .ok .bk e) ∧ (∀ e, exec T .cont e = .ok .ct e) ∧
    (∀ c a b e, exec T (.ifs c a b) e = (evalT T c e).bind fun k e => if k then execs T a e else execs T b e) ∧
    (∀ i p a e, exec T (.setix i (.cons p .nil) a) e = (evalE T a true e).bind fun v e => (match e[i]? with
      | some (.own (.im _)) => .bad
      | some (.own _) => (evalE T p false e).bind fun k e => (match e[i]? with
        | some (.own d) => (match setD d k v with
          | some d' => .ok .nx (e.set i (.own d'))
          | none => .bad)
        | _ => .bad)
      | _ => .bad)) ∧
    (∀ e, execs T .nil e = .ok .nx e) ∧ (∀ s r e, execs T (.cons s r) e = match exec T s e with
      | .ok .nx e => execs T r e
      | o => o) := by
  refine ⟨?_, ?_, ?_, ?_, ?_, ?_, ?_, ?_, ?_, ?_, ?_, ?_, ?_, ?_⟩
  all_goals intros
  all_goals first | (simp only [exec]; done) | (simp only [execs]; done) | (simp only [exec] <;> rfl) | (simp only [execs] <;> rfl)
theorem lc_eq {w : Wk} {tg : Tg} {own : List (Str × Nat)} {c : Eo} {elt : E} {b : Bool} {e e1 e2 : En} {xs ys : List D} (hw : evalW T w e = .ok xs e1) (hl : xs.length ≤ big)
    (hg : lcGo (lcT T tg (own.map (·.2)) c elt) xs (clear (own.map (·.2)) (lockAll w.src e1)) = .ok ys e2) : evalE T (.lc w tg own c elt) b e = .ok (.lst ys) (settle e1 w.src (own.map (·.2)) (own.map (·.2)) e2) := by
  simp only [evalE, hw, bo, hl, if_true]
  show (lcGo (lcT T tg (own.map (·.2)) c elt) xs (clear (own.map (·.2)) (lockAll w.src e1))).bind _ = _
  rw [hg]
  rfl
theorem for_eq {w : Wk} {t : Tg} {dead : List Nat} {body : Ss} {e e1 e2 : En} {xs : List D} {f : Fl} (hw : evalW T w e = .ok xs e1) (hg : forGo (forT T t dead body) xs (clear dead (lockAll w.src e1)) = .ok f e2) :
    exec T (.fors w t dead body) e = .ok f (settle e1 w.src (t.slots ++ body.stores) [] e2) := by
  simp only [exec, hw, bo]
  show settleF e1 w.src (t.slots ++ body.stores) (forGo (forT T t dead body) xs (clear dead (lockAll w.src e1))) = _
  rw [hg]
  rfl
theorem lc_to {w : Wk} {tg : Tg} {own : List (Str × Nat)} {c : Eo} {elt : E} {b : Bool} {e e0 e1 e2 e3 : En} {xs ys : List D} {vs : List Nat} (hv : own.map (·.2) = vs) (hw : evalW T w e = .ok xs e1) (hl : xs.length ≤ big) (h0 : clear vs (lockAll w.src e1) = e0)
    (hg : lcGo (lcT T tg vs c elt) xs e0 = .ok ys e2) (h3 : Kh.settle e1 w.src vs vs e2 = e3) : evalE T (.lc w tg own c elt) b e = .ok (.lst ys) e3 := by
  subst hv h0 h3
  exact lc_eq hw hl hg
theorem for_to {w : Wk} {t : Tg} {dead st : List Nat} {body : Ss} {e e0 e1 e2 e3 : En} {xs : List D} {f : Fl} (hs : t.slots ++ body.stores = st) (hw : evalW T w e = .ok xs e1) (h0 : clear dead (lockAll w.src e1) = e0) (hg : forGo (forT T t dead body) xs e0 = .ok f e2) (h3 : Kh.settle e1 w.src st [] e2 = e3) :
    exec T (.fors w t dead body) e = .ok f e3 := by
  subst hs h0 h3
  exact for_eq hw hg
end Kh

set_option Elab.async false
set_option linter.all false
set_option maxRecDepth 100000
set_option maxHeartbeats 0
/-! the law's text as data; its head -/
namespace Kw
open PySem PySem.Spec PyProof.Rows L2 Kh
abbrev rw : PySem.W.OpenLaw := PySem.Challenge.rw_knothouse_k01_polynomials_added_and_mult
def topS (i : Nat) : Stmt := PySem.Challenge.pw_knothouse_k01_polynomials_added_and_mult.main.body.getD i (.Pass ⟨0, 0, 0, 0⟩)
def f_poly : Fd := ⟨1, 4,
  (.cons (.setv 1 .dnew)
  (.cons (.fors (.it (.var 0)) (.tup (.cons (.name 2) (.cons (.name 3) .nil))) [2, 3]
   (.cons (.setix 1 (.cons (.var 2) .nil) (.bin .add (.me .get (.var 1) (.cons (.var 2) (.cons (.cst (.int 0)) .nil))) (.var 3)))
   .nil))
  (.cons (.ret (.bi .tuple (.cons (.lc (.it (.bi .sorted (.cons (.var 1) .nil))) (.name 2) [("exponent", 2)] (.so (.cmp .ne (.ix (.var 1) (.var 2)) (.cst (.int 0)))) (.tup (.cons (.var 2) (.cons (.ix (.var 1) (.var 2)) .nil)))) .nil)))
  .nil)))⟩
def d_poly : DD := ⟨"poly", defArgs (topS 3), defBody (topS 3), defScope (topS 3), f_poly, ["pairs", "sums", "exponent", "number"], ["pairs"]⟩
theorem o_poly : d_poly.okB = true ∧ d_poly.Bnd := ⟨by decide +kernel, fun _ _ _ _ _ _ us hl => match us, hl with | [_], _ => rfl⟩
def f_add : Fd := ⟨2, 2,
  (.cons (.ret (.call "poly" (.cons (.bin .add (.var 0) (.var 1)) .nil)))
  .nil)⟩
def d_add : DD := ⟨"add", defArgs (topS 4), defBody (topS 4), defScope (topS 4), f_add, ["a", "b"], ["a", "b"]⟩
theorem o_add : d_add.okB = true ∧ d_add.Bnd := ⟨by decide +kernel, fun _ _ _ _ _ _ us hl => match us, hl with | [_, _], _ => rfl⟩
def f_scaled : Fd := ⟨2, 4,
  (.cons (.ret (.bi .tuple (.cons (.lc (.it (.var 0)) (.tup (.cons (.name 2) (.cons (.name 3) .nil))) [("exponent", 2), ("part", 3)] (.so (.cmp .ne (.var 1) (.cst (.int 0)))) (.tup (.cons (.var 2) (.cons (.bin .mul (.var 3) (.var 1)) .nil)))) .nil)))
  .nil)⟩
def d_scaled : DD := ⟨"scaled", defArgs (topS 5), defBody (topS 5), defScope (topS 5), f_scaled, ["a", "number", "exponent", "part"], ["a", "number"]⟩
theorem o_scaled : d_scaled.okB = true ∧ d_scaled.Bnd := ⟨by decide +kernel, fun _ _ _ _ _ _ us hl => match us, hl with | [_, _], _ => rfl⟩
def f_subtract : Fd := ⟨2, 2,
  (.cons (.ret (.call "add" (.cons (.var 0) (.cons (.call "scaled" (.cons (.var 1) (.cons (.bin .sub (.cst (.int 0)) (.cst (.int 1))) .nil))) .nil))))
  .nil)⟩
def d_subtract : DD := ⟨"subtract", defArgs (topS 6), defBody (topS 6), defScope (topS 6), f_subtract, ["a", "b"], ["a", "b"]⟩
theorem o_subtract : d_subtract.okB = true ∧ d_subtract.Bnd := ⟨by decide +kernel, fun _ _ _ _ _ _ us hl => match us, hl with | [_, _], _ => rfl⟩
def f_shifted : Fd := ⟨2, 4,
  (.cons (.ret (.bi .tuple (.cons (.lc (.it (.var 0)) (.tup (.cons (.name 2) (.cons (.name 3) .nil))) [("exponent", 2), ("part", 3)] .no (.tup (.cons (.bin .add (.var 2) (.var 1)) (.cons (.var 3) .nil)))) .nil)))
  .nil)⟩
def d_shifted : DD := ⟨"shifted", defArgs (topS 7), defBody (topS 7), defScope (topS 7), f_shifted, ["a", "steps", "exponent", "part"], ["a", "steps"]⟩
theorem o_shifted : d_shifted.okB = true ∧ d_shifted.Bnd := ⟨by decide +kernel, fun _ _ _ _ _ _ us hl => match us, hl with | [_, _], _ => rfl⟩
def f_times : Fd := ⟨2, 8,
  (.cons (.setv 2 .dnew)
  (.cons (.fors (.it (.var 0)) (.tup (.cons (.name 3) (.cons (.name 4) .nil))) [3, 4, 5, 6]
   (.cons (.fors (.it (.var 1)) (.tup (.cons (.name 5) (.cons (.name 6) .nil))) [5, 6]
    (.cons (.setix 2 (.cons (.bin .add (.var 3) (.var 5)) .nil) (.bin .add (.me .get (.var 2) (.cons (.bin .add (.var 3) (.var 5)) (.cons (.cst (.int 0)) .nil))) (.bin .mul (.var 4) (.var 6))))
    .nil))
   .nil))
  (.cons (.ret (.bi .tuple (.cons (.lc (.it (.bi .sorted (.cons (.var 2) .nil))) (.name 7) [("exponent", 7)] (.so (.cmp .ne (.ix (.var 2) (.var 7)) (.cst (.int 0)))) (.tup (.cons (.var 7) (.cons (.ix (.var 2) (.var 7)) .nil)))) .nil)))
  .nil)))⟩
def d_times : DD := ⟨"times", defArgs (topS 8), defBody (topS 8), defScope (topS 8), f_times, ["a", "b", "sums", "first", "one", "second", "other", "exponent"], ["a", "b"]⟩
theorem o_times : d_times.okB = true ∧ d_times.Bnd := ⟨by decide +kernel, fun _ _ _ _ _ _ us hl => match us, hl with | [_, _], _ => rfl⟩
def f_power : Fd := ⟨2, 4,
  (.cons (.setv 2 (.glob "ONE"))
  (.cons (.fors (.range (.cons (.var 1) .nil)) (.name 3) [3]
   (.cons (.setv 2 (.call "times" (.cons (.var 2) (.cons (.var 0) .nil))))
   .nil))
  (.cons (.ret (.var 2))
  .nil)))⟩
def d_power : DD := ⟨"power", defArgs (topS 9), defBody (topS 9), defScope (topS 9), f_power, ["a", "exponent", "told", "turn"], ["a", "exponent"]⟩
theorem o_power : d_power.okB = true ∧ d_power.Bnd := ⟨by decide +kernel, fun _ _ _ _ _ _ us hl => match us, hl with | [_, _], _ => rfl⟩
def f_flipped : Fd := ⟨1, 3,
  (.cons (.ret (.bi .tuple (.cons (.lc (.rev (.var 0)) (.tup (.cons (.name 1) (.cons (.name 2) .nil))) [("exponent", 1), ("part", 2)] .no (.tup (.cons (.bin .sub (.cst (.int 0)) (.var 1)) (.cons (.var 2) .nil)))) .nil)))
  .nil)⟩
def d_flipped : DD := ⟨"flipped", defArgs (topS 10), defBody (topS 10), defScope (topS 10), f_flipped, ["a", "exponent", "part"], ["a"]⟩
theorem o_flipped : d_flipped.okB = true ∧ d_flipped.Bnd := ⟨by decide +kernel, fun _ _ _ _ _ _ us hl => match us, hl with | [_], _ => rfl⟩
def f_spread : Fd := ⟨2, 4,
  (.cons (.ret (.bi .tuple (.cons (.lc (.it (.var 0)) (.tup (.cons (.name 2) (.cons (.name 3) .nil))) [("exponent", 2), ("part", 3)] .no (.tup (.cons (.bin .mul (.var 2) (.var 1)) (.cons (.var 3) .nil)))) .nil)))
  .nil)⟩
def d_spread : DD := ⟨"spread", defArgs (topS 11), defBody (topS 11), defScope (topS 11), f_spread, ["a", "factor", "exponent", "part"], ["a", "factor"]⟩
theorem o_spread : d_spread.okB = true ∧ d_spread.Bnd := ⟨by decide +kernel, fun _ _ _ _ _ _ us hl => match us, hl with | [_, _], _ => rfl⟩
def f_breadth : Fd := ⟨1, 1,
  (.cons (.ret (.ite (.cmp .gt (.bi .len (.cons (.var 0) .nil)) (.cst (.int 0))) (.bin .sub (.ix (.ix (.var 0) (.neg (.cst (.int 1)))) (.cst (.int 0))) (.ix (.ix (.var 0) (.cst (.int 0))) (.cst (.int 0)))) (.cst (.int 0))))
  .nil)⟩
def d_breadth : DD := ⟨"breadth", defArgs (topS 12), defBody (topS 12), defScope (topS 12), f_breadth, ["a"], ["a"]⟩
theorem o_breadth : d_breadth.okB = true ∧ d_breadth.Bnd := ⟨by decide +kernel, fun _ _ _ _ _ _ us hl => match us, hl with | [_], _ => rfl⟩
def f_normal : Fd := ⟨1, 1,
  (.cons (.ifs (.cmp .eq (.bi .len (.cons (.var 0) .nil)) (.cst (.int 0)))
   (.cons (.ret (.glob "ZERO"))
   .nil)
   .nil)
  (.cons (.ret (.call "scaled" (.cons (.call "shifted" (.cons (.var 0) (.cons (.bin .sub (.cst (.int 0)) (.ix (.ix (.var 0) (.cst (.int 0))) (.cst (.int 0)))) .nil))) (.cons (.ite (.cmp .gt (.ix (.ix (.var 0) (.cst (.int 0))) (.cst (.int 1))) (.cst (.int 0))) (.cst (.int 1)) (.bin .sub (.cst (.int 0)) (.cst (.int 1)))) .nil))))
  .nil))⟩
def d_normal : DD := ⟨"normal", defArgs (topS 13), defBody (topS 13), defScope (topS 13), f_normal, ["a"], ["a"]⟩
theorem o_normal : d_normal.okB = true ∧ d_normal.Bnd := ⟨by decide +kernel, fun _ _ _ _ _ _ us hl => match us, hl with | [_], _ => rfl⟩
def f_l_begin : Fd := ⟨1, 3,
  (.cons (.setv 1 (.cst (.int 1)))
  (.cons (.fors (.it (.var 0)) (.name 2) [2]
   (.cons (.setv 1 (.bin .mod (.bin .add (.bin .add (.bin .mul (.var 1) (.cst (.int 69621))) (.bin .mod (.bi .int (.cons (.var 2) .nil)) (.cst (.int 2147483629)))) (.cst (.int 7))) (.cst (.int 2147483647))))
   .nil))
  (.cons (.ret (.lst (.cons (.bi .list (.cons (.var 0) .nil)) (.cons (.cst (.int 0)) (.cons (.cst (.int 0)) (.cons (.var 1) .nil))))))
  .nil)))⟩
def d_l_begin : DD := ⟨"_law_begin", defArgs (topS 15), defBody (topS 15), defScope (topS 15), f_l_begin, ["script", "seed", "cell"], ["script"]⟩
theorem o_l_begin : d_l_begin.okB = true ∧ d_l_begin.Bnd := ⟨by decide +kernel, fun _ _ _ _ _ _ us hl => match us, hl with | [_], _ => rfl⟩
def f_l_take : Fd := ⟨2, 4,
  (.cons (.ifs (.and (.cmp .eq (.ix (.var 0) (.cst (.int 2))) (.cst (.int 0))) (.one (.cmp .lt (.ix (.var 0) (.cst (.int 1))) (.bi .len (.cons (.ix (.var 0) (.cst (.int 0))) .nil)))))
   (.cons (.setix 0 (.cons (.cst (.int 2)) .nil) (.bi .abs (.cons (.bi .int (.cons (.ix (.ix (.var 0) (.cst (.int 0))) (.ix (.var 0) (.cst (.int 1)))) .nil)) .nil)))
   (.cons (.setix 0 (.cons (.cst (.int 1)) .nil) (.bin .add (.ix (.var 0) (.cst (.int 1))) (.cst (.int 1))))
   (.cons (.ifs (.cmp .lt (.ix (.var 0) (.cst (.int 2))) (.bin .pow (.cst (.int 10)) (.cst (.int 18))))
    (.cons (.setv 2 (.bi .int (.cons (.ix (.var 0) (.cst (.int 2))) .nil)))
    (.cons (.setix 0 (.cons (.cst (.int 2)) .nil) (.cst (.int 0)))
    (.cons (.ret (.bin .mod (.var 2) (.var 1)))
    .nil)))
    .nil)
   .nil)))
   .nil)
  (.cons (.ifs (.cmp .gt (.ix (.var 0) (.cst (.int 2))) (.cst (.int 0)))
   (.cons (.setv 3 (.bin .mod (.bi .int (.cons (.ix (.var 0) (.cst (.int 2))) .nil)) (.var 1)))
   (.cons (.setix 0 (.cons (.cst (.int 2)) .nil) (.bin .fdiv (.bi .int (.cons (.ix (.var 0) (.cst (.int 2))) .nil)) (.var 1)))
   (.cons (.ret (.var 3))
   .nil)))
   .nil)
  (.cons (.setix 0 (.cons (.cst (.int 3)) .nil) (.bin .mod (.bi .int (.cons (.bin .add (.bin .mul (.ix (.var 0) (.cst (.int 3))) (.cst (.int 48271))) (.cst (.int 11))) .nil)) (.cst (.int 2147483647))))
  (.cons (.ret (.bin .mod (.bi .int (.cons (.bin .fdiv (.ix (.var 0) (.cst (.int 3))) (.cst (.int 3))) .nil)) (.var 1)))
  .nil))))⟩
def d_l_take : DD := ⟨"_law_take", defArgs (topS 16), defBody (topS 16), defScope (topS 16), f_l_take, ["d", "many", "small", "digit"], ["d", "many"]⟩
theorem o_l_take : d_l_take.okB = true ∧ d_l_take.Bnd := ⟨by decide +kernel, fun _ _ _ _ _ _ us hl => match us, hl with | [_, _], _ => rfl⟩
def f_l_sign : Fd := ⟨1, 1,
  (.cons (.ret (.bin .sub (.cst (.int 1)) (.bin .mul (.cst (.int 2)) (.call "_law_take" (.cons (.var 0) (.cons (.cst (.int 2)) .nil))))))
  .nil)⟩
def d_l_sign : DD := ⟨"_law_sign", defArgs (topS 17), defBody (topS 17), defScope (topS 17), f_l_sign, ["d"], ["d"]⟩
theorem o_l_sign : d_l_sign.okB = true ∧ d_l_sign.Bnd := ⟨by decide +kernel, fun _ _ _ _ _ _ us hl => match us, hl with | [_], _ => rfl⟩
def f_l_sum : Fd := ⟨1, 4,
  (.cons (.setv 1 .dnew)
  (.cons (.fors (.it (.var 0)) (.tup (.cons (.name 2) (.cons (.name 3) .nil))) [2, 3]
   (.cons (.setix 1 (.cons (.var 2) .nil) (.bin .add (.me .get (.var 1) (.cons (.var 2) (.cons (.cst (.int 0)) .nil))) (.var 3)))
   .nil))
  (.cons (.ret (.bi .tuple (.cons (.lc (.it (.bi .sorted (.cons (.var 1) .nil))) (.name 2) [("exponent", 2)] (.so (.cmp .ne (.ix (.var 1) (.var 2)) (.cst (.int 0)))) (.tup (.cons (.var 2) (.cons (.ix (.var 1) (.var 2)) .nil)))) .nil)))
  .nil)))⟩
def d_l_sum : DD := ⟨"_law_sum", defArgs (topS 18), defBody (topS 18), defScope (topS 18), f_l_sum, ["pairs", "sums", "exponent", "number"], ["pairs"]⟩
theorem o_l_sum : d_l_sum.okB = true ∧ d_l_sum.Bnd := ⟨by decide +kernel, fun _ _ _ _ _ _ us hl => match us, hl with | [_], _ => rfl⟩
def f_l_product : Fd := ⟨2, 7,
  (.cons (.setv 2 (.lst .nil))
  (.cons (.fors (.it (.var 0)) (.tup (.cons (.name 3) (.cons (.name 4) .nil))) [3, 4]
   (.cons (.expr (.mut .extend 2 (.cons (.lc (.it (.var 1)) (.tup (.cons (.name 5) (.cons (.name 6) .nil))) [("second", 5), ("other", 6)] .no (.tup (.cons (.bin .add (.var 3) (.var 5)) (.cons (.bin .mul (.var 4) (.var 6)) .nil)))) .nil)))
   .nil))
  (.cons (.ret (.call "_law_sum" (.cons (.var 2) .nil)))
  .nil)))⟩
def d_l_product : DD := ⟨"_law_product", defArgs (topS 19), defBody (topS 19), defScope (topS 19), f_l_product, ["a", "b", "pairs", "first", "one", "second", "other"], ["a", "b"]⟩
theorem o_l_product : d_l_product.okB = true ∧ d_l_product.Bnd := ⟨by decide +kernel, fun _ _ _ _ _ _ us hl => match us, hl with | [_, _], _ => rfl⟩
def f_l_normal : Fd := ⟨1, 4,
  (.cons (.ifs (.cmp .eq (.bi .len (.cons (.var 0) .nil)) (.cst (.int 0)))
   (.cons (.ret (.tup .nil))
   .nil)
   .nil)
  (.cons (.setv 1 (.ite (.cmp .gt (.ix (.ix (.var 0) (.cst (.int 0))) (.cst (.int 1))) (.cst (.int 0))) (.cst (.int 1)) (.bin .sub (.cst (.int 0)) (.cst (.int 1)))))
  (.cons (.ret (.bi .tuple (.cons (.lc (.it (.var 0)) (.tup (.cons (.name 2) (.cons (.name 3) .nil))) [("exponent", 2), ("number", 3)] .no (.tup (.cons (.bin .sub (.var 2) (.ix (.ix (.var 0) (.cst (.int 0))) (.cst (.int 0)))) (.cons (.bin .mul (.var 3) (.var 1)) .nil)))) .nil)))
  .nil)))⟩
def d_l_normal : DD := ⟨"_law_normal", defArgs (topS 20), defBody (topS 20), defScope (topS 20), f_l_normal, ["a", "mark", "exponent", "number"], ["a"]⟩
theorem o_l_normal : d_l_normal.okB = true ∧ d_l_normal.Bnd := ⟨by decide +kernel, fun _ _ _ _ _ _ us hl => match us, hl with | [_], _ => rfl⟩
def f_l_poly : Fd := ⟨3, 4,
  (.cons (.ret (.call "_law_sum" (.cons (.lc (.range (.cons (.call "_law_take" (.cons (.var 0) (.cons (.bin .add (.var 1) (.cst (.int 1))) .nil))) .nil)) (.name 3) [("k", 3)] .no (.tup (.cons (.bin .sub (.call "_law_take" (.cons (.var 0) (.cons (.cst (.int 13)) .nil))) (.cst (.int 6))) (.cons (.bin .sub (.call "_law_take" (.cons (.var 0) (.cons (.bin .add (.bin .mul (.cst (.int 2)) (.var 2)) (.cst (.int 1))) .nil))) (.var 2)) .nil)))) .nil)))
  .nil)⟩
def d_l_poly : DD := ⟨"_law_poly", defArgs (topS 21), defBody (topS 21), defScope (topS 21), f_l_poly, ["d", "terms", "size", "k"], ["d", "terms", "size"]⟩
theorem o_l_poly : d_l_poly.okB = true ∧ d_l_poly.Bnd := ⟨by decide +kernel, fun _ _ _ _ _ _ us hl => match us, hl with | [_, _, _], _ => rfl⟩
def f_l_large : Fd := ⟨1, 2,
  (.cons (.ifs (.cmp .gt (.call "_law_take" (.cons (.var 0) (.cons (.cst (.int 4)) .nil))) (.cst (.int 0)))
   (.cons (.ret (.call "_law_poly" (.cons (.var 0) (.cons (.cst (.int 8)) (.cons (.cst (.int 20)) .nil)))))
   .nil)
   .nil)
  (.cons (.ret (.call "_law_sum" (.cons (.lc (.range (.cons (.call "_law_take" (.cons (.var 0) (.cons (.cst (.int 61)) .nil))) .nil)) (.name 1) [("k", 1)] .no (.tup (.cons (.bin .sub (.call "_law_take" (.cons (.var 0) (.cons (.cst (.int 1001)) .nil))) (.cst (.int 500))) (.cons (.bin .mul (.call "_law_sign" (.cons (.var 0) .nil)) (.call "_law_take" (.cons (.var 0) (.cons (.bin .pow (.cst (.int 10)) (.cst (.int 60))) .nil)))) .nil)))) .nil)))
  .nil))⟩
def d_l_large : DD := ⟨"_law_large", defArgs (topS 22), defBody (topS 22), defScope (topS 22), f_l_large, ["d", "k"], ["d"]⟩
theorem o_l_large : d_l_large.okB = true ∧ d_l_large.Bnd := ⟨by decide +kernel, fun _ _ _ _ _ _ us hl => match us, hl with | [_], _ => rfl⟩
def f_law : Fd := ⟨1, 14,
  (.cons (.setv 1 (.call "_law_begin" (.cons (.var 0) .nil)))
  (.cons (.setv 2 (.call "_law_large" (.cons (.var 1) .nil)))
  (.cons (.setv 3 (.call "_law_large" (.cons (.var 1) .nil)))
  (.cons (.setv 4 (.bin .sub (.call "_law_take" (.cons (.var 1) (.cons (.cst (.int 41)) .nil))) (.cst (.int 20))))
  (.cons (.setv 5 (.lc (.range (.cons (.call "_law_take" (.cons (.var 1) (.cons (.cst (.int 12)) .nil))) .nil)) (.name 6) [("k", 6)] .no (.tup (.cons (.bin .sub (.call "_law_take" (.cons (.var 1) (.cons (.cst (.int 9)) .nil))) (.cst (.int 4))) (.cons (.bin .sub (.call "_law_take" (.cons (.var 1) (.cons (.cst (.int 7)) .nil))) (.cst (.int 3))) .nil)))))
  (.cons (.setv 7 (.call "_law_sum" (.cons (.var 5) .nil)))
  (.cons (.ifs (.or (.cmp .ne (.call "poly" (.cons (.bi .list (.cons (.var 5) .nil)) .nil)) (.var 7)) (.one (.cmp .ne (.call "poly" (.cons (.bi .tuple (.cons (.var 5) .nil)) .nil)) (.var 7))))
   (.cons (.ret (.cst (.bl false)))
   .nil)
   .nil)
  (.cons (.setv 8 (.bi .tuple (.cons (.lc (.it (.var 3)) (.tup (.cons (.name 9) (.cons (.name 10) .nil))) [("exponent", 9), ("number", 10)] .no (.tup (.cons (.var 9) (.cons (.bin .sub (.cst (.int 0)) (.var 10)) .nil)))) .nil)))
  (.cons (.ifs (.or (.cmp .ne (.call "add" (.cons (.var 2) (.cons (.var 3) .nil))) (.call "_law_sum" (.cons (.bin .add (.var 2) (.var 3)) .nil))) (.or (.cmp .ne (.call "subtract" (.cons (.var 2) (.cons (.var 3) .nil))) (.call "_law_sum" (.cons (.bin .add (.var 2) (.var 8)) .nil))) (.one (.cmp .ne (.call "times" (.cons (.var 2) (.cons (.var 3) .nil))) (.call "_law_product" (.cons (.var 2) (.cons (.var 3) .nil)))))))
   (.cons (.ret (.cst (.bl false)))
   .nil)
   .nil)
  (.cons (.ifs (.cmp .ne (.call "scaled" (.cons (.var 2) (.cons (.var 4) .nil))) (.call "_law_sum" (.cons (.lc (.it (.var 2)) (.tup (.cons (.name 9) (.cons (.name 10) .nil))) [("exponent", 9), ("number", 10)] .no (.tup (.cons (.var 9) (.cons (.bin .mul (.var 10) (.var 4)) .nil)))) .nil)))
   (.cons (.ret (.cst (.bl false)))
   .nil)
   .nil)
  (.cons (.ifs (.cmp .ne (.call "shifted" (.cons (.var 2) (.cons (.var 4) .nil))) (.bi .tuple (.cons (.lc (.it (.var 2)) (.tup (.cons (.name 9) (.cons (.name 10) .nil))) [("exponent", 9), ("number", 10)] .no (.tup (.cons (.bin .add (.var 9) (.var 4)) (.cons (.var 10) .nil)))) .nil)))
   (.cons (.ret (.cst (.bl false)))
   .nil)
   .nil)
  (.cons (.ifs (.cmp .ne (.call "flipped" (.cons (.var 2) .nil)) (.call "_law_sum" (.cons (.lc (.it (.var 2)) (.tup (.cons (.name 9) (.cons (.name 10) .nil))) [("exponent", 9), ("number", 10)] .no (.tup (.cons (.bin .sub (.cst (.int 0)) (.var 9)) (.cons (.var 10) .nil)))) .nil)))
   (.cons (.ret (.cst (.bl false)))
   .nil)
   .nil)
  (.cons (.setv 11 (.bin .add (.cst (.int 1)) (.call "_law_take" (.cons (.var 1) (.cons (.cst (.int 5)) .nil)))))
  (.cons (.ifs (.cmp .ne (.call "spread" (.cons (.var 2) (.cons (.var 11) .nil))) (.bi .tuple (.cons (.lc (.it (.var 2)) (.tup (.cons (.name 9) (.cons (.name 10) .nil))) [("exponent", 9), ("number", 10)] .no (.tup (.cons (.bin .mul (.var 9) (.var 11)) (.cons (.var 10) .nil)))) .nil)))
   (.cons (.ret (.cst (.bl false)))
   .nil)
   .nil)
  (.cons (.ifs (.or (.cmp .ne (.call "breadth" (.cons (.var 2) .nil)) (.ite (.cmp .eq (.bi .len (.cons (.var 2) .nil)) (.cst (.int 0))) (.cst (.int 0)) (.bin .sub (.ix (.ix (.var 2) (.neg (.cst (.int 1)))) (.cst (.int 0))) (.ix (.ix (.var 2) (.cst (.int 0))) (.cst (.int 0)))))) (.one (.cmp .ne (.call "normal" (.cons (.var 2) .nil)) (.call "_law_normal" (.cons (.var 2) .nil)))))
   (.cons (.ret (.cst (.bl false)))
   .nil)
   .nil)
  (.cons (.setv 12 (.call "_law_poly" (.cons (.var 1) (.cons (.cst (.int 3)) (.cons (.cst (.int 5)) .nil)))))
  (.cons (.setv 7 (.tup (.cons (.tup (.cons (.cst (.int 0)) (.cons (.cst (.int 1)) .nil))) .nil)))
  (.cons (.setv 13 (.call "_law_take" (.cons (.var 1) (.cons (.cst (.int 13)) .nil))))
  (.cons (.fors (.range (.cons (.var 13) .nil)) (.name 6) [6]
   (.cons (.setv 7 (.call "_law_product" (.cons (.var 7) (.cons (.var 12) .nil))))
   .nil))
  (.cons (.ret (.and (.cmp .eq (.call "power" (.cons (.var 12) (.cons (.var 13) .nil))) (.var 7)) (.and (.cmp .eq (.call "power" (.cons (.tup .nil) (.cons (.cst (.int 0)) .nil))) (.tup (.cons (.tup (.cons (.cst (.int 0)) (.cons (.cst (.int 1)) .nil))) .nil))) (.one (.cmp .eq (.call "normal" (.cons (.call "scaled" (.cons (.var 2) (.cons (.bin .sub (.cst (.int 0)) (.cst (.int 1))) .nil))) .nil)) (.call "_law_normal" (.cons (.var 2) .nil)))))))
  .nil))))))))))))))))))))⟩
def d_law : DD := ⟨"law", defArgs (topS 23), defBody (topS 23), defScope (topS 23), f_law, ["script", "d", "a", "b", "n", "loose", "k", "due", "minus", "exponent", "number", "factor", "small", "many"], ["script"]⟩
theorem o_law : d_law.okB = true ∧ d_law.Bnd := ⟨by decide +kernel, fun _ _ _ _ _ _ us hl => match us, hl with | [_], _ => rfl⟩
def defs : List DD := [d_poly, d_add, d_scaled, d_subtract, d_shifted, d_times, d_power, d_flipped, d_spread, d_breadth, d_normal, d_l_begin, d_l_take, d_l_sign, d_l_sum, d_l_product, d_l_normal, d_l_poly, d_l_large, d_law]
theorem defs_ok : AllD defs := ⟨o_poly, o_add, o_scaled, o_subtract, o_shifted, o_times, o_power, o_flipped, o_spread, o_breadth, o_normal, o_l_begin, o_l_take, o_l_sign, o_l_sum, o_l_product, o_l_normal, o_l_poly, o_l_large, o_law, trivial⟩
def gls : List (Str × I) := [("ZERO", .tup []), ("ONE", .tup [.tup [.int 0, .int 1]])]
def loose : List PySem.Str := (["ZERO", "ONE", "poly", "add", "scaled", "subtract", "shifted", "times", "power", "flipped", "spread", "breadth", "normal", "_law_begin", "_law_take", "_law_sign", "_law_sum", "_law_product", "_law_normal", "_law_poly", "_law_large"] : List PySem.Str)
def iLaw : Nat := 23

/-! ### the head -/
abbrev R : PySem.W.OpenRow := PySem.W.OpenLaw.row rw
def ex (K : PySem.W.Frag) : Bool := gls.all (glB K)
abbrev hk : PySem.W.Hook := He.hookX 5 (factsOf defs) (defs.map DD.dd) [] [] ex
def ob (s : PySem.W.SharedT) : He.AlX := He.obsX 5 (factsOf defs) (defs.map DD.dd) [] [] ex (HandSHeadRun.getT s)
theorem ob_eq (s : PySem.W.SharedT) : ob s = hk.obs s.abs := He.obsX_eq (HandSHeadRun.getT_eq s)
theorem run (w : World) : HandSHeadRun.RunEq R (PySem.W.view R.prog [iLaw]) hk ob 20000 loose w := by
  intro os
  kernel_rfl
noncomputable abbrev tab (k : Nat) : Kh.Tab := tabL (fdsOf defs) (fun x => gls.lookup x) k
theorem facts {w : World} {K : PySem.W.Frag} {h : Heap} {mg : Str → Option Value} (X : K.In h) (G : h.Ns mainGlobals mg) (c : He.SaysX (factsOf defs) (defs.map DD.dd) [] [] ex w h K) : Hd (fdsOf defs) (fun x => gls.lookup x) K mg := hd_of X G defs_ok c.t.d c.more
end Kw

set_option Elab.async false
set_option linter.all false
set_option maxRecDepth 100000
set_option maxHeartbeats 2000000
namespace Kw
open PySem L2 Kh
abbrev Z2 := Int × Int
def pI (p : Z2) : I := .tup [.int p.1, .int p.2]
abbrev pol (l : List Z2) : D := .im (.tup (l.map pI))
abbrev lpol (l : List Z2) : D := .lst (l.map fun p => .im (pI p))
theorem ims_pI (l : List Z2) (f : Z2 → Z2) : ims (l.map fun p => .im (pI (f p))) = some ((l.map f).map pI) := by
  rw [show (l.map fun p => D.im (pI (f p))) = ((l.map f).map pI).map .im by simp [Function.comp_def], ims_map]
theorem ims_pI' (l : List Z2) : ims (l.map fun p => .im (pI p)) = some (l.map pI) := ims_pI l id ▸ by simp
/-! ### sums in a dict -/
def lookZ : List Z2 → Int → Option Int
  | [], _ => none
  | (j, v) :: r, e => if j = e then some v else lookZ r e
def putZ : List Z2 → Int → Int → List Z2
  | [], e, v => [(e, v)]
  | (j, u) :: r, e, v => if j = e then (j, v) :: r else (j, u) :: putZ r e v
def enc (p : Z2) : I × D := (.int p.1, .im (.int p.2))
abbrev dct (d : List Z2) : D := .dct false (d.map enc)
theorem lkup_Z (e : Int) : ∀ d : List Z2, lkup (.int e) (d.map enc) = some ((lookZ d e).map fun v => .im (.int v))
  | [] => rfl
  | (j, v) :: r => by
    have ih := lkup_Z e r
    simp only [List.map_cons, enc, lkup, I.eq, lookZ]
    by_cases h : j = e
    · simp [h]
    · have hb : (j == e) = false := by simp [h]
      simp only [h, hb, Option.bind_some, if_false, Bool.false_eq_true]
      exact ih
theorem dput_Z (e v : Int) : ∀ d : List Z2, dput (.int e) (.im (.int v)) (d.map enc) = some ((putZ d e v).map enc)
  | [] => rfl
  | (j, u) :: r => by
    have ih := dput_Z e v r
    simp only [List.map_cons, enc, dput, I.eq, putZ]
    by_cases h : j = e
    · simp [h, enc]
    · have hb : (j == e) = false := by simp [h]
      simp only [h, hb, Option.bind_some, if_false, Bool.false_eq_true]
      have ih' : dput (.int e) (.im (.int v)) (r.map fun p => (I.int p.1, D.im (.int p.2))) = some ((putZ r e v).map enc) := ih
      rw [show (r.map enc) = r.map fun p => (I.int p.1, D.im (.int p.2)) from rfl, ih']
      rfl
def addZ (d : List Z2) (p : Z2) : List Z2 := putZ d p.1 ((lookZ d p.1).getD 0 + p.2)
def sumD (l : List Z2) : List Z2 := l.foldl addZ []
def outZ (d : List Z2) : List Z2 := ((d.map (·.1)).mergeSort (fun a b => decide (a ≤ b))).filterMap fun e => if (lookZ d e).getD 0 ≠ 0 then some (e, (lookZ d e).getD 0) else none
def psum (l : List Z2) : List Z2 := outZ (sumD l)
theorem putZ_len (e v : Int) : ∀ d : List Z2, (putZ d e v).length ≤ d.length + 1
  | [] => Nat.le_refl _
  | (j, u) :: r => by
    have := putZ_len e v r
    unfold putZ
    split <;> simp <;> omega
theorem lookZ_mem : ∀ {d : List Z2} {e : Int}, e ∈ d.map (·.1) → ∃ v, lookZ d e = some v
  | (j, u) :: r, e, m => by
    unfold lookZ
    by_cases h : j = e
    · exact ⟨u, by simp [h]⟩
    · simp only [h, if_false]
      refine lookZ_mem (d := r) ?_
      simp only [List.map_cons, List.mem_cons] at m
      rcases m with m | m
      · exact absurd m.symm h
      · exact m
theorem keysZ : ∀ d : List Z2, intsOf ((d.map enc).map (·.1)) = some (d.map (·.1))
  | [] => rfl
  | p :: r => by
    have ih := keysZ r
    show (intsOf ((r.map enc).map (·.1))).map (p.1 :: ·) = _
    rw [ih]
    rfl
theorem lenk (d : List Z2) : ((d.map (·.1)).mergeSort (fun a b => decide (a ≤ b))).length = d.length := by simp

/-! ### poly and _law_sum: one text -/
def fP : Fd := f_poly
theorem sum_turn {T : Kh.Tab} {s : Slot} {d : List Z2} {p : Z2} (hd : d.length < big) : forT T (.tup (.cons (.name 2) (.cons (.name 3) .nil))) [2, 3] (.cons (.setix 1 (.cons (.var 2) .nil) (.bin .add (.me .get (.var 1) (.cons (.var 2) (.cons (.cst (.int 0)) .nil))) (.var 3))) .nil) (.im (pI p)) [s, .own (dct d), .no, .no] = .ok .nx [s, .own (dct (addZ d p)), .no, .no] := by
  have hl : (d.map enc).length < big := by simpa using hd
  have hg : getIm (.int 0) ((lookZ d p.1).map fun v => D.im (.int v)) = some (.im (.int ((lookZ d p.1).getD 0))) := by cases lookZ d p.1 <;> rfl
  simp [forT, pI, keyOk, isKey, lkup_Z, dput_Z, hg, hd, addZ, ev, evs, exs, args, bo, lift, readS, lendS, still, needIm, asInt, asBool, asIm, binD, binI, cmpD, cmpI, ixD, slD, biD, meD, meOk, mutD, Mm.sup, setD, wkD, mkTup, ims, D.isIm, E.pure, Es.pure, Eo.pure, E.src, Wk.src, keepS, bindT, bindTs, Kh.clear, lockAll, Kh.settle, settleGo, Slot.isOwnMut, Slot.imOf, Slot.borOf, giveBack, callF, stepClear, settleF, Out.nx, Ss.stores, Kh.S.stores, Tg.slots, Tgs.slots, Es.len]
theorem sum_for {T : Kh.Tab} {s : Slot} {l : List Z2} (hl : l.length ≤ big) : forGo (forT T (.tup (.cons (.name 2) (.cons (.name 3) .nil))) [2, 3] (.cons (.setix 1 (.cons (.var 2) .nil) (.bin .add (.me .get (.var 1) (.cons (.var 2) (.cons (.cst (.int 0)) .nil))) (.var 3))) .nil)) (l.map fun p => .im (pI p)) [s, .own (dct []), .no, .no] = .ok .nx [s, .own (dct (sumD l)), .no, .no] ∧ (sumD l).length ≤ l.length := by
  have h := forGo_st (turn := forT T (.tup (.cons (.name 2) (.cons (.name 3) .nil))) [2, 3] (.cons (.setix 1 (.cons (.var 2) .nil) (.bin .add (.me .get (.var 1) (.cons (.var 2) (.cons (.cst (.int 0)) .nil))) (.var 3))) .nil)) (fun p => .im (pI p)) (fun d => [s, .own (dct d), .no, .no]) addZ (fun r d => r.length + d.length ≤ l.length ) l [] (by simp) fun p r d hd => by
    have h1 := putZ_len p.1 ((lookZ d p.1).getD 0 + p.2) d
    simp only [List.length_cons] at hd
    refine ⟨sum_turn (by omega), ?_⟩
    show r.length + (addZ d p).length ≤ _
    unfold addZ
    omega
  refine ⟨h.1, ?_⟩
  have := h.2
  simpa [sumD] using this
theorem sum_lc {T : Kh.Tab} {s : Slot} {d : List Z2} (hd : d.length ≤ big) : evalE T (.lc (.it (.bi .sorted (.cons (.var 1) .nil))) (.name 2) [("exponent", 2)] (.so (.cmp .ne (.ix (.var 1) (.var 2)) (.cst (.int 0)))) (.tup (.cons (.var 2) (.cons (.ix (.var 1) (.var 2)) .nil)))) false [s, .own (dct d), .no, .no] = .ok (.lst ((outZ d).map fun p => .im (pI p))) [s, .own (dct d), .no, .no] := by
  refine lc_to (vs := [2]) (e0 := [s, .own (dct d), .no, .no]) (e1 := [s, .own (dct d), .no, .no]) (xs := ((d.map (·.1)).mergeSort (fun a b => decide (a ≤ b))).map fun n => .im (.int n)) (e2 := [s, .own (dct d), .no, .no]) rfl ?_ (by rw [List.length_map, lenk]; exact hd) (by simp [ev, evs, exs, args, bo, lift, readS, lendS, still, needIm, asInt, asBool, asIm, binD, binI, cmpD, cmpI, ixD, slD, biD, meD, meOk, mutD, Mm.sup, setD, wkD, mkTup, ims, D.isIm, E.pure, Es.pure, Eo.pure, E.src, Wk.src, keepS, bindT, bindTs, Kh.clear, lockAll, Kh.settle, settleGo, Slot.isOwnMut, Slot.imOf, Slot.borOf, giveBack, callF, stepClear, settleF, Out.nx, Ss.stores, Kh.S.stores, Tg.slots, Tgs.slots, Es.len]) ?_ (by cases s <;> simp [ev, evs, exs, args, bo, lift, readS, lendS, still, needIm, asInt, asBool, asIm, binD, binI, cmpD, cmpI, ixD, slD, biD, meD, meOk, mutD, Mm.sup, setD, wkD, mkTup, ims, D.isIm, E.pure, Es.pure, Eo.pure, E.src, Wk.src, keepS, bindT, bindTs, Kh.clear, lockAll, Kh.settle, settleGo, Slot.isOwnMut, Slot.imOf, Slot.borOf, giveBack, callF, stepClear, settleF, Out.nx, Ss.stores, Kh.S.stores, Tg.slots, Tgs.slots, Es.len])
  · have hk := keysZ d
    simp only [List.map_map] at hk
    simp [hk, ev, evs, exs, args, bo, lift, readS, lendS, still, needIm, asInt, asBool, asIm, binD, binI, cmpD, cmpI, ixD, slD, biD, meD, meOk, mutD, Mm.sup, setD, wkD, mkTup, ims, D.isIm, E.pure, Es.pure, Eo.pure, E.src, Wk.src, keepS, bindT, bindTs, Kh.clear, lockAll, Kh.settle, settleGo, Slot.isOwnMut, Slot.imOf, Slot.borOf, giveBack, callF, stepClear, settleF, Out.nx, Ss.stores, Kh.S.stores, Tg.slots, Tgs.slots, Es.len]
  · rw [lcGo_fm (fun n => D.im (.int n)) (fun e => if (lookZ d e).getD 0 ≠ 0 then some (.im (pI (e, (lookZ d e).getD 0))) else none) [s, .own (dct d), .no, .no] _ fun e m => ?_]
    · congr 1
      unfold outZ
      rw [List.map_filterMap]
      congr 1
      funext e
      split <;> rfl
    · obtain ⟨v, hv⟩ := lookZ_mem (d := d) (e := e) (by simpa using m)
      by_cases z : v = 0
      · subst z
        simp [lcT, pI, keyOk, isKey, lkup_Z, hv, I.shal, I.eq, ev, evs, exs, args, bo, lift, readS, lendS, still, needIm, asInt, asBool, asIm, binD, binI, cmpD, cmpI, ixD, slD, biD, meD, meOk, mutD, Mm.sup, setD, wkD, mkTup, ims, D.isIm, E.pure, Es.pure, Eo.pure, E.src, Wk.src, keepS, bindT, bindTs, Kh.clear, lockAll, Kh.settle, settleGo, Slot.isOwnMut, Slot.imOf, Slot.borOf, giveBack, callF, stepClear, settleF, Out.nx, Ss.stores, Kh.S.stores, Tg.slots, Tgs.slots, Es.len]
      · simp [lcT, pI, keyOk, isKey, lkup_Z, hv, I.shal, I.eq, z, ev, evs, exs, args, bo, lift, readS, lendS, still, needIm, asInt, asBool, asIm, binD, binI, cmpD, cmpI, ixD, slD, biD, meD, meOk, mutD, Mm.sup, setD, wkD, mkTup, ims, D.isIm, E.pure, Es.pure, Eo.pure, E.src, Wk.src, keepS, bindT, bindTs, Kh.clear, lockAll, Kh.settle, settleGo, Slot.isOwnMut, Slot.imOf, Slot.borOf, giveBack, callF, stepClear, settleF, Out.nx, Ss.stores, Kh.S.stores, Tg.slots, Tgs.slots, Es.len]
theorem poly_ok {T : Kh.Tab} {l : List Z2} (hl : l.length ≤ big) : f_poly.sem T [.own (pol l)] = .ok (pol (psum l)) [.own (pol l)] := by
  obtain ⟨h1, h2⟩ := sum_for (T := T) (s := .own (pol l)) hl
  have h3 := for_to (T := T) (w := .it (.var 0)) (t := .tup (.cons (.name 2) (.cons (.name 3) .nil))) (dead := [2, 3]) (st := [2, 3]) (body := .cons (.setix 1 (.cons (.var 2) .nil) (.bin .add (.me .get (.var 1) (.cons (.var 2) (.cons (.cst (.int 0)) .nil))) (.var 3))) .nil) (e := [.own (pol l), .own (.dct false []), .no, .no]) (xs := l.map fun p => .im (pI p)) rfl (by simp [Function.comp_def, ev, evs, exs, args, bo, lift, readS, lendS, still, needIm, asInt, asBool, asIm, binD, binI, cmpD, cmpI, ixD, slD, biD, meD, meOk, mutD, Mm.sup, setD, wkD, mkTup, ims, D.isIm, E.pure, Es.pure, Eo.pure, E.src, Wk.src, keepS, bindT, bindTs, Kh.clear, lockAll, Kh.settle, settleGo, Slot.isOwnMut, Slot.imOf, Slot.borOf, giveBack, callF, stepClear, settleF, Out.nx, Ss.stores, Kh.S.stores, Tg.slots, Tgs.slots, Es.len]; rfl) (by simp [ev, evs, exs, args, bo, lift, readS, lendS, still, needIm, asInt, asBool, asIm, binD, binI, cmpD, cmpI, ixD, slD, biD, meD, meOk, mutD, Mm.sup, setD, wkD, mkTup, ims, D.isIm, E.pure, Es.pure, Eo.pure, E.src, Wk.src, keepS, bindT, bindTs, Kh.clear, lockAll, Kh.settle, settleGo, Slot.isOwnMut, Slot.imOf, Slot.borOf, giveBack, callF, stepClear, settleF, Out.nx, Ss.stores, Kh.S.stores, Tg.slots, Tgs.slots, Es.len]) h1 (e3 := [.own (pol l), .own (dct (sumD l)), .no, .no]) (by simp [ev, evs, exs, args, bo, lift, readS, lendS, still, needIm, asInt, asBool, asIm, binD, binI, cmpD, cmpI, ixD, slD, biD, meD, meOk, mutD, Mm.sup, setD, wkD, mkTup, ims, D.isIm, E.pure, Es.pure, Eo.pure, E.src, Wk.src, keepS, bindT, bindTs, Kh.clear, lockAll, Kh.settle, settleGo, Slot.isOwnMut, Slot.imOf, Slot.borOf, giveBack, callF, stepClear, settleF, Out.nx, Ss.stores, Kh.S.stores, Tg.slots, Tgs.slots, Es.len])
  have h4 := sum_lc (T := T) (s := .own (pol l)) (d := sumD l) (by omega)
  simp only [Fd.sem, f_poly]
  simp [h3, h4, ims_pI', psum, ev, evs, exs, args, bo, lift, readS, lendS, still, needIm, asInt, asBool, asIm, binD, binI, cmpD, cmpI, ixD, slD, biD, meD, meOk, mutD, Mm.sup, setD, wkD, mkTup, ims, D.isIm, E.pure, Es.pure, Eo.pure, E.src, Wk.src, keepS, bindT, bindTs, Kh.clear, lockAll, Kh.settle, settleGo, Slot.isOwnMut, Slot.imOf, Slot.borOf, giveBack, callF, stepClear, settleF, Out.nx, Ss.stores, Kh.S.stores, Tg.slots, Tgs.slots, Es.len]
theorem poly_okL {T : Kh.Tab} {l : List Z2} (hl : l.length ≤ big) : f_poly.sem T [.own (lpol l)] = .ok (pol (psum l)) [.own (lpol l)] := by
  obtain ⟨h1, h2⟩ := sum_for (T := T) (s := .bor (lpol l)) hl
  have h3 := for_to (T := T) (w := .it (.var 0)) (t := .tup (.cons (.name 2) (.cons (.name 3) .nil))) (dead := [2, 3]) (st := [2, 3]) (body := .cons (.setix 1 (.cons (.var 2) .nil) (.bin .add (.me .get (.var 1) (.cons (.var 2) (.cons (.cst (.int 0)) .nil))) (.var 3))) .nil) (e := [.own (lpol l), .own (.dct false []), .no, .no]) (xs := l.map fun p => .im (pI p)) rfl (by simp [Function.comp_def, ev, evs, exs, args, bo, lift, readS, lendS, still, needIm, asInt, asBool, asIm, binD, binI, cmpD, cmpI, ixD, slD, biD, meD, meOk, mutD, Mm.sup, setD, wkD, mkTup, ims, D.isIm, E.pure, Es.pure, Eo.pure, E.src, Wk.src, keepS, bindT, bindTs, Kh.clear, lockAll, Kh.settle, settleGo, Slot.isOwnMut, Slot.imOf, Slot.borOf, giveBack, callF, stepClear, settleF, Out.nx, Ss.stores, Kh.S.stores, Tg.slots, Tgs.slots, Es.len]; rfl) (by simp [ev, evs, exs, args, bo, lift, readS, lendS, still, needIm, asInt, asBool, asIm, binD, binI, cmpD, cmpI, ixD, slD, biD, meD, meOk, mutD, Mm.sup, setD, wkD, mkTup, ims, D.isIm, E.pure, Es.pure, Eo.pure, E.src, Wk.src, keepS, bindT, bindTs, Kh.clear, lockAll, Kh.settle, settleGo, Slot.isOwnMut, Slot.imOf, Slot.borOf, giveBack, callF, stepClear, settleF, Out.nx, Ss.stores, Kh.S.stores, Tg.slots, Tgs.slots, Es.len]) h1 (e3 := [.own (lpol l), .own (dct (sumD l)), .no, .no]) (by simp [ev, evs, exs, args, bo, lift, readS, lendS, still, needIm, asInt, asBool, asIm, binD, binI, cmpD, cmpI, ixD, slD, biD, meD, meOk, mutD, Mm.sup, setD, wkD, mkTup, ims, D.isIm, E.pure, Es.pure, Eo.pure, E.src, Wk.src, keepS, bindT, bindTs, Kh.clear, lockAll, Kh.settle, settleGo, Slot.isOwnMut, Slot.imOf, Slot.borOf, giveBack, callF, stepClear, settleF, Out.nx, Ss.stores, Kh.S.stores, Tg.slots, Tgs.slots, Es.len])
  have h4 := sum_lc (T := T) (s := .own (lpol l)) (d := sumD l) (by omega)
  simp only [Fd.sem, f_poly]
  simp [h3, h4, ims_pI', psum, ev, evs, exs, args, bo, lift, readS, lendS, still, needIm, asInt, asBool, asIm, binD, binI, cmpD, cmpI, ixD, slD, biD, meD, meOk, mutD, Mm.sup, setD, wkD, mkTup, ims, D.isIm, E.pure, Es.pure, Eo.pure, E.src, Wk.src, keepS, bindT, bindTs, Kh.clear, lockAll, Kh.settle, settleGo, Slot.isOwnMut, Slot.imOf, Slot.borOf, giveBack, callF, stepClear, settleF, Out.nx, Ss.stores, Kh.S.stores, Tg.slots, Tgs.slots, Es.len]
theorem lsum_eq {T : Kh.Tab} : f_l_sum = f_poly := rfl
theorem add_ok {k : Nat} {a b : List Z2} (h : a.length + b.length ≤ big) : f_add.sem (tab (k + 1)) [.own (pol a), .own (pol b)] = .ok (pol (psum (a ++ b))) [.own (pol a), .own (pol b)] := by
  have hp : (tab (k + 1)).fn "poly" = some (f_poly.sem (tab k)) := rfl
  have h1 := poly_ok (T := tab k) (l := a ++ b) (by simpa using h)
  simp only [pol, List.map_append] at h1
  simp only [Fd.sem, f_add]
  simp [hp, h, h1, ev, evs, exs, args, bo, lift, readS, lendS, still, needIm, asInt, asBool, asIm, binD, binI, cmpD, cmpI, ixD, slD, biD, meD, meOk, mutD, Mm.sup, setD, wkD, mkTup, ims, D.isIm, E.pure, Es.pure, Eo.pure, E.src, Wk.src, keepS, bindT, bindTs, Kh.clear, lockAll, Kh.settle, settleGo, Slot.isOwnMut, Slot.imOf, Slot.borOf, giveBack, callF, stepClear, settleF, Out.nx, Ss.stores, Kh.S.stores, Tg.slots, Tgs.slots, Es.len]
end Kw

set_option Elab.async false
set_option linter.all false
set_option maxRecDepth 100000
set_option maxHeartbeats 2000000
namespace Kw
open PySem L2 Kh
abbrev int (i : Int) : D := .im (.int i)
def Bd (b : Nat) (l : List Z2) : Prop := ∀ p ∈ l, p.2.natAbs < 2 ^ b
theorem log_lt {x b : Nat} (h : x < 2 ^ b) (hb : 0 < b) : x.log2 < b := by
  by_cases z : x = 0
  · subst z; simpa using hb
  · exact (Nat.log2_lt z).mpr h
theorem sz_ok {x y : Int} {a b : Nat} (hx : x.natAbs < 2 ^ a) (hy : y.natAbs < 2 ^ b) (ha : 0 < a) (hb : 0 < b) (h : a + b ≤ 1000000) : x.natAbs.log2 + y.natAbs.log2 < 1000000 := by
  have h1 := log_lt hx ha
  have h2 := log_lt hy hb
  omega
def scaleZ (l : List Z2) (n : Int) : List Z2 := if n = 0 then [] else l.map fun p => (p.1, p.2 * n)
theorem scaled_ok {T : Kh.Tab} {l : List Z2} {n : Int} {b : Nat} (hl : l.length ≤ big) (hb : Bd b l) (hn : n.natAbs < 2 ^ 200) (b0 : 0 < b) (hz : b ≤ 900000) : f_scaled.sem T [.own (pol l), .own (int n)] = .ok (pol (scaleZ l n)) [.own (pol l), .own (int n)] := by
  have h := lc_to (T := T) (w := .it (.var 0)) (tg := .tup (.cons (.name 2) (.cons (.name 3) .nil))) (own := [("exponent", 2), ("part", 3)]) (vs := [2, 3]) (c := .so (.cmp .ne (.var 1) (.cst (.int 0)))) (elt := .tup (.cons (.var 2) (.cons (.bin .mul (.var 3) (.var 1)) .nil))) (b := false)
    (e := [.own (pol l), .own (int n), .no, .no]) (e0 := [.own (pol l), .own (int n), .no, .no]) (e1 := [.own (pol l), .own (int n), .no, .no]) (xs := (l.map pI).map .im) (ys := (scaleZ l n).map fun p => .im (pI p)) (e2 := [.own (pol l), .own (int n), .no, .no]) (e3 := [.own (pol l), .own (int n), .no, .no]) rfl (by simp [ev, evs, exs, args, bo, lift, readS, lendS, still, needIm, asInt, asBool, asIm, binD, binI, cmpD, cmpI, ixD, slD, biD, meD, meOk, mutD, Mm.sup, setD, wkD, mkTup, ims, D.isIm, E.pure, Es.pure, Eo.pure, E.src, Wk.src, keepS, bindT, bindTs, Kh.clear, lockAll, Kh.settle, settleGo, Slot.isOwnMut, Slot.imOf, Slot.borOf, giveBack, callF, stepClear, settleF, Out.nx, Ss.stores, Kh.S.stores, Tg.slots, Tgs.slots, Es.len]) (by simpa using hl) (by simp [ev, evs, exs, args, bo, lift, readS, lendS, still, needIm, asInt, asBool, asIm, binD, binI, cmpD, cmpI, ixD, slD, biD, meD, meOk, mutD, Mm.sup, setD, wkD, mkTup, ims, D.isIm, E.pure, Es.pure, Eo.pure, E.src, Wk.src, keepS, bindT, bindTs, Kh.clear, lockAll, Kh.settle, settleGo, Slot.isOwnMut, Slot.imOf, Slot.borOf, giveBack, callF, stepClear, settleF, Out.nx, Ss.stores, Kh.S.stores, Tg.slots, Tgs.slots, Es.len]) (by
      rw [List.map_map, lcGo_fm (D.im ∘ pI) (fun p => if n = 0 then none else some (.im (pI (p.1, p.2 * n)))) _ l fun p m => ?_]
      · congr 1
        unfold scaleZ
        split
        · simp
        · simp [Function.comp_def]
      · have z := sz_ok (hb p m) hn b0 (by decide) (by omega)
        by_cases h0 : n = 0
        · simp [lcT, pI, I.shal, I.eq, h0, ev, evs, exs, args, bo, lift, readS, lendS, still, needIm, asInt, asBool, asIm, binD, binI, cmpD, cmpI, ixD, slD, biD, meD, meOk, mutD, Mm.sup, setD, wkD, mkTup, ims, D.isIm, E.pure, Es.pure, Eo.pure, E.src, Wk.src, keepS, bindT, bindTs, Kh.clear, lockAll, Kh.settle, settleGo, Slot.isOwnMut, Slot.imOf, Slot.borOf, giveBack, callF, stepClear, settleF, Out.nx, Ss.stores, Kh.S.stores, Tg.slots, Tgs.slots, Es.len]
        · simp [lcT, pI, I.shal, I.eq, h0, z, ev, evs, exs, args, bo, lift, readS, lendS, still, needIm, asInt, asBool, asIm, binD, binI, cmpD, cmpI, ixD, slD, biD, meD, meOk, mutD, Mm.sup, setD, wkD, mkTup, ims, D.isIm, E.pure, Es.pure, Eo.pure, E.src, Wk.src, keepS, bindT, bindTs, Kh.clear, lockAll, Kh.settle, settleGo, Slot.isOwnMut, Slot.imOf, Slot.borOf, giveBack, callF, stepClear, settleF, Out.nx, Ss.stores, Kh.S.stores, Tg.slots, Tgs.slots, Es.len]) (by simp [ev, evs, exs, args, bo, lift, readS, lendS, still, needIm, asInt, asBool, asIm, binD, binI, cmpD, cmpI, ixD, slD, biD, meD, meOk, mutD, Mm.sup, setD, wkD, mkTup, ims, D.isIm, E.pure, Es.pure, Eo.pure, E.src, Wk.src, keepS, bindT, bindTs, Kh.clear, lockAll, Kh.settle, settleGo, Slot.isOwnMut, Slot.imOf, Slot.borOf, giveBack, callF, stepClear, settleF, Out.nx, Ss.stores, Kh.S.stores, Tg.slots, Tgs.slots, Es.len])
  simp only [Fd.sem, f_scaled]
  simp [h, ims_pI', ev, evs, exs, args, bo, lift, readS, lendS, still, needIm, asInt, asBool, asIm, binD, binI, cmpD, cmpI, ixD, slD, biD, meD, meOk, mutD, Mm.sup, setD, wkD, mkTup, ims, D.isIm, E.pure, Es.pure, Eo.pure, E.src, Wk.src, keepS, bindT, bindTs, Kh.clear, lockAll, Kh.settle, settleGo, Slot.isOwnMut, Slot.imOf, Slot.borOf, giveBack, callF, stepClear, settleF, Out.nx, Ss.stores, Kh.S.stores, Tg.slots, Tgs.slots, Es.len]
def prodL (a b : List Z2) : List Z2 := a.flatMap fun p => b.map fun q => (p.1 + q.1, p.2 * q.2)
theorem sumD_len (l : List Z2) : ∀ d : List Z2, (l.foldl addZ d).length ≤ l.length + d.length := by
  induction l with
  | nil => intro d; simp
  | cons p r ih =>
    intro d
    have h1 := putZ_len p.1 ((lookZ d p.1).getD 0 + p.2) d
    have h2 := ih (addZ d p)
    have h3 : (addZ d p).length ≤ d.length + 1 := h1
    simp only [List.foldl_cons, List.length_cons]
    omega
def tBody : Ss := .cons (.setix 2 (.cons (.bin .add (.var 3) (.var 5)) .nil) (.bin .add (.me .get (.var 2) (.cons (.bin .add (.var 3) (.var 5)) (.cons (.cst (.int 0)) .nil))) (.bin .mul (.var 4) (.var 6)))) .nil
theorem times_in {T : Kh.Tab} {s t : Kh.Slot} {d : List Z2} {p q : Z2} (hd : d.length < big) (hz : p.2.natAbs.log2 + q.2.natAbs.log2 < 1000000) : forT T (.tup (.cons (.name 5) (.cons (.name 6) .nil))) [5, 6] tBody (.im (pI q)) [s, t, .own (dct d), .own (int p.1), .own (int p.2), .no, .no, .no] =
    .ok .nx [s, t, .own (dct (addZ d (p.1 + q.1, p.2 * q.2))), .own (int p.1), .own (int p.2), .no, .no, .no] := by
  have hg : getIm (.int 0) ((lookZ d (p.1 + q.1)).map fun v => D.im (.int v)) = some (.im (.int ((lookZ d (p.1 + q.1)).getD 0))) := by cases lookZ d (p.1 + q.1) <;> rfl
  simp [forT, tBody, pI, keyOk, isKey, lkup_Z, dput_Z, hg, hd, hz, addZ, ev, evs, exs, args, bo, lift, readS, lendS, still, needIm, asInt, asBool, asIm, binD, binI, cmpD, cmpI, ixD, slD, biD, meD, meOk, mutD, Mm.sup, setD, wkD, mkTup, ims, D.isIm, E.pure, Es.pure, Eo.pure, E.src, Wk.src, keepS, bindT, bindTs, Kh.clear, lockAll, Kh.settle, settleGo, Slot.isOwnMut, Slot.imOf, Slot.borOf, giveBack, callF, stepClear, settleF, Out.nx, Ss.stores, Kh.S.stores, Tg.slots, Tgs.slots, Es.len]
theorem times_row {T : Kh.Tab} {s t : Kh.Slot} {l : List Z2} {d : List Z2} {p : Z2} (hw : t = .own (pol l)) (hd : d.length + l.length ≤ big) (hz : ∀ q ∈ l, p.2.natAbs.log2 + q.2.natAbs.log2 < 1000000) :
    forT T (.tup (.cons (.name 3) (.cons (.name 4) .nil))) [3, 4, 5, 6] (.cons (.fors (.it (.var 1)) (.tup (.cons (.name 5) (.cons (.name 6) .nil))) [5, 6] tBody) .nil) (.im (pI p)) [s, t, .own (dct d), .no, .no, .no, .no, .no] =
      .ok .nx [s, t, .own (dct ((l.map fun q => (p.1 + q.1, p.2 * q.2)).foldl addZ d)), .no, .no, .no, .no, .no] := by
  subst hw
  have h := forGo_st (turn := forT T (.tup (.cons (.name 5) (.cons (.name 6) .nil))) [5, 6] tBody) (fun q => .im (pI q)) (fun d => [s, .own (pol l), .own (dct d), .own (int p.1), .own (int p.2), .no, .no, .no]) (fun d q => addZ d (p.1 + q.1, p.2 * q.2)) (fun r c => r.length + c.length ≤ big ∧ ∀ q ∈ r, p.2.natAbs.log2 + q.2.natAbs.log2 < 1000000) l d ⟨by omega, hz⟩ fun q r c hc => by
    have h1 := putZ_len (p.1 + q.1) ((lookZ c (p.1 + q.1)).getD 0 + p.2 * q.2) c
    obtain ⟨c1, c2⟩ := hc
    simp only [List.length_cons] at c1
    refine ⟨times_in (by omega) (c2 q List.mem_cons_self), ?_, fun z m => c2 z (List.mem_cons_of_mem _ m)⟩
    have h3 : (addZ c (p.1 + q.1, p.2 * q.2)).length ≤ c.length + 1 := h1
    omega
  have h2 := for_to (T := T) (w := .it (.var 1)) (t := .tup (.cons (.name 5) (.cons (.name 6) .nil))) (dead := [5, 6]) (st := [5, 6]) (body := tBody) (e := [s, .own (pol l), .own (dct d), .own (int p.1), .own (int p.2), .no, .no, .no]) (xs := l.map fun p => .im (pI p)) rfl (by simp [Function.comp_def, ev, evs, exs, args, bo, lift, readS, lendS, still, needIm, asInt, asBool, asIm, binD, binI, cmpD, cmpI, ixD, slD, biD, meD, meOk, mutD, Mm.sup, setD, wkD, mkTup, ims, D.isIm, E.pure, Es.pure, Eo.pure, E.src, Wk.src, keepS, bindT, bindTs, Kh.clear, lockAll, Kh.settle, settleGo, Slot.isOwnMut, Slot.imOf, Slot.borOf, giveBack, callF, stepClear, settleF, Out.nx, Ss.stores, Kh.S.stores, Tg.slots, Tgs.slots, Es.len]; rfl) (by simp [ev, evs, exs, args, bo, lift, readS, lendS, still, needIm, asInt, asBool, asIm, binD, binI, cmpD, cmpI, ixD, slD, biD, meD, meOk, mutD, Mm.sup, setD, wkD, mkTup, ims, D.isIm, E.pure, Es.pure, Eo.pure, E.src, Wk.src, keepS, bindT, bindTs, Kh.clear, lockAll, Kh.settle, settleGo, Slot.isOwnMut, Slot.imOf, Slot.borOf, giveBack, callF, stepClear, settleF, Out.nx, Ss.stores, Kh.S.stores, Tg.slots, Tgs.slots, Es.len]) h.1 (e3 := [s, .own (pol l), .own (dct ((l.map fun q => (p.1 + q.1, p.2 * q.2)).foldl addZ d)), .own (int p.1), .own (int p.2), .no, .no, .no]) (by cases s <;> simp [List.foldl_map, ev, evs, exs, args, bo, lift, readS, lendS, still, needIm, asInt, asBool, asIm, binD, binI, cmpD, cmpI, ixD, slD, biD, meD, meOk, mutD, Mm.sup, setD, wkD, mkTup, ims, D.isIm, E.pure, Es.pure, Eo.pure, E.src, Wk.src, keepS, bindT, bindTs, Kh.clear, lockAll, Kh.settle, settleGo, Slot.isOwnMut, Slot.imOf, Slot.borOf, giveBack, callF, stepClear, settleF, Out.nx, Ss.stores, Kh.S.stores, Tg.slots, Tgs.slots, Es.len])
  simp [forT, pI, h2, ev, evs, exs, args, bo, lift, readS, lendS, still, needIm, asInt, asBool, asIm, binD, binI, cmpD, cmpI, ixD, slD, biD, meD, meOk, mutD, Mm.sup, setD, wkD, mkTup, ims, D.isIm, E.pure, Es.pure, Eo.pure, E.src, Wk.src, keepS, bindT, bindTs, Kh.clear, lockAll, Kh.settle, settleGo, Slot.isOwnMut, Slot.imOf, Slot.borOf, giveBack, callF, stepClear, settleF, Out.nx, Ss.stores, Kh.S.stores, Tg.slots, Tgs.slots, Es.len]
end Kw

set_option Elab.async false
set_option linter.all false
set_option maxRecDepth 100000
set_option maxHeartbeats 2000000
namespace Kw
open PySem L2 Kh
theorem times_lc {T : Kh.Tab} {s t : Kh.Slot} {d : List Z2} (hd : d.length ≤ big) : evalE T (.lc (.it (.bi .sorted (.cons (.var 2) .nil))) (.name 7) [("exponent", 7)] (.so (.cmp .ne (.ix (.var 2) (.var 7)) (.cst (.int 0)))) (.tup (.cons (.var 7) (.cons (.ix (.var 2) (.var 7)) .nil)))) false [s, t, .own (dct d), .no, .no, .no, .no, .no] = .ok (.lst ((outZ d).map fun p => .im (pI p))) [s, t, .own (dct d), .no, .no, .no, .no, .no] := by
  refine lc_to (vs := [7]) (e0 := [s, t, .own (dct d), .no, .no, .no, .no, .no]) (e1 := [s, t, .own (dct d), .no, .no, .no, .no, .no]) (xs := ((d.map (·.1)).mergeSort (fun a b => decide (a ≤ b))).map fun n => .im (.int n)) (e2 := [s, t, .own (dct d), .no, .no, .no, .no, .no]) rfl ?_ (by rw [List.length_map, lenk]; exact hd) (by simp [ev, evs, exs, args, bo, lift, readS, lendS, still, needIm, asInt, asBool, asIm, binD, binI, cmpD, cmpI, ixD, slD, biD, meD, meOk, mutD, Mm.sup, setD, wkD, mkTup, ims, D.isIm, E.pure, Es.pure, Eo.pure, E.src, Wk.src, keepS, bindT, bindTs, Kh.clear, lockAll, Kh.settle, settleGo, Slot.isOwnMut, Slot.imOf, Slot.borOf, giveBack, callF, stepClear, settleF, Out.nx, Ss.stores, Kh.S.stores, Tg.slots, Tgs.slots, Es.len]) ?_ (by cases s <;> cases t <;> simp [ev, evs, exs, args, bo, lift, readS, lendS, still, needIm, asInt, asBool, asIm, binD, binI, cmpD, cmpI, ixD, slD, biD, meD, meOk, mutD, Mm.sup, setD, wkD, mkTup, ims, D.isIm, E.pure, Es.pure, Eo.pure, E.src, Wk.src, keepS, bindT, bindTs, Kh.clear, lockAll, Kh.settle, settleGo, Slot.isOwnMut, Slot.imOf, Slot.borOf, giveBack, callF, stepClear, settleF, Out.nx, Ss.stores, Kh.S.stores, Tg.slots, Tgs.slots, Es.len])
  · have hk := keysZ d
    simp only [List.map_map] at hk
    simp [hk, ev, evs, exs, args, bo, lift, readS, lendS, still, needIm, asInt, asBool, asIm, binD, binI, cmpD, cmpI, ixD, slD, biD, meD, meOk, mutD, Mm.sup, setD, wkD, mkTup, ims, D.isIm, E.pure, Es.pure, Eo.pure, E.src, Wk.src, keepS, bindT, bindTs, Kh.clear, lockAll, Kh.settle, settleGo, Slot.isOwnMut, Slot.imOf, Slot.borOf, giveBack, callF, stepClear, settleF, Out.nx, Ss.stores, Kh.S.stores, Tg.slots, Tgs.slots, Es.len]
  · rw [lcGo_fm (fun n => D.im (.int n)) (fun e => if (lookZ d e).getD 0 ≠ 0 then some (.im (pI (e, (lookZ d e).getD 0))) else none) [s, t, .own (dct d), .no, .no, .no, .no, .no] _ fun e m => ?_]
    · congr 1
      unfold outZ
      rw [List.map_filterMap]
      congr 1
      funext e
      split <;> rfl
    · obtain ⟨v, hv⟩ := lookZ_mem (d := d) (e := e) (by simpa using m)
      by_cases z : v = 0
      · subst z
        simp [lcT, pI, keyOk, isKey, lkup_Z, hv, I.shal, I.eq, ev, evs, exs, args, bo, lift, readS, lendS, still, needIm, asInt, asBool, asIm, binD, binI, cmpD, cmpI, ixD, slD, biD, meD, meOk, mutD, Mm.sup, setD, wkD, mkTup, ims, D.isIm, E.pure, Es.pure, Eo.pure, E.src, Wk.src, keepS, bindT, bindTs, Kh.clear, lockAll, Kh.settle, settleGo, Slot.isOwnMut, Slot.imOf, Slot.borOf, giveBack, callF, stepClear, settleF, Out.nx, Ss.stores, Kh.S.stores, Tg.slots, Tgs.slots, Es.len]
      · simp [lcT, pI, keyOk, isKey, lkup_Z, hv, I.shal, I.eq, z, ev, evs, exs, args, bo, lift, readS, lendS, still, needIm, asInt, asBool, asIm, binD, binI, cmpD, cmpI, ixD, slD, biD, meD, meOk, mutD, Mm.sup, setD, wkD, mkTup, ims, D.isIm, E.pure, Es.pure, Eo.pure, E.src, Wk.src, keepS, bindT, bindTs, Kh.clear, lockAll, Kh.settle, settleGo, Slot.isOwnMut, Slot.imOf, Slot.borOf, giveBack, callF, stepClear, settleF, Out.nx, Ss.stores, Kh.S.stores, Tg.slots, Tgs.slots, Es.len]
theorem fm_foldl {α : Type} (g : α → List Z2) : ∀ (l : List α) (d : List Z2), (l.flatMap g).foldl addZ d = l.foldl (fun d p => (g p).foldl addZ d) d
  | [], _ => rfl
  | p :: r, d => by
    rw [List.flatMap_cons, List.foldl_append, fm_foldl g r]
    rfl
theorem times_ok {T : Kh.Tab} {a b : List Z2} {c1 c2 : Nat} (hl : a.length * b.length ≤ big) (ha : Bd c1 a) (hb : Bd c2 b) (z1 : 0 < c1) (z2 : 0 < c2) (hc : c1 + c2 ≤ 1000000) (hla : a.length ≤ big) (hlb : b.length ≤ big) : f_times.sem T [.own (pol a), .own (pol b)] = .ok (pol (psum (prodL a b))) [.own (pol a), .own (pol b)] := by
  have h := forGo_st (turn := forT T (.tup (.cons (.name 3) (.cons (.name 4) .nil))) [3, 4, 5, 6] (.cons (.fors (.it (.var 1)) (.tup (.cons (.name 5) (.cons (.name 6) .nil))) [5, 6] tBody) .nil)) (fun q => .im (pI q)) (fun d => [.own (pol a), .own (pol b), .own (dct d), .no, .no, .no, .no, .no])
    (fun d p => (b.map fun q => (p.1 + q.1, p.2 * q.2)).foldl addZ d) (fun r c => r.length * b.length + c.length ≤ big ∧ ∀ p ∈ r, p ∈ a) a [] ⟨by simpa using hl, fun _ m => m⟩ fun p r d hd => by
    obtain ⟨d1, d2⟩ := hd
    simp only [List.length_cons, Nat.add_mul, Nat.one_mul] at d1
    have h3 := sumD_len (b.map fun q => (p.1 + q.1, p.2 * q.2)) d
    rw [List.length_map] at h3
    exact ⟨times_row rfl (by omega) fun q m => sz_ok (ha p (d2 p List.mem_cons_self)) (hb q m) z1 z2 hc, by omega, fun z m => d2 z (List.mem_cons_of_mem _ m)⟩
  rw [← fm_foldl] at h
  have h1 := h.1
  change forGo _ _ _ = Out.ok Fl.nx [.own (pol a), .own (pol b), .own (dct (sumD (prodL a b))), .no, .no, .no, .no, .no] at h1
  have h2 := for_to (T := T) (w := .it (.var 0)) (t := .tup (.cons (.name 3) (.cons (.name 4) .nil))) (dead := [3, 4, 5, 6]) (st := [3, 4, 5, 6]) (body := .cons (.fors (.it (.var 1)) (.tup (.cons (.name 5) (.cons (.name 6) .nil))) [5, 6] tBody) .nil) (e := [.own (pol a), .own (pol b), .own (.dct false []), .no, .no, .no, .no, .no]) (xs := a.map fun p => .im (pI p)) rfl (by simp [Function.comp_def, ev, evs, exs, args, bo, lift, readS, lendS, still, needIm, asInt, asBool, asIm, binD, binI, cmpD, cmpI, ixD, slD, biD, meD, meOk, mutD, Mm.sup, setD, wkD, mkTup, ims, D.isIm, E.pure, Es.pure, Eo.pure, E.src, Wk.src, keepS, bindT, bindTs, Kh.clear, lockAll, Kh.settle, settleGo, Slot.isOwnMut, Slot.imOf, Slot.borOf, giveBack, callF, stepClear, settleF, Out.nx, Ss.stores, Kh.S.stores, Tg.slots, Tgs.slots, Es.len]; rfl) (by simp [ev, evs, exs, args, bo, lift, readS, lendS, still, needIm, asInt, asBool, asIm, binD, binI, cmpD, cmpI, ixD, slD, biD, meD, meOk, mutD, Mm.sup, setD, wkD, mkTup, ims, D.isIm, E.pure, Es.pure, Eo.pure, E.src, Wk.src, keepS, bindT, bindTs, Kh.clear, lockAll, Kh.settle, settleGo, Slot.isOwnMut, Slot.imOf, Slot.borOf, giveBack, callF, stepClear, settleF, Out.nx, Ss.stores, Kh.S.stores, Tg.slots, Tgs.slots, Es.len]) h1 (e3 := [.own (pol a), .own (pol b), .own (dct (sumD (prodL a b))), .no, .no, .no, .no, .no]) (by simp [ev, evs, exs, args, bo, lift, readS, lendS, still, needIm, asInt, asBool, asIm, binD, binI, cmpD, cmpI, ixD, slD, biD, meD, meOk, mutD, Mm.sup, setD, wkD, mkTup, ims, D.isIm, E.pure, Es.pure, Eo.pure, E.src, Wk.src, keepS, bindT, bindTs, Kh.clear, lockAll, Kh.settle, settleGo, Slot.isOwnMut, Slot.imOf, Slot.borOf, giveBack, callF, stepClear, settleF, Out.nx, Ss.stores, Kh.S.stores, Tg.slots, Tgs.slots, Es.len])
  have h4 := times_lc (T := T) (s := .own (pol a)) (t := .own (pol b)) (d := sumD (prodL a b)) (by
    have := h.2.1
    simp only [List.length_nil, Nat.zero_mul, Nat.zero_add] at this
    exact this)
  simp only [Fd.sem, f_times]
  unfold tBody at h2
  simp [h2, h4, ims_pI', psum, ev, evs, exs, args, bo, lift, readS, lendS, still, needIm, asInt, asBool, asIm, binD, binI, cmpD, cmpI, ixD, slD, biD, meD, meOk, mutD, Mm.sup, setD, wkD, mkTup, ims, D.isIm, E.pure, Es.pure, Eo.pure, E.src, Wk.src, keepS, bindT, bindTs, Kh.clear, lockAll, Kh.settle, settleGo, Slot.isOwnMut, Slot.imOf, Slot.borOf, giveBack, callF, stepClear, settleF, Out.nx, Ss.stores, Kh.S.stores, Tg.slots, Tgs.slots, Es.len]
theorem subtract_ok {k : Nat} {a b : List Z2} {c : Nat} (h : a.length + b.length ≤ big) (hb : Bd c b) (c0 : 0 < c) (hc : c ≤ 900000) : f_subtract.sem (tab (k + 2)) [.own (pol a), .own (pol b)] = .ok (pol (psum (a ++ scaleZ b (-1)))) [.own (pol a), .own (pol b)] := by
  have hp : (tab (k + 2)).fn "scaled" = some (f_scaled.sem (tab (k + 1))) := rfl
  have hq : (tab (k + 2)).fn "add" = some (f_add.sem (tab (k + 1))) := rfl
  have h1 := scaled_ok (T := tab (k + 1)) (l := b) (n := -1) (by omega) hb (by decide) c0 hc
  have h2 := add_ok (k := k) (a := a) (b := scaleZ b (-1)) (by simpa [scaleZ] using h)
  simp only [Fd.sem, f_subtract]
  simp [hp, hq, h1, h2, ev, evs, exs, args, bo, lift, readS, lendS, still, needIm, asInt, asBool, asIm, binD, binI, cmpD, cmpI, ixD, slD, biD, meD, meOk, mutD, Mm.sup, setD, wkD, mkTup, ims, D.isIm, E.pure, Es.pure, Eo.pure, E.src, Wk.src, keepS, bindT, bindTs, Kh.clear, lockAll, Kh.settle, settleGo, Slot.isOwnMut, Slot.imOf, Slot.borOf, giveBack, callF, stepClear, settleF, Out.nx, Ss.stores, Kh.S.stores, Tg.slots, Tgs.slots, Es.len]
theorem flipped_ok {T : Kh.Tab} {l : List Z2} (hl : l.length ≤ big) : f_flipped.sem T [.own (pol l)] = .ok (pol (l.reverse.map fun p => (0 - p.1, p.2))) [.own (pol l)] := by
  have h := lc_to (T := T) (w := .rev (.var 0)) (tg := .tup (.cons (.name 1) (.cons (.name 2) .nil))) (own := [("exponent", 1), ("part", 2)]) (vs := [1, 2]) (c := .no) (elt := .tup (.cons (.bin .sub (.cst (.int 0)) (.var 1)) (.cons (.var 2) .nil))) (b := false)
    (e := [.own (pol l), .no, .no]) (e0 := [.own (pol l), .no, .no]) (e1 := [.own (pol l), .no, .no]) (xs := l.reverse.map fun p => .im (pI p)) (ys := (l.reverse.map fun p => (0 - p.1, p.2)).map fun p => .im (pI p)) (e2 := [.own (pol l), .no, .no]) (e3 := [.own (pol l), .no, .no]) rfl (by simp [Function.comp_def, ev, evs, exs, args, bo, lift, readS, lendS, still, needIm, asInt, asBool, asIm, binD, binI, cmpD, cmpI, ixD, slD, biD, meD, meOk, mutD, Mm.sup, setD, wkD, mkTup, ims, D.isIm, E.pure, Es.pure, Eo.pure, E.src, Wk.src, keepS, bindT, bindTs, Kh.clear, lockAll, Kh.settle, settleGo, Slot.isOwnMut, Slot.imOf, Slot.borOf, giveBack, callF, stepClear, settleF, Out.nx, Ss.stores, Kh.S.stores, Tg.slots, Tgs.slots, Es.len]) (by simpa using hl) (by simp [ev, evs, exs, args, bo, lift, readS, lendS, still, needIm, asInt, asBool, asIm, binD, binI, cmpD, cmpI, ixD, slD, biD, meD, meOk, mutD, Mm.sup, setD, wkD, mkTup, ims, D.isIm, E.pure, Es.pure, Eo.pure, E.src, Wk.src, keepS, bindT, bindTs, Kh.clear, lockAll, Kh.settle, settleGo, Slot.isOwnMut, Slot.imOf, Slot.borOf, giveBack, callF, stepClear, settleF, Out.nx, Ss.stores, Kh.S.stores, Tg.slots, Tgs.slots, Es.len]) (by
      rw [lcGo_map (fun p => D.im (pI p)) (fun p => .im (pI (0 - p.1, p.2))) _ _ fun p m => ?_]
      · simp [Function.comp_def]
      · simp [lcT, pI, ev, evs, exs, args, bo, lift, readS, lendS, still, needIm, asInt, asBool, asIm, binD, binI, cmpD, cmpI, ixD, slD, biD, meD, meOk, mutD, Mm.sup, setD, wkD, mkTup, ims, D.isIm, E.pure, Es.pure, Eo.pure, E.src, Wk.src, keepS, bindT, bindTs, Kh.clear, lockAll, Kh.settle, settleGo, Slot.isOwnMut, Slot.imOf, Slot.borOf, giveBack, callF, stepClear, settleF, Out.nx, Ss.stores, Kh.S.stores, Tg.slots, Tgs.slots, Es.len]) (by simp [ev, evs, exs, args, bo, lift, readS, lendS, still, needIm, asInt, asBool, asIm, binD, binI, cmpD, cmpI, ixD, slD, biD, meD, meOk, mutD, Mm.sup, setD, wkD, mkTup, ims, D.isIm, E.pure, Es.pure, Eo.pure, E.src, Wk.src, keepS, bindT, bindTs, Kh.clear, lockAll, Kh.settle, settleGo, Slot.isOwnMut, Slot.imOf, Slot.borOf, giveBack, callF, stepClear, settleF, Out.nx, Ss.stores, Kh.S.stores, Tg.slots, Tgs.slots, Es.len])
  simp only [Fd.sem, f_flipped]
  simp [h, ims_pI', -List.map_map, -List.map_reverse, ev, evs, exs, args, bo, lift, readS, lendS, still, needIm, asInt, asBool, asIm, binD, binI, cmpD, cmpI, ixD, slD, biD, meD, meOk, mutD, Mm.sup, setD, wkD, mkTup, ims, D.isIm, E.pure, Es.pure, Eo.pure, E.src, Wk.src, keepS, bindT, bindTs, Kh.clear, lockAll, Kh.settle, settleGo, Slot.isOwnMut, Slot.imOf, Slot.borOf, giveBack, callF, stepClear, settleF, Out.nx, Ss.stores, Kh.S.stores, Tg.slots, Tgs.slots, Es.len]
theorem spread_ok {T : Kh.Tab} {l : List Z2} {n : Int} (hl : l.length ≤ big) (hz : ∀ p ∈ l, p.1.natAbs.log2 + n.natAbs.log2 < 1000000) : f_spread.sem T [.own (pol l), .own (int n)] = .ok (pol (l.map fun p => (p.1 * n, p.2))) [.own (pol l), .own (int n)] := by
  have h := lc_to (T := T) (w := .it (.var 0)) (tg := .tup (.cons (.name 2) (.cons (.name 3) .nil))) (own := [("exponent", 2), ("part", 3)]) (vs := [2, 3]) (c := .no) (elt := .tup (.cons (.bin .mul (.var 2) (.var 1)) (.cons (.var 3) .nil))) (b := false)
    (e := [.own (pol l), .own (int n), .no, .no]) (e0 := [.own (pol l), .own (int n), .no, .no]) (e1 := [.own (pol l), .own (int n), .no, .no]) (xs := (l.map pI).map .im) (ys := l.map fun p => .im (pI (p.1 * n, p.2))) (e2 := [.own (pol l), .own (int n), .no, .no]) (e3 := [.own (pol l), .own (int n), .no, .no]) rfl (by simp [ev, evs, exs, args, bo, lift, readS, lendS, still, needIm, asInt, asBool, asIm, binD, binI, cmpD, cmpI, ixD, slD, biD, meD, meOk, mutD, Mm.sup, setD, wkD, mkTup, ims, D.isIm, E.pure, Es.pure, Eo.pure, E.src, Wk.src, keepS, bindT, bindTs, Kh.clear, lockAll, Kh.settle, settleGo, Slot.isOwnMut, Slot.imOf, Slot.borOf, giveBack, callF, stepClear, settleF, Out.nx, Ss.stores, Kh.S.stores, Tg.slots, Tgs.slots, Es.len]) (by simpa using hl) (by simp [ev, evs, exs, args, bo, lift, readS, lendS, still, needIm, asInt, asBool, asIm, binD, binI, cmpD, cmpI, ixD, slD, biD, meD, meOk, mutD, Mm.sup, setD, wkD, mkTup, ims, D.isIm, E.pure, Es.pure, Eo.pure, E.src, Wk.src, keepS, bindT, bindTs, Kh.clear, lockAll, Kh.settle, settleGo, Slot.isOwnMut, Slot.imOf, Slot.borOf, giveBack, callF, stepClear, settleF, Out.nx, Ss.stores, Kh.S.stores, Tg.slots, Tgs.slots, Es.len]) (by
      rw [List.map_map]
      refine lcGo_map _ _ _ l fun p m => ?_
      simp [lcT, pI, hz p m, ev, evs, exs, args, bo, lift, readS, lendS, still, needIm, asInt, asBool, asIm, binD, binI, cmpD, cmpI, ixD, slD, biD, meD, meOk, mutD, Mm.sup, setD, wkD, mkTup, ims, D.isIm, E.pure, Es.pure, Eo.pure, E.src, Wk.src, keepS, bindT, bindTs, Kh.clear, lockAll, Kh.settle, settleGo, Slot.isOwnMut, Slot.imOf, Slot.borOf, giveBack, callF, stepClear, settleF, Out.nx, Ss.stores, Kh.S.stores, Tg.slots, Tgs.slots, Es.len]) (by simp [ev, evs, exs, args, bo, lift, readS, lendS, still, needIm, asInt, asBool, asIm, binD, binI, cmpD, cmpI, ixD, slD, biD, meD, meOk, mutD, Mm.sup, setD, wkD, mkTup, ims, D.isIm, E.pure, Es.pure, Eo.pure, E.src, Wk.src, keepS, bindT, bindTs, Kh.clear, lockAll, Kh.settle, settleGo, Slot.isOwnMut, Slot.imOf, Slot.borOf, giveBack, callF, stepClear, settleF, Out.nx, Ss.stores, Kh.S.stores, Tg.slots, Tgs.slots, Es.len])
  simp only [Fd.sem, f_spread]
  simp [h, ims_pI, ev, evs, exs, args, bo, lift, readS, lendS, still, needIm, asInt, asBool, asIm, binD, binI, cmpD, cmpI, ixD, slD, biD, meD, meOk, mutD, Mm.sup, setD, wkD, mkTup, ims, D.isIm, E.pure, Es.pure, Eo.pure, E.src, Wk.src, keepS, bindT, bindTs, Kh.clear, lockAll, Kh.settle, settleGo, Slot.isOwnMut, Slot.imOf, Slot.borOf, giveBack, callF, stepClear, settleF, Out.nx, Ss.stores, Kh.S.stores, Tg.slots, Tgs.slots, Es.len]
theorem shifted_ok {T : Kh.Tab} {l : List Z2} {n : Int} (hl : l.length ≤ big) : f_shifted.sem T [.own (pol l), .own (int n)] = .ok (pol (l.map fun p => (p.1 + n, p.2))) [.own (pol l), .own (int n)] := by
  have h := lc_to (T := T) (w := .it (.var 0)) (tg := .tup (.cons (.name 2) (.cons (.name 3) .nil))) (own := [("exponent", 2), ("part", 3)]) (vs := [2, 3]) (c := .no) (elt := .tup (.cons (.bin .add (.var 2) (.var 1)) (.cons (.var 3) .nil))) (b := false)
    (e := [.own (pol l), .own (int n), .no, .no]) (e0 := [.own (pol l), .own (int n), .no, .no]) (e1 := [.own (pol l), .own (int n), .no, .no]) (xs := (l.map pI).map .im) (ys := l.map fun p => .im (pI (p.1 + n, p.2))) (e2 := [.own (pol l), .own (int n), .no, .no]) (e3 := [.own (pol l), .own (int n), .no, .no]) rfl (by simp [ev, evs, exs, args, bo, lift, readS, lendS, still, needIm, asInt, asBool, asIm, binD, binI, cmpD, cmpI, ixD, slD, biD, meD, meOk, mutD, Mm.sup, setD, wkD, mkTup, ims, D.isIm, E.pure, Es.pure, Eo.pure, E.src, Wk.src, keepS, bindT, bindTs, Kh.clear, lockAll, Kh.settle, settleGo, Slot.isOwnMut, Slot.imOf, Slot.borOf, giveBack, callF, stepClear, settleF, Out.nx, Ss.stores, Kh.S.stores, Tg.slots, Tgs.slots, Es.len]) (by simpa using hl) (by simp [ev, evs, exs, args, bo, lift, readS, lendS, still, needIm, asInt, asBool, asIm, binD, binI, cmpD, cmpI, ixD, slD, biD, meD, meOk, mutD, Mm.sup, setD, wkD, mkTup, ims, D.isIm, E.pure, Es.pure, Eo.pure, E.src, Wk.src, keepS, bindT, bindTs, Kh.clear, lockAll, Kh.settle, settleGo, Slot.isOwnMut, Slot.imOf, Slot.borOf, giveBack, callF, stepClear, settleF, Out.nx, Ss.stores, Kh.S.stores, Tg.slots, Tgs.slots, Es.len]) (by
      rw [List.map_map]
      refine lcGo_map _ _ _ l fun p m => ?_
      simp [lcT, pI, ev, evs, exs, args, bo, lift, readS, lendS, still, needIm, asInt, asBool, asIm, binD, binI, cmpD, cmpI, ixD, slD, biD, meD, meOk, mutD, Mm.sup, setD, wkD, mkTup, ims, D.isIm, E.pure, Es.pure, Eo.pure, E.src, Wk.src, keepS, bindT, bindTs, Kh.clear, lockAll, Kh.settle, settleGo, Slot.isOwnMut, Slot.imOf, Slot.borOf, giveBack, callF, stepClear, settleF, Out.nx, Ss.stores, Kh.S.stores, Tg.slots, Tgs.slots, Es.len]) (by simp [ev, evs, exs, args, bo, lift, readS, lendS, still, needIm, asInt, asBool, asIm, binD, binI, cmpD, cmpI, ixD, slD, biD, meD, meOk, mutD, Mm.sup, setD, wkD, mkTup, ims, D.isIm, E.pure, Es.pure, Eo.pure, E.src, Wk.src, keepS, bindT, bindTs, Kh.clear, lockAll, Kh.settle, settleGo, Slot.isOwnMut, Slot.imOf, Slot.borOf, giveBack, callF, stepClear, settleF, Out.nx, Ss.stores, Kh.S.stores, Tg.slots, Tgs.slots, Es.len])
  simp only [Fd.sem, f_shifted]
  simp [h, ims_pI, ev, evs, exs, args, bo, lift, readS, lendS, still, needIm, asInt, asBool, asIm, binD, binI, cmpD, cmpI, ixD, slD, biD, meD, meOk, mutD, Mm.sup, setD, wkD, mkTup, ims, D.isIm, E.pure, Es.pure, Eo.pure, E.src, Wk.src, keepS, bindT, bindTs, Kh.clear, lockAll, Kh.settle, settleGo, Slot.isOwnMut, Slot.imOf, Slot.borOf, giveBack, callF, stepClear, settleF, Out.nx, Ss.stores, Kh.S.stores, Tg.slots, Tgs.slots, Es.len]
end Kw

set_option Elab.async false
set_option linter.all false
set_option maxRecDepth 100000
set_option maxHeartbeats 4000000
namespace Kw
open PySem L2 Kh
/-! ### what the law draws -/
structure St where
  ns : List Int
  pos : Int
  rest : Int
  seed : Int
abbrev stD (s : St) : D := .lst [.lst (s.ns.map fun n => .im (.int n)), int s.pos, int s.rest, int s.seed]
structure StOk (s : St) : Prop where
  pos : 0 ≤ s.pos
  rest : 0 ≤ s.rest
  seed : 0 ≤ s.seed
  sb : s.seed < 2147483647
  len : s.ns.length ≤ 63
theorem at4 {α : Type} (a b c d : α) : atI [a, b, c, d] 0 = some a ∧ atI [a, b, c, d] 1 = some b ∧ atI [a, b, c, d] 2 = some c ∧ atI [a, b, c, d] 3 = some d := ⟨rfl, rfl, rfl, rfl⟩
theorem ix4 : ixN 4 0 = some 0 ∧ ixN 4 1 = some 1 ∧ ixN 4 2 = some 2 ∧ ixN 4 3 = some 3 := ⟨rfl, rfl, rfl, rfl⟩
/-- behind the first test: what is left is taken, or a number is made -/
theorem take_rest {T : Kh.Tab} {s : St} {m : Int} {x : Kh.Slot} (ok : StOk s) (hm : 0 < m) (hb : m.natAbs < 2 ^ 250) : ∃ v s' x' y', execs T (.cons (.ifs (.cmp .gt (.ix (.var 0) (.cst (.int 2))) (.cst (.int 0)))
   (.cons (.setv 3 (.bin .mod (.bi .int (.cons (.ix (.var 0) (.cst (.int 2))) .nil)) (.var 1)))
   (.cons (.setix 0 (.cons (.cst (.int 2)) .nil) (.bin .fdiv (.bi .int (.cons (.ix (.var 0) (.cst (.int 2))) .nil)) (.var 1)))
   (.cons (.ret (.var 3))
   .nil)))
   .nil)
  (.cons (.setix 0 (.cons (.cst (.int 3)) .nil) (.bin .mod (.bi .int (.cons (.bin .add (.bin .mul (.ix (.var 0) (.cst (.int 3))) (.cst (.int 48271))) (.cst (.int 11))) .nil)) (.cst (.int 2147483647))))
  (.cons (.ret (.bin .mod (.bi .int (.cons (.bin .fdiv (.ix (.var 0) (.cst (.int 3))) (.cst (.int 3))) .nil)) (.var 1)))
  .nil))) [.own (stD s), .own (int m), x, .no] = .ok (.rt (int v)) [.own (stD s'), .own (int m), x', y'] ∧ 0 ≤ v ∧ v < m ∧ StOk s' := by
  obtain ⟨ns, pos, rest, seed⟩ := s
  obtain ⟨h1, h2, h3, h4, h5⟩ := ok
  simp only at h1 h2 h3 h4 h5
  have hlog : m.natAbs.log2 < 9000 := Nat.lt_trans (log_lt hb (by decide)) (by decide)
  have hs : seed.natAbs.log2 + 15 < 1000000 := by
    have := log_lt (x := seed.natAbs) (b := 31) (by omega) (by decide)
    omega
  have hl : Nat.log2 48271 = 15 := by decide
  have hl3 : Nat.log2 3 = 1 := by decide
  by_cases c : 0 < rest
  · refine ⟨rest % m, ⟨ns, pos, rest / m, seed⟩, x, .own (int (rest % m)), ?_, Int.emod_nonneg _ (by omega), Int.emod_lt_of_pos _ hm, ⟨h1, Int.ediv_nonneg h2 (by omega), h3, h4, h5⟩⟩
    simp [at4, ix4, c, hm, hlog, ev, evs, exs, args, bo, lift, readS, lendS, still, needIm, asInt, asBool, asIm, binD, binI, cmpD, cmpI, ixD, slD, biD, meD, meOk, mutD, Mm.sup, setD, wkD, mkTup, ims, D.isIm, E.pure, Es.pure, Eo.pure, E.src, Wk.src, keepS, bindT, bindTs, Kh.clear, lockAll, Kh.settle, settleGo, Slot.isOwnMut, Slot.imOf, Slot.borOf, giveBack, callF, stepClear, settleF, Out.nx, Ss.stores, Kh.S.stores, Tg.slots, Tgs.slots, Es.len]
  · refine ⟨(seed * 48271 + 11) % 2147483647 / 3 % m, ⟨ns, pos, rest, (seed * 48271 + 11) % 2147483647⟩, x, .no, ?_, Int.emod_nonneg _ (by omega), Int.emod_lt_of_pos _ hm, ⟨h1, h2, Int.emod_nonneg _ (by omega), Int.emod_lt_of_pos _ (by omega), h5⟩⟩
    simp [at4, ix4, c, hm, hs, hl, hl3, ev, evs, exs, args, bo, lift, readS, lendS, still, needIm, asInt, asBool, asIm, binD, binI, cmpD, cmpI, ixD, slD, biD, meD, meOk, mutD, Mm.sup, setD, wkD, mkTup, ims, D.isIm, E.pure, Es.pure, Eo.pure, E.src, Wk.src, keepS, bindT, bindTs, Kh.clear, lockAll, Kh.settle, settleGo, Slot.isOwnMut, Slot.imOf, Slot.borOf, giveBack, callF, stepClear, settleF, Out.nx, Ss.stores, Kh.S.stores, Tg.slots, Tgs.slots, Es.len]
theorem pow18 {T : Kh.Tab} {e : En} {b : Bool} : evalE T (.bin .pow (.cst (.int 10)) (.cst (.int 18))) b e = .ok (int 1000000000000000000) e := by
  have h : binI .pow 10 18 = some 1000000000000000000 := by decide +kernel
  simp only [ev, bo, still, D.isIm, Bool.true_or, if_true, binD, h, Option.map_some, lift]
theorem first_test {T : Kh.Tab} {ns : List Int} {pos rest seed : Int} {tl : En} : evalT T (.and (.cmp .eq (.ix (.var 0) (.cst (.int 2))) (.cst (.int 0))) (.one (.cmp .lt (.ix (.var 0) (.cst (.int 1))) (.bi .len (.cons (.ix (.var 0) (.cst (.int 0))) .nil))))) (.own (stD ⟨ns, pos, rest, seed⟩) :: tl) =
    .ok (decide (rest = 0 ∧ pos < (ns.length : Int))) (.own (stD ⟨ns, pos, rest, seed⟩) :: tl) := by
  by_cases h : rest = 0
  · subst h
    simp [at4, ix4, I.shal, I.eq, ev, evs, exs, args, bo, lift, readS, lendS, still, needIm, asInt, asBool, asIm, binD, binI, cmpD, cmpI, ixD, slD, biD, meD, meOk, mutD, Mm.sup, setD, wkD, mkTup, ims, D.isIm, E.pure, Es.pure, Eo.pure, E.src, Wk.src, keepS, bindT, bindTs, Kh.clear, lockAll, Kh.settle, settleGo, Slot.isOwnMut, Slot.imOf, Slot.borOf, giveBack, callF, stepClear, settleF, Out.nx, Ss.stores, Kh.S.stores, Tg.slots, Tgs.slots, Es.len]
  · simp [at4, ix4, I.shal, I.eq, h, ev, evs, exs, args, bo, lift, readS, lendS, still, needIm, asInt, asBool, asIm, binD, binI, cmpD, cmpI, ixD, slD, biD, meD, meOk, mutD, Mm.sup, setD, wkD, mkTup, ims, D.isIm, E.pure, Es.pure, Eo.pure, E.src, Wk.src, keepS, bindT, bindTs, Kh.clear, lockAll, Kh.settle, settleGo, Slot.isOwnMut, Slot.imOf, Slot.borOf, giveBack, callF, stepClear, settleF, Out.nx, Ss.stores, Kh.S.stores, Tg.slots, Tgs.slots, Es.len]
theorem lt18 {T : Kh.Tab} {ns : List Int} {pos rest seed : Int} {tl : En} : evalT T (.cmp .lt (.ix (.var 0) (.cst (.int 2))) (.bin .pow (.cst (.int 10)) (.cst (.int 18)))) (.own (stD ⟨ns, pos, rest, seed⟩) :: tl) = .ok (decide (rest < 1000000000000000000)) (.own (stD ⟨ns, pos, rest, seed⟩) :: tl) := by
  have c := (ev (T := T)).2.2.2.2.2.2.2.2.2.1
  have c2 := (evs (T := T)).2.2.2.2.2.2.2.2.2.2.2.2.2.2.1
  rw [c2, c]
  simp only [pow18]
  simp [at4, ev, evs, exs, args, bo, lift, readS, lendS, still, needIm, asInt, asBool, asIm, binD, binI, cmpD, cmpI, ixD, slD, biD, meD, meOk, mutD, Mm.sup, setD, wkD, mkTup, ims, D.isIm, E.pure, Es.pure, Eo.pure, E.src, Wk.src, keepS, bindT, bindTs, Kh.clear, lockAll, Kh.settle, settleGo, Slot.isOwnMut, Slot.imOf, Slot.borOf, giveBack, callF, stepClear, settleF, Out.nx, Ss.stores, Kh.S.stores, Tg.slots, Tgs.slots, Es.len]
theorem next_ok {T : Kh.Tab} {ns : List Int} {pos rest seed z : Int} {tl : En} (hz : atI (ns.map fun n => D.im (.int n)) pos = some (.im (.int z))) : exec T (.setix 0 (.cons (.cst (.int 2)) .nil) (.bi .abs (.cons (.bi .int (.cons (.ix (.ix (.var 0) (.cst (.int 0))) (.ix (.var 0) (.cst (.int 1)))) .nil)) .nil))) (.own (stD ⟨ns, pos, rest, seed⟩) :: tl) =
    .ok .nx (.own (stD ⟨ns, pos, z.natAbs, seed⟩) :: tl) := by
  simp [at4, ix4, hz, ev, evs, exs, args, bo, lift, readS, lendS, still, needIm, asInt, asBool, asIm, binD, binI, cmpD, cmpI, ixD, slD, biD, meD, meOk, mutD, Mm.sup, setD, wkD, mkTup, ims, D.isIm, E.pure, Es.pure, Eo.pure, E.src, Wk.src, keepS, bindT, bindTs, Kh.clear, lockAll, Kh.settle, settleGo, Slot.isOwnMut, Slot.imOf, Slot.borOf, giveBack, callF, stepClear, settleF, Out.nx, Ss.stores, Kh.S.stores, Tg.slots, Tgs.slots, Es.len]
theorem incr_ok {T : Kh.Tab} {ns : List Int} {pos rest seed : Int} {tl : En} : exec T (.setix 0 (.cons (.cst (.int 1)) .nil) (.bin .add (.ix (.var 0) (.cst (.int 1))) (.cst (.int 1)))) (.own (stD ⟨ns, pos, rest, seed⟩) :: tl) =
    .ok .nx (.own (stD ⟨ns, pos + 1, rest, seed⟩) :: tl) := by
  simp [at4, ix4, ev, evs, exs, args, bo, lift, readS, lendS, still, needIm, asInt, asBool, asIm, binD, binI, cmpD, cmpI, ixD, slD, biD, meD, meOk, mutD, Mm.sup, setD, wkD, mkTup, ims, D.isIm, E.pure, Es.pure, Eo.pure, E.src, Wk.src, keepS, bindT, bindTs, Kh.clear, lockAll, Kh.settle, settleGo, Slot.isOwnMut, Slot.imOf, Slot.borOf, giveBack, callF, stepClear, settleF, Out.nx, Ss.stores, Kh.S.stores, Tg.slots, Tgs.slots, Es.len]
theorem small_ok {T : Kh.Tab} {ns : List Int} {pos rest seed m : Int} {y : Kh.Slot} (hm : 0 < m) : execs T (.cons (.setv 2 (.bi .int (.cons (.ix (.var 0) (.cst (.int 2))) .nil)))
    (.cons (.setix 0 (.cons (.cst (.int 2)) .nil) (.cst (.int 0)))
    (.cons (.ret (.bin .mod (.var 2) (.var 1)))
    .nil))) [.own (stD ⟨ns, pos, rest, seed⟩), .own (int m), .no, y] = .ok (.rt (int (rest % m))) [.own (stD ⟨ns, pos, 0, seed⟩), .own (int m), .own (int rest), y] := by
  simp [at4, ix4, hm, ev, evs, exs, args, bo, lift, readS, lendS, still, needIm, asInt, asBool, asIm, binD, binI, cmpD, cmpI, ixD, slD, biD, meD, meOk, mutD, Mm.sup, setD, wkD, mkTup, ims, D.isIm, E.pure, Es.pure, Eo.pure, E.src, Wk.src, keepS, bindT, bindTs, Kh.clear, lockAll, Kh.settle, settleGo, Slot.isOwnMut, Slot.imOf, Slot.borOf, giveBack, callF, stepClear, settleF, Out.nx, Ss.stores, Kh.S.stores, Tg.slots, Tgs.slots, Es.len]
theorem seq_nx {T : Kh.Tab} {s : Kh.S} {r : Ss} {e e' : En} (h : exec T s e = .ok .nx e') : execs T (.cons s r) e = execs T r e' := by
  rw [(exs (T := T)).2.2.2.2.2.2.2.2.2.2.2.2.2, h]
theorem seq_rt {T : Kh.Tab} {s : Kh.S} {r : Ss} {e e' : En} {d : D} (h : exec T s e = .ok (.rt d) e') : execs T (.cons s r) e = .ok (.rt d) e' := by
  rw [(exs (T := T)).2.2.2.2.2.2.2.2.2.2.2.2.2, h]
theorem if_t {T : Kh.Tab} {c : Kh.E} {a b : Ss} {e e' : En} (h : evalT T c e = .ok true e') : exec T (.ifs c a b) e = execs T a e' := by
  rw [(exs (T := T)).2.2.2.2.2.2.2.2.2.2.1, h]
  rfl
theorem if_f {T : Kh.Tab} {c : Kh.E} {a b : Ss} {e e' : En} (h : evalT T c e = .ok false e') : exec T (.ifs c a b) e = execs T b e' := by
  rw [(exs (T := T)).2.2.2.2.2.2.2.2.2.2.1, h]
  rfl
theorem nil_nx {T : Kh.Tab} {e : En} : execs T .nil e = .ok .nx e := (exs (T := T)).2.2.2.2.2.2.2.2.2.2.2.2.1 e
theorem sem_rt {T : Kh.Tab} {d : Fd} {as : List Kh.Slot} {v : D} {e : En} (hl : as.length = d.ps) (h : execs T d.body (as ++ List.replicate (d.n - d.ps) .no) = .ok (.rt v) e) : d.sem T as = .ok v ((Kh.clear d.body.stores e).take d.ps) := by
  simp only [Fd.sem, hl, if_true, h]
theorem take_ok {T : Kh.Tab} {s : St} {m : Int} (ok : StOk s) (hm : 0 < m) (hb : m.natAbs < 2 ^ 250) : ∃ v s', f_l_take.sem T [.own (stD s), .own (int m)] = .ok (int v) [.own (stD s'), .own (int m)] ∧ 0 ≤ v ∧ v < m ∧ StOk s' := by
  obtain ⟨ns, pos, rest, seed⟩ := s
  have ok' := ok
  obtain ⟨h1, h2, h3, h4, h5⟩ := ok
  simp only at h1 h2 h3 h4 h5
  by_cases c1 : rest = 0 ∧ pos < (ns.length : Int)
  · obtain ⟨z, hz⟩ : ∃ z, atI (ns.map fun n => D.im (.int n)) pos = some (.im (.int z)) := by
      rw [atI_map]
      unfold atI ixN
      rw [if_pos h1, if_pos c1.2]
      exact ⟨ns[pos.toNat]'(by omega), by simp⟩
    have t1 := @first_test T ns pos rest seed [.own (int m), .no, .no]
    rw [decide_eq_true c1] at t1
    have t2 := @lt18 T ns (pos + 1) z.natAbs seed [.own (int m), .no, .no]
    by_cases c3 : (z.natAbs : Int) < 1000000000000000000
    · rw [decide_eq_true c3] at t2
      refine ⟨(z.natAbs : Int) % m, ⟨ns, pos + 1, 0, seed⟩, ?_, Int.emod_nonneg _ (by omega), Int.emod_lt_of_pos _ hm, ⟨by show 0 ≤ pos + 1; omega, Int.le_refl _, h3, h4, h5⟩⟩
      refine sem_rt (e := [.own (stD ⟨ns, pos + 1, 0, seed⟩), .own (int m), .own (int z.natAbs), .no]) rfl ?_
      refine seq_rt ((if_t t1).trans ?_)
      refine (seq_nx (next_ok hz)).trans ((seq_nx incr_ok).trans (seq_rt ((if_t t2).trans ?_)))
      exact small_ok hm
    · rw [decide_eq_false c3] at t2
      obtain ⟨v, s', x', y', e, e2⟩ := take_rest (T := T) (s := ⟨ns, pos + 1, z.natAbs, seed⟩) (x := .no) (m := m) ⟨by show 0 ≤ pos + 1; omega, Int.natCast_nonneg _, h3, h4, h5⟩ hm hb
      refine ⟨v, s', ?_, e2⟩
      refine sem_rt (e := [.own (stD s'), .own (int m), x', y']) rfl ?_
      refine (seq_nx ((if_t t1).trans ?_)).trans e
      exact (seq_nx (next_ok hz)).trans ((seq_nx incr_ok).trans ((seq_nx ((if_f t2).trans nil_nx)).trans nil_nx))
  · have t1 := @first_test T ns pos rest seed [.own (int m), .no, .no]
    rw [decide_eq_false c1] at t1
    obtain ⟨v, s', x', y', e, e2⟩ := take_rest (T := T) (s := ⟨ns, pos, rest, seed⟩) (x := .no) (m := m) ok' hm hb
    refine ⟨v, s', ?_, e2⟩
    refine sem_rt (e := [.own (stD s'), .own (int m), x', y']) rfl ?_
    exact (seq_nx ((if_f t1).trans nil_nx)).trans e
end Kw

set_option Elab.async false
set_option linter.all false
set_option maxRecDepth 100000
set_option maxHeartbeats 2000000
namespace Kw
open PySem L2 Kh
def seedZ (s : Int) (n : Int) : Int := (s * 69621 + n % 2147483629 + 7) % 2147483647
theorem begin_ok {T : Kh.Tab} {ns : List Int} (hl : ns.length ≤ 63) : ∃ s, f_l_begin.sem T [.own (.scr ns)] = .ok (stD s) [.own (.scr ns)] ∧ StOk s := by
  have hlog : Nat.log2 69621 = 16 := by decide
  have h := forGo_st (turn := forT T (.name 2) [2] (.cons (.setv 1 (.bin .mod (.bin .add (.bin .add (.bin .mul (.var 1) (.cst (.int 69621))) (.bin .mod (.bi .int (.cons (.var 2) .nil)) (.cst (.int 2147483629)))) (.cst (.int 7))) (.cst (.int 2147483647)))) .nil)) (fun n => .im (.int n)) (fun s => [.bor (.scr ns), .own (int s), .no]) seedZ (fun r s => 0 ≤ s ∧ s < 2147483647) ns 1 (by decide) fun n r s hs => by
    have hz : s.natAbs.log2 + 16 < 1000000 := by
      have := log_lt (x := s.natAbs) (b := 31) (by omega) (by decide)
      omega
    refine ⟨?_, Int.emod_nonneg _ (by omega), Int.emod_lt_of_pos _ (by omega)⟩
    simp [forT, hlog, hz, seedZ, ev, evs, exs, args, bo, lift, readS, lendS, still, needIm, asInt, asBool, asIm, binD, binI, cmpD, cmpI, ixD, slD, biD, meD, meOk, mutD, Mm.sup, setD, wkD, mkTup, ims, D.isIm, E.pure, Es.pure, Eo.pure, E.src, Wk.src, keepS, bindT, bindTs, Kh.clear, lockAll, Kh.settle, settleGo, Slot.isOwnMut, Slot.imOf, Slot.borOf, giveBack, callF, stepClear, settleF, Out.nx, Ss.stores, Kh.S.stores, Tg.slots, Tgs.slots, Es.len]
  have h2 := for_to (T := T) (w := .it (.var 0)) (t := .name 2) (dead := [2]) (st := [2, 1]) (body := .cons (.setv 1 (.bin .mod (.bin .add (.bin .add (.bin .mul (.var 1) (.cst (.int 69621))) (.bin .mod (.bi .int (.cons (.var 2) .nil)) (.cst (.int 2147483629)))) (.cst (.int 7))) (.cst (.int 2147483647)))) .nil) (e := [.own (.scr ns), .own (int 1), .no]) (xs := ns.map fun n => .im (.int n)) rfl (by simp [ev, evs, exs, args, bo, lift, readS, lendS, still, needIm, asInt, asBool, asIm, binD, binI, cmpD, cmpI, ixD, slD, biD, meD, meOk, mutD, Mm.sup, setD, wkD, mkTup, ims, D.isIm, E.pure, Es.pure, Eo.pure, E.src, Wk.src, keepS, bindT, bindTs, Kh.clear, lockAll, Kh.settle, settleGo, Slot.isOwnMut, Slot.imOf, Slot.borOf, giveBack, callF, stepClear, settleF, Out.nx, Ss.stores, Kh.S.stores, Tg.slots, Tgs.slots, Es.len]; rfl) (by simp [ev, evs, exs, args, bo, lift, readS, lendS, still, needIm, asInt, asBool, asIm, binD, binI, cmpD, cmpI, ixD, slD, biD, meD, meOk, mutD, Mm.sup, setD, wkD, mkTup, ims, D.isIm, E.pure, Es.pure, Eo.pure, E.src, Wk.src, keepS, bindT, bindTs, Kh.clear, lockAll, Kh.settle, settleGo, Slot.isOwnMut, Slot.imOf, Slot.borOf, giveBack, callF, stepClear, settleF, Out.nx, Ss.stores, Kh.S.stores, Tg.slots, Tgs.slots, Es.len]) h.1 (e3 := [.own (.scr ns), .own (int (ns.foldl seedZ 1)), .no]) (by simp [ev, evs, exs, args, bo, lift, readS, lendS, still, needIm, asInt, asBool, asIm, binD, binI, cmpD, cmpI, ixD, slD, biD, meD, meOk, mutD, Mm.sup, setD, wkD, mkTup, ims, D.isIm, E.pure, Es.pure, Eo.pure, E.src, Wk.src, keepS, bindT, bindTs, Kh.clear, lockAll, Kh.settle, settleGo, Slot.isOwnMut, Slot.imOf, Slot.borOf, giveBack, callF, stepClear, settleF, Out.nx, Ss.stores, Kh.S.stores, Tg.slots, Tgs.slots, Es.len])
  refine ⟨⟨ns, 0, 0, ns.foldl seedZ 1⟩, ?_, ⟨Int.le_refl _, Int.le_refl _, h.2.1, h.2.2, hl⟩⟩
  simp only [Fd.sem, f_l_begin]
  simp [h2, ev, evs, exs, args, bo, lift, readS, lendS, still, needIm, asInt, asBool, asIm, binD, binI, cmpD, cmpI, ixD, slD, biD, meD, meOk, mutD, Mm.sup, setD, wkD, mkTup, ims, D.isIm, E.pure, Es.pure, Eo.pure, E.src, Wk.src, keepS, bindT, bindTs, Kh.clear, lockAll, Kh.settle, settleGo, Slot.isOwnMut, Slot.imOf, Slot.borOf, giveBack, callF, stepClear, settleF, Out.nx, Ss.stores, Kh.S.stores, Tg.slots, Tgs.slots, Es.len]
theorem sign_ok {k : Nat} {s : St} (ok : StOk s) : ∃ v s', f_l_sign.sem (tab (k + 1)) [.own (stD s)] = .ok (int v) [.own (stD s')] ∧ v.natAbs ≤ 1 ∧ StOk s' := by
  have hp : (tab (k + 1)).fn "_law_take" = some (f_l_take.sem (tab k)) := rfl
  obtain ⟨v, s', e, h1, h2, h3⟩ := take_ok (T := tab k) (m := 2) ok (by decide) (by decide)
  refine ⟨1 - 2 * v, s', ?_, by omega, h3⟩
  have hv : v.natAbs.log2 = 0 := by
    have : v = 0 ∨ v = 1 := by omega
    rcases this with rfl | rfl <;> decide
  have hl : Nat.log2 2 = 1 := by decide
  simp only [Fd.sem, f_l_sign]
  simp [hp, e, hv, hl, ev, evs, exs, args, bo, lift, readS, lendS, still, needIm, asInt, asBool, asIm, binD, binI, cmpD, cmpI, ixD, slD, biD, meD, meOk, mutD, Mm.sup, setD, wkD, mkTup, ims, D.isIm, E.pure, Es.pure, Eo.pure, E.src, Wk.src, keepS, bindT, bindTs, Kh.clear, lockAll, Kh.settle, settleGo, Slot.isOwnMut, Slot.imOf, Slot.borOf, giveBack, callF, stepClear, settleF, Out.nx, Ss.stores, Kh.S.stores, Tg.slots, Tgs.slots, Es.len]
theorem fold_app {α : Type} (g : α → List Z2) : ∀ (l : List α) (a : List Z2), l.foldl (fun a p => a ++ g p) a = a ++ l.flatMap g
  | [], a => by simp
  | p :: r, a => by simp [fold_app g r]
def pBody : Ss := .cons (.expr (.mut .extend 2 (.cons (.lc (.it (.var 1)) (.tup (.cons (.name 5) (.cons (.name 6) .nil))) [("second", 5), ("other", 6)] .no (.tup (.cons (.bin .add (.var 3) (.var 5)) (.cons (.bin .mul (.var 4) (.var 6)) .nil)))) .nil))) .nil
theorem prod_turn {T : Kh.Tab} {s : Kh.Slot} {l ps : List Z2} {p : Z2} (hd : ps.length + l.length ≤ big) (hz : ∀ q ∈ l, p.2.natAbs.log2 + q.2.natAbs.log2 < 1000000) : forT T (.tup (.cons (.name 3) (.cons (.name 4) .nil))) [3, 4] pBody (.im (pI p)) [s, .own (pol l), .own (lpol ps), .no, .no, .no, .no] =
    .ok .nx [s, .own (pol l), .own (lpol (ps ++ l.map fun q => (p.1 + q.1, p.2 * q.2))), .no, .no, .no, .no] := by
  have h := lc_to (T := T) (w := .it (.var 1)) (tg := .tup (.cons (.name 5) (.cons (.name 6) .nil))) (own := [("second", 5), ("other", 6)]) (vs := [5, 6]) (c := .no) (elt := .tup (.cons (.bin .add (.var 3) (.var 5)) (.cons (.bin .mul (.var 4) (.var 6)) .nil))) (b := true)
    (e := [s, .own (pol l), .own (lpol ps), .own (int p.1), .own (int p.2), .no, .no]) (e0 := [s, .own (pol l), .own (lpol ps), .own (int p.1), .own (int p.2), .no, .no]) (e1 := [s, .own (pol l), .own (lpol ps), .own (int p.1), .own (int p.2), .no, .no]) (xs := (l.map pI).map .im) (ys := l.map fun q => .im (pI (p.1 + q.1, p.2 * q.2))) (e2 := [s, .own (pol l), .own (lpol ps), .own (int p.1), .own (int p.2), .no, .no]) (e3 := [s, .own (pol l), .own (lpol ps), .own (int p.1), .own (int p.2), .no, .no]) rfl (by simp [ev, evs, exs, args, bo, lift, readS, lendS, still, needIm, asInt, asBool, asIm, binD, binI, cmpD, cmpI, ixD, slD, biD, meD, meOk, mutD, Mm.sup, setD, wkD, mkTup, ims, D.isIm, E.pure, Es.pure, Eo.pure, E.src, Wk.src, keepS, bindT, bindTs, Kh.clear, lockAll, Kh.settle, settleGo, Slot.isOwnMut, Slot.imOf, Slot.borOf, giveBack, callF, stepClear, settleF, Out.nx, Ss.stores, Kh.S.stores, Tg.slots, Tgs.slots, Es.len]) (by simp; omega) (by simp [ev, evs, exs, args, bo, lift, readS, lendS, still, needIm, asInt, asBool, asIm, binD, binI, cmpD, cmpI, ixD, slD, biD, meD, meOk, mutD, Mm.sup, setD, wkD, mkTup, ims, D.isIm, E.pure, Es.pure, Eo.pure, E.src, Wk.src, keepS, bindT, bindTs, Kh.clear, lockAll, Kh.settle, settleGo, Slot.isOwnMut, Slot.imOf, Slot.borOf, giveBack, callF, stepClear, settleF, Out.nx, Ss.stores, Kh.S.stores, Tg.slots, Tgs.slots, Es.len]) (by
      rw [List.map_map]
      refine lcGo_map _ _ _ l fun q m => ?_
      simp [lcT, pI, hz q m, ev, evs, exs, args, bo, lift, readS, lendS, still, needIm, asInt, asBool, asIm, binD, binI, cmpD, cmpI, ixD, slD, biD, meD, meOk, mutD, Mm.sup, setD, wkD, mkTup, ims, D.isIm, E.pure, Es.pure, Eo.pure, E.src, Wk.src, keepS, bindT, bindTs, Kh.clear, lockAll, Kh.settle, settleGo, Slot.isOwnMut, Slot.imOf, Slot.borOf, giveBack, callF, stepClear, settleF, Out.nx, Ss.stores, Kh.S.stores, Tg.slots, Tgs.slots, Es.len]) (by cases s <;> simp [ev, evs, exs, args, bo, lift, readS, lendS, still, needIm, asInt, asBool, asIm, binD, binI, cmpD, cmpI, ixD, slD, biD, meD, meOk, mutD, Mm.sup, setD, wkD, mkTup, ims, D.isIm, E.pure, Es.pure, Eo.pure, E.src, Wk.src, keepS, bindT, bindTs, Kh.clear, lockAll, Kh.settle, settleGo, Slot.isOwnMut, Slot.imOf, Slot.borOf, giveBack, callF, stepClear, settleF, Out.nx, Ss.stores, Kh.S.stores, Tg.slots, Tgs.slots, Es.len])
  simp [forT, pBody, pI, h, hd, Function.comp_def, ev, evs, exs, args, bo, lift, readS, lendS, still, needIm, asInt, asBool, asIm, binD, binI, cmpD, cmpI, ixD, slD, biD, meD, meOk, mutD, Mm.sup, setD, wkD, mkTup, ims, D.isIm, E.pure, Es.pure, Eo.pure, E.src, Wk.src, keepS, bindT, bindTs, Kh.clear, lockAll, Kh.settle, settleGo, Slot.isOwnMut, Slot.imOf, Slot.borOf, giveBack, callF, stepClear, settleF, Out.nx, Ss.stores, Kh.S.stores, Tg.slots, Tgs.slots, Es.len]
theorem product_ok {k : Nat} {a b : List Z2} {c1 c2 : Nat} (hl : a.length * b.length ≤ big) (ha : Bd c1 a) (hb : Bd c2 b) (z1 : 0 < c1) (z2 : 0 < c2) (hc : c1 + c2 ≤ 1000000) : f_l_product.sem (tab (k + 1)) [.own (pol a), .own (pol b)] = .ok (pol (psum (prodL a b))) [.own (pol a), .own (pol b)] := by
  have hp : (tab (k + 1)).fn "_law_sum" = some (f_poly.sem (tab k)) := rfl
  have h := forGo_st (turn := forT (tab (k + 1)) (.tup (.cons (.name 3) (.cons (.name 4) .nil))) [3, 4] pBody) (fun q => .im (pI q)) (fun ps => [.own (pol a), .own (pol b), .own (lpol ps), .no, .no, .no, .no])
    (fun ps p => ps ++ b.map fun q => (p.1 + q.1, p.2 * q.2)) (fun r ps => r.length * b.length + ps.length ≤ big ∧ ∀ p ∈ r, p ∈ a) a [] ⟨by simpa using hl, fun _ m => m⟩ fun p r d hd => by
    obtain ⟨d1, d2⟩ := hd
    simp only [List.length_cons, Nat.add_mul, Nat.one_mul] at d1
    exact ⟨prod_turn (by omega) fun q m => sz_ok (ha p (d2 p List.mem_cons_self)) (hb q m) z1 z2 hc, by simp; omega, fun z m => d2 z (List.mem_cons_of_mem _ m)⟩
  rw [fold_app] at h
  have h1 := h.1
  change forGo _ _ _ = Out.ok Fl.nx [.own (pol a), .own (pol b), .own (lpol (prodL a b)), .no, .no, .no, .no] at h1
  have h2 := for_to (T := tab (k + 1)) (w := .it (.var 0)) (t := .tup (.cons (.name 3) (.cons (.name 4) .nil))) (dead := [3, 4]) (st := [3, 4]) (body := pBody) (e := [.own (pol a), .own (pol b), .own (.lst []), .no, .no, .no, .no]) (xs := a.map fun p => .im (pI p)) rfl (by simp [Function.comp_def, ev, evs, exs, args, bo, lift, readS, lendS, still, needIm, asInt, asBool, asIm, binD, binI, cmpD, cmpI, ixD, slD, biD, meD, meOk, mutD, Mm.sup, setD, wkD, mkTup, ims, D.isIm, E.pure, Es.pure, Eo.pure, E.src, Wk.src, keepS, bindT, bindTs, Kh.clear, lockAll, Kh.settle, settleGo, Slot.isOwnMut, Slot.imOf, Slot.borOf, giveBack, callF, stepClear, settleF, Out.nx, Ss.stores, Kh.S.stores, Tg.slots, Tgs.slots, Es.len]; rfl) (by simp [ev, evs, exs, args, bo, lift, readS, lendS, still, needIm, asInt, asBool, asIm, binD, binI, cmpD, cmpI, ixD, slD, biD, meD, meOk, mutD, Mm.sup, setD, wkD, mkTup, ims, D.isIm, E.pure, Es.pure, Eo.pure, E.src, Wk.src, keepS, bindT, bindTs, Kh.clear, lockAll, Kh.settle, settleGo, Slot.isOwnMut, Slot.imOf, Slot.borOf, giveBack, callF, stepClear, settleF, Out.nx, Ss.stores, Kh.S.stores, Tg.slots, Tgs.slots, Es.len]) h1 (e3 := [.own (pol a), .own (pol b), .own (lpol (prodL a b)), .no, .no, .no, .no]) (by simp [ev, evs, exs, args, bo, lift, readS, lendS, still, needIm, asInt, asBool, asIm, binD, binI, cmpD, cmpI, ixD, slD, biD, meD, meOk, mutD, Mm.sup, setD, wkD, mkTup, ims, D.isIm, E.pure, Es.pure, Eo.pure, E.src, Wk.src, keepS, bindT, bindTs, Kh.clear, lockAll, Kh.settle, settleGo, Slot.isOwnMut, Slot.imOf, Slot.borOf, giveBack, callF, stepClear, settleF, Out.nx, Ss.stores, Kh.S.stores, Tg.slots, Tgs.slots, Es.len])
  have h4 := poly_okL (T := tab k) (l := prodL a b) (by
    have := h.2.1
    simp only [List.length_nil, Nat.zero_mul, Nat.zero_add] at this
    exact this)
  simp only [Fd.sem, f_l_product]
  unfold pBody at h2
  simp only [lpol] at h2 h4
  simp [h2, hp, h4, -List.map_eq_nil_iff, ev, evs, exs, args, bo, lift, readS, lendS, still, needIm, asInt, asBool, asIm, binD, binI, cmpD, cmpI, ixD, slD, biD, meD, meOk, mutD, Mm.sup, setD, wkD, mkTup, ims, D.isIm, E.pure, Es.pure, Eo.pure, E.src, Wk.src, keepS, bindT, bindTs, Kh.clear, lockAll, Kh.settle, settleGo, Slot.isOwnMut, Slot.imOf, Slot.borOf, giveBack, callF, stepClear, settleF, Out.nx, Ss.stores, Kh.S.stores, Tg.slots, Tgs.slots, Es.len]
end Kw

set_option Elab.async false
set_option linter.all false
set_option maxRecDepth 100000
set_option maxHeartbeats 2000000
namespace Kw
open PySem L2 Kh
def powZ (a : List Z2) : Nat → List Z2
  | 0 => [(0, 1)]
  | n + 1 => psum (prodL (powZ a n) a)
theorem gl_one {k : Nat} : (tab k).gl "ONE" = some (.tup [.tup [.int 0, .int 1]]) := by cases k <;> rfl
theorem gl_zero {k : Nat} : (tab k).gl "ZERO" = some (.tup []) := by cases k <;> rfl
theorem power_ok {k : Nat} {a : List Z2} {n : Nat} {c1 c2 : Nat} (hn : n ≤ 1000) (ha : Bd c2 a) (z1 : 0 < c1) (z2 : 0 < c2) (hc : c1 + c2 ≤ 1000000) (hla : a.length ≤ big) (hB : ∀ i, i < n → (powZ a i).length * a.length ≤ big ∧ (powZ a i).length ≤ big ∧ Bd c1 (powZ a i)) :
    f_power.sem (tab (k + 1)) [.own (pol a), .own (int n)] = .ok (pol (powZ a n)) [.own (pol a), .own (int n)] := by
  have hp : (tab (k + 1)).fn "times" = some (f_times.sem (tab k)) := rfl
  have h := forGo_st (turn := forT (tab (k + 1)) (.name 3) [3] (.cons (.setv 2 (.call "times" (.cons (.var 2) (.cons (.var 0) .nil)))) .nil)) (fun (i : Nat) => D.im (.int (0 + (i : Int)))) (fun (i : Nat) => [.own (pol a), .own (int n), .own (pol (powZ a i)), .no]) (fun i _ => i + 1) (fun r i => r.length + i = n) (List.range n) 0 (by simp) fun j r i hi => by
    simp only [List.length_cons] at hi
    obtain ⟨b1, b2, b3⟩ := hB i (by omega)
    have ht := times_ok (T := tab k) b1 b3 ha z1 z2 hc b2 hla
    refine ⟨?_, by omega⟩
    simp only [pol] at ht
    simp [forT, hp, ht, powZ, ev, evs, exs, args, bo, lift, readS, lendS, still, needIm, asInt, asBool, asIm, binD, binI, cmpD, cmpI, ixD, slD, biD, meD, meOk, mutD, Mm.sup, setD, wkD, mkTup, ims, D.isIm, E.pure, Es.pure, Eo.pure, E.src, Wk.src, keepS, bindT, bindTs, Kh.clear, lockAll, Kh.settle, settleGo, Slot.isOwnMut, Slot.imOf, Slot.borOf, giveBack, callF, stepClear, settleF, Out.nx, Ss.stores, Kh.S.stores, Tg.slots, Tgs.slots, Es.len]
  have hl : (List.range n).foldl (fun (i : Nat) _ => i + 1) 0 = n := by
    have := h.2
    simpa using this
  rw [hl] at h
  have h2 := for_to (T := tab (k + 1)) (w := .range (.cons (.var 1) .nil)) (t := .name 3) (dead := [3]) (st := [3, 2]) (body := .cons (.setv 2 (.call "times" (.cons (.var 2) (.cons (.var 0) .nil)))) .nil) (e := [.own (pol a), .own (int n), .own (pol [(0, 1)]), .no]) (xs := (List.range n).map fun (i : Nat) => D.im (.int (0 + (i : Int)))) rfl (by
      have z : ((n : Int) ≤ 1000000 ∧ -1000000 ≤ (n : Int)) := by omega
      simp [z, rangeL, ev, evs, exs, args, bo, lift, readS, lendS, still, needIm, asInt, asBool, asIm, binD, binI, cmpD, cmpI, ixD, slD, biD, meD, meOk, mutD, Mm.sup, setD, wkD, mkTup, ims, D.isIm, E.pure, Es.pure, Eo.pure, E.src, Wk.src, keepS, bindT, bindTs, Kh.clear, lockAll, Kh.settle, settleGo, Slot.isOwnMut, Slot.imOf, Slot.borOf, giveBack, callF, stepClear, settleF, Out.nx, Ss.stores, Kh.S.stores, Tg.slots, Tgs.slots, Es.len]; rfl) (by simp [ev, evs, exs, args, bo, lift, readS, lendS, still, needIm, asInt, asBool, asIm, binD, binI, cmpD, cmpI, ixD, slD, biD, meD, meOk, mutD, Mm.sup, setD, wkD, mkTup, ims, D.isIm, E.pure, Es.pure, Eo.pure, E.src, Wk.src, keepS, bindT, bindTs, Kh.clear, lockAll, Kh.settle, settleGo, Slot.isOwnMut, Slot.imOf, Slot.borOf, giveBack, callF, stepClear, settleF, Out.nx, Ss.stores, Kh.S.stores, Tg.slots, Tgs.slots, Es.len]; rfl) h.1 (e3 := [.own (pol a), .own (int n), .own (pol (powZ a n)), .no]) (by simp [ev, evs, exs, args, bo, lift, readS, lendS, still, needIm, asInt, asBool, asIm, binD, binI, cmpD, cmpI, ixD, slD, biD, meD, meOk, mutD, Mm.sup, setD, wkD, mkTup, ims, D.isIm, E.pure, Es.pure, Eo.pure, E.src, Wk.src, keepS, bindT, bindTs, Kh.clear, lockAll, Kh.settle, settleGo, Slot.isOwnMut, Slot.imOf, Slot.borOf, giveBack, callF, stepClear, settleF, Out.nx, Ss.stores, Kh.S.stores, Tg.slots, Tgs.slots, Es.len])
  simp only [Fd.sem, f_power]
  have e1 : (I.tup [.tup [.int 0, .int 1]]) = .tup ([((0 : Int), (1 : Int))].map pI) := rfl
  simp only [pol] at h2
  simp [gl_one, e1, -List.map_cons, h2, ev, evs, exs, args, bo, lift, readS, lendS, still, needIm, asInt, asBool, asIm, binD, binI, cmpD, cmpI, ixD, slD, biD, meD, meOk, mutD, Mm.sup, setD, wkD, mkTup, ims, D.isIm, E.pure, Es.pure, Eo.pure, E.src, Wk.src, keepS, bindT, bindTs, Kh.clear, lockAll, Kh.settle, settleGo, Slot.isOwnMut, Slot.imOf, Slot.borOf, giveBack, callF, stepClear, settleF, Out.nx, Ss.stores, Kh.S.stores, Tg.slots, Tgs.slots, Es.len]
def breadthZ : List Z2 → Int
  | [] => 0
  | p :: r => ((p :: r).getLast (List.cons_ne_nil _ _)).1 - p.1
theorem at_last {α : Type} (p : α) (r : List α) : atI (p :: r) (-1) = some ((p :: r).getLast (List.cons_ne_nil _ _)) := by
  have h := List.dropLast_concat_getLast (List.cons_ne_nil p r)
  conv => lhs; rw [← h]
  exact atI_last _ _
theorem at_zero {α : Type} (p : α) (r : List α) : atI (p :: r) 0 = some p := by
  unfold atI ixN
  simp
theorem at2 {α : Type} (a b : α) : atI [a, b] 0 = some a ∧ atI [a, b] 1 = some b := ⟨rfl, rfl⟩
theorem breadth_ok {T : Kh.Tab} {l : List Z2} : f_breadth.sem T [.own (pol l)] = .ok (int (breadthZ l)) [.own (pol l)] := by
  simp only [Fd.sem, f_breadth]
  cases l with
  | nil => simp [breadthZ, ev, evs, exs, args, bo, lift, readS, lendS, still, needIm, asInt, asBool, asIm, binD, binI, cmpD, cmpI, ixD, slD, biD, meD, meOk, mutD, Mm.sup, setD, wkD, mkTup, ims, D.isIm, E.pure, Es.pure, Eo.pure, E.src, Wk.src, keepS, bindT, bindTs, Kh.clear, lockAll, Kh.settle, settleGo, Slot.isOwnMut, Slot.imOf, Slot.borOf, giveBack, callF, stepClear, settleF, Out.nx, Ss.stores, Kh.S.stores, Tg.slots, Tgs.slots, Es.len]
  | cons p r =>
    have h1 : atI ((p :: r).map pI) (-1) = some (pI ((p :: r).getLast (List.cons_ne_nil _ _))) := by rw [atI_map, at_last]; rfl
    have h0 : atI ((p :: r).map pI) 0 = some (pI p) := by rw [atI_map, at_zero]; rfl
    simp [-List.map_cons, h1, h0, pI, at2, breadthZ, ev, evs, exs, args, bo, lift, readS, lendS, still, needIm, asInt, asBool, asIm, binD, binI, cmpD, cmpI, ixD, slD, biD, meD, meOk, mutD, Mm.sup, setD, wkD, mkTup, ims, D.isIm, E.pure, Es.pure, Eo.pure, E.src, Wk.src, keepS, bindT, bindTs, Kh.clear, lockAll, Kh.settle, settleGo, Slot.isOwnMut, Slot.imOf, Slot.borOf, giveBack, callF, stepClear, settleF, Out.nx, Ss.stores, Kh.S.stores, Tg.slots, Tgs.slots, Es.len]
def mark (p : Z2) : Int := if 0 < p.2 then 1 else -1
def normL : List Z2 → List Z2
  | [] => []
  | p :: r => (p :: r).map fun q => (q.1 - p.1, q.2 * mark p)
def normP : List Z2 → List Z2
  | [] => []
  | p :: r => scaleZ ((p :: r).map fun q => (q.1 + (0 - p.1), q.2)) (mark p)
theorem lnormal_ok {T : Kh.Tab} {l : List Z2} {b : Nat} (hl : l.length ≤ big) (hb : Bd b l) (b0 : 0 < b) (hz : b ≤ 900000) : f_l_normal.sem T [.own (pol l)] = .ok (pol (normL l)) [.own (pol l)] := by
  simp only [Fd.sem, f_l_normal]
  cases l with
  | nil => simp [normL, I.shal, I.eq, ev, evs, exs, args, bo, lift, readS, lendS, still, needIm, asInt, asBool, asIm, binD, binI, cmpD, cmpI, ixD, slD, biD, meD, meOk, mutD, Mm.sup, setD, wkD, mkTup, ims, D.isIm, E.pure, Es.pure, Eo.pure, E.src, Wk.src, keepS, bindT, bindTs, Kh.clear, lockAll, Kh.settle, settleGo, Slot.isOwnMut, Slot.imOf, Slot.borOf, giveBack, callF, stepClear, settleF, Out.nx, Ss.stores, Kh.S.stores, Tg.slots, Tgs.slots, Es.len]
  | cons p r =>
    have h0 : atI ((p :: r).map pI) 0 = some (.tup [.int p.1, .int p.2]) := by rw [atI_map, at_zero]; rfl
    have hm1 : (mark p).natAbs < 2 ^ 1 := by unfold mark; split <;> decide
    have hlc : ∀ m : Int, m = mark p → evalE T (.lc (.it (.var 0)) (.tup (.cons (.name 2) (.cons (.name 3) .nil))) [("exponent", 2), ("number", 3)] .no (.tup (.cons (.bin .sub (.var 2) (.ix (.ix (.var 0) (.cst (.int 0))) (.cst (.int 0)))) (.cons (.bin .mul (.var 3) (.var 1)) .nil)))) false [.own (pol (p :: r)), .own (int m), .no, .no] = .ok (.lst ((normL (p :: r)).map fun p => .im (pI p))) [.own (pol (p :: r)), .own (int m), .no, .no] := fun m hm => by
      subst hm
      refine lc_to (vs := [2, 3]) (e0 := [.own (pol (p :: r)), .own (int (mark p)), .no, .no]) (e1 := [.own (pol (p :: r)), .own (int (mark p)), .no, .no]) (xs := ((p :: r).map pI).map .im) (e2 := [.own (pol (p :: r)), .own (int (mark p)), .no, .no]) rfl (by simp [ev, evs, exs, args, bo, lift, readS, lendS, still, needIm, asInt, asBool, asIm, binD, binI, cmpD, cmpI, ixD, slD, biD, meD, meOk, mutD, Mm.sup, setD, wkD, mkTup, ims, D.isIm, E.pure, Es.pure, Eo.pure, E.src, Wk.src, keepS, bindT, bindTs, Kh.clear, lockAll, Kh.settle, settleGo, Slot.isOwnMut, Slot.imOf, Slot.borOf, giveBack, callF, stepClear, settleF, Out.nx, Ss.stores, Kh.S.stores, Tg.slots, Tgs.slots, Es.len]) (by simpa using hl) (by simp [ev, evs, exs, args, bo, lift, readS, lendS, still, needIm, asInt, asBool, asIm, binD, binI, cmpD, cmpI, ixD, slD, biD, meD, meOk, mutD, Mm.sup, setD, wkD, mkTup, ims, D.isIm, E.pure, Es.pure, Eo.pure, E.src, Wk.src, keepS, bindT, bindTs, Kh.clear, lockAll, Kh.settle, settleGo, Slot.isOwnMut, Slot.imOf, Slot.borOf, giveBack, callF, stepClear, settleF, Out.nx, Ss.stores, Kh.S.stores, Tg.slots, Tgs.slots, Es.len]) ?_ (by simp [ev, evs, exs, args, bo, lift, readS, lendS, still, needIm, asInt, asBool, asIm, binD, binI, cmpD, cmpI, ixD, slD, biD, meD, meOk, mutD, Mm.sup, setD, wkD, mkTup, ims, D.isIm, E.pure, Es.pure, Eo.pure, E.src, Wk.src, keepS, bindT, bindTs, Kh.clear, lockAll, Kh.settle, settleGo, Slot.isOwnMut, Slot.imOf, Slot.borOf, giveBack, callF, stepClear, settleF, Out.nx, Ss.stores, Kh.S.stores, Tg.slots, Tgs.slots, Es.len])
      rw [List.map_map, lcGo_map (D.im ∘ pI) (fun q => .im (pI (q.1 - p.1, q.2 * mark p))) _ _ fun q m => ?_]
      · simp [normL, Function.comp_def]
      · have z := sz_ok (hb q m) hm1 b0 (by decide) (by omega)
        simp only [pol]
        generalize (p :: r).map pI = xs at h0 ⊢
        simp [lcT, pI, h0, at2, z, ev, evs, exs, args, bo, lift, readS, lendS, still, needIm, asInt, asBool, asIm, binD, binI, cmpD, cmpI, ixD, slD, biD, meD, meOk, mutD, Mm.sup, setD, wkD, mkTup, ims, D.isIm, E.pure, Es.pure, Eo.pure, E.src, Wk.src, keepS, bindT, bindTs, Kh.clear, lockAll, Kh.settle, settleGo, Slot.isOwnMut, Slot.imOf, Slot.borOf, giveBack, callF, stepClear, settleF, Out.nx, Ss.stores, Kh.S.stores, Tg.slots, Tgs.slots, Es.len]
    have hn : ¬ ((((p :: r).map pI).length : Nat) : Int) = 0 := by simp; omega
    by_cases c : 0 < p.2
    · have h1 := hlc 1 (by simp [mark, c])
      simp only [pol] at h1 ⊢
      generalize (p :: r).map pI = xs at h0 h1 hn ⊢
      generalize normL (p :: r) = ys at h1 ⊢
      have hn' : xs ≠ [] := fun e => hn (by rw [e]; rfl)
      simp [I.shal, I.eq, hn', h0, at2, c, h1, ims_pI', ev, evs, exs, args, bo, lift, readS, lendS, still, needIm, asInt, asBool, asIm, binD, binI, cmpD, cmpI, ixD, slD, biD, meD, meOk, mutD, Mm.sup, setD, wkD, mkTup, ims, D.isIm, E.pure, Es.pure, Eo.pure, E.src, Wk.src, keepS, bindT, bindTs, Kh.clear, lockAll, Kh.settle, settleGo, Slot.isOwnMut, Slot.imOf, Slot.borOf, giveBack, callF, stepClear, settleF, Out.nx, Ss.stores, Kh.S.stores, Tg.slots, Tgs.slots, Es.len]
    · have h1 := hlc (-1) (by simp [mark, c])
      simp only [pol] at h1 ⊢
      generalize (p :: r).map pI = xs at h0 h1 hn ⊢
      generalize normL (p :: r) = ys at h1 ⊢
      have hn' : xs ≠ [] := fun e => hn (by rw [e]; rfl)
      simp [I.shal, I.eq, hn', h0, at2, c, h1, ims_pI', ev, evs, exs, args, bo, lift, readS, lendS, still, needIm, asInt, asBool, asIm, binD, binI, cmpD, cmpI, ixD, slD, biD, meD, meOk, mutD, Mm.sup, setD, wkD, mkTup, ims, D.isIm, E.pure, Es.pure, Eo.pure, E.src, Wk.src, keepS, bindT, bindTs, Kh.clear, lockAll, Kh.settle, settleGo, Slot.isOwnMut, Slot.imOf, Slot.borOf, giveBack, callF, stepClear, settleF, Out.nx, Ss.stores, Kh.S.stores, Tg.slots, Tgs.slots, Es.len]
theorem normal_ok {k : Nat} {l : List Z2} {b : Nat} (hl : l.length ≤ big) (hb : Bd b l) (b0 : 0 < b) (hz : b ≤ 900000) : f_normal.sem (tab (k + 1)) [.own (pol l)] = .ok (pol (normP l)) [.own (pol l)] := by
  have hp : (tab (k + 1)).fn "shifted" = some (f_shifted.sem (tab k)) := rfl
  have hq : (tab (k + 1)).fn "scaled" = some (f_scaled.sem (tab k)) := rfl
  simp only [Fd.sem, f_normal]
  cases l with
  | nil => simp [normP, gl_zero, I.shal, I.eq, ev, evs, exs, args, bo, lift, readS, lendS, still, needIm, asInt, asBool, asIm, binD, binI, cmpD, cmpI, ixD, slD, biD, meD, meOk, mutD, Mm.sup, setD, wkD, mkTup, ims, D.isIm, E.pure, Es.pure, Eo.pure, E.src, Wk.src, keepS, bindT, bindTs, Kh.clear, lockAll, Kh.settle, settleGo, Slot.isOwnMut, Slot.imOf, Slot.borOf, giveBack, callF, stepClear, settleF, Out.nx, Ss.stores, Kh.S.stores, Tg.slots, Tgs.slots, Es.len]
  | cons p r =>
    have h0 : atI ((p :: r).map pI) 0 = some (.tup [.int p.1, .int p.2]) := by rw [atI_map, at_zero]; rfl
    have hn : ¬ ((((p :: r).map pI).length : Nat) : Int) = 0 := by simp; omega
    have h1 := shifted_ok (T := tab k) (l := p :: r) (n := 0 - p.1) hl
    have h2 := scaled_ok (T := tab k) (l := (p :: r).map fun q => (q.1 + (0 - p.1), q.2)) (n := mark p) (b := b) (by simpa using hl) (fun q m => by
      obtain ⟨z, z1, z2⟩ := List.mem_map.mp m
      rw [← z2]
      exact hb z z1) (by unfold mark; split <;> decide) b0 hz
    have h3 : normP (p :: r) = scaleZ ((p :: r).map fun q => (q.1 + (0 - p.1), q.2)) (mark p) := rfl
    rw [h3]
    generalize (p :: r).map (fun q => (q.1 + (0 - p.1), q.2)) = l2 at h1 h2 ⊢
    generalize scaleZ l2 (mark p) = l3 at h2 ⊢
    simp only [pol, int] at h1 h2 ⊢
    generalize (p :: r).map pI = xs at h0 h1 hn ⊢
    have hn' : xs ≠ [] := fun e => hn (by rw [e]; rfl)
    by_cases c : 0 < p.2
    · simp only [mark, c, if_true] at h2
      simp at h1
      simp [I.shal, I.eq, hn', h0, at2, c, hp, hq, h1, h2, ev, evs, exs, args, bo, lift, readS, lendS, still, needIm, asInt, asBool, asIm, binD, binI, cmpD, cmpI, ixD, slD, biD, meD, meOk, mutD, Mm.sup, setD, wkD, mkTup, ims, D.isIm, E.pure, Es.pure, Eo.pure, E.src, Wk.src, keepS, bindT, bindTs, Kh.clear, lockAll, Kh.settle, settleGo, Slot.isOwnMut, Slot.imOf, Slot.borOf, giveBack, callF, stepClear, settleF, Out.nx, Ss.stores, Kh.S.stores, Tg.slots, Tgs.slots, Es.len]
    · simp only [mark, c, if_false] at h2
      simp at h1
      simp [I.shal, I.eq, hn', h0, at2, c, hp, hq, h1, h2, ev, evs, exs, args, bo, lift, readS, lendS, still, needIm, asInt, asBool, asIm, binD, binI, cmpD, cmpI, ixD, slD, biD, meD, meOk, mutD, Mm.sup, setD, wkD, mkTup, ims, D.isIm, E.pure, Es.pure, Eo.pure, E.src, Wk.src, keepS, bindT, bindTs, Kh.clear, lockAll, Kh.settle, settleGo, Slot.isOwnMut, Slot.imOf, Slot.borOf, giveBack, callF, stepClear, settleF, Out.nx, Ss.stores, Kh.S.stores, Tg.slots, Tgs.slots, Es.len]
end Kw

set_option Elab.async false
set_option linter.all false
set_option maxRecDepth 100000
set_option maxHeartbeats 2000000
namespace Kw
open PySem L2 Kh
/-! ### the mathematics of sums -/
abbrev ky (l : List Z2) : List Int := l.map (·.1)
def Bn (B : Nat) (l : List Z2) : Prop := ∀ p ∈ l, p.2.natAbs ≤ B
theorem putZ_mem {e v : Int} : ∀ {d : List Z2} {p : Z2}, p ∈ putZ d e v → p ∈ d ∨ p = (e, v)
  | [], p, m => by simp [putZ] at m; exact .inr m
  | (j, u) :: r, p, m => by
    unfold putZ at m
    split at m
    · rename_i h
      rcases List.mem_cons.mp m with m | m
      · exact .inr (by rw [m, h])
      · exact .inl (List.mem_cons_of_mem _ m)
    · rcases List.mem_cons.mp m with m | m
      · exact .inl (by rw [m]; exact List.mem_cons_self)
      · rcases putZ_mem m with m | m
        · exact .inl (List.mem_cons_of_mem _ m)
        · exact .inr m
theorem lookZ_in {e v : Int} : ∀ {d : List Z2}, lookZ d e = some v → (e, v) ∈ d
  | [], h => by cases h
  | (j, u) :: r, h => by
    unfold lookZ at h
    split at h
    · rename_i q
      cases h
      rw [q]; exact List.mem_cons_self
    · exact List.mem_cons_of_mem _ (lookZ_in h)
theorem lookZ_none {e : Int} : ∀ {d : List Z2}, e ∉ ky d → lookZ d e = none
  | [], _ => rfl
  | (j, u) :: r, h => by
    simp only [ky, List.map_cons, List.mem_cons, not_or] at h
    unfold lookZ
    rw [if_neg fun q => h.1 q.symm]
    exact lookZ_none h.2
theorem putZ_new {e v : Int} : ∀ {d : List Z2}, e ∉ ky d → putZ d e v = d ++ [(e, v)]
  | [], _ => rfl
  | (j, u) :: r, h => by
    simp only [ky, List.map_cons, List.mem_cons, not_or] at h
    unfold putZ
    rw [if_neg fun q => h.1 q.symm, putZ_new h.2]
    rfl
theorem putZ_old {e v : Int} : ∀ {d : List Z2}, e ∈ ky d → ky (putZ d e v) = ky d
  | [], h => by cases h
  | (j, u) :: r, h => by
    unfold putZ
    split
    · rfl
    · rename_i q
      simp only [ky, List.map_cons, List.mem_cons] at h ⊢
      rcases h with h | h
      · exact absurd h.symm q
      · have := putZ_old (v := v) h
        simp only [ky] at this
        rw [this]
theorem putZ_nodup {e v : Int} {d : List Z2} (h : (ky d).Nodup) : (ky (putZ d e v)).Nodup := by
  by_cases m : e ∈ ky d
  · rw [putZ_old m]; exact h
  · rw [putZ_new m]
    simp only [ky, List.map_append, List.map_cons, List.map_nil]
    exact List.nodup_append.mpr ⟨h, by simp, fun a x b y q => by
      simp at y
      subst q y
      exact m x⟩
theorem fold_nodup : ∀ (l d : List Z2), (ky d).Nodup → (ky (l.foldl addZ d)).Nodup
  | [], _, h => h
  | p :: r, d, h => fold_nodup r _ (putZ_nodup h)
theorem fold_id : ∀ (l d : List Z2), (ky (d ++ l)).Nodup → l.foldl addZ d = d ++ l
  | [], d, _ => by simp
  | p :: r, d, h => by
    have hp : p.1 ∉ ky d := fun m => by
      simp only [ky, List.map_append, List.map_cons] at h
      exact (List.nodup_append.mp h).2.2 _ m _ List.mem_cons_self rfl
    have e : addZ d p = d ++ [p] := by
      unfold addZ
      rw [lookZ_none hp, putZ_new hp]
      simp
    rw [List.foldl_cons, e, fold_id r _ (by simpa using h)]
    simp
theorem fold_bn {B : Nat} : ∀ (l : List Z2) (d : List Z2) (M : Nat), Bn B l → Bn M d → Bn (M + l.length * B) (l.foldl addZ d)
  | [], d, M, _, h => by simpa using h
  | p :: r, d, M, hl, h => by
    have h1 : Bn (M + B) (addZ d p) := fun q m => by
      rcases putZ_mem m with m | m
      · exact Nat.le_trans (h q m) (Nat.le_add_right _ _)
      · rw [m]
        have hb := hl p List.mem_cons_self
        show ((lookZ d p.1).getD 0 + p.2).natAbs ≤ M + B
        cases q : lookZ d p.1 with
        | none => simp; omega
        | some v =>
          have := h _ (lookZ_in q)
          simp at this ⊢
          omega
    have h2 := fold_bn r _ _ (fun q m => hl q (List.mem_cons_of_mem _ m)) h1
    rw [List.foldl_cons]
    intro q m
    have := h2 q m
    simp only [List.length_cons, Nat.add_mul, Nat.one_mul] at *
    omega
theorem fold_ky : ∀ (l d : List Z2) (e : Int), e ∈ ky (l.foldl addZ d) → e ∈ ky d ∨ e ∈ ky l
  | [], _, _, m => .inl m
  | p :: r, d, e, m => by
    rcases fold_ky r _ e m with m | m
    · obtain ⟨q, mq, rfl⟩ := List.mem_map.mp m
      rcases putZ_mem mq with m1 | m1
      · exact .inl (List.mem_map_of_mem m1)
      · exact .inr (by rw [m1]; exact List.mem_cons_self)
    · exact .inr (List.mem_cons_of_mem _ m)
theorem psum_mem {l : List Z2} {p : Z2} (h : p ∈ psum l) : p.2 ≠ 0 ∧ p ∈ sumD l := by
  unfold psum outZ at h
  obtain ⟨e, m, q⟩ := List.mem_filterMap.mp h
  split at q
  · rename_i z
    cases q
    refine ⟨z, ?_⟩
    obtain ⟨v, hv⟩ := lookZ_mem (d := sumD l) (e := e) (by simpa using m)
    rw [hv] at z ⊢
    exact lookZ_in hv
  · cases q
theorem psum_bn {l : List Z2} {B : Nat} (h : Bn B l) : Bn (l.length * B) (psum l) := fun p m => by
  have := fold_bn l [] 0 h (fun _ m => absurd m List.not_mem_nil) p (psum_mem m).2
  simpa using this
theorem psum_len (l : List Z2) : (psum l).length ≤ l.length := by
  unfold psum outZ
  refine Nat.le_trans (List.length_filterMap_le _ _) ?_
  rw [lenk]
  have := sumD_len l []
  simpa [sumD] using this
theorem psum_key {l : List Z2} {p : Z2} (h : p ∈ psum l) : p.1 ∈ ky l := by
  rcases fold_ky l [] p.1 (List.mem_map_of_mem (psum_mem h).2) with m | m
  · cases m
  · exact m
theorem filterMap_keys {d : List Z2} : ∀ {ks : List Int}, (ks.filterMap fun e => if (lookZ d e).getD 0 ≠ 0 then some (e, (lookZ d e).getD 0) else none).map (·.1) = ks.filter fun e => decide ((lookZ d e).getD 0 ≠ 0)
  | [] => rfl
  | e :: r => by
    have ih := filterMap_keys (d := d) (ks := r)
    rw [List.filterMap_cons, List.filter_cons]
    by_cases z : (lookZ d e).getD 0 ≠ 0
    · simp only [if_pos z, decide_eq_true z, if_true, List.map_cons, ih]
    · simp only [if_neg z, decide_eq_false z, Bool.false_eq_true, if_false, ih]
theorem psum_sorted (l : List Z2) : (psum l).Pairwise fun a b => a.1 < b.1 := by
  have nd : (ky (sumD l)).Nodup := fold_nodup l [] List.nodup_nil
  have h1 : ((ky (sumD l)).mergeSort (fun a b => decide (a ≤ b))).Pairwise (· ≤ ·) := by
    have := List.pairwise_mergeSort (le := fun a b : Int => decide (a ≤ b)) (fun a b c => by simp; omega) (fun a b => by simp; omega) (ky (sumD l))
    exact this.imp fun h => of_decide_eq_true h
  have h2 : ((ky (sumD l)).mergeSort (fun a b => decide (a ≤ b))).Nodup := (List.mergeSort_perm _ _).nodup_iff.mpr nd
  have h3 : ((ky (sumD l)).mergeSort (fun a b => decide (a ≤ b))).Pairwise (· < ·) := (h1.and h2).imp fun ⟨a, b⟩ => by omega
  have h4 : ((psum l).map (·.1)).Pairwise (· < ·) := by
    unfold psum outZ
    rw [filterMap_keys]
    exact h3.filter _
  exact List.pairwise_map.mp h4
theorem lookZ_of {l : List Z2} (nd : (ky l).Nodup) {p : Z2} (m : p ∈ l) : lookZ l p.1 = some p.2 := by
  induction l with
  | nil => cases m
  | cons q r ih =>
    obtain ⟨j, u⟩ := q
    simp only [ky, List.map_cons, List.nodup_cons] at nd
    unfold lookZ
    rcases List.mem_cons.mp m with m | m
    · rw [m]; simp
    · rw [if_neg fun z => nd.1 (by rw [z]; exact List.mem_map_of_mem m)]
      exact ih nd.2 m
theorem psum_sort {l l' : List Z2} (hp : l'.Perm l) (hs : l'.Pairwise fun a b => a.1 < b.1) (nz : ∀ p ∈ l, p.2 ≠ 0) : psum l = l' := by
  have hk' : (ky l').Pairwise (· < ·) := List.pairwise_map.mpr hs
  have nd' : (ky l').Nodup := hk'.imp fun h => by omega
  have hpk : (ky l').Perm (ky l) := hp.map _
  have nd : (ky l).Nodup := hpk.nodup_iff.mp nd'
  have e1 : sumD l = l := by
    have := fold_id l [] (by simpa using nd)
    simpa [sumD] using this
  unfold psum outZ
  rw [e1, ← sort_same hpk (hk'.imp fun h => by omega)]
  have : ∀ (t : List Z2), (∀ p ∈ t, p ∈ l) → ((t.map (·.1)).filterMap fun e => if (lookZ l e).getD 0 ≠ 0 then some (e, (lookZ l e).getD 0) else none) = t := by
    intro t
    induction t with
    | nil => intro _; rfl
    | cons p r ih =>
      intro h
      have hm := h p List.mem_cons_self
      rw [List.map_cons, List.filterMap_cons, lookZ_of nd hm]
      simp only [Option.getD_some, if_pos (nz p hm)]
      rw [ih fun q m => h q (List.mem_cons_of_mem _ m)]
  exact this l' fun p m => hp.mem_iff.mp m
theorem prod_len (a b : List Z2) : (prodL a b).length = a.length * b.length := by
  unfold prodL
  induction a with
  | nil => simp
  | cons p r ih => simp [ih, Nat.add_mul, Nat.add_comm]
theorem prod_bn {a b : List Z2} {A C : Nat} (ha : Bn A a) (hb : Bn C b) : Bn (A * C) (prodL a b) := fun p m => by
  unfold prodL at m
  obtain ⟨x, mx, m⟩ := List.mem_flatMap.mp m
  obtain ⟨y, my, rfl⟩ := List.mem_map.mp m
  show (x.2 * y.2).natAbs ≤ _
  rw [Int.natAbs_mul]
  exact Nat.mul_le_mul (ha x mx) (hb y my)
end Kw

set_option Elab.async false
set_option linter.all false
set_option maxRecDepth 100000
set_option maxHeartbeats 2000000
namespace Kw
open PySem L2 Kh
/-- a drawn polynomial -/
structure PolOk (L B : Nat) (l : List Z2) : Prop where
  len : l.length ≤ L
  bn : Bn B l
  ex : ∀ p ∈ l, p.1.natAbs ≤ 1000
  nz : ∀ p ∈ l, p.2 ≠ 0
  so : l.Pairwise fun a b => a.1 < b.1
theorem pol_of {L B : Nat} {l : List Z2} (h1 : l.length ≤ L) (h2 : Bn B l) (h3 : ∀ p ∈ l, p.1.natAbs ≤ 1000) : PolOk L (L * B) (psum l) :=
  ⟨Nat.le_trans (psum_len l) h1, fun p m => Nat.le_trans (psum_bn h2 p m) (Nat.mul_le_mul_right _ h1), fun p m => by
    obtain ⟨q, mq, e⟩ := List.mem_map.mp (psum_key m)
    rw [← e]; exact h3 q mq, fun p m => (psum_mem m).1, psum_sorted l⟩
theorem as_pairs {B : Nat} : ∀ {ys : List D}, (∀ y ∈ ys, ∃ p : Z2, y = .im (pI p) ∧ p.2.natAbs ≤ B ∧ p.1.natAbs ≤ 1000) → ∃ l : List Z2, ys = (l.map fun p => .im (pI p)) ∧ Bn B l ∧ ∀ p ∈ l, p.1.natAbs ≤ 1000
  | [], _ => ⟨[], rfl, fun _ m => absurd m List.not_mem_nil, fun _ m => absurd m List.not_mem_nil⟩
  | y :: r, h => by
    obtain ⟨p, e, h1, h2⟩ := h y List.mem_cons_self
    obtain ⟨l, e2, h3, h4⟩ := as_pairs (ys := r) fun z m => h z (List.mem_cons_of_mem _ m)
    refine ⟨p :: l, by rw [e, e2]; rfl, fun q m => ?_, fun q m => ?_⟩
    · rcases List.mem_cons.mp m with m | m
      · rw [m]; exact h1
      · exact h3 q m
    · rcases List.mem_cons.mp m with m | m
      · rw [m]; exact h2
      · exact h4 q m
theorem lpoly_ok {k : Nat} {s : St} {terms size : Nat} (ok : StOk s) (ht : terms ≤ 100) (hs : size ≤ 100) : ∃ l s', f_l_poly.sem (tab (k + 2)) [.own (stD s), .own (int terms), .own (int size)] = .ok (pol l) [.own (stD s'), .own (int terms), .own (int size)] ∧ PolOk terms (terms * size) l ∧ StOk s' := by
  have hp : (tab (k + 2)).fn "_law_take" = some (f_l_take.sem (tab (k + 1))) := rfl
  have hq : (tab (k + 2)).fn "_law_sum" = some (f_poly.sem (tab (k + 1))) := rfl
  obtain ⟨n, s1, e1, n1, n2, ok1⟩ := take_ok (T := tab (k + 1)) (m := (terms : Int) + 1) ok (by omega) (by
    have : ((terms : Int) + 1).natAbs < 2 ^ 7 := by omega
    exact Nat.lt_of_lt_of_le this (Nat.pow_le_pow_right (by decide) (by decide)))
  have hl2 : Nat.log2 2 = 1 := by decide
  have hls : (size : Int).natAbs.log2 + 1 < 1000000 := by
    have := log_lt (x := (size : Int).natAbs) (b := 7) (by omega) (by decide)
    omega
  have hz : (1 + (size : Int).natAbs.log2) < 1000000 := by omega
  simp only [Int.natAbs_natCast] at hz
  obtain ⟨ys, s2, e2, ok2, ly, ry⟩ := lcGo_st (turn := lcT (tab (k + 2)) (.name 3) [3] .no (.tup (.cons (.bin .sub (.call "_law_take" (.cons (.var 0) (.cons (.cst (.int 13)) .nil))) (.cst (.int 6))) (.cons (.bin .sub (.call "_law_take" (.cons (.var 0) (.cons (.bin .add (.bin .mul (.cst (.int 2)) (.var 2)) (.cst (.int 1))) .nil))) (.var 2)) .nil)))) (fun (i : Nat) => D.im (.int (0 + (i : Int)))) (fun s => [.own (stD s), .own (int terms), .own (int size), .no]) StOk (fun y => ∃ p : Z2, y = .im (pI p) ∧ p.2.natAbs ≤ size ∧ p.1.natAbs ≤ 1000) (List.range n.toNat) s1 ok1 fun i _ s oks => by
    obtain ⟨u, s3, e3, u1, u2, ok3⟩ := take_ok (T := tab (k + 1)) (m := 13) oks (by decide) (by decide)
    obtain ⟨v, s4, e4, v1, v2, ok4⟩ := take_ok (T := tab (k + 1)) (m := 2 * (size : Int) + 1) ok3 (by omega) (by
      have : (2 * (size : Int) + 1).natAbs < 2 ^ 8 := by omega
      exact Nat.lt_of_lt_of_le this (Nat.pow_le_pow_right (by decide) (by decide)))
    refine ⟨.im (pI (u - 6, v - size)), s4, ?_, ok4, ⟨_, rfl, ?_, ?_⟩⟩
    · simp [lcT, pI, hp, e3, e4, hl2, hz, ev, evs, exs, args, bo, lift, readS, lendS, still, needIm, asInt, asBool, asIm, binD, binI, cmpD, cmpI, ixD, slD, biD, meD, meOk, mutD, Mm.sup, setD, wkD, mkTup, ims, D.isIm, E.pure, Es.pure, Eo.pure, E.src, Wk.src, keepS, bindT, bindTs, Kh.clear, lockAll, Kh.settle, settleGo, Slot.isOwnMut, Slot.imOf, Slot.borOf, giveBack, callF, stepClear, settleF, Out.nx, Ss.stores, Kh.S.stores, Tg.slots, Tgs.slots, Es.len]
    · show (v - size).natAbs ≤ size; omega
    · show (u - 6).natAbs ≤ 1000; omega
  obtain ⟨l, rfl, b1, b2⟩ := as_pairs ry
  simp only [List.length_map, List.length_range] at ly
  have hn : n.toNat ≤ terms := by omega
  have h := lc_to (T := tab (k + 2)) (w := .range (.cons (.call "_law_take" (.cons (.var 0) (.cons (.bin .add (.var 1) (.cst (.int 1))) .nil))) .nil)) (tg := .name 3) (own := [("k", 3)]) (vs := [3]) (c := .no) (elt := .tup (.cons (.bin .sub (.call "_law_take" (.cons (.var 0) (.cons (.cst (.int 13)) .nil))) (.cst (.int 6))) (.cons (.bin .sub (.call "_law_take" (.cons (.var 0) (.cons (.bin .add (.bin .mul (.cst (.int 2)) (.var 2)) (.cst (.int 1))) .nil))) (.var 2)) .nil))) (b := true)
    (e := [.own (stD s), .own (int terms), .own (int size), .no]) (e1 := [.own (stD s1), .own (int terms), .own (int size), .no]) (xs := (List.range n.toNat).map fun (i : Nat) => D.im (.int (0 + (i : Int)))) (e0 := [.own (stD s1), .own (int terms), .own (int size), .no]) rfl (by
      have z : n ≤ 1000000 ∧ -1000000 ≤ n := by omega
      simp [hp, e1, z, rangeL, ev, evs, exs, args, bo, lift, readS, lendS, still, needIm, asInt, asBool, asIm, binD, binI, cmpD, cmpI, ixD, slD, biD, meD, meOk, mutD, Mm.sup, setD, wkD, mkTup, ims, D.isIm, E.pure, Es.pure, Eo.pure, E.src, Wk.src, keepS, bindT, bindTs, Kh.clear, lockAll, Kh.settle, settleGo, Slot.isOwnMut, Slot.imOf, Slot.borOf, giveBack, callF, stepClear, settleF, Out.nx, Ss.stores, Kh.S.stores, Tg.slots, Tgs.slots, Es.len]) (by rw [List.length_map, List.length_range]; exact Nat.le_trans hn (Nat.le_trans ht (show 100 ≤ big by decide))) (by simp [ev, evs, exs, args, bo, lift, readS, lendS, still, needIm, asInt, asBool, asIm, binD, binI, cmpD, cmpI, ixD, slD, biD, meD, meOk, mutD, Mm.sup, setD, wkD, mkTup, ims, D.isIm, E.pure, Es.pure, Eo.pure, E.src, Wk.src, keepS, bindT, bindTs, Kh.clear, lockAll, Kh.settle, settleGo, Slot.isOwnMut, Slot.imOf, Slot.borOf, giveBack, callF, stepClear, settleF, Out.nx, Ss.stores, Kh.S.stores, Tg.slots, Tgs.slots, Es.len]) e2 (e3 := [.own (stD s2), .own (int terms), .own (int size), .no]) (by simp [ev, evs, exs, args, bo, lift, readS, lendS, still, needIm, asInt, asBool, asIm, binD, binI, cmpD, cmpI, ixD, slD, biD, meD, meOk, mutD, Mm.sup, setD, wkD, mkTup, ims, D.isIm, E.pure, Es.pure, Eo.pure, E.src, Wk.src, keepS, bindT, bindTs, Kh.clear, lockAll, Kh.settle, settleGo, Slot.isOwnMut, Slot.imOf, Slot.borOf, giveBack, callF, stepClear, settleF, Out.nx, Ss.stores, Kh.S.stores, Tg.slots, Tgs.slots, Es.len])
  have h4 := poly_okL (T := tab (k + 1)) (l := l) (by rw [ly]; exact Nat.le_trans hn (Nat.le_trans ht (show 100 ≤ big by decide)))
  refine ⟨psum l, s2, ?_, pol_of (by omega) b1 b2, ok2⟩
  simp only [Fd.sem, f_l_poly]
  simp only [lpol] at h4
  simp [hq, h, h4, -List.map_eq_nil_iff, ev, evs, exs, args, bo, lift, readS, lendS, still, needIm, asInt, asBool, asIm, binD, binI, cmpD, cmpI, ixD, slD, biD, meD, meOk, mutD, Mm.sup, setD, wkD, mkTup, ims, D.isIm, E.pure, Es.pure, Eo.pure, E.src, Wk.src, keepS, bindT, bindTs, Kh.clear, lockAll, Kh.settle, settleGo, Slot.isOwnMut, Slot.imOf, Slot.borOf, giveBack, callF, stepClear, settleF, Out.nx, Ss.stores, Kh.S.stores, Tg.slots, Tgs.slots, Es.len]
theorem pow60 {T : Kh.Tab} {e : En} {b : Bool} : evalE T (.bin .pow (.cst (.int 10)) (.cst (.int 60))) b e = .ok (int 1000000000000000000000000000000000000000000000000000000000000) e := by
  have h : binI .pow 10 60 = some 1000000000000000000000000000000000000000000000000000000000000 := by decide +kernel
  simp only [ev, bo, still, D.isIm, Bool.true_or, if_true, binD, h, Option.map_some, lift]
theorem arg60 {T : Kh.Tab} {e : En} : argS T (.bin .pow (.cst (.int 10)) (.cst (.int 60))) e = .ok (.own (int 1000000000000000000000000000000000000000000000000000000000000), none) e := by
  rw [args.2.2.2.2.2.2.1, pow60]
  rfl
/-- the drawn number of 60 digits -/
theorem big_take {k : Nat} {s : St} {tl : En} (ok : StOk s) : ∃ v s', evalE (tab (k + 1)) (.call "_law_take" (.cons (.var 0) (.cons (.bin .pow (.cst (.int 10)) (.cst (.int 60))) .nil))) false (.own (stD s) :: tl) = .ok (int v) (.own (stD s') :: tl) ∧ v.natAbs ≤ 10 ^ 60 ∧ StOk s' := by
  have hp : (tab (k + 1)).fn "_law_take" = some (f_l_take.sem (tab k)) := rfl
  obtain ⟨v, s', e, h1, h2, h3⟩ := take_ok (T := tab k) (m := 1000000000000000000000000000000000000000000000000000000000000) ok (by decide) (by decide +kernel)
  refine ⟨v, s', ?_, by omega, h3⟩
  rw [ev.2.2.2.2.2.2.2.2.2.2.2.2.2.2.2.2.2.1, hp]
  simp only [evs.2.2.2.2.2.1, arg60]
  simp [e, evs.2.2.2.2.1, args.1, lendS, giveBack, callF, bo]
abbrev PL (l : List Z2) : Prop := PolOk 60 (60 * 10 ^ 60) l
theorem large_ok {k : Nat} {s : St} (ok : StOk s) : ∃ l s', f_l_large.sem (tab (k + 3)) [.own (stD s)] = .ok (pol l) [.own (stD s')] ∧ PL l ∧ StOk s' := by
  have hp : (tab (k + 3)).fn "_law_take" = some (f_l_take.sem (tab (k + 2))) := rfl
  have hq : (tab (k + 3)).fn "_law_sum" = some (f_poly.sem (tab (k + 2))) := rfl
  have hr : (tab (k + 3)).fn "_law_poly" = some (f_l_poly.sem (tab (k + 2))) := rfl
  have hs : (tab (k + 3)).fn "_law_sign" = some (f_l_sign.sem (tab (k + 2))) := rfl
  obtain ⟨n, s1, e1, n1, n2, ok1⟩ := take_ok (T := tab (k + 2)) (m := 4) ok (by decide) (by decide)
  by_cases c : 0 < n
  · obtain ⟨l, s2, e2, pl, ok2⟩ := lpoly_ok (k := k) (terms := 8) (size := 20) ok1 (by decide) (by decide)
    refine ⟨l, s2, ?_, ⟨Nat.le_trans pl.len (by decide), fun p m => Nat.le_trans (pl.bn p m) (by decide +kernel), pl.ex, pl.nz, pl.so⟩, ok2⟩
    simp only [Fd.sem, f_l_large]
    have e2' : Fd.sem (tab (k + 2)) f_l_poly [.own (stD s1), .own (.im (.int 8)), .own (.im (.int 20))] = _ := e2
    simp [hp, hr, e1, e2', c, ev, evs, exs, args, bo, lift, readS, lendS, still, needIm, asInt, asBool, asIm, binD, binI, cmpD, cmpI, ixD, slD, biD, meD, meOk, mutD, Mm.sup, setD, wkD, mkTup, ims, D.isIm, E.pure, Es.pure, Eo.pure, E.src, Wk.src, keepS, bindT, bindTs, Kh.clear, lockAll, Kh.settle, settleGo, Slot.isOwnMut, Slot.imOf, Slot.borOf, giveBack, callF, stepClear, settleF, Out.nx, Ss.stores, Kh.S.stores, Tg.slots, Tgs.slots, Es.len]
  · obtain ⟨n', s2, e2, m1, m2, ok2⟩ := take_ok (T := tab (k + 2)) (m := 61) ok1 (by decide) (by decide)
    obtain ⟨ys, s3, e3, ok3, ly, ry⟩ := lcGo_st (turn := lcT (tab (k + 3)) (.name 1) [1] .no (.tup (.cons (.bin .sub (.call "_law_take" (.cons (.var 0) (.cons (.cst (.int 1001)) .nil))) (.cst (.int 500))) (.cons (.bin .mul (.call "_law_sign" (.cons (.var 0) .nil)) (.call "_law_take" (.cons (.var 0) (.cons (.bin .pow (.cst (.int 10)) (.cst (.int 60))) .nil)))) .nil)))) (fun (i : Nat) => D.im (.int (0 + (i : Int)))) (fun s => [.own (stD s), .no]) StOk (fun y => ∃ p : Z2, y = .im (pI p) ∧ p.2.natAbs ≤ 10 ^ 60 ∧ p.1.natAbs ≤ 1000) (List.range n'.toNat) s2 ok2 fun i _ s oks => by
      obtain ⟨u, s4, e4, u1, u2, ok4⟩ := take_ok (T := tab (k + 2)) (m := 1001) oks (by decide) (by decide)
      obtain ⟨g, s5, e5, g1, ok5⟩ := sign_ok (k := k + 1) ok4
      obtain ⟨v, s6, e6, v1, ok6⟩ := big_take (k := k + 2) (tl := [.own (.im (.int (0 + (i : Int))))]) ok5
      have hz : g.natAbs.log2 + v.natAbs.log2 < 1000000 := sz_ok (a := 2) (b := 210) (by omega) (Nat.lt_of_le_of_lt v1 (by decide +kernel)) (by decide) (by decide) (by decide)
      refine ⟨.im (pI (u - 500, g * v)), s6, ?_, ok6, ⟨_, rfl, ?_, ?_⟩⟩
      · have e6' := e6
        simp only [Int.zero_add] at e6'
        simp only [lcT, pI]
        have hE : evalE (tab (k + 3)) (.tup (.cons (.bin .sub (.call "_law_take" (.cons (.var 0) (.cons (.cst (.int 1001)) .nil))) (.cst (.int 500))) (.cons (.bin .mul (.call "_law_sign" (.cons (.var 0) .nil)) (.call "_law_take" (.cons (.var 0) (.cons (.bin .pow (.cst (.int 10)) (.cst (.int 60))) .nil)))) .nil))) true [.own (stD s), .own (.im (.int (i : Int)))] = .ok (.im (.tup [.int (u - 500), .int (g * v)])) [.own (stD s6), .own (.im (.int (i : Int)))] := by
          have eA : evalE (tab (k + 3)) (.bin .sub (.call "_law_take" (.cons (.var 0) (.cons (.cst (.int 1001)) .nil))) (.cst (.int 500))) true [.own (stD s), .own (.im (.int (i : Int)))] = .ok (int (u - 500)) [.own (stD s4), .own (.im (.int (i : Int)))] := by simp [hp, e4, ev, evs, exs, args, bo, lift, readS, lendS, still, needIm, asInt, asBool, asIm, binD, binI, cmpD, cmpI, ixD, slD, biD, meD, meOk, mutD, Mm.sup, setD, wkD, mkTup, ims, D.isIm, E.pure, Es.pure, Eo.pure, E.src, Wk.src, keepS, bindT, bindTs, Kh.clear, lockAll, Kh.settle, settleGo, Slot.isOwnMut, Slot.imOf, Slot.borOf, giveBack, callF, stepClear, settleF, Out.nx, Ss.stores, Kh.S.stores, Tg.slots, Tgs.slots, Es.len]
          have eB : evalE (tab (k + 3)) (.call "_law_sign" (.cons (.var 0) .nil)) false [.own (stD s4), .own (.im (.int (i : Int)))] = .ok (int g) [.own (stD s5), .own (.im (.int (i : Int)))] := by simp [hs, e5, ev, evs, exs, args, bo, lift, readS, lendS, still, needIm, asInt, asBool, asIm, binD, binI, cmpD, cmpI, ixD, slD, biD, meD, meOk, mutD, Mm.sup, setD, wkD, mkTup, ims, D.isIm, E.pure, Es.pure, Eo.pure, E.src, Wk.src, keepS, bindT, bindTs, Kh.clear, lockAll, Kh.settle, settleGo, Slot.isOwnMut, Slot.imOf, Slot.borOf, giveBack, callF, stepClear, settleF, Out.nx, Ss.stores, Kh.S.stores, Tg.slots, Tgs.slots, Es.len]
          have eC : evalE (tab (k + 3)) (.bin .mul (.call "_law_sign" (.cons (.var 0) .nil)) (.call "_law_take" (.cons (.var 0) (.cons (.bin .pow (.cst (.int 10)) (.cst (.int 60))) .nil)))) true [.own (stD s4), .own (.im (.int (i : Int)))] = .ok (int (g * v)) [.own (stD s6), .own (.im (.int (i : Int)))] := by
            rw [ev.2.2.2.2.2.2.1, eB]
            simp only [bo, e6', still, D.isIm, Bool.true_or, if_true, binD, binI, hz, Option.map_some, lift]
          rw [ev.2.2.2.1]
          simp only [evs.1, evs.2.1, eA, eC, bo, mkTup, ims, Option.map_some]
        simp [bindT, keepS, hE, evs.2.2.2.2.2.2.2.2.1, bo, Kh.clear, Out.nx]
      · show (g * v).natAbs ≤ _
        rw [Int.natAbs_mul]
        calc g.natAbs * v.natAbs ≤ 1 * 10 ^ 60 := Nat.mul_le_mul g1 v1
          _ = 10 ^ 60 := Nat.one_mul _
      · show (u - 500).natAbs ≤ 1000; omega
    obtain ⟨l, rfl, b1, b2⟩ := as_pairs ry
    simp only [List.length_map, List.length_range] at ly
    have hn : n'.toNat ≤ 60 := by omega
    have h := lc_to (T := tab (k + 3)) (w := .range (.cons (.call "_law_take" (.cons (.var 0) (.cons (.cst (.int 61)) .nil))) .nil)) (tg := .name 1) (own := [("k", 1)]) (vs := [1]) (c := .no) (elt := .tup (.cons (.bin .sub (.call "_law_take" (.cons (.var 0) (.cons (.cst (.int 1001)) .nil))) (.cst (.int 500))) (.cons (.bin .mul (.call "_law_sign" (.cons (.var 0) .nil)) (.call "_law_take" (.cons (.var 0) (.cons (.bin .pow (.cst (.int 10)) (.cst (.int 60))) .nil)))) .nil))) (b := true)
      (e := [.own (stD s1), .no]) (e1 := [.own (stD s2), .no]) (xs := (List.range n'.toNat).map fun (i : Nat) => D.im (.int (0 + (i : Int)))) (e0 := [.own (stD s2), .no]) rfl (by
        have z : n' ≤ 1000000 ∧ -1000000 ≤ n' := by omega
        simp [hp, e2, z, rangeL, ev, evs, exs, args, bo, lift, readS, lendS, still, needIm, asInt, asBool, asIm, binD, binI, cmpD, cmpI, ixD, slD, biD, meD, meOk, mutD, Mm.sup, setD, wkD, mkTup, ims, D.isIm, E.pure, Es.pure, Eo.pure, E.src, Wk.src, keepS, bindT, bindTs, Kh.clear, lockAll, Kh.settle, settleGo, Slot.isOwnMut, Slot.imOf, Slot.borOf, giveBack, callF, stepClear, settleF, Out.nx, Ss.stores, Kh.S.stores, Tg.slots, Tgs.slots, Es.len]) (by rw [List.length_map, List.length_range]; exact Nat.le_trans hn (show 60 ≤ big by decide)) (by simp [ev, evs, exs, args, bo, lift, readS, lendS, still, needIm, asInt, asBool, asIm, binD, binI, cmpD, cmpI, ixD, slD, biD, meD, meOk, mutD, Mm.sup, setD, wkD, mkTup, ims, D.isIm, E.pure, Es.pure, Eo.pure, E.src, Wk.src, keepS, bindT, bindTs, Kh.clear, lockAll, Kh.settle, settleGo, Slot.isOwnMut, Slot.imOf, Slot.borOf, giveBack, callF, stepClear, settleF, Out.nx, Ss.stores, Kh.S.stores, Tg.slots, Tgs.slots, Es.len]) e3 (e3 := [.own (stD s3), .no]) (by simp [ev, evs, exs, args, bo, lift, readS, lendS, still, needIm, asInt, asBool, asIm, binD, binI, cmpD, cmpI, ixD, slD, biD, meD, meOk, mutD, Mm.sup, setD, wkD, mkTup, ims, D.isIm, E.pure, Es.pure, Eo.pure, E.src, Wk.src, keepS, bindT, bindTs, Kh.clear, lockAll, Kh.settle, settleGo, Slot.isOwnMut, Slot.imOf, Slot.borOf, giveBack, callF, stepClear, settleF, Out.nx, Ss.stores, Kh.S.stores, Tg.slots, Tgs.slots, Es.len])
    have h4 := poly_okL (T := tab (k + 2)) (l := l) (by rw [ly]; exact Nat.le_trans hn (show 60 ≤ big by decide))
    refine ⟨psum l, s3, ?_, pol_of (by omega) b1 b2, ok3⟩
    simp only [Fd.sem, f_l_large]
    simp only [lpol] at h4
    simp [hp, hq, e1, c, h, h4, -List.map_eq_nil_iff, ev, evs, exs, args, bo, lift, readS, lendS, still, needIm, asInt, asBool, asIm, binD, binI, cmpD, cmpI, ixD, slD, biD, meD, meOk, mutD, Mm.sup, setD, wkD, mkTup, ims, D.isIm, E.pure, Es.pure, Eo.pure, E.src, Wk.src, keepS, bindT, bindTs, Kh.clear, lockAll, Kh.settle, settleGo, Slot.isOwnMut, Slot.imOf, Slot.borOf, giveBack, callF, stepClear, settleF, Out.nx, Ss.stores, Kh.S.stores, Tg.slots, Tgs.slots, Es.len]
end Kw

set_option Elab.async false
set_option linter.all false
set_option maxRecDepth 100000
set_option maxHeartbeats 4000000
namespace Kw
open PySem L2 Kh
theorem shalL : ∀ l : List Z2, I.shals 59 (l.map pI) = true
  | [] => rfl
  | p :: r => by
    have := shalL r
    simp only [List.map_cons, I.shals, this, Bool.and_true]
    rfl
theorem shalP (l : List Z2) : I.shal 60 (.tup (l.map pI)) = true := shalL l
theorem eqL : ∀ l : List Z2, I.eqs (l.map pI) (l.map pI) = some true
  | [] => rfl
  | p :: r => by
    have := eqL r
    simp only [List.map_cons, I.eqs, pI, I.eq, beq_self_eq_true, Option.bind_some, Option.map_some, Bool.and_true]
    rw [this]
    rfl
theorem cmpP (l : List Z2) : cmpD .ne (pol l) (pol l) = some false ∧ cmpD .eq (pol l) (pol l) = some true := by
  have h1 := shalP l
  have h2 : I.eq (.tup (l.map pI)) (.tup (l.map pI)) = some true := by
    have := eqL l
    simpa only [I.eq] using this
  constructor <;> simp only [pol, cmpD, h1, h2, Bool.and_true, if_true, Option.map_some, Bool.not_true]
theorem ne_same {T : Kh.Tab} {a b : Kh.E} {x : List Z2} {e : En} {w : Bool} (h1 : evalE T a false e = .ok (pol x) e) (h2 : evalE T b false e = .ok (pol x) e) : evalE T (.cmp .ne a b) w e = .ok (.im (.bl false)) e := by
  rw [ev.2.2.2.2.2.2.2.2.2.1]
  simp only [h1, h2, bo, still, D.isIm, Bool.true_or, if_true, (cmpP x).1, Option.map_some, lift]
theorem eq_same {T : Kh.Tab} {a b : Kh.E} {x : List Z2} {e : En} {w : Bool} (h1 : evalE T a false e = .ok (pol x) e) (h2 : evalE T b false e = .ok (pol x) e) : evalE T (.cmp .eq a b) w e = .ok (.im (.bl true)) e := by
  rw [ev.2.2.2.2.2.2.2.2.2.1]
  simp only [h1, h2, bo, still, D.isIm, Bool.true_or, if_true, (cmpP x).2, Option.map_some, lift]
theorem t_ne {T : Kh.Tab} {a b : Kh.E} {x : List Z2} {e : En} (h1 : evalE T a false e = .ok (pol x) e) (h2 : evalE T b false e = .ok (pol x) e) : evalT T (.cmp .ne a b) e = .ok false e := by
  rw [evs.2.2.2.2.2.2.2.2.2.2.2.2.2.2.1, ne_same h1 h2]
  rfl
theorem t_or {T : Kh.Tab} {a b : Kh.E} {e : En} (h1 : evalT T a e = .ok false e) (h2 : evalT T b e = .ok false e) : evalT T (.or a b) e = .ok false e := by
  rw [evs.2.2.2.2.2.2.2.2.2.2.2.2.2.1, h1]
  simp only [bo, Bool.false_eq_true, if_false, h2]
theorem t_one {T : Kh.Tab} {a : Kh.E} {e : En} (h1 : evalT T a e = .ok false e) : evalT T (.one a) e = .ok false e := by
  rw [evs.2.2.2.2.2.2.2.2.2.2.2.1, h1]
/-- a call with a name that never changes -/
theorem call_1 {T : Kh.Tab} {f : Str} {g : Fn} {i : Nat} {e : En} {x : I} {v : D} {w : Bool} {s : Kh.Slot} (hf : T.fn f = some g) (hi : e[i]? = some (.own (.im x))) (h : g [.own (.im x)] = .ok v [s]) : evalE T (.call f (.cons (.var i) .nil)) w e = .ok v e := by
  simp [hf, hi, h, ev, evs, exs, args, bo, lift, readS, lendS, still, needIm, asInt, asBool, asIm, binD, binI, cmpD, cmpI, ixD, slD, biD, meD, meOk, mutD, Mm.sup, setD, wkD, mkTup, ims, D.isIm, E.pure, Es.pure, Eo.pure, E.src, Wk.src, keepS, bindT, bindTs, Kh.clear, lockAll, Kh.settle, settleGo, Slot.isOwnMut, Slot.imOf, Slot.borOf, giveBack, callF, stepClear, settleF, Out.nx, Ss.stores, Kh.S.stores, Tg.slots, Tgs.slots, Es.len]
theorem call_2 {T : Kh.Tab} {f : Str} {g : Fn} {i j : Nat} {e : En} {x y : I} {v : D} {w : Bool} {s t : Kh.Slot} (hf : T.fn f = some g) (hi : e[i]? = some (.own (.im x))) (hj : e[j]? = some (.own (.im y))) (h : g [.own (.im x), .own (.im y)] = .ok v [s, t]) : evalE T (.call f (.cons (.var i) (.cons (.var j) .nil))) w e = .ok v e := by
  simp [hf, hi, hj, h, ev, evs, exs, args, bo, lift, readS, lendS, still, needIm, asInt, asBool, asIm, binD, binI, cmpD, cmpI, ixD, slD, biD, meD, meOk, mutD, Mm.sup, setD, wkD, mkTup, ims, D.isIm, E.pure, Es.pure, Eo.pure, E.src, Wk.src, keepS, bindT, bindTs, Kh.clear, lockAll, Kh.settle, settleGo, Slot.isOwnMut, Slot.imOf, Slot.borOf, giveBack, callF, stepClear, settleF, Out.nx, Ss.stores, Kh.S.stores, Tg.slots, Tgs.slots, Es.len]
/-- a call with the value of an expression -/
theorem call_e {T : Kh.Tab} {f : Str} {g : Fn} {a : Kh.E} {e : En} {d v : D} {w : Bool} {s : Kh.Slot} (hf : T.fn f = some g) (ha : argS T a e = .ok (.own d, none) e) (h : g [.own d] = .ok v [s]) : evalE T (.call f (.cons a .nil)) w e = .ok v e := by
  rw [ev.2.2.2.2.2.2.2.2.2.2.2.2.2.2.2.2.2.1, hf]
  simp only [evs.2.2.2.2.2.1, evs.2.2.2.2.1, ha, bo, callF, List.map_cons, List.map_nil, h, giveBack]
theorem var_im {T : Kh.Tab} {i : Nat} {e : En} {x : I} {w : Bool} (hi : e[i]? = some (.own (.im x))) : evalE T (.var i) w e = .ok (.im x) e := by
  simp [hi, ev, evs, exs, args, bo, lift, readS, lendS, still, needIm, asInt, asBool, asIm, binD, binI, cmpD, cmpI, ixD, slD, biD, meD, meOk, mutD, Mm.sup, setD, wkD, mkTup, ims, D.isIm, E.pure, Es.pure, Eo.pure, E.src, Wk.src, keepS, bindT, bindTs, Kh.clear, lockAll, Kh.settle, settleGo, Slot.isOwnMut, Slot.imOf, Slot.borOf, giveBack, callF, stepClear, settleF, Out.nx, Ss.stores, Kh.S.stores, Tg.slots, Tgs.slots, Es.len]
/-- tuple of a comprehension over a polynomial -/
theorem tup_lc {T : Kh.Tab} {a : Kh.E} {e : En} {l : List Z2} {w : Bool} (h : evalE T a false e = .ok (lpol l) e) : evalE T (.bi .tuple (.cons a .nil)) w e = .ok (pol l) e := by
  rw [ev.2.2.2.2.2.2.2.2.2.2.2.2.2.2.2.2.2.2.1, h]
  simp only [bo, biD, lpol, ims_pI', Option.map_some, lift]
end Kw

set_option Elab.async false
set_option linter.all false
set_option maxRecDepth 100000
set_option maxHeartbeats 4000000
namespace Kw
open PySem L2 Kh
theorem set_no {e : En} {i : Nat} (h : e[i]? = some .no) : e.set i .no = e := by
  apply List.ext_getElem?
  intro j
  by_cases q : i = j
  · subst q
    obtain ⟨z, _⟩ := List.getElem?_eq_some_iff.mp h
    rw [List.getElem?_set_self z, h]
  · rw [List.getElem?_set_ne q]
theorem settle_id {e : En} {src own : List Nat} (h : ∀ i ∈ own, ∀ s, e[i]? = some s → s = .no) : Kh.settle e src own own e = e := by
  apply List.ext_getElem?
  intro i
  unfold Kh.settle
  rw [settleGo_get]
  cases q : e[i]? with
  | none => rfl
  | some s =>
    simp only [Nat.zero_add]
    congr 1
    split
    · rfl
    · split
      · rename_i m
        rw [h i (List.contains_iff_mem.mp m) s q]
        rfl
      · rename_i m
        cases s with
        | bor d => simp only [m, Bool.false_eq_true, if_false]; rfl
        | no => rfl
        | own d => rfl
theorem lc_pol {T : Kh.Tab} {i j k : Nat} {e : En} {l : List Z2} {f : Z2 → Z2} {elt : Kh.E} {o1 o2 : Str} {w : Bool} (hi : e[i]? = some (.own (pol l))) (hl : l.length ≤ big) (hj : e[j]? = some .no) (hk : e[k]? = some .no) (hjk : j ≠ k)
    (turn : ∀ p ∈ l, evalE T elt true ((e.set j (.own (int p.1))).set k (.own (int p.2))) = .ok (.im (pI (f p))) ((e.set j (.own (int p.1))).set k (.own (int p.2)))) :
    evalE T (.lc (.it (.var i)) (.tup (.cons (.name j) (.cons (.name k) .nil))) [(o1, j), (o2, k)] .no elt) w e = .ok (lpol (l.map f)) e := by
  have lj := (List.getElem?_eq_some_iff.mp hj).1
  have lk := (List.getElem?_eq_some_iff.mp hk).1
  refine lc_to (vs := [j, k]) (e0 := e) (e1 := e) (xs := l.map fun p => .im (pI p)) (e2 := e) rfl ?_ (by simpa using hl) ?_ ?_ (settle_id fun n m s q => ?_)
  · simp [hi, Function.comp_def, ev, evs, exs, args, bo, lift, readS, lendS, still, needIm, asInt, asBool, asIm, binD, binI, cmpD, cmpI, ixD, slD, biD, meD, meOk, mutD, Mm.sup, setD, wkD, mkTup, ims, D.isIm, E.pure, Es.pure, Eo.pure, E.src, Wk.src, keepS, bindT, bindTs, Kh.clear, lockAll, Kh.settle, settleGo, Slot.isOwnMut, Slot.imOf, Slot.borOf, giveBack, callF, stepClear, settleF, Out.nx, Ss.stores, Kh.S.stores, Tg.slots, Tgs.slots, Es.len]
  · simp only [Wk.src, Kh.E.src, lockAll, hi, D.isIm, if_true, Kh.clear]
    rw [set_no hk, set_no hj]
  · rw [lcGo_map (fun p => D.im (pI p)) (fun p => .im (pI (f p))) _ _ fun p m => ?_]
    · simp [Function.comp_def]
    · have back : (((e.set j (.own (int p.1))).set k (.own (int p.2))).set k .no).set j .no = e := by
        rw [List.set_set, List.set_comm _ _ (Ne.symm hjk), List.set_set, set_no hj, set_no hk]
      simp only [lcT, pI, bindT, bindTs, List.map_cons, List.map_nil, lj, keepS, if_true, Option.bind_some, List.length_set, lk, evs.2.2.2.2.2.2.2.2.1, bo]
      have t := turn p m
      simp only [int] at t back
      simp only [t, bo, Kh.clear, back, Out.nx]
      rfl
  · simp only [List.mem_cons, List.not_mem_nil, or_false] at m
    rcases m with rfl | rfl
    · rw [hj] at q; cases q; rfl
    · rw [hk] at q; cases q; rfl
end Kw

set_option Elab.async false
set_option linter.all false
set_option maxRecDepth 100000
set_option maxHeartbeats 4000000
namespace Kw
open PySem L2 Kh
/-! ### the laws of sums -/
theorem psum_id {L B : Nat} {l : List Z2} (h : PolOk L B l) : psum l = l := psum_sort (List.Perm.refl _) h.so h.nz
theorem psum_zero (l : List Z2) : psum (l.map fun p => (p.1, p.2 * 0)) = [] := by
  have h : ∀ p ∈ psum (l.map fun p : Z2 => (p.1, p.2 * 0)), False := fun p m => by
    have h1 := psum_mem m
    have hb : Bn 0 (l.map fun p : Z2 => (p.1, p.2 * 0)) := fun q mq => by
      obtain ⟨z, _, rfl⟩ := List.mem_map.mp mq
      simp
    have := psum_bn hb p m
    simp at this
    exact h1.1 this
  cases e : psum (l.map fun p : Z2 => (p.1, p.2 * 0)) with
  | nil => rfl
  | cons p r => exact (h p (by rw [e]; exact List.mem_cons_self)).elim
theorem scale_psum {L B : Nat} {l : List Z2} (h : PolOk L B l) (n : Int) : scaleZ l n = psum (l.map fun p => (p.1, p.2 * n)) := by
  unfold scaleZ
  split
  · rename_i z
    rw [z, psum_zero]
  · rename_i z
    refine (psum_sort (List.Perm.refl _) ?_ ?_).symm
    · exact List.pairwise_map.mpr h.so
    · intro p m
      obtain ⟨q, mq, rfl⟩ := List.mem_map.mp m
      exact Int.mul_ne_zero (h.nz q mq) z
theorem flip_psum {L B : Nat} {l : List Z2} (h : PolOk L B l) : (l.reverse.map fun p => (0 - p.1, p.2)) = psum (l.map fun p => (0 - p.1, p.2)) := by
  refine (psum_sort ((List.reverse_perm l).map _) ?_ ?_).symm
  · refine List.pairwise_map.mpr (List.pairwise_reverse.mpr (h.so.imp fun h => ?_))
    show 0 - _ < 0 - _
    omega
  · intro p m
    obtain ⟨q, mq, rfl⟩ := List.mem_map.mp m
    exact h.nz q mq
theorem norm_eq (l : List Z2) : normP l = normL l := by
  cases l with
  | nil => rfl
  | cons p r =>
    have hm : mark p ≠ 0 := by unfold mark; split <;> decide
    show scaleZ ((p :: r).map fun q => (q.1 + (0 - p.1), q.2)) (mark p) = (p :: r).map fun q => (q.1 - p.1, q.2 * mark p)
    unfold scaleZ
    rw [if_neg hm, List.map_map]
    refine List.map_congr_left fun q _ => ?_
    show (q.1 + (0 - p.1), q.2 * mark p) = _
    congr 1
    omega
theorem norm_neg {L B : Nat} {l : List Z2} (h : PolOk L B l) : normP (scaleZ l (-1)) = normL l := by
  rw [norm_eq]
  cases l with
  | nil => rfl
  | cons p r =>
    have hp := h.nz p List.mem_cons_self
    have e : scaleZ (p :: r) (-1) = (p.1, p.2 * -1) :: r.map fun p => (p.1, p.2 * -1) := by
      unfold scaleZ
      rw [if_neg (by decide)]
      rfl
    have hm : mark (p.1, p.2 * -1) = - mark p := by
      unfold mark
      show (if 0 < p.2 * -1 then (1 : Int) else -1) = -(if 0 < p.2 then 1 else -1)
      by_cases c : 0 < p.2
      · rw [if_neg (by omega), if_pos c]
      · rw [if_pos (by omega), if_neg c]
        rfl
    rw [e]
    show ((p.1, p.2 * -1) :: r.map fun p => (p.1, p.2 * -1)).map (fun q => (q.1 - p.1, q.2 * mark (p.1, p.2 * -1))) = (p :: r).map fun q => (q.1 - p.1, q.2 * mark p)
    rw [hm, show (((p.1, p.2 * -1) : Z2) :: r.map fun p : Z2 => (p.1, p.2 * -1)) = (p :: r).map fun p : Z2 => (p.1, p.2 * -1) from rfl, List.map_map]
    refine List.map_congr_left fun q _ => ?_
    show (q.1 - p.1, q.2 * -1 * - mark p) = (q.1 - p.1, q.2 * mark p)
    congr 1
    rw [Int.mul_assoc]
    congr 1
    omega
theorem minus_eq (l : List Z2) : scaleZ l (-1) = l.map fun p => (p.1, 0 - p.2) := by
  unfold scaleZ
  rw [if_neg (by decide)]
  refine List.map_congr_left fun q _ => ?_
  show (q.1, q.2 * -1) = (q.1, 0 - q.2)
  congr 1
  omega
/-! ### bounds of powers -/
theorem pow_bnd {a : List Z2} (hl : a.length ≤ 3) (hb : Bn 15 a) : ∀ n : Nat, n ≤ 12 → (powZ a n).length ≤ 3 ^ n ∧ Bn (2 ^ (30 * n)) (powZ a n)
  | 0, _ => ⟨Nat.le_refl 1, fun p m => by
      simp [powZ] at m
      rw [m]
      decide⟩
  | n + 1, hn => by
    obtain ⟨h1, h2⟩ := pow_bnd hl hb n (by omega)
    have hp := prod_len (powZ a n) a
    have h3 : (powZ a n).length * a.length ≤ 3 ^ n * 3 := Nat.mul_le_mul h1 hl
    refine ⟨?_, ?_⟩
    · show (psum (prodL (powZ a n) a)).length ≤ _
      have := psum_len (prodL (powZ a n) a)
      rw [Nat.pow_succ]
      omega
    · intro p m
      have h4 := psum_bn (prod_bn h2 hb) p m
      refine Nat.le_trans h4 ?_
      rw [hp]
      have h5 : 3 ^ n * 3 ≤ 531441 := by
        rw [← Nat.pow_succ]
        exact Nat.le_trans (Nat.pow_le_pow_right (by decide) hn) (by decide)
      calc (powZ a n).length * a.length * (2 ^ (30 * n) * 15) ≤ 531441 * (2 ^ (30 * n) * 15) := Nat.mul_le_mul_right _ (by omega)
        _ ≤ 2 ^ (30 * n) * 2 ^ 30 := by
          have : 531441 * (2 ^ (30 * n) * 15) = 2 ^ (30 * n) * 7971615 := by rw [Nat.mul_comm 531441, Nat.mul_assoc]
          rw [this]
          exact Nat.mul_le_mul_left _ (by decide)
        _ = 2 ^ (30 * (n + 1)) := by rw [← Nat.pow_add]; congr 1
theorem bd_of {B b : Nat} {l : List Z2} (h : Bn B l) (hb : B < 2 ^ b) : Bd b l := fun p m => Nat.lt_of_le_of_lt (h p m) hb
end Kw

set_option Elab.async false
set_option linter.all false
set_option maxRecDepth 100000
set_option maxHeartbeats 8000000
namespace Kw
open PySem L2 Kh
theorem take_e {k : Nat} {e : En} {s : St} {m : Int} {b : Bool} (hi : e[1]? = some (.own (stD s))) (ok : StOk s) (hm : 0 < m) (hb : m.natAbs < 2 ^ 250) : ∃ v s', evalE (tab (k + 1)) (.call "_law_take" (.cons (.var 1) (.cons (.cst (.int m)) .nil))) b e = .ok (int v) (e.set 1 (.own (stD s'))) ∧ 0 ≤ v ∧ v < m ∧ StOk s' := by
  have hp : (tab (k + 1)).fn "_law_take" = some (f_l_take.sem (tab k)) := rfl
  obtain ⟨v, s', e1, h⟩ := take_ok (T := tab k) (m := m) ok hm hb
  refine ⟨v, s', ?_, h⟩
  have l1 := (List.getElem?_eq_some_iff.mp hi).1
  have g : (e.set 1 Kh.Slot.no)[1]? = some .no := List.getElem?_set_self l1
  rw [ev.2.2.2.2.2.2.2.2.2.2.2.2.2.2.2.2.2.1, hp]
  simp only [evs.2.2.2.2.2.1, evs.2.2.2.2.1, args.1, args.2.1, lendS, hi, bo, ev.2.1, callF, List.map_cons, List.map_nil, int]
  simp only [int] at e1
  simp only [e1, giveBack, g, List.set_set]
theorem sub_c {T : Kh.Tab} {a : Kh.E} {e e' : En} {v c : Int} {w : Bool} (h : evalE T a false e = .ok (int v) e') : evalE T (.bin .sub a (.cst (.int c))) w e = .ok (int (v - c)) e' := by
  rw [ev.2.2.2.2.2.2.1, h]
  simp only [bo, ev.2.1, still, D.isIm, Bool.true_or, if_true, binD, binI, Option.map_some, lift]
theorem pair_e {T : Kh.Tab} {a b : Kh.E} {e e1 e2 : En} {x y : Int} {w : Bool} (h1 : evalE T a true e = .ok (int x) e1) (h2 : evalE T b true e1 = .ok (int y) e2) : evalE T (.tup (.cons a (.cons b .nil))) w e = .ok (.im (pI (x, y))) e2 := by
  rw [ev.2.2.2.1]
  simp only [evs.1, evs.2.1, h1, h2, bo, mkTup, ims, Option.map_some]
  rfl
theorem lcT_1 {T : Kh.Tab} {i : Nat} {elt : Kh.E} {x : I} {e e2 : En} {y : D} (hi : i < e.length) (h : evalE T elt true (e.set i (.own (.im x))) = .ok y e2) : lcT T (.name i) [i] .no elt (.im x) e = .ok (some y) (e2.set i .no) := by
  simp only [lcT, bindT, hi, if_true, keepS, evs.2.2.2.2.2.2.2.2.1, bo, h, Kh.clear, Out.nx]
theorem loose_ok {k : Nat} {ns : List Int} {s : St} {A B : List Z2} {n : Int} (ok : StOk s) : ∃ l s', evalE (tab (k + 1)) (.lc (.range (.cons (.call "_law_take" (.cons (.var 1) (.cons (.cst (.int 12)) .nil))) .nil)) (.name 6) [("k", 6)] .no (.tup (.cons (.bin .sub (.call "_law_take" (.cons (.var 1) (.cons (.cst (.int 9)) .nil))) (.cst (.int 4))) (.cons (.bin .sub (.call "_law_take" (.cons (.var 1) (.cons (.cst (.int 7)) .nil))) (.cst (.int 3))) .nil)))) true
    [.own (.scr ns), .own (stD s), .own (pol A), .own (pol B), .own (int n), .no, .no, .no, .no, .no, .no, .no, .no, .no] = .ok (lpol l) [.own (.scr ns), .own (stD s'), .own (pol A), .own (pol B), .own (int n), .no, .no, .no, .no, .no, .no, .no, .no, .no] ∧ l.length ≤ 12 ∧ StOk s' := by
  obtain ⟨t, s1, e1, t1, t2, ok1⟩ := take_e (k := k) (m := 12) (b := true) (e := [.own (.scr ns), .own (stD s), .own (pol A), .own (pol B), .own (int n), .no, .no, .no, .no, .no, .no, .no, .no, .no]) rfl ok (by decide) (by decide)
  obtain ⟨ys, s2, e2, ok2, ly, ry⟩ := lcGo_st (turn := lcT (tab (k + 1)) (.name 6) [6] .no (.tup (.cons (.bin .sub (.call "_law_take" (.cons (.var 1) (.cons (.cst (.int 9)) .nil))) (.cst (.int 4))) (.cons (.bin .sub (.call "_law_take" (.cons (.var 1) (.cons (.cst (.int 7)) .nil))) (.cst (.int 3))) .nil)))) (fun (i : Nat) => D.im (.int (0 + (i : Int))))
    (fun s => [.own (.scr ns), .own (stD s), .own (pol A), .own (pol B), .own (int n), .no, .no, .no, .no, .no, .no, .no, .no, .no]) StOk (fun y => ∃ p : Z2, y = .im (pI p) ∧ p.2.natAbs ≤ 100 ∧ p.1.natAbs ≤ 1000) (List.range t.toNat) s1 ok1 fun i _ s oks => by
    obtain ⟨u, s3, e3, u1, u2, ok3⟩ := take_e (k := k) (m := 9) (b := false) (e := [.own (.scr ns), .own (stD s), .own (pol A), .own (pol B), .own (int n), .no, .own (int (0 + (i : Int))), .no, .no, .no, .no, .no, .no, .no]) rfl oks (by decide) (by decide)
    obtain ⟨v, s4, e4, v1, v2, ok4⟩ := take_e (k := k) (m := 7) (b := false) (e := [.own (.scr ns), .own (stD s3), .own (pol A), .own (pol B), .own (int n), .no, .own (int (0 + (i : Int))), .no, .no, .no, .no, .no, .no, .no]) rfl ok3 (by decide) (by decide)
    refine ⟨.im (pI (u - 4, v - 3)), s4, ?_, ok4, ⟨_, rfl, ?_, ?_⟩⟩
    · simp only [List.set_cons_succ, List.set_cons_zero] at e3 e4
      have hE := pair_e (w := true) (sub_c (c := 4) (w := true) e3) (sub_c (c := 3) (w := true) e4)
      exact lcT_1 (i := 6) (e := [.own (.scr ns), .own (stD s), .own (pol A), .own (pol B), .own (int n), .no, .no, .no, .no, .no, .no, .no, .no, .no]) (by simp) hE
    · show (v - 3).natAbs ≤ 100; omega
    · show (u - 4).natAbs ≤ 1000; omega
  obtain ⟨l, rfl, b1, b2⟩ := as_pairs ry
  simp only [List.length_map, List.length_range] at ly
  refine ⟨l, s2, ?_, by omega, ok2⟩
  refine lc_to (vs := [6]) (e1 := [.own (.scr ns), .own (stD s1), .own (pol A), .own (pol B), .own (int n), .no, .no, .no, .no, .no, .no, .no, .no, .no]) (xs := (List.range t.toNat).map fun (i : Nat) => D.im (.int (0 + (i : Int)))) (e0 := [.own (.scr ns), .own (stD s1), .own (pol A), .own (pol B), .own (int n), .no, .no, .no, .no, .no, .no, .no, .no, .no]) (e2 := [.own (.scr ns), .own (stD s2), .own (pol A), .own (pol B), .own (int n), .no, .no, .no, .no, .no, .no, .no, .no, .no]) rfl ?_ ?_ (by simp [ev, evs, exs, args, bo, lift, readS, lendS, still, needIm, asInt, asBool, asIm, binD, binI, cmpD, cmpI, ixD, slD, biD, meD, meOk, mutD, Mm.sup, setD, wkD, mkTup, ims, D.isIm, E.pure, Es.pure, Eo.pure, E.src, Wk.src, keepS, bindT, bindTs, Kh.clear, lockAll, Kh.settle, settleGo, Slot.isOwnMut, Slot.imOf, Slot.borOf, giveBack, callF, stepClear, settleF, Out.nx, Ss.stores, Kh.S.stores, Tg.slots, Tgs.slots, Es.len]) e2 (by simp [ev, evs, exs, args, bo, lift, readS, lendS, still, needIm, asInt, asBool, asIm, binD, binI, cmpD, cmpI, ixD, slD, biD, meD, meOk, mutD, Mm.sup, setD, wkD, mkTup, ims, D.isIm, E.pure, Es.pure, Eo.pure, E.src, Wk.src, keepS, bindT, bindTs, Kh.clear, lockAll, Kh.settle, settleGo, Slot.isOwnMut, Slot.imOf, Slot.borOf, giveBack, callF, stepClear, settleF, Out.nx, Ss.stores, Kh.S.stores, Tg.slots, Tgs.slots, Es.len])
  · have z : t ≤ 1000000 ∧ -1000000 ≤ t := by omega
    simp only [List.set_cons_succ, List.set_cons_zero] at e1
    simp [evs, e1, bo, z, rangeL, Es.len]
  · rw [List.length_map, List.length_range]
    exact Nat.le_trans (by omega : t.toNat ≤ 12) (show 12 ≤ big by decide)
end Kw

set_option Elab.async false
set_option linter.all false
set_option maxRecDepth 100000
set_option maxHeartbeats 8000000
namespace Kw
open PySem L2 Kh
theorem setv_to {T : Kh.Tab} {a : Kh.E} {i : Nat} {e e' e2 : En} {d : D} (h : evalE T a true e = .ok d e') (hi : i < e'.length) (h2 : e'.set i (.own d) = e2) : exec T (.setv i a) e = .ok .nx e2 := by
  rw [exs.1, h]
  simp only [bo, hi, if_true, h2]
theorem call_m {T : Kh.Tab} {f : Str} {g : Fn} {i : Nat} {e e2 : En} {d d' v : D} {w : Bool} (hf : T.fn f = some g) (hi : e[i]? = some (.own d)) (hd : d.isIm = false) (h : g [.own d] = .ok v [.own d']) (h2 : e.set i (.own d') = e2) : evalE T (.call f (.cons (.var i) .nil)) w e = .ok v e2 := by
  have l1 := (List.getElem?_eq_some_iff.mp hi).1
  have g0 : (e.set i Kh.Slot.no)[i]? = some .no := List.getElem?_set_self l1
  have hl : lendS i e = .ok (.own d, some i) (e.set i .no) := by
    unfold lendS
    rw [hi]
    cases d <;> first | rfl | cases hd
  rw [ev.2.2.2.2.2.2.2.2.2.2.2.2.2.2.2.2.2.1, hf]
  simp only [evs.2.2.2.2.2.1, evs.2.2.2.2.1, args.1, hl, bo, callF, List.map_cons, List.map_nil, h, giveBack, g0, List.set_set, h2]
theorem if_skip {T : Kh.Tab} {c : Kh.E} {a : Ss} {e : En} (h : evalT T c e = .ok false e) : exec T (.ifs c a .nil) e = .ok .nx e := (if_f h).trans nil_nx
theorem add_1 {T : Kh.Tab} {a : Kh.E} {e e' : En} {v c : Int} {w : Bool} (h : evalE T a false e = .ok (int v) e') : evalE T (.bin .add (.cst (.int c)) a) w e = .ok (int (c + v)) e' := by
  rw [ev.2.2.2.2.2.2.1, ev.2.1]
  simp only [bo, h, still, D.isIm, Bool.true_or, if_true, binD, binI, Option.map_some, lift]
theorem app_e {T : Kh.Tab} {i j : Nat} {e : En} {A B : List Z2} {w : Bool} (hi : e[i]? = some (.own (pol A))) (hj : e[j]? = some (.own (pol B))) (h : A.length + B.length ≤ big) : evalE T (.bin .add (.var i) (.var j)) w e = .ok (pol (A ++ B)) e := by
  rw [ev.2.2.2.2.2.2.1, var_im hi]
  simp only [bo, var_im hj, still, D.isIm, Bool.true_or, if_true, binD, List.length_map, h, Option.map_some, lift, pol, List.map_append]
theorem arg_bin {T : Kh.Tab} {op : Op} {a b : Kh.E} {e : En} {d : D} (h : evalE T (.bin op a b) true e = .ok d e) : argS T (.bin op a b) e = .ok (.own d, none) e := by
  rw [args.2.2.2.2.2.2.1, h]
  rfl
theorem arg_lc {T : Kh.Tab} {w : Wk} {tg : Tg} {o : List (Str × Nat)} {c : Eo} {x : Kh.E} {e : En} {d : D} (h : evalE T (.lc w tg o c x) true e = .ok d e) : argS T (.lc w tg o c x) e = .ok (.own d, none) e := by
  show (evalE T (.lc w tg o c x) true e).bind _ = _
  rw [h]
  rfl
theorem arg_bi {T : Kh.Tab} {f : Bi} {es : Es} {e : En} {d : D} (h : evalE T (.bi f es) true e = .ok d e) : argS T (.bi f es) e = .ok (.own d, none) e := by
  show (evalE T (.bi f es) true e).bind _ = _
  rw [h]
  rfl
theorem t_neI {T : Kh.Tab} {a b : Kh.E} {x : Int} {e : En} (h1 : evalE T a false e = .ok (int x) e) (h2 : evalE T b false e = .ok (int x) e) : evalT T (.cmp .ne a b) e = .ok false e := by
  rw [evs.2.2.2.2.2.2.2.2.2.2.2.2.2.2.1, ev.2.2.2.2.2.2.2.2.2.1]
  simp [h1, h2, bo, still, D.isIm, cmpD, I.shal, I.eq, lift, asBool]
/-- a pair of an exponent and a number, changed -/
theorem elt_e {T : Kh.Tab} {a b : Kh.E} {e : En} {x y : Int} (h1 : evalE T a true e = .ok (int x) e) (h2 : evalE T b true e = .ok (int y) e) : evalE T (.tup (.cons a (.cons b .nil))) true e = .ok (.im (pI (x, y))) e := pair_e h1 h2
theorem bi_op {T : Kh.Tab} {op : Op} {a b : Kh.E} {e : En} {x y z : Int} {w : Bool} (h1 : evalE T a false e = .ok (int x) e) (h2 : evalE T b false e = .ok (int y) e) (h : binI op x y = some z) : evalE T (.bin op a b) w e = .ok (int z) e := by
  rw [ev.2.2.2.2.2.2.1, h1]
  simp only [bo, h2, still, D.isIm, Bool.true_or, if_true, binD, h, Option.map_some, lift]
theorem cst_e {T : Kh.Tab} {x : I} {e : En} {w : Bool} : evalE T (.cst x) w e = .ok (.im x) e := ev.2.1 x w e
theorem breadth_e {T : Kh.Tab} {e : En} {l : List Z2} (hi : e[2]? = some (.own (pol l))) : evalE T (.ite (.cmp .eq (.bi .len (.cons (.var 2) .nil)) (.cst (.int 0))) (.cst (.int 0)) (.bin .sub (.ix (.ix (.var 2) (.neg (.cst (.int 1)))) (.cst (.int 0))) (.ix (.ix (.var 2) (.cst (.int 0))) (.cst (.int 0))))) false e = .ok (int (breadthZ l)) e := by
  cases l with
  | nil => simp [hi, breadthZ, I.shal, I.eq, ev, evs, exs, args, bo, lift, readS, lendS, still, needIm, asInt, asBool, asIm, binD, binI, cmpD, cmpI, ixD, slD, biD, meD, meOk, mutD, Mm.sup, setD, wkD, mkTup, ims, D.isIm, E.pure, Es.pure, Eo.pure, E.src, Wk.src, keepS, bindT, bindTs, Kh.clear, lockAll, Kh.settle, settleGo, Slot.isOwnMut, Slot.imOf, Slot.borOf, giveBack, callF, stepClear, settleF, Out.nx, Ss.stores, Kh.S.stores, Tg.slots, Tgs.slots, Es.len]
  | cons p r =>
    have h1 : atI ((p :: r).map pI) (-1) = some (.tup [.int ((p :: r).getLast (List.cons_ne_nil _ _)).1, .int ((p :: r).getLast (List.cons_ne_nil _ _)).2]) := by rw [atI_map, at_last]; rfl
    have h0 : atI ((p :: r).map pI) 0 = some (.tup [.int p.1, .int p.2]) := by rw [atI_map, at_zero]; rfl
    have hn : ¬ ((((p :: r).map pI).length : Nat) : Int) = 0 := by simp; omega
    simp only [pol] at hi
    generalize (p :: r).map pI = xs at h0 h1 hn hi
    have hn' : xs ≠ [] := fun z => hn (by rw [z]; rfl)
    simp [hi, hn', h0, h1, at2, I.shal, I.eq, breadthZ, ev, evs, exs, args, bo, lift, readS, lendS, still, needIm, asInt, asBool, asIm, binD, binI, cmpD, cmpI, ixD, slD, biD, meD, meOk, mutD, Mm.sup, setD, wkD, mkTup, ims, D.isIm, E.pure, Es.pure, Eo.pure, E.src, Wk.src, keepS, bindT, bindTs, Kh.clear, lockAll, Kh.settle, settleGo, Slot.isOwnMut, Slot.imOf, Slot.borOf, giveBack, callF, stepClear, settleF, Out.nx, Ss.stores, Kh.S.stores, Tg.slots, Tgs.slots, Es.len]
theorem lpoly_e {k : Nat} {e : En} {s : St} (hi : e[1]? = some (.own (stD s))) (ok : StOk s) : ∃ l s', evalE (tab (k + 3)) (.call "_law_poly" (.cons (.var 1) (.cons (.cst (.int 3)) (.cons (.cst (.int 5)) .nil)))) true e = .ok (pol l) (e.set 1 (.own (stD s'))) ∧ PolOk 3 15 l ∧ StOk s' := by
  have hr : (tab (k + 3)).fn "_law_poly" = some (f_l_poly.sem (tab (k + 2))) := rfl
  obtain ⟨l, s', e2, h⟩ := lpoly_ok (k := k) (terms := 3) (size := 5) ok (by decide) (by decide)
  refine ⟨l, s', ?_, h⟩
  have l1 := (List.getElem?_eq_some_iff.mp hi).1
  have g : (e.set 1 Kh.Slot.no)[1]? = some .no := List.getElem?_set_self l1
  have e2' : Fd.sem (tab (k + 2)) f_l_poly [.own (stD s), .own (.im (.int 3)), .own (.im (.int 5))] = .ok (pol l) [.own (stD s'), .own (.im (.int 3)), .own (.im (.int 5))] := e2
  rw [ev.2.2.2.2.2.2.2.2.2.2.2.2.2.2.2.2.2.1, hr]
  simp only [evs.2.2.2.2.2.1, evs.2.2.2.2.1, args.1, args.2.1, lendS, hi, bo, cst_e, callF, List.map_cons, List.map_nil, e2', giveBack, g, List.set_set]
end Kw

set_option Elab.async false
set_option linter.all false
set_option maxRecDepth 100000
set_option maxHeartbeats 8000000
namespace Kw
open PySem L2 Kh
theorem var_f {T : Kh.Tab} {i : Nat} {e : En} {d : D} (hi : e[i]? = some (.own d)) : evalE T (.var i) false e = .ok d e := by
  rw [ev.1]
  unfold readS
  rw [hi]
  cases d <;> rfl
theorem list_e {T : Kh.Tab} {i : Nat} {e : En} {l : List Z2} {w : Bool} (hi : e[i]? = some (.own (lpol l))) : evalE T (.bi .list (.cons (.var i) .nil)) w e = .ok (lpol l) e := by
  rw [ev.2.2.2.2.2.2.2.2.2.2.2.2.2.2.2.2.2.2.1, var_f hi]
  simp only [bo, biD, lpol, ims_pI', Option.map_some, lift]
theorem one_e {T : Kh.Tab} {e : En} {w : Bool} : evalE T (.tup (.cons (.tup (.cons (.cst (.int 0)) (.cons (.cst (.int 1)) .nil))) .nil)) w e = .ok (pol [((0 : Int), (1 : Int))]) e := by
  simp [pI, ev, evs, exs, args, bo, lift, readS, lendS, still, needIm, asInt, asBool, asIm, binD, binI, cmpD, cmpI, ixD, slD, biD, meD, meOk, mutD, Mm.sup, setD, wkD, mkTup, ims, D.isIm, E.pure, Es.pure, Eo.pure, E.src, Wk.src, keepS, bindT, bindTs, Kh.clear, lockAll, Kh.settle, settleGo, Slot.isOwnMut, Slot.imOf, Slot.borOf, giveBack, callF, stepClear, settleF, Out.nx, Ss.stores, Kh.S.stores, Tg.slots, Tgs.slots, Es.len]
theorem ret_to {T : Kh.Tab} {a : Kh.E} {e e' : En} {d : D} (h : evalE T a true e = .ok d e') : exec T (.ret a) e = .ok (.rt d) e' := by
  rw [exs.2.2.2.1, h]
  rfl
theorem and_t {T : Kh.Tab} {a b : Kh.E} {e : En} {d : D} {w : Bool} (h1 : evalE T a false e = .ok (.im (.bl true)) e) (h2 : evalE T b w e = .ok d e) : evalE T (.and a b) w e = .ok d e := by
  rw [ev.2.2.2.2.2.2.2.2.2.2.2.2.1, h1]
  simp only [bo, asBool, if_true, h2]
theorem one_to {T : Kh.Tab} {a : Kh.E} {e : En} {d : D} {w : Bool} (h2 : evalE T a w e = .ok d e) : evalE T (.one a) w e = .ok d e := by
  rw [ev.2.2.2.2.2.2.2.2.2.2.2.1, h2]
theorem pow0_e {T : Kh.Tab} {g : Fn} {e : En} {v : D} (hf : T.fn "power" = some g) (h : g [.own (pol []), .own (int ((0 : Nat) : Int))] = .ok v [.own (pol []), .own (int ((0 : Nat) : Int))]) : evalE T (.call "power" (.cons (.tup .nil) (.cons (.cst (.int 0)) .nil))) false e = .ok v e := by
  have h' : g [.own (.im (.tup [])), .own (.im (.int 0))] = .ok v [.own (.im (.tup [])), .own (.im (.int 0))] := h
  simp [hf, h', ev, evs, exs, args, bo, lift, readS, lendS, still, needIm, asInt, asBool, asIm, binD, binI, cmpD, cmpI, ixD, slD, biD, meD, meOk, mutD, Mm.sup, setD, wkD, mkTup, ims, D.isIm, E.pure, Es.pure, Eo.pure, E.src, Wk.src, keepS, bindT, bindTs, Kh.clear, lockAll, Kh.settle, settleGo, Slot.isOwnMut, Slot.imOf, Slot.borOf, giveBack, callF, stepClear, settleF, Out.nx, Ss.stores, Kh.S.stores, Tg.slots, Tgs.slots, Es.len]
theorem norm_e {T : Kh.Tab} {g1 g2 : Fn} {e : En} {A l v : List Z2} (h1 : T.fn "normal" = some g1) (h2 : T.fn "scaled" = some g2) (h3 : g2 [.own (pol A), .own (int (-1))] = .ok (pol l) [.own (pol A), .own (int (-1))]) (h4 : g1 [.own (pol l)] = .ok (pol v) [.own (pol l)]) (hi : e[2]? = some (.own (pol A)) := by rfl) :
    evalE T (.call "normal" (.cons (.call "scaled" (.cons (.var 2) (.cons (.bin .sub (.cst (.int 0)) (.cst (.int 1))) .nil))) .nil)) false e = .ok (pol v) e := by
  have hc : evalE T (.call "scaled" (.cons (.var 2) (.cons (.bin .sub (.cst (.int 0)) (.cst (.int 1))) .nil))) true e = .ok (pol l) e := by
    simp only [pol, int] at h3 hi ⊢
    simp [h2, h3, hi, ev, evs, exs, args, bo, lift, readS, lendS, still, needIm, asInt, asBool, asIm, binD, binI, cmpD, cmpI, ixD, slD, biD, meD, meOk, mutD, Mm.sup, setD, wkD, mkTup, ims, D.isIm, E.pure, Es.pure, Eo.pure, E.src, Wk.src, keepS, bindT, bindTs, Kh.clear, lockAll, Kh.settle, settleGo, Slot.isOwnMut, Slot.imOf, Slot.borOf, giveBack, callF, stepClear, settleF, Out.nx, Ss.stores, Kh.S.stores, Tg.slots, Tgs.slots, Es.len]
  refine call_e h1 ?_ h4
  show (evalE T (.call "scaled" (.cons (.var 2) (.cons (.bin .sub (.cst (.int 0)) (.cst (.int 1))) .nil))) true e).bind _ = _
  rw [hc]
  rfl
theorem due_for {k : Nat} {ns : List Int} {s : St} {A B lo sm mi : List Z2} {n fa m : Int} (pS : PolOk 3 15 sm) (hm : m.toNat ≤ 12) (m0 : 0 ≤ m) (hB : ∀ i, i < m.toNat → (powZ sm i).length * sm.length ≤ big ∧ (powZ sm i).length ≤ big ∧ Bd 400 (powZ sm i)) :
    exec (tab (k + 2)) (.fors (.range (.cons (.var 13) .nil)) (.name 6) [6] (.cons (.setv 7 (.call "_law_product" (.cons (.var 7) (.cons (.var 12) .nil)))) .nil))
      [.own (.scr ns), .own (stD s), .own (pol A), .own (pol B), .own (int n), .own (lpol lo), .no, .own (pol [((0 : Int), (1 : Int))]), .own (pol mi), .no, .no, .own (int fa), .own (pol sm), .own (int m)] = .ok .nx [.own (.scr ns), .own (stD s), .own (pol A), .own (pol B), .own (int n), .own (lpol lo), .no, .own (pol (powZ sm m.toNat)), .own (pol mi), .no, .no, .own (int fa), .own (pol sm), .own (int m)] := by
  have fR : (tab (k + 2)).fn "_law_product" = some (f_l_product.sem (tab (k + 1))) := rfl
  have hSb : Bd 4 sm := bd_of pS.bn (by decide)
  have h := forGo_st (turn := forT (tab (k + 2)) (.name 6) [6] (.cons (.setv 7 (.call "_law_product" (.cons (.var 7) (.cons (.var 12) .nil)))) .nil)) (fun (i : Nat) => D.im (.int (0 + (i : Int)))) (fun (i : Nat) => [.own (.scr ns), .own (stD s), .own (pol A), .own (pol B), .own (int n), .own (lpol lo), .no, .own (pol (powZ sm i)), .own (pol mi), .no, .no, .own (int fa), .own (pol sm), .own (int m)]) (fun i _ => i + 1) (fun r i => r.length + i = m.toNat) (List.range m.toNat) 0 (by simp) fun j r i hi => by
    simp only [List.length_cons] at hi
    obtain ⟨b1, b2, b3⟩ := hB i (by omega)
    have ht := product_ok (k := k) b1 b3 hSb (by decide) (by decide) (by decide)
    refine ⟨?_, by omega⟩
    simp only [forT, bindT, keepS]
    rw [if_pos (by simp)]
    simp only [List.set_cons_succ, List.set_cons_zero]
    rw [seq_nx (setv_to (call_2 fR rfl rfl ht) (by simp) rfl), nil_nx]
    rfl
  have hl : (List.range m.toNat).foldl (fun (i : Nat) _ => i + 1) 0 = m.toNat := by
    have := h.2
    simpa using this
  rw [hl] at h
  have z : m ≤ 1000000 ∧ -1000000 ≤ m := by omega
  refine for_to (st := [6, 7]) (e1 := [.own (.scr ns), .own (stD s), .own (pol A), .own (pol B), .own (int n), .own (lpol lo), .no, .own (pol [((0 : Int), (1 : Int))]), .own (pol mi), .no, .no, .own (int fa), .own (pol sm), .own (int m)]) (e0 := [.own (.scr ns), .own (stD s), .own (pol A), .own (pol B), .own (int n), .own (lpol lo), .no, .own (pol [((0 : Int), (1 : Int))]), .own (pol mi), .no, .no, .own (int fa), .own (pol sm), .own (int m)]) (e2 := [.own (.scr ns), .own (stD s), .own (pol A), .own (pol B), .own (int n), .own (lpol lo), .no, .own (pol (powZ sm m.toNat)), .own (pol mi), .no, .no, .own (int fa), .own (pol sm), .own (int m)]) (xs := (List.range m.toNat).map fun (i : Nat) => D.im (.int (0 + (i : Int)))) rfl ?_ rfl h.1 (by simp [ev, evs, exs, args, bo, lift, readS, lendS, still, needIm, asInt, asBool, asIm, binD, binI, cmpD, cmpI, ixD, slD, biD, meD, meOk, mutD, Mm.sup, setD, wkD, mkTup, ims, D.isIm, E.pure, Es.pure, Eo.pure, E.src, Wk.src, keepS, bindT, bindTs, Kh.clear, lockAll, Kh.settle, settleGo, Slot.isOwnMut, Slot.imOf, Slot.borOf, giveBack, callF, stepClear, settleF, Out.nx, Ss.stores, Kh.S.stores, Tg.slots, Tgs.slots, Es.len])
  simp [z, rangeL, ev, evs, exs, args, bo, lift, readS, lendS, still, needIm, asInt, asBool, asIm, binD, binI, cmpD, cmpI, ixD, slD, biD, meD, meOk, mutD, Mm.sup, setD, wkD, mkTup, ims, D.isIm, E.pure, Es.pure, Eo.pure, E.src, Wk.src, keepS, bindT, bindTs, Kh.clear, lockAll, Kh.settle, settleGo, Slot.isOwnMut, Slot.imOf, Slot.borOf, giveBack, callF, stepClear, settleF, Out.nx, Ss.stores, Kh.S.stores, Tg.slots, Tgs.slots, Es.len]
theorem law_plain (ns : List Int) (hl : ns.length ≤ 63) : ∃ fin, f_law.sem (tab 20) [.own (.scr ns)] = .ok (.im (.bl true)) fin := by
  have fB : (tab 20).fn "_law_begin" = some (f_l_begin.sem (tab 19)) := rfl
  have fL : (tab 20).fn "_law_large" = some (f_l_large.sem (tab 19)) := rfl
  have fS : (tab 20).fn "_law_sum" = some (f_poly.sem (tab 19)) := rfl
  have fP : (tab 20).fn "poly" = some (f_poly.sem (tab 19)) := rfl
  have fA : (tab 20).fn "add" = some (f_add.sem (tab 19)) := rfl
  have fU : (tab 20).fn "subtract" = some (f_subtract.sem (tab 19)) := rfl
  have fT : (tab 20).fn "times" = some (f_times.sem (tab 19)) := rfl
  have fR : (tab 20).fn "_law_product" = some (f_l_product.sem (tab 19)) := rfl
  have fC : (tab 20).fn "scaled" = some (f_scaled.sem (tab 19)) := rfl
  have fH : (tab 20).fn "shifted" = some (f_shifted.sem (tab 19)) := rfl
  have fF : (tab 20).fn "flipped" = some (f_flipped.sem (tab 19)) := rfl
  have fD : (tab 20).fn "spread" = some (f_spread.sem (tab 19)) := rfl
  have fW : (tab 20).fn "breadth" = some (f_breadth.sem (tab 19)) := rfl
  have fN : (tab 20).fn "normal" = some (f_normal.sem (tab 19)) := rfl
  have fM : (tab 20).fn "_law_normal" = some (f_l_normal.sem (tab 19)) := rfl
  have fO : (tab 20).fn "power" = some (f_power.sem (tab 19)) := rfl
  obtain ⟨s0, b0, k0⟩ := begin_ok (T := tab 19) hl
  obtain ⟨A, s1, b1, pA, k1⟩ := large_ok (k := 16) k0
  obtain ⟨B, s2, b2, pB, k2⟩ := large_ok (k := 16) k1
  obtain ⟨n, s3, b3, n0, n1, k3⟩ := take_e (k := 19) (m := 41) (b := false) (e := [.own (.scr ns), .own (stD s2), .own (pol A), .own (pol B), .no, .no, .no, .no, .no, .no, .no, .no, .no, .no]) rfl k2 (by decide) (by decide)
  obtain ⟨lo, s4, b4, ll, k4⟩ := loose_ok (k := 19) (ns := ns) (A := A) (B := B) (n := n - 20) k3
  obtain ⟨fa, s5, b5, g0, g1, k5⟩ := take_e (k := 19) (m := 5) (b := false) (e := [.own (.scr ns), .own (stD s4), .own (pol A), .own (pol B), .own (int (n - 20)), .own (lpol lo), .no, .own (pol (psum lo)), .own (pol (B.map fun p => (p.1, 0 - p.2))), .no, .no, .no, .no, .no]) rfl k4 (by decide) (by decide)
  obtain ⟨sm, s6, b6, pS, k6⟩ := lpoly_e (k := 17) (e := [.own (.scr ns), .own (stD s5), .own (pol A), .own (pol B), .own (int (n - 20)), .own (lpol lo), .no, .own (pol (psum lo)), .own (pol (B.map fun p => (p.1, 0 - p.2))), .no, .no, .own (int (1 + fa)), .no, .no]) rfl k5
  obtain ⟨m, s7, b7, m0, m1, k7⟩ := take_e (k := 19) (m := 13) (b := true) (e := [.own (.scr ns), .own (stD s6), .own (pol A), .own (pol B), .own (int (n - 20)), .own (lpol lo), .no, .own (pol [((0 : Int), (1 : Int))]), .own (pol (B.map fun p => (p.1, 0 - p.2))), .no, .no, .own (int (1 + fa)), .own (pol sm), .no]) rfl k6 (by decide) (by decide)
  -- sizes
  have bg : ∀ x : Nat, x ≤ 531441 → x ≤ big := fun x h => Nat.le_trans h (show 531441 ≤ big by decide)
  have lA := pA.len
  have lB := pB.len
  have lS := pS.len
  have hAb : Bd 206 A := bd_of pA.bn (by decide +kernel)
  have hBb : Bd 206 B := bd_of pB.bn (by decide +kernel)
  have hSb : Bd 4 sm := bd_of pS.bn (by decide)
  have hAB : A.length * B.length ≤ 3600 := Nat.mul_le_mul lA lB
  have hn : (n - 20).natAbs < 2 ^ 200 := Nat.lt_of_le_of_lt (show (n - 20).natAbs ≤ 20 by omega) (by decide)
  refine ⟨_, sem_rt (e := [.own (.scr ns), .own (stD s7), .own (pol A), .own (pol B), .own (int (n - 20)), .own (lpol lo), .no, .own (pol (powZ sm m.toNat)), .own (pol (B.map fun p => (p.1, 0 - p.2))), .no, .no, .own (int (1 + fa)), .own (pol sm), .own (int m)]) rfl ?_⟩
  show execs (tab 20) f_law.body [.own (.scr ns), .no, .no, .no, .no, .no, .no, .no, .no, .no, .no, .no, .no, .no] = _
  unfold f_law
  refine (seq_nx (e' := [.own (.scr ns), .own (stD s0), .no, .no, .no, .no, .no, .no, .no, .no, .no, .no, .no, .no]) (setv_to (call_m fB rfl rfl b0 rfl) (by simp) rfl)).trans ?_
  refine (seq_nx (e' := [.own (.scr ns), .own (stD s1), .own (pol A), .no, .no, .no, .no, .no, .no, .no, .no, .no, .no, .no]) (setv_to (call_m fL rfl rfl b1 rfl) (by simp) rfl)).trans ?_
  refine (seq_nx (e' := [.own (.scr ns), .own (stD s2), .own (pol A), .own (pol B), .no, .no, .no, .no, .no, .no, .no, .no, .no, .no]) (setv_to (call_m fL rfl rfl b2 rfl) (by simp) rfl)).trans ?_
  refine (seq_nx (e' := [.own (.scr ns), .own (stD s3), .own (pol A), .own (pol B), .own (int (n - 20)), .no, .no, .no, .no, .no, .no, .no, .no, .no]) (setv_to (sub_c b3) (by simp) rfl)).trans ?_
  refine (seq_nx (e' := [.own (.scr ns), .own (stD s4), .own (pol A), .own (pol B), .own (int (n - 20)), .own (lpol lo), .no, .no, .no, .no, .no, .no, .no, .no]) (setv_to b4 (by simp) rfl)).trans ?_
  refine (seq_nx (e' := [.own (.scr ns), .own (stD s4), .own (pol A), .own (pol B), .own (int (n - 20)), .own (lpol lo), .no, .own (pol (psum lo)), .no, .no, .no, .no, .no, .no]) (setv_to (call_m fS rfl rfl (poly_okL (bg _ (by omega))) rfl) (by simp) rfl)).trans ?_
  -- 7
  refine (seq_nx (if_skip (t_or (t_ne (call_e fP (arg_bi (list_e rfl)) (poly_okL (bg _ (by omega)))) (var_im rfl)) (t_one (t_ne (call_e fP (arg_bi (tup_lc (var_f rfl))) (poly_ok (bg _ (by omega)))) (var_im rfl)))))).trans ?_
  -- 8
  refine (seq_nx (e' := [.own (.scr ns), .own (stD s4), .own (pol A), .own (pol B), .own (int (n - 20)), .own (lpol lo), .no, .own (pol (psum lo)), .own (pol (B.map fun p => (p.1, 0 - p.2))), .no, .no, .no, .no, .no]) (setv_to (tup_lc (lc_pol (f := fun p => (p.1, 0 - p.2)) rfl (bg _ (by omega)) rfl rfl (by decide) fun p _ => elt_e (var_im rfl) (bi_op cst_e (var_im rfl) rfl))) (by simp) rfl)).trans ?_
  -- 9
  have hsub := subtract_ok (k := 17) (a := A) (b := B) (bg _ (by omega)) hBb (by decide) (by decide)
  rw [minus_eq] at hsub
  have hmi : (B.map fun p : Z2 => (p.1, 0 - p.2)).length = B.length := List.length_map _
  refine (seq_nx (if_skip (t_or (t_ne (call_2 fA rfl rfl (add_ok (k := 18) (bg _ (by omega)))) (call_e fS (arg_bin (app_e rfl rfl (bg _ (by omega)))) (poly_ok (bg _ (by rw [List.length_append]; omega)))))
    (t_or (t_ne (call_2 fU rfl rfl hsub) (call_e fS (arg_bin (app_e rfl rfl (bg _ (by omega)))) (poly_ok (bg _ (by rw [List.length_append]; omega)))))
      (t_one (t_ne (call_2 fT rfl rfl (times_ok (bg _ (by omega)) hAb hBb (by decide) (by decide) (by decide) (bg _ (by omega)) (bg _ (by omega)))) (call_2 fR rfl rfl (product_ok (k := 18) (bg _ (by omega)) hAb hBb (by decide) (by decide) (by decide))))))))).trans ?_
  -- 10
  have hsc := scaled_ok (T := tab 19) (l := A) (n := n - 20) (bg _ (by omega)) hAb hn (by decide) (by decide)
  rw [scale_psum pA] at hsc
  refine (seq_nx (if_skip (t_ne (call_2 fC rfl rfl hsc) (call_e fS (arg_lc (lc_pol (f := fun p => (p.1, p.2 * (n - 20))) rfl (bg _ (by omega)) rfl rfl (by decide) fun p mp => elt_e (var_im rfl) (bi_op (var_im rfl) (var_im rfl) (by
    have z := sz_ok (hAb p mp) hn (by decide) (by decide) (by decide)
    simp only [binI, z, if_true])))) (poly_okL (bg _ (by rw [List.length_map]; omega))))))).trans ?_
  -- 11
  refine (seq_nx (if_skip (t_ne (call_2 fH rfl rfl (shifted_ok (bg _ (by omega)))) (tup_lc (lc_pol (f := fun p => (p.1 + (n - 20), p.2)) rfl (bg _ (by omega)) rfl rfl (by decide) fun p mp => elt_e (bi_op (var_im rfl) (var_im rfl) rfl) (var_im rfl)))))).trans ?_
  -- 12
  have hfl := flipped_ok (T := tab 19) (l := A) (bg _ (by omega))
  rw [flip_psum pA] at hfl
  refine (seq_nx (if_skip (t_ne (call_1 fF rfl hfl) (call_e fS (arg_lc (lc_pol (f := fun p => (0 - p.1, p.2)) rfl (bg _ (by omega)) rfl rfl (by decide) fun p mp => elt_e (bi_op cst_e (var_im rfl) rfl) (var_im rfl))) (poly_okL (bg _ (by rw [List.length_map]; omega))))))).trans ?_
  -- 13
  refine (seq_nx (e' := [.own (.scr ns), .own (stD s5), .own (pol A), .own (pol B), .own (int (n - 20)), .own (lpol lo), .no, .own (pol (psum lo)), .own (pol (B.map fun p => (p.1, 0 - p.2))), .no, .no, .own (int (1 + fa)), .no, .no]) (setv_to (add_1 b5) (by simp) rfl)).trans ?_
  -- 14
  have hfz : ∀ p ∈ A, p.1.natAbs.log2 + (1 + fa).natAbs.log2 < 1000000 := fun p mp => sz_ok (a := 10) (b := 10) (Nat.lt_of_le_of_lt (pA.ex p mp) (by decide)) (by omega) (by decide) (by decide) (by decide)
  refine (seq_nx (if_skip (t_ne (call_2 fD rfl rfl (spread_ok (bg _ (by omega)) hfz)) (tup_lc (lc_pol (f := fun p => (p.1 * (1 + fa), p.2)) rfl (bg _ (by omega)) rfl rfl (by decide) fun p mp => elt_e (bi_op (var_im rfl) (var_im rfl) (by
    have z := hfz p mp
    simp only [binI, z, if_true])) (var_im rfl)))))).trans ?_
  -- 15
  have hno := normal_ok (k := 18) (l := A) (bg _ (by omega)) hAb (by decide) (by decide)
  rw [norm_eq] at hno
  have hln := lnormal_ok (T := tab 19) (l := A) (bg _ (by omega)) hAb (by decide) (by decide)
  refine (seq_nx (if_skip (t_or (t_neI (call_1 fW rfl breadth_ok) (breadth_e rfl)) (t_one (t_ne (call_1 fN rfl hno) (call_1 fM rfl hln)))))).trans ?_
  -- 16
  refine (seq_nx (e' := [.own (.scr ns), .own (stD s6), .own (pol A), .own (pol B), .own (int (n - 20)), .own (lpol lo), .no, .own (pol (psum lo)), .own (pol (B.map fun p => (p.1, 0 - p.2))), .no, .no, .own (int (1 + fa)), .own (pol sm), .no]) (setv_to b6 (by simp) rfl)).trans ?_
  refine (seq_nx (e' := [.own (.scr ns), .own (stD s6), .own (pol A), .own (pol B), .own (int (n - 20)), .own (lpol lo), .no, .own (pol [((0 : Int), (1 : Int))]), .own (pol (B.map fun p => (p.1, 0 - p.2))), .no, .no, .own (int (1 + fa)), .own (pol sm), .no]) (setv_to one_e (by simp) rfl)).trans ?_
  refine (seq_nx (e' := [.own (.scr ns), .own (stD s7), .own (pol A), .own (pol B), .own (int (n - 20)), .own (lpol lo), .no, .own (pol [((0 : Int), (1 : Int))]), .own (pol (B.map fun p => (p.1, 0 - p.2))), .no, .no, .own (int (1 + fa)), .own (pol sm), .own (int m)]) (setv_to b7 (by simp) rfl)).trans ?_
  -- 19
  have hpw := fun i hi => pow_bnd lS pS.bn i hi
  have hm12 : m.toNat ≤ 12 := by omega
  have hB : ∀ i, i < m.toNat → (powZ sm i).length * sm.length ≤ big ∧ (powZ sm i).length ≤ big ∧ Bd 400 (powZ sm i) := fun i hi => by
    obtain ⟨w1, w2⟩ := hpw i (by omega)
    have w3 : 3 ^ i ≤ 3 ^ 11 := Nat.pow_le_pow_right (by decide) (by omega)
    have w4 : (3 : Nat) ^ 11 = 177147 := by decide
    have w5 : (powZ sm i).length * sm.length ≤ 177147 * 3 := Nat.mul_le_mul (by omega) lS
    refine ⟨bg _ (by omega), bg _ (by omega), bd_of w2 (Nat.pow_lt_pow_right (by decide) (by omega))⟩
  have hmI : (m.toNat : Int) = m := by omega
  refine (seq_nx (e' := [.own (.scr ns), .own (stD s7), .own (pol A), .own (pol B), .own (int (n - 20)), .own (lpol lo), .no, .own (pol (powZ sm m.toNat)), .own (pol (B.map fun p => (p.1, 0 - p.2))), .no, .no, .own (int (1 + fa)), .own (pol sm), .own (int m)]) (due_for (k := 18) (B := B) pS hm12 m0 hB)).trans ?_
  -- 20
  have hone : powZ ([] : List Z2) 0 = [(0, 1)] := rfl
  have hpo := power_ok (k := 18) (a := sm) (n := m.toNat) (c1 := 400) (c2 := 4) (by omega) hSb (by decide) (by decide) (by decide) (bg _ (by omega)) hB
  rw [hmI] at hpo
  have hp0 := power_ok (k := 18) (a := []) (n := 0) (c1 := 400) (c2 := 4) (by decide) (fun _ z => absurd z List.not_mem_nil) (by decide) (by decide) (by decide) (by decide) (fun i z => absurd z (Nat.not_lt_zero _))
  have hsn := scaled_ok (T := tab 19) (l := A) (n := -1) (bg _ (by omega)) hAb (by decide) (by decide) (by decide)
  have hsl : (scaleZ A (-1)).length = A.length := by rw [minus_eq]; exact List.length_map _
  have hsb : Bd 206 (scaleZ A (-1)) := fun p mp => by
    rw [minus_eq] at mp
    obtain ⟨q, mq, rfl⟩ := List.mem_map.mp mp
    have := hAb q mq
    show (0 - q.2).natAbs < _
    omega
  have hnn := normal_ok (k := 18) (l := scaleZ A (-1)) (bg _ (by omega)) hsb (by decide) (by decide)
  rw [norm_neg pA] at hnn
  exact seq_rt (ret_to (and_t (eq_same (call_2 fO rfl rfl hpo) (var_im rfl)) (and_t (eq_same (pow0_e fO hp0) one_e) (one_to (eq_same (norm_e fN fC hsn hnn) (call_1 fM rfl hln))))))
end Kw

set_option Elab.async false
set_option linter.all false
set_option maxRecDepth 100000
set_option maxHeartbeats 0
namespace Kw
open PySem PySem.Spec PyProof.Rows L2 Kh
theorem law_at {w : World} {mg : Str → Option Value} {fa : Addr} {h : Heap} (Y : hk.says w h) (G : h.Ns mainGlobals mg) (hmg : mg ("law" : Str) = some (.ref fa)) : ∃ (K : PySem.W.Frag) (fd : FuncData) (sp : Sp), K.In h ∧ (∀ (s : Shared) (u : Value), BindsTo s fd ⟨[u], []⟩ [("script", u)]) ∧
    (∀ (H : Hp) (a : Addr) (ns : List Int), ns.length ≤ 63 → (∀ z ∈ ns, Builtin.Int.intBits z ≤ 1048576) → Only H → SqL K H a (ns.map V.int) → sp [.ref a] H (fun v _ => v = .bl true) fun _ _ _ => False) ∧
    ∀ base : Heap, K.In base → base.Ns mainGlobals mg → FnOk rw.prog w K mg base (L2.CX rw.prog w) 21 fa fd ["script"] sp := by
  obtain ⟨K, KX, c⟩ := Y
  have hd := facts KX G c
  obtain ⟨fd, F⟩ := c.t.d.defs (d := d_law.dd) (by simp [defs])
  have hg := He.glo_ok KX G (c.t.d.facts (f := .glo "law") (by simp [factsOf, defs, d_law]))
  have e := hmg.symm.trans hg
  cases e
  have o := o_law
  have o1 := o.1
  unfold DD.okB at o1
  simp only [Bool.and_eq_true, decide_eq_true_eq] at o1
  exact ⟨K, fd, spF K mg 1 (f_law.sem (tab 20)), KX, fun s u => FunD.bindsA (ps := ["script"]) F o.2 s [u] rfl, fun H a ns hl hb ho hs => law_sp ho hs (law_plain ns hl), fun base kb gb => fd_ok (gl_all hd 20) F (scD_ok o1.1.1.1) o1.1.1.2 o1.1.2 o1.2⟩
end Kw
open PySem PySem.W PySem.Calls PyProof.Rows
theorem PySem.Challenge.cw_knothouse_k01_polynomials_added_and_mult_holds : PySem.Challenge.rw_knothouse_k01_polynomials_added_and_mult.Holds := by
  w_on; o_law
  refine HandSHeadRun.head_any (r := Kw.R) (q := view Kw.R.prog [Kw.iLaw]) (H := Kw.hk) (ob := Kw.ob) (M := 20000) (loose := Kw.loose) (d := HandSHeadRun.topDef Kw.R.prog Kw.iLaw) (kwd := []) Kw.ob_eq
    (by kernel_rfl) (fun s => by kernel_rfl) Kw.run (by kernel_rfl) (by kernel_rfl) (by kernel_rfl) (by rfl) (by first | assumption | decide +kernel) (by decide +kernel) ⟨rfl, rfl, rfl, rfl, rfl, by decide +kernel⟩ ?hw ?hc
  case hw => w_witness2
  case hc =>
    refine Kh.walk_EB (l := Kw.rw) (n := 63) (k := 21) (x := "script") rfl (by decide) (by kernel_rfl) ⟨rfl, by decide, by decide⟩ fun w mg fa h Y G hmg => Kw.law_at Y G ?_
    rw [← hmg]
    exact congrArg mg (by kernel_rfl)

