import PyProof.Rows.All
import Wide.All
import OpenK.AllK
import Wide.FinOn
import HandS.ForMost
import HandS.Zip
import KE.GoesEnum
import HandS.Style
import KE.KRevSl
import HandS.Flow
import HandS.Lambda
import HandS.Deep
import HandS.TupAny
import HandS.TupMul
import HandS.IsInst
import HandS.Sort
import HandS.Conv
import HandS.Small
import HandS.Iter
import HandS.TupLe
import HandS.NamedTupSort
import HandS.TupSets
import HandS.SortRule
import HandS.SortInts
import HandS.TupLen
import HandS.WordsDict
import HandS.Exc
import HandS.Comp
import HandS.Walk
import HandS.Strs
import PyProof.ReprLen
import PyProof.StrLawsRepr
import PyProof.FitsInt
import PyProof.CallFns
import PyProof.ReprRoads
import HandS.ExcInit
import HandS.ExcSuper
import KE.KSuper
import KE.KExcSuper
import HandS.HeadWalk
import HandS.HeadEnd
import HandS.TryMany
import HandS.ExcField
import HandS.EndTab
import HandS.HeadHook4
import HandS.EndBits
import HandS.Head2
import PySem.Challenge.RW_mendwords_k19_rows_of_all_words
set_option Elab.async false
section
set_option Elab.async false
set_option linter.all false
set_option maxRecDepth 100000
/-! Ev: a small evaluator over plain data for the subset of Python that the laws and the program are written in. -/
namespace MW
open PySem

abbrev D := PyData
abbrev dI (i : Int) : D := .int i
abbrev dS (s : String) : D := .str (Str.ofString s)

/-- a name's place: not set; held frozen (shared); owned (this frame alone refers to it); owned and locked by a loop; lent by the caller -/
inductive Slot where
  | no | fz (d : D) | ow (d : D) | lk (d : D) | io (d : D)
abbrev Env := List Slot

/-- ok: the value and the names behind; ex: an exception of class k; st: not told -/
inductive Res (A : Type) where
  | ok (a : A) (r : Env)
  | ex (k : Nat) (as : List D) (r : Env)
  | st (n : Nat)

def Res.bind {A B : Type} (x : Res A) (f : A → Env → Res B) : Res B :=
  match x with
  | .ok a r => f a r
  | .ex k as r => .ex k as r
  | .st n => .st n

def Res.mapR {A : Type} (f : Env → Env) : Res A → Res A
  | .ok a r => .ok a (f r)
  | .ex k as r => .ex k as (f r)
  | .st n => .st n
/-- where no exception may leave -/
def Res.mapN {A : Type} (f : Env → Env) : Res A → Res A
  | .ok a r => .ok a (f r)
  | .ex _ _ _ => .st 59
  | .st n => .st n
inductive Op where
  | add | sub | mul | fdiv | mod
  deriving DecidableEq
inductive Cmp where
  | eq | ne | lt | le | gt | ge | isn | isnot | cin | notin
  deriving DecidableEq
/-- built-in functions of plain values -/
inductive P where
  | len | list | tuple | sorted | sum | min | max | any | all | abs | int | dict | str
  | isint | isbool | istuple | isstr | islist | tupr
  deriving DecidableEq
/-- methods of plain values that change nothing -/
inductive M where
  | index | get | count | join | split | items | values | keys
  deriving DecidableEq

/-- targets -/
inductive T where
  | name (i : Nat)
  | two (a b : T)
  | three (a b c : T)
  | four (a b c d : T)

mutual
inductive E where
  | var (i : Nat)
  | const (d : D)
  | glob (g : Nat)
  | bin (o : Op) (a b : E)
  | neg (a : E)
  | not (a : E)
  | and (a b : E)
  | or (a b : E)
  | cmp (o : Cmp) (a b : E)
  | chain (o p : Cmp) (a b c : E)
  | ite (c a b : E)
  | call (f : Nat) (as : Es)
  | prim (p : P) (as : Es)
  | meth (m : M) (a : E) (as : Es)
  | tup (as : Es)
  | lst (as : Es)
  | dic (t : Bool) (as : Es)
  | idx (a i : E)
  | slice (a lo hi : E)
  | rev (a : E)
  | comp (t : T) (it : It) (c e : E)
  | comp2 (t : T) (it : It) (t2 : T) (it2 : It) (c e : E)
  | coll (tu : Bool) (it : It)
  | same (a b : E)
  | append (i : Nat) (e : E)
  | pop (i : Nat)
  | popat (i : Nat) (e : E)
  | remove (i : Nat) (e : E)
  | told (f : Nat) (e : E)
  | sortkey (a : E) (i : Nat) (k : E)
  | bad (n : Nat)
inductive Es where
  | nil
  | cons (e : E) (es : Es)
inductive It where
  | seq (e : E)
  | range1 (a : E)
  | range2 (a b : E)
  | range3 (a b c : E)
  | enum (e : E)
  | zip2 (a b : E)
  | zip3 (a b c : E)
end

inductive S where
  | skip
  | seq (a b : S)
  | asg (t : T) (e : E)
  | par2 (i j : Nat) (a b : E)
  | par3 (i j k : Nat) (a b c : E)
  | set (i : Nat) (ix e : E)
  | swap (i : Nat) (x y : E) (e1 e2 : E)
  | aug (i : Nat) (o : Op) (e : E)
  | augset (i : Nat) (ix : E) (o : Op) (e : E)
  | expr (e : E)
  | ite (c : E) (a b : S)
  | for_ (t : T) (it : It) (b : S)
  | while_ (c : E) (b : S)
  | ret (e : E)
  | retn
  | raise (k : Nat) (as : Es)
  | cont
  | brk
  | tryx (b : S) (k : List Nat) (h : S)
  | bad (n : Nat)

inductive Flow where
  | next | ret (o : Bool) (d : D) | cont | brk

/-! ### plain values -/
def szLine : Nat := 16777216
def isScal : D → Bool
  | .none | .bool _ | .int _ | .str _ => true
  | _ => false
mutual
/-- no dict inside, not too deep -/
def shp : Nat → D → Bool
  | _, .none | _, .bool _ | _, .int _ => true
  | _, .str s => PyData.strOk s
  | 0, _ => false
  | n + 1, .list xs => shpA n xs
  | n + 1, .tuple xs => shpA n xs
  | _, .dict _ => false
def shpA : Nat → List D → Bool
  | _, [] => true
  | n, x :: r => shp n x && shpA n r
end
def big64 : Nat := 18446744073709551616
def mulOk (a b : Int) : Bool := decide (a.natAbs < big64) || decide (b.natAbs < big64)
def truth : D → Bool
  | .none => false
  | .bool b => b
  | .int i => i != 0
  | .str s => s.length != 0
  | .list xs => !xs.isEmpty
  | .tuple xs => !xs.isEmpty
  | .dict kvs => !kvs.isEmpty
def tru (d : D) : Option Bool :=
  match d with
  | .dict _ => none
  | d => some (truth d)
def repList : Nat → List D → List D
  | 0, _ => []
  | n + 1, xs => xs ++ repList n xs
/-- owned, value -/
abbrev OV := Option (Bool × D)
def opSem : Op → D → D → OV
  | .add, .int a, .int b => some (false, .int (a + b))
  | .add, .list a, .list b => if a.length + b.length ≤ szLine then some (true, .list (a ++ b)) else none
  | .add, .tuple a, .tuple b => if a.length + b.length ≤ szLine then some (false, .tuple (a ++ b)) else none
  | .add, .str a, .str b => if a.length + b.length ≤ szLine then some (false, .str (a ++ b)) else none
  | .sub, .int a, .int b => some (false, .int (a - b))
  | .mul, .int a, .int b => if mulOk a b then some (false, .int (a * b)) else none
  | .mul, .list a, .int b => if a.length * b.toNat ≤ szLine ∧ b.natAbs < 1073741824 then some (true, .list (repList b.toNat a)) else none
  | .mul, .tuple a, .int b => if a.length ≤ 1000 ∧ b.natAbs ≤ 1000 then some (false, .tuple (repList b.toNat a)) else none
  | .fdiv, .int a, .int b => if 0 < b ∧ b < 1073741824 then some (false, .int (a / b)) else none
  | .mod, .int a, .int b => if 0 < b then some (false, .int (a % b)) else none
  | _, _, _ => none
/-- x in xs -/
def memD (x : D) : List D → Bool
  | [] => false
  | y :: r => PyData.eqv y x || memD x r
def keyOk : D → Bool
  | .int _ => true
  | .str _ => true
  | .tuple xs => xs.all fun x => match x with | .int _ => true | .str _ => true | _ => false
  | _ => false
/-- a key of the kind that the dict has -/
def kindOk (k : D) : List (D × D) → Bool
  | [] => keyOk k
  | (q, _) :: _ => keyOk k && keyOk q && (match q, k with
    | .tuple _, .tuple _ => true
    | .tuple _, _ => false
    | _, .tuple _ => false
    | _, _ => true)
/-- a tuple whose places may be asked for: it stands as a dict that no program has -/
def rowL : List (D × D) → Option (List D)
  | [(.none, .tuple xs)] => some xs
  | _ => none
def dGet (k : D) : List (D × D) → Option D
  | [] => none
  | (a, v) :: r => if PyData.eqv a k then some v else dGet k r
def hasKey (k : D) (kvs : List (D × D)) : Bool := kvs.any fun p => PyData.eqv p.1 k
def dPut (k v : D) (kvs : List (D × D)) : List (D × D) :=
  if hasKey k kvs then kvs.map fun p => if PyData.eqv p.1 k then (p.1, v) else p else kvs ++ [(k, v)]
mutual
/-- a < b of alike values: none: not told -/
def ltD : Nat → D → D → Option Bool
  | _, .int a, .int b => some (decide (a < b))
  | _, .str a, .str b => some (decide (a.cps.toList < b.cps.toList))
  | n + 1, .tuple a, .tuple b => ltA n a b
  | n + 1, .list a, .list b => ltA n a b
  | _, _, _ => none
def ltA : Nat → List D → List D → Option Bool
  | _, [], [] => some false
  | _, [], _ :: _ => some true
  | _, _ :: _, [] => some false
  | n, x :: r, y :: t => if PyData.eqv x y then ltA n r t else ltD n x y
end
def leD (a b : D) : Bool := match ltD 8 b a with | some r => !r | none => false
def allInts : List D → Option (List Int)
  | [] => some []
  | .int i :: r => (allInts r).map (i :: ·)
  | _ => none
def ltRow : List Int → List Int → Bool
  | [], [] => false
  | [], _ :: _ => true
  | _ :: _, [] => false
  | x :: xs, y :: ys => if x = y then ltRow xs ys else decide (x < y)
def leRow : List Int → List Int → Bool
  | [], _ => true
  | _ :: _, [] => false
  | x :: xs, y :: ys => if x = y then leRow xs ys else decide (x ≤ y)
/-- rows of ints -/
def rowCmp (f : List Int → List Int → Bool) (a b : List D) : Option Bool :=
  match allInts a, allInts b with
  | some x, some y => some (f x y)
  | _, _ => none
def cmpSem : Cmp → D → D → Option Bool
  | .eq, a, b => if shp 60 a && shp 60 b then some (PyData.eqv a b) else none
  | .ne, a, b => if shp 60 a && shp 60 b then some (!PyData.eqv a b) else none
  | .lt, .int a, .int b => some (decide (a < b))
  | .lt, .tuple a, .tuple b => rowCmp ltRow a b
  | .le, .tuple a, .tuple b => rowCmp leRow a b
  | .gt, .int a, .int b => some (decide (b < a))
  | .le, .int a, .int b => some (decide (a ≤ b))
  | .ge, .int a, .int b => some (decide (b ≤ a))
  | .isn, a, .none => some (match a with | .none => true | _ => false)
  | .isn, .bool c, .bool d => some (decide (c = d))
  | .isnot, a, .none => some (match a with | .none => false | _ => true)
  | .isnot, .bool c, .bool d => some (!decide (c = d))
  | .cin, a, .list b => if shp 60 a && shpA 60 b then some (memD a b) else none
  | .cin, a, .tuple b => if shp 60 a && shpA 60 b then some (memD a b) else none
  | .cin, a, .dict b => if kindOk a b then some (dGet a b).isSome else none
  | .notin, a, .list b => if shp 60 a && shpA 60 b then some (!memD a b) else none
  | .notin, a, .tuple b => if shp 60 a && shpA 60 b then some (!memD a b) else none
  | .notin, a, .dict b => if kindOk a b then some (!(dGet a b).isSome) else none
  | _, _, _ => none
def idxNat (n : Nat) (i : Int) : Option Nat :=
  if 0 ≤ i then (if i < n then some i.toNat else none) else (if -(n : Int) ≤ i then some (n + i).toNat else none)
def getAt : List D → Nat → Option D
  | [], _ => none
  | x :: _, 0 => some x
  | _ :: r, n + 1 => getAt r n
def setAt : List D → Nat → D → List D
  | [], _, _ => []
  | _ :: r, 0, y => y :: r
  | x :: r, n + 1, y => x :: setAt r n y
def dropAt : List D → Nat → List D
  | [], _ => []
  | _ :: r, 0 => r
  | x :: r, n + 1 => x :: dropAt r n
def idxSem : D → D → Option D
  | .list xs, .int i => (idxNat xs.length i).bind (getAt xs)
  | .tuple xs, .int i => (idxNat xs.length i).bind (getAt xs)
  | .dict kvs, k => (match rowL kvs with
    | some xs => (match k with
      | .int i => (idxNat xs.length i).bind (getAt xs)
      | _ => none)
    | none => if kindOk k kvs then dGet k kvs else none)
  | .str s, .int i => (idxNat s.cps.size i).bind fun n => s.cps[n]?.map fun c => .str ⟨#[c]⟩
  | _, _ => none
def clampIx (n : Nat) (i : Int) : Nat := if i < 0 then (if i + n < 0 then 0 else (i + n).toNat) else (if i < n then i.toNat else n)
def cutL (xs : List D) (lo hi : D) : Option (List D) :=
  match lo, hi with
  | .none, .none => some xs
  | .int a, .none => some (xs.drop (clampIx xs.length a))
  | .none, .int b => some (xs.take (clampIx xs.length b))
  | .int a, .int b => some ((xs.drop (clampIx xs.length a)).take (clampIx xs.length b - clampIx xs.length a))
  | _, _ => none
def sliceSem : D → D → D → OV
  | .list xs, lo, hi => (cutL xs lo hi).map fun r => (true, .list r)
  | .tuple xs, lo, hi => (cutL xs lo hi).map fun r => (false, .tuple r)
  | _, _, _ => none
def revSem : D → OV
  | .list xs => some (true, .list xs.reverse)
  | .tuple xs => some (false, .tuple xs.reverse)
  | _ => none
/-- what is tested, truths and ints -/
def truths : List D → Option (List Bool)
  | [] => some []
  | .bool i :: r => (truths r).map (i :: ·)
  | .int i :: r => (truths r).map ((i != 0) :: ·)
  | _ => none
/-- a list or a tuple -/
def seqLT : D → Option (List D)
  | .list xs => some xs
  | .tuple xs => some xs
  | _ => none
def leastI : Int → List Int → Int
  | m, [] => m
  | m, x :: r => leastI (if x < m then x else m) r
def mostI : Int → List Int → Int
  | m, [] => m
  | m, x :: r => mostI (if m < x then x else m) r
def orderly (xs : List D) : Bool := xs.all fun x => xs.all fun y => (ltD 8 x y).isSome
def insD (x : D) : List D → List D
  | [] => [x]
  | y :: r => if leD x y then x :: y :: r else y :: insD x r
def sortD : List D → List D
  | [] => []
  | x :: r => insD x (sortD r)
def seqOf : D → Option (List D)
  | .list xs => some xs
  | .tuple xs => some xs
  | .dict kvs => some (kvs.map (·.1))
  | .str s => some (s.cps.toList.map fun c => .str ⟨#[c]⟩)
  | _ => none
def pairsOf : List D → List (D × D) → Option (List (D × D))
  | [], acc => some acc
  | .tuple [k, v] :: r, acc => if kindOk k acc then pairsOf r (dPut k v acc) else none
  | _, _ => none
def ltI (a b : Int) : Bool := decide (a < b)
def insB {A : Type} (lt : A → A → Bool) (x : A) : List A → List A
  | [] => [x]
  | y :: r => if lt y x then y :: insB lt x r else x :: y :: r
def sortB {A : Type} (lt : A → A → Bool) : List A → List A
  | [] => []
  | x :: r => insB lt x (sortB lt r)
def rowsI : List D → Option (List (List Int))
  | [] => some []
  | .tuple xs :: r => (allInts xs).bind fun x => (rowsI r).map (x :: ·)
  | _ => none
def rowD (r : List Int) : D := .tuple (r.map .int)
/-- sorted: ints, or rows of ints -/
def sortL (xs : List D) : Option (List D) :=
  match allInts xs with
  | some is => some ((sortB ltI is).map .int)
  | none => (match rowsI xs with
    | some rs => if rs.length < 2 ∨ rs.all (fun r => !r.isEmpty) = true then some ((sortB ltRow rs).map rowD) else none
    | none => none)
/-- a dict display's pairs, keys ints and texts -/
def pairsK : List D → List (D × D) → Option (List (D × D))
  | [], acc => some acc
  | .tuple [.int i, v] :: r, acc => pairsK r (dPut (.int i) v acc)
  | .tuple [.str i, v] :: r, acc => pairsK r (dPut (.str i) v acc)
  | _, _ => none
def primSem : P → List D → OV
  | .len, [.list xs] => some (false, .int xs.length)
  | .len, [.tuple xs] => some (false, .int xs.length)
  | .len, [.dict xs] => (match rowL xs with
    | some _ => none
    | none => some (false, .int xs.length))
  | .len, [.str s] => some (false, .int s.length)
  | .list, [.list xs] => some (true, .list xs)
  | .list, [.tuple xs] => some (true, .list xs)
  | .tuple, [.list xs] => some (false, .tuple xs)
  | .tuple, [.tuple xs] => some (false, .tuple xs)
  | .sum, [.list xs] => (allInts xs).map fun is => (false, .int is.sum)
  | .sum, [.tuple xs] => (allInts xs).map fun is => (false, .int is.sum)
  | .min, [.list xs] => match allInts xs with | some (x :: r) => some (false, .int (leastI x r)) | _ => none
  | .max, [.list xs] => match allInts xs with | some (x :: r) => some (false, .int (mostI x r)) | _ => none
  | .min, [.tuple xs] => match allInts xs with | some (x :: r) => some (false, .int (leastI x r)) | _ => none
  | .max, [.tuple xs] => match allInts xs with | some (x :: r) => some (false, .int (mostI x r)) | _ => none
  | .min, [.int a, .int b] => some (false, .int (if b < a then b else a))
  | .max, [.int a, .int b] => some (false, .int (if b > a then b else a))
  | .any, [.list xs] => (truths xs).map fun bs => (false, .bool (bs.any id))
  | .all, [.list xs] => (truths xs).map fun bs => (false, .bool (bs.all id))
  | .any, [.tuple xs] => (truths xs).map fun bs => (false, .bool (bs.any id))
  | .all, [.tuple xs] => (truths xs).map fun bs => (false, .bool (bs.all id))
  | .sorted, [.list xs] => (sortL xs).map fun r => (true, .list r)
  | .abs, [.int a] => some (false, .int (if a < 0 then -a else a))
  | .int, [.int a] => some (false, .int a)
  | .int, [.bool b] => some (false, .int (if b then 1 else 0))
  | .tupr, [.list xs] => some (false, .dict [(.none, .tuple xs)])
  | .isint, [.dict _] => none
  | .isbool, [.dict _] => none
  | .istuple, [.dict _] => none
  | .isstr, [.dict _] => none
  | .islist, [.dict _] => none
  | .isint, [d] => some (false, .bool (match d with | .int _ | .bool _ => true | _ => false))
  | .isbool, [d] => some (false, .bool (match d with | .bool _ => true | _ => false))
  | .istuple, [d] => some (false, .bool (match d with | .tuple _ => true | _ => false))
  | .isstr, [d] => some (false, .bool (match d with | .str _ => true | _ => false))
  | .islist, [d] => some (false, .bool (match d with | .list _ => true | _ => false))
  | _, _ => none
def kindD : D → Nat
  | .list _ => 1
  | .tuple _ => 2
  | .dict kvs => if (rowL kvs).isSome then 3 else 4
  | .str _ => 5
  | _ => 0
def methOk : M → D → Bool
  | .index, d => kindD d == 1 || kindD d == 3
  | _, _ => true
def indexOf (x : D) : List D → Nat → Option Nat
  | [], _ => none
  | y :: r, n => if PyData.eqv y x then some n else indexOf x r (n + 1)
def methSem : M → D → List D → OV
  | .index, .list xs, [x] => if shp 60 x && shpA 60 xs then (indexOf x xs 0).map fun n => (false, .int n) else none
  | .index, .dict kvs, [x] => (match rowL kvs with
    | some xs => if shp 60 x && shpA 60 xs then (indexOf x xs 0).map fun n => (false, .int n) else none
    | none => none)
  | .get, .dict kvs, [k] => if kindOk k kvs then some (false, (dGet k kvs).getD .none) else none
  | .get, .dict kvs, [k, d] => if kindOk k kvs then some (false, (dGet k kvs).getD d) else none
  | .items, .dict kvs, [] => some (false, .list (kvs.map fun p => .tuple [p.1, p.2]))
  | .values, .dict kvs, [] => some (false, .list (kvs.map (·.2)))
  | _, _, _ => none
/-- repr(a) == repr(b) -/
def wtI (i : Int) : Nat := i.natAbs.log2 + 3
mutual
/-- no shorter than the text that shows it -/
def wt : D → Nat
  | .none => 4
  | .bool _ => 5
  | .int i => wtI i
  | .str s => 12 * s.length + 2
  | .list xs => wtA xs + 3
  | .tuple xs => wtA xs + 3
  | .dict _ => 0
def wtA : List D → Nat
  | [] => 0
  | x :: r => wt x + 2 + wtA r
end
mutual
def nrm : D → D
  | .list xs => .list (nrmA xs)
  | .tuple xs => .tuple (nrmA xs)
  | .dict kvs => (match rowL kvs with
    | some xs => .tuple xs
    | none => .dict kvs)
  | .none => .none
  | .bool b => .bool b
  | .int i => .int i
  | .str s => .str s
def nrmA : List D → List D
  | [] => []
  | x :: r => nrm x :: nrmA r
end
def shwOk (d : D) : Bool := shp 60 d && d.showable && decide (wt d ≤ szLine)
def shwEq (a b : D) : Bool := if PySem.Spec.same a b then true else decide (a.shown = b.shown)

/-! ### names -/
def slotAt : Env → Nat → Slot
  | [], _ => .no
  | x :: _, 0 => x
  | _ :: r, n + 1 => slotAt r n
def setSlot : Env → Nat → Slot → Env
  | [], _, _ => []
  | _ :: r, 0, s => s :: r
  | x :: r, n + 1, s => x :: setSlot r n s
def Slot.own : Slot → Bool
  | .ow _ | .lk _ | .io _ => true
  | _ => false
def isSet : Slot → Bool
  | .no => false
  | _ => true
def ownL : Slot → Bool
  | .ow (.list _) => true
  | .io (.list _) => true
  | _ => false
/-- a name's value is stored -/
def store (i : Nat) (v : Bool × D) (r : Env) : Res Unit :=
  match slotAt r i with
  | .io _ => .st 1
  | .lk _ => .st 2
  | _ => .ok () (setSlot r i (if v.1 then .ow v.2 else .fz v.2))
/-- an operand: a value in hand, or a name -/
inductive Opd where
  | val (o : Bool) (d : D)
  | ref (i : Nat)
  | cst (d : D)
/-- a value in hand that is owned -/
def isTmp : Opd → Bool
  | .val o _ => o
  | _ => false
def opdD (r : Env) : Opd → Option D
  | .val _ d => some d
  | .cst d => some d
  | .ref i => match slotAt r i with
    | .fz d | .ow d | .lk d | .io d => some d
    | .no => none
/-- .. but a tuple of the module's own -/
def opdV (r : Env) : Opd → Option D
  | .cst d => if isScal d then some d else none
  | x => opdD r x
def opdsD (r : Env) : List Opd → Option (List D)
  | [] => some []
  | x :: xs => (opdV r x).bind fun d => (opdsD r xs).map (d :: ·)
/-- a value that is to be kept elsewhere -/
def useVar (i : Nat) (r : Env) : Res (Bool × D) :=
  match slotAt r i with
  | .fz d => .ok (false, d) r
  | .ow d => .ok (false, d) (setSlot r i (.fz d))
  | .lk _ => .st 3
  | .io _ => .st 4
  | .no => .st 5
def assignT : T → Bool × D → Env → Res Unit
  | .name i, v, r => store i v r
  | .two a b, v, r => match v.2 with
    | .tuple [x, y] => (assignT a (false, x) r).bind fun _ r => assignT b (false, y) r
    | _ => .st 6
  | .three a b c, v, r => match v.2 with
    | .tuple [x, y, z] => (assignT a (false, x) r).bind fun _ r => (assignT b (false, y) r).bind fun _ r => assignT c (false, z) r
    | _ => .st 7
  | .four a b c d, v, r => match v.2 with
    | .tuple [x, y, z, w] => (assignT a (false, x) r).bind fun _ r => (assignT b (false, y) r).bind fun _ r => (assignT c (false, z) r).bind fun _ r => assignT d (false, w) r
    | _ => .st 8
def ofOV (n : Nat) (x : OV) (r : Env) : Res (Bool × D) :=
  match x with
  | some v => .ok v r
  | none => .st n
def lockO (r : Env) : Opd → Env
  | .val _ _ | .cst _ => r
  | .ref i => match slotAt r i with
    | .ow d => setSlot r i (.lk d)
    | _ => r
/-- behind a loop: what was owned ahead of it is owned again, if it stayed locked -/
def unlockO (r₀ r : Env) : Opd → Env
  | .val _ _ | .cst _ => r
  | .ref i => match slotAt r₀ i, slotAt r i with
    | .ow _, .lk d => setSlot r i (.ow d)
    | _, _ => r
def ranged (lo : Int) : Nat → List D
  | 0 => []
  | n + 1 => .int lo :: ranged (lo + 1) n
def rangedBy (lo st : Int) : Nat → List D
  | 0 => []
  | n + 1 => .int lo :: rangedBy (lo + st) st n
def smallI (n : Int) : Bool := decide (-(2 ^ 62) ≤ n) && decide (n < 2 ^ 62)
/-- how many, of a range with a step -/
def rangeLen (lo hi st : Int) : Option Nat :=
  if st = -1 ∧ smallI lo = true ∧ smallI hi = true then some (lo - hi).toNat
  else if st ≠ 0 ∧ st.natAbs < 1073741824 ∧ Builtin.Range.small lo hi st = true ∧ 0 ≤ Builtin.Range.rangeSize lo hi st then some (Builtin.Range.rangeSize lo hi st).toNat else none
def itOk (r : Env) : Opd → Bool
  | .ref i => match slotAt r i with
    | .io _ => false
    | _ => true
  | _ => true
def enumFrom : Nat → List D → List D
  | _, [] => []
  | n, x :: r => .tuple [.int n, x] :: enumFrom (n + 1) r
def zipD : List D → List D → List D
  | x :: r, y :: t => .tuple [x, y] :: zipD r t
  | _, _ => []
def zip3D : List D → List D → List D → List D
  | x :: r, y :: t, z :: u => .tuple [x, y, z] :: zip3D r t u
  | _, _, _ => []

def tSlots : T → List Nat
  | .name i => [i]
  | .two a b => tSlots a ++ tSlots b
  | .three a b c => tSlots a ++ (tSlots b ++ tSlots c)
  | .four a b c d => tSlots a ++ (tSlots b ++ (tSlots c ++ tSlots d))
structure Fn where
  np : Nat
  more : Nat
  io : List Bool
  body : S
/-- a call of function f with the parameters' places; behind it the places' state -/
abbrev Call := Nat → List Slot → Res (Bool × D)
/-- what a call is given: a value, or a place that is lent -/
inductive Arg where
  | val (d : D)
  | io (i : Nat)
def noIo : List Arg → Bool
  | [] => true
  | .val _ :: xs => noIo xs
  | .io _ :: _ => false
def argSlots (r : Env) : List Arg → Option (List Slot)
  | [] => some []
  | .val d :: xs => (argSlots r xs).map (.fz d :: ·)
  | .io i :: xs => if noIo xs then (match slotAt r i with
    | .ow d | .io d => (argSlots r xs).map (.io d :: ·)
    | _ => none) else none
def takeBack (r : Env) : List Arg → Env → Option Env
  | [], _ => some r
  | .val _ :: xs, s => (match s with | _ :: s => takeBack r xs s | [] => none)
  | .io i :: xs, s => match s with
    | .io d :: s => (match slotAt r i with
      | .ow _ => takeBack (setSlot r i (.ow d)) xs s
      | .io _ => takeBack (setSlot r i (.io d)) xs s
      | _ => none)
    | _ => none

structure Cx where
  call : Call
  io : Nat → List Bool
  glob : Nat → D
  /-- f as a def that tries a thunk: (class, its text, which field) -/
  hand : Nat → List (Nat × D × Nat)
  wf : Nat

def headIo : List Bool → Bool
  | b :: _ => b
  | [] => false
/-- turns over items -/
def loopE (f : D → Env → Res (List D)) : List D → Env → Res (List D)
  | [], r => .ok [] r
  | x :: xs, r => (f x r).bind fun a r => (loopE f xs r).bind fun b r => .ok (a ++ b) r
def lookH (k : Nat) : List (Nat × D × Nat) → Option (D × Nat)
  | [] => none
  | (c, t, n) :: r => if c = k then some (t, n) else lookH k r
/-- the slots that a comprehension's block sets are not set ahead of its turns -/
def wipeT : T → Env → Env
  | .name i, r => setSlot r i .no
  | .two a b, r => wipeT b (wipeT a r)
  | .three a b c, r => wipeT c (wipeT b (wipeT a r))
  | .four a b c d, r => wipeT d (wipeT c (wipeT b (wipeT a r)))
/-- the slots that a comprehension's block sets are as they were ahead of it -/
def backT (r₀ : Env) : T → Env → Env
  | .name i, r => setSlot r i (slotAt r₀ i)
  | .two a b, r => backT r₀ b (backT r₀ a r)
  | .three a b c, r => backT r₀ c (backT r₀ b (backT r₀ a r))
  | .four a b c d, r => backT r₀ d (backT r₀ c (backT r₀ b (backT r₀ a r)))
def isNoneE : E → Bool
  | .const .none => true
  | _ => false
/-- a part of a slice -/
def partR (b : Bool) (x : Res Opd) (r : Env) : Res (Option Int) :=
  if b then .ok none r else x.bind fun y r => match opdD r y with
    | some (.int i) => .ok (some i) r
    | _ => .st 32
def optD : Option Int → D
  | some i => .int i
  | none => .none
def shwR (o : Option D) (r : Env) : Res D :=
  match o with
  | some d => if shwOk (nrm d) then .ok (nrm d) r else .st 37
  | none => .st 38
mutual
def ev (X : Cx) : E → Env → Res (Bool × D)
  | .var i, r => useVar i r
  | .const d, r => .ok (false, d) r
  | .glob g, r => if isScal (X.glob g) then .ok (false, X.glob g) r else .st 9
  | .bin o a b, r => (evO X a r).bind fun x r => (evO X b r).bind fun y r =>
      match opdV r x, opdV r y with
      | some x, some y => ofOV 10 (opSem o x y) r
      | _, _ => .st 11
  | .neg a, r => (evO X a r).bind fun x r => match opdD r x with
      | some (.int i) => .ok (false, .int (-i)) r
      | _ => .st 12
  | .not a, r => (evO X a r).bind fun x r => match (opdV r x).bind tru with
      | some t => .ok (false, .bool (!t)) r
      | none => .st 64
  | .and a b, r => (ev X a r).bind fun x r => match tru x.2 with
      | some true => ev X b r
      | some false => .ok x r
      | none => .st 13
  | .or a b, r => (ev X a r).bind fun x r => match tru x.2 with
      | some true => .ok x r
      | some false => ev X b r
      | none => .st 13
  | .cmp o a b, r => (evO X a r).bind fun x r => (evO X b r).bind fun y r =>
      match opdV r x, opdD r y with
      | some x, some y => (match cmpSem o x y with | some t => .ok (false, .bool t) r | none => .st 14)
      | _, _ => .st 15
  | .chain o p a b c, r => (evO X a r).bind fun x r => (evO X b r).bind fun y r =>
      match opdV r x, opdV r y with
      | some x, some d => (match cmpSem o x d with
        | some true => (evO X c r).bind fun z r => (match opdV r y, opdD r z with
          | some d, some z => (match cmpSem p d z with | some t => .ok (false, .bool t) r | none => .st 16)
          | _, _ => .st 17)
        | some false => .ok (false, .bool false) r
        | none => .st 18)
      | _, _ => .st 19
  | .ite c a b, r => (evT X c r).bind fun t r => if t then ev X a r else ev X b r
  | .call f as, r => (evArgs X (X.io f) as r).bind fun xs r => match argSlots r xs with
      | some ss => (match X.call f ss with
        | .ok v s => (match takeBack r xs s with | some r => .ok v r | none => .st 21)
        | .ex k as s => (match takeBack r xs s with | some r => .ex k as r | none => .st 22)
        | .st n => .st n)
      | none => .st 23
  | .prim p as, r => (evOs X as r).bind fun xs r => match opdsD r xs with
      | some ds => ofOV 24 (primSem p ds) r
      | none => .st 25
  | .meth m a as, r => (evO X a r).bind fun x r => match opdD r x with
      | some d0 => if methOk m d0 then (evOs X as r).bind fun xs r => (match opdD r x, opdsD r xs with
        | some d, some ds => if kindD d0 = kindD d then ofOV 26 (methSem m d ds) r else .st 26
        | _, _ => .st 27) else .st 27
      | none => .st 27
  | .tup as, r => (evs X as r).bind fun ds r => .ok (false, .tuple ds) r
  | .lst as, r => (evs X as r).bind fun ds r => .ok (true, .list ds) r
  | .dic _ as, r => (evs X as r).bind fun ds r => match pairsK ds [] with
      | some kvs => .ok (true, .dict kvs) r
      | none => .st 28
  | .idx a i, r => (evO X a r).bind fun x r => (evO X i r).bind fun y r =>
      match opdD r x, opdV r y with
      | some x, some y => (match idxSem x y with | some v => .ok (false, v) r | none => .st 29)
      | _, _ => .st 30
  | .slice a lo hi, r => (evO X a r).bind fun x r => (partR (isNoneE lo) (evO X lo r) r).bind fun l r => (partR (isNoneE hi) (evO X hi r) r).bind fun u r =>
      match opdV r x with
      | some x => ofOV 31 (sliceSem x (optD l) (optD u)) r
      | _ => .st 32
  | .rev a, r => (evO X a r).bind fun x r => match opdV r x with
      | some x => ofOV 33 (revSem x) r
      | _ => .st 34
  | .comp t it c e, r => (evIt X it r).bind fun p r₀ => if szLine < p.1.length then .st 58 else
      ((loopE (fun d r => (assignT t (false, d) r).bind fun _ r => (evT X c r).bind fun t' r =>
        if t' then (ev X e r).bind fun v r => .ok [v.2] (wipeT t r) else .ok [] (wipeT t r)) p.1 (wipeT t (p.2.foldl lockO r₀))).mapN fun r => p.2.foldl (unlockO r₀) (backT r₀ t r)).bind fun ds r => .ok (true, .list ds) r
  | .comp2 t it t2 it2 c e, r => (evIt X it r).bind fun p r₀ => if 4096 < p.1.length then .st 58 else
      ((loopE (fun d r => (assignT t (false, d) r).bind fun _ r => (evIt X it2 r).bind fun q r₁ => if q.2.any isTmp || decide (4096 < q.1.length) then .st 73 else
        ((loopE (fun d r => (assignT t2 (false, d) r).bind fun _ r => (evT X c r).bind fun t' r =>
          if t' then (ev X e r).bind fun v r => .ok [v.2] (wipeT t2 r) else .ok [] (wipeT t2 r)) q.1 (wipeT t2 (q.2.foldl lockO r₁))).mapN fun r => q.2.foldl (unlockO r₁) (backT r₁ t2 r)).bind fun ds r => .ok ds (wipeT (.two t t2) r))
        p.1 (wipeT (.two t t2) (p.2.foldl lockO r₀))).mapN fun r => p.2.foldl (unlockO r₀) (backT r₀ (.two t t2) r)).bind fun ds r => .ok (true, .list ds) r
  | .coll tu it, r => (evIt X it r).bind fun p r => .ok (if tu then (false, .tuple p.1) else (true, .list p.1)) r
  | .same a b, r => (evO X a r).bind fun x r => (shwR (opdV r x) r).bind fun dx r => (evO X b r).bind fun y r => (shwR (opdV r y) r).bind fun dy r => .ok (false, .bool (shwEq dx dy)) r
  | .append i e, r => if ownL (slotAt r i) then (ev X e r).bind fun v r => match slotAt r i with
      | .ow (.list xs) => if xs.length < szLine then .ok (false, .none) (setSlot r i (.ow (.list (xs ++ [v.2])))) else .st 39
      | .io (.list xs) => if xs.length < szLine then .ok (false, .none) (setSlot r i (.io (.list (xs ++ [v.2])))) else .st 39
      | _ => .st 40
      else .st 40
  | .pop i, r => match slotAt r i with
      | .ow (.list xs) => (match xs.getLast? with | some v => .ok (false, v) (setSlot r i (.ow (.list xs.dropLast))) | none => .st 41)
      | .io (.list xs) => (match xs.getLast? with | some v => .ok (false, v) (setSlot r i (.io (.list xs.dropLast))) | none => .st 41)
      | _ => .st 42
  | .popat i e, r => (evO X e r).bind fun x r => match opdD r x, slotAt r i with
      | some (.int n), .ow (.list xs) => (match (idxNat xs.length n) with
        | some k => (match getAt xs k with | some v => .ok (false, v) (setSlot r i (.ow (.list (dropAt xs k)))) | none => .st 43)
        | none => .st 43)
      | _, _ => .st 44
  | .remove i e, r => (evO X e r).bind fun x r => match opdD r x, slotAt r i with
      | some d, .ow (.list xs) => if shp 60 d && shpA 60 xs then (match indexOf d xs 0 with
        | some k => .ok (false, .none) (setSlot r i (.ow (.list (dropAt xs k))))
        | none => .st 45) else .st 45
      | _, _ => .st 46
  | .told f e, r => match ev X e r with
      | .ok v r => .ok v r
      | .ex k as r => (match lookH k (X.hand f) with
        | some (t, n) => (match getAt as n with | some d => .ok (true, .list [t, d]) r | none => .st 47)
        | none => .st 36)
      | .st n => .st n
  | .sortkey a i k, r => (evO X a r).bind fun x r => match (opdD r x).bind seqOf with
      | some xs => (loopE (fun d r => (store i (false, d) r).bind fun _ r => (ev X k r).bind fun v r => .ok [.tuple [v.2, d]] r) xs r).bind fun ps r' =>
          if orderly (ps.filterMap fun p => match p with | .tuple [a, _] => some a | _ => none) then
            .ok (true, .list ((ps.mergeSort (fun p q => match p, q with | .tuple [a, _], .tuple [b, _] => leD a b | _, _ => true)).filterMap fun p => match p with | .tuple [_, d] => some d | _ => none)) (setSlot r' i (slotAt r i))
          else .st 48
      | none => .st 49
  | .bad n, _ => .st (1000 + n)
/-- a test -/
def evT (X : Cx) : E → Env → Res Bool
  | .not a, r => (evT X a r).bind fun t r => .ok (!t) r
  | .and a b, r => (evT X a r).bind fun t r => if t then evT X b r else .ok false r
  | .or a b, r => (evT X a r).bind fun t r => if t then .ok true r else evT X b r
  | e, r => (evO X e r).bind fun x r => match (opdV r x).bind tru with
    | some t => .ok t r
    | none => .st 64
/-- an operand -/
def evO (X : Cx) : E → Env → Res Opd
  | .var i, r => if isSet (slotAt r i) then .ok (.ref i) r else .st 5
  | .glob g, r => .ok (.cst (X.glob g)) r
  | e, r => (ev X e r).bind fun v r => .ok (.val v.1 v.2) r
def evOs (X : Cx) : Es → Env → Res (List Opd)
  | .nil, r => .ok [] r
  | .cons e es, r => (evO X e r).bind fun x r => (evOs X es r).bind fun xs r => .ok (x :: xs) r
def evs (X : Cx) : Es → Env → Res (List D)
  | .nil, r => .ok [] r
  | .cons e es, r => (ev X e r).bind fun x r => (evs X es r).bind fun xs r => .ok (x.2 :: xs) r
def evArgs (X : Cx) : List Bool → Es → Env → Res (List Arg)
  | _, .nil, r => .ok [] r
  | bs, .cons e es, r => if headIo bs then (match e with
        | .var i => if (slotAt r i).own then (evArgs X bs.tail es r).bind fun xs r => .ok (.io i :: xs) r else .st 50
        | _ => .st 50)
      else (ev X e r).bind fun x r => (evArgs X bs.tail es r).bind fun xs r => .ok (.val x.2 :: xs) r
/-- the items, and the operands that are walked -/
def evIt (X : Cx) : It → Env → Res (List D × List Opd)
  | .seq e, r => (evO X e r).bind fun x r => match opdD r x with
      | some (.list xs) => if itOk r x then .ok (xs, [x]) r else .st 51
      | some (.tuple xs) => .ok (xs, [x]) r
      | _ => .st 51
  | .range1 a, r => (evO X a r).bind fun x r => match opdD r x with
      | some (.int n) => if smallI n then .ok (ranged 0 n.toNat, []) r else .st 52
      | _ => .st 52
  | .range2 a b, r => (evO X a r).bind fun x r => (evO X b r).bind fun y r => match opdD r x, opdD r y with
      | some (.int m), some (.int n) => if smallI m && smallI n then .ok (ranged m (n - m).toNat, []) r else .st 53
      | _, _ => .st 53
  | .range3 a b c, r => (evO X a r).bind fun x r => (evO X b r).bind fun y r => (evO X c r).bind fun z r => match opdD r x, opdD r y, opdD r z with
      | some (.int m), some (.int n), some (.int k) => (match rangeLen m n k with
        | some j => .ok (rangedBy m k j, []) r
        | none => .st 54)
      | _, _, _ => .st 54
  | .enum e, r => (evO X e r).bind fun x r => match opdD r x with
      | some (.list xs) => if itOk r x then .ok (enumFrom 0 xs, [x]) r else .st 55
      | some (.tuple xs) => .ok (enumFrom 0 xs, [x]) r
      | _ => .st 55
  | .zip2 a b, r => (evO X a r).bind fun x r => (evO X b r).bind fun y r => match opdD r x, opdD r y with
      | some (.list xs), some (.list ys) => if itOk r x && itOk r y then .ok (zipD xs ys, [x, y]) r else .st 56
      | some (.tuple xs), some (.tuple ys) => .ok (zipD xs ys, [x, y]) r
      | some (.list xs), some (.tuple ys) => if itOk r x then .ok (zipD xs ys, [x, y]) r else .st 56
      | some (.tuple xs), some (.list ys) => if itOk r y then .ok (zipD xs ys, [x, y]) r else .st 56
      | _, _ => .st 56
  | .zip3 _ _ _, _ => .st 57
end

def loopS (f : D → Env → Res Flow) : List D → Env → Res Flow
  | [], r => .ok .next r
  | x :: xs, r => (f x r).bind fun w r => match w with
    | .next => loopS f xs r
    | .cont => loopS f xs r
    | .brk => .ok .next r
    | .ret o d => .ok (.ret o d) r
def loopW (c : Env → Res Bool) (b : Env → Res Flow) : Nat → Env → Res Flow
  | 0, _ => .st 60
  | n + 1, r => (c r).bind fun t r => if t then (b r).bind fun w r => (match w with
      | .next => loopW c b n r
      | .cont => loopW c b n r
      | .brk => .ok .next r
      | .ret o d => .ok (.ret o d) r) else .ok .next r
def setItemS (r : Env) (i : Nat) (k v : D) : Res Unit :=
  match slotAt r i, k with
  | .ow (.list xs), .int n => (match idxNat xs.length n with | some j => .ok () (setSlot r i (.ow (.list (setAt xs j v)))) | none => .st 61)
  | .io (.list xs), .int n => (match idxNat xs.length n with | some j => .ok () (setSlot r i (.io (.list (setAt xs j v)))) | none => .st 61)
  | .ow (.dict kvs), k => if kindOk k kvs && decide (kvs.length < szLine) then .ok () (setSlot r i (.ow (.dict (dPut k v kvs)))) else .st 62
  | .io (.dict kvs), k => if kindOk k kvs && decide (kvs.length < szLine) then .ok () (setSlot r i (.io (.dict (dPut k v kvs)))) else .st 62
  | _, _ => .st 63
/-- name += list -/
def augL (i : Nat) (o : Op) (xs ys : List D) (r : Env) : Res Flow :=
  if o = .add ∧ xs.length + ys.length ≤ szLine then (match slotAt r i with
    | .ow _ => .ok .next (setSlot r i (.ow (.list (xs ++ ys))))
    | .io _ => .ok .next (setSlot r i (.io (.list (xs ++ ys))))
    | _ => .st 68) else .st 68
def ex (X : Cx) : S → Env → Res Flow
  | .skip, r => .ok .next r
  | .seq a b, r => (ex X a r).bind fun w r => match w with
    | .next => ex X b r
    | w => .ok w r
  | .asg t e, r => (ev X e r).bind fun v r => (assignT t v r).bind fun _ r => .ok .next r
  | .par2 i j a b, r => (ev X a r).bind fun v r => (ev X b r).bind fun w r => (store i v r).bind fun _ r => (store j w r).bind fun _ r => .ok .next r
  | .par3 i j k a b c, r => (ev X a r).bind fun v r => (ev X b r).bind fun w r => (ev X c r).bind fun u r => (store i v r).bind fun _ r => (store j w r).bind fun _ r => (store k u r).bind fun _ r => .ok .next r
  | .set i ix e, r => (ev X e r).bind fun v r => if (slotAt r i).own then (evO X ix r).bind fun k r => match opdV r k with
    | some k => (setItemS r i k v.2).bind fun _ r => .ok .next r
    | none => .st 65
    else .st 65
  | .swap i x y e1 e2, r => (ev X e1 r).bind fun v r => (ev X e2 r).bind fun w r => (evO X x r).bind fun k r => match opdV r k with
    | some k => (setItemS r i k v.2).bind fun _ r => (evO X y r).bind fun k r => (match opdV r k with
      | some k => (setItemS r i k w.2).bind fun _ r => .ok .next r
      | none => .st 65)
    | none => .st 65
  | .aug i o e, r => if isSet (slotAt r i) then (evO X e r).bind fun y r => match opdV r (.ref i), opdV r y with
    | some (.int x), some (.int y) => (ofOV 67 (opSem o (.int x) (.int y)) r).bind fun v r => (store i v r).bind fun _ r => .ok .next r
    | some (.list xs), some (.list ys) => augL i o xs ys r
    | _, _ => .st 68
    else .st 68
  | .augset i ix o e, r => if isSet (slotAt r i) then (evO X ix r).bind fun k r => match opdD r (.ref i), opdV r k with
    | some x, some kd => (match idxSem x kd, keyOk kd with
      | some (.int old), true => (evO X e r).bind fun y r => (match opdV r y with
        | some (.int y) => (ofOV 69 (opSem o (.int old) (.int y)) r).bind fun v r => (setItemS r i kd v.2).bind fun _ r => .ok .next r
        | _ => .st 70)
      | _, _ => .st 71)
    | _, _ => .st 72
    else .st 72
  | .expr e, r => (ev X e r).bind fun _ r => .ok .next r
  | .ite c a b, r => (evT X c r).bind fun t r => if t then ex X a r else ex X b r
  | .for_ t it b, r => (evIt X it r).bind fun p r₀ =>
      ((loopS (fun d r => (assignT t (false, d) r).bind fun _ r => ex X b r) p.1 (p.2.foldl lockO r₀)).mapR fun r => p.2.foldl (unlockO r₀) r).bind fun w r => .ok w r
  | .while_ c b, r => loopW (evT X c) (ex X b) X.wf r
  | .ret e, r => match e with
    | .var i => (match slotAt r i with
      | .ow d => .ok (.ret true d) (setSlot r i .no)
      | _ => (useVar i r).bind fun v r => .ok (.ret v.1 v.2) r)
    | e => (ev X e r).bind fun v r => .ok (.ret v.1 v.2) r
  | .retn, r => .ok (.ret false .none) r
  | .raise k as, r => (evs X as r).bind fun ds r => .ex k ds r
  | .cont, r => .ok .cont r
  | .brk, r => .ok .brk r
  | .tryx b ks h, r => match ex X b r with
    | .ok w r => .ok w r
    | .ex k as r => if ks.contains k then ex X h r else .ex k as r
    | .st n => .st n
  | .bad n, _ => .st (2000 + n)

structure Prog where
  fn : List Fn
  glob : List D
  hand : List (Nat × List (Nat × D × Nat))
def fnAt : List Fn → Nat → Option Fn
  | [], _ => none
  | f :: _, 0 => some f
  | _ :: r, n + 1 => fnAt r n
def noSlots : Nat → List Slot
  | 0 => []
  | n + 1 => .no :: noSlots n
def handAt (k : Nat) : List (Nat × List (Nat × D × Nat)) → List (Nat × D × Nat)
  | [] => []
  | (a, h) :: r => if a = k then h else handAt k r
def Prog.cx (p : Prog) (wf : Nat) (c : Call) : Cx :=
  ⟨c, fun f => match fnAt p.fn f with | some fn => fn.io | none => [], fun g => (getAt p.glob g).getD .none, fun f => handAt f p.hand, wf⟩
def runFn (X : Cx) (fn : Fn) (ss : List Slot) : Res (Bool × D) :=
  if ss.length = fn.np then
    match ex X fn.body (ss ++ noSlots fn.more) with
    | .ok (.ret o d) r => .ok (o, d) r
    | .ok .next r => .ok (false, .none) r
    | .ok _ _ => .st 80
    | .ex k as r => .ex k as r
    | .st n => .st n
  else .st 81
def callN (p : Prog) (wf : Nat) : Nat → Call
  | 0 => fun _ _ => .st 90
  | k + 1 => fun f ss => match fnAt p.fn f with
    | some fn => runFn (p.cx wf (callN p wf k)) fn ss
    | none => .st 91
end MW
end
section
set_option Elab.async false
set_option linter.all false
set_option maxRecDepth 100000
set_option maxHeartbeats 1000000
/-! Sk1: enumerate and zip over lists and tuples in any mix. -/
namespace MW
open PySem PySem.Spec PyProof.Rows L2
/-- a list (false), a tuple (true) -/
def SqB (K : PySem.W.Frag) (t : Bool) (H : Hp) (a : PySem.Addr) (xs : List V) : Prop := match t with
  | false => SqL K H a xs
  | true => SqT K H a xs
def SatB (t : Bool) (a : PySem.Addr) (its : Array Value) (h : Heap) : Prop := match t with
  | false => h.IsList a its
  | true => h.IsTuple a its
def ItB (t : Bool) (it a : PySem.Addr) (i : Nat) (h : Heap) : Prop := match t with
  | false => h.IsListIter it a i
  | true => h.IsTupleIter it a i
def iterO (t : Bool) (a : PySem.Addr) : Obj := match t with
  | false => { cls := .type "list_iterator", data := .fields #[.ref a, .int 0 0] }
  | true => { cls := .type "tuple_iterator", data := .fields #[.ref a, .int 0 0] }
section
variable {X : L2.Cx} {pins : List (PySem.Addr × Obj)} {σ : L2.St} {H : Hp} {s : Shared} {t : Bool} {a it : PySem.Addr} {xs ys : List V} {its : Array Value} {i : Nat} {h h' : Heap}
theorem sqB_inv (I : Inv X pins σ H s) (q : SqB X.K t H a xs) : ∃ its : List Value, Vals xs its ∧ SatB t a its.toArray s.heap ∧ xs.length ≤ sizeLine := by
  cases t with
  | false =>
    obtain ⟨its, rv, p, z⟩ := I.list q
    exact ⟨its, rv, p.isList, z⟩
  | true =>
    obtain ⟨its, rv, p, z⟩ := I.tuple q
    exact ⟨its, rv, p, z⟩
theorem sqB_inj (I : Inv X pins σ H s) (q : SqB X.K t H a xs) (q' : SqB X.K t H a ys) : xs = ys := by
  cases t with
  | false => exact I.list_inj q q'
  | true => exact I.tuple_inj q q'
theorem begB (t : Bool) (a : PySem.Addr) (its : Array Value) : Begins (.ref a) (iterO t a) (SatB t a its) := by
  cases t with
  | false => exact begins_list a its
  | true => exact begins_tuple a its
theorem drB {P : Program} {w : World} {A : Around} (hh : A.handled = none) (t : Bool) (it a : PySem.Addr) (hne : a ≠ it) (its : Array Value) :
    Draws P w A it [it, a] its.size (fun i v => its[i]? = some v) (fun i h => ItB t it a i h ∧ SatB t a its h) := by
  cases t with
  | false => exact Draws.list hh it a hne its
  | true => exact Draws.tuple hh it a hne its
theorem itB_at (q : ItB t it a i h) (k : ∀ o, h.get? it = some o → h'.get? it = some o) : ItB t it a i h' := by
  cases t with
  | false => exact Heap.IsListIter.at q k
  | true => exact Heap.IsTupleIter.at q k
theorem itB_obj (q : ItB t it a i h) : ∃ o, h.get? it = some o ∧ ∀ v, o.data ≠ .cell v := by
  cases t with
  | false =>
    obtain ⟨o, e, _, d⟩ := q
    exact ⟨o, e, fun v z => by rw [d] at z; cases z⟩
  | true =>
    obtain ⟨o, e, _, d⟩ := q
    exact ⟨o, e, fun v z => by rw [d] at z; cases z⟩
theorem itB_new (q : h.get? it = some (iterO t a)) : ItB t it a 0 h := by
  cases t with
  | false => exact ⟨_, q, rfl, rfl⟩
  | true => exact ⟨_, q, rfl, rfl⟩
theorem satB_lt (q : SatB t a its h) : a < h.objs.size := by
  cases t with
  | false =>
    obtain ⟨o, e, _⟩ := q
    exact Heap.lt_size e
  | true =>
    obtain ⟨o, e, _⟩ := q
    exact Heap.lt_size e
end
/-! ### enumerate -/
def IteB (K : PySem.W.Frag) (t : Bool) (a : PySem.Addr) : L2.It :=
  ⟨fun i H => ∃ (xs : List V) (x : V), SqB K t H a xs ∧ xs[i]? = some x, fun i H v H' => ∃ T x, v = .ref T ∧ H T = none ∧ H' = upd H T (.tup [.int (i : Nat), x]) ∧ ∀ xs, SqB K t H a xs → xs[i]? = some x, fun i H => ∃ xs : List V, SqB K t H a xs ∧ xs.length = i⟩
theorem turn_enumB {P : Program} {w : World} {K : PySem.W.Frag} {elts : List Expr} {kk : Nat} {tpos : Pos} (t : Bool) (a e it : PySem.Addr) :
    Turn P w K (.Tuple elts kk tpos) (IteB K t a) [e, it] e (fun i h => (∃ old, IsEnum h e it ((i : Nat) : Int) old) ∧ ItB t it a i h ∧ e ≠ it ∧ e ≠ a ∧ a ≠ it) where
  mem := by simp
  obj := fun i h st b hb => by
    obtain ⟨⟨old, he⟩, hi, _⟩ := st
    have e' : b = e ∨ b = it := by simpa using hb
    rcases e' with z | z
    · rw [z]; exact ⟨_, he, fun v q => nomatch q⟩
    · rw [z]; exact itB_obj hi
  keep := fun i h h' st k => let ⟨⟨old, he⟩, hi, hne⟩ := st; ⟨⟨old, k e (by simp) _ he⟩, itB_at hi fun o q => k it (by simp) o q, hne⟩
  item := by
    intro X hP hw hK hc i pins s σ H E I hf st hg
    subst hP hw hK
    obtain ⟨⟨old, he⟩, hit, hne, hea, hai⟩ := st
    obtain ⟨xs, x, hq, hx⟩ := hg
    obtain ⟨its, rv, p, hz⟩ := sqB_inv I hq
    obtain ⟨u, hu, ru⟩ := rv.get hx
    have hel : e < s.heap.objs.size := Heap.lt_size he
    have hi : i < its.toArray.size := by
      have := (List.getElem?_eq_some_iff.mp hu).1
      simpa using this
    refine wpAny_pyNext_enum_itemD (drB (A := X.A.in1) (I.ok.hd hc) t it a hai its.toArray) he ⟨hit, p⟩ hi hne (by simp [hne, hea]) fun y h' tk hy ho hst hT hsz hk => ?_
    obtain ⟨hit', _⟩ := hst
    have ey : y = u := by
      have e1 : its.toArray[i]? = some u := by simpa using hu
      rw [e1] at hy
      exact (Option.some.inj hy).symm
    subst ey
    refine ⟨_, rfl, wpAny_letOwnedTupleGo_enum (s := { s with heap := h', toks := tk + 1 }) ho fun h'' he' sb => ?_⟩
    have hT2 : h''.get? s.heap.objs.size = some { cls := .type "tuple", data := .seq #[.int i tk, y] } := (sb.2 _ (Nat.ne_of_gt hel)).trans hT
    have new : ObjOk X.prog X.w (upd H s.heap.objs.size (.tup [.int (i : Nat), x])) h'' s.heap.objs.size (.tup [.int (i : Nat), x]) :=
      ⟨by show 2 ≤ sizeLine; decide, [.int i tk, y], .cons ⟨_, rfl⟩ (.cons ru .nil), ⟨_, hT2, rfl, _, rfl⟩⟩
    have I1 : Inv X pins σ (upd H s.heap.objs.size (.tup [.int (i : Nat), x])) { s with heap := h'', toks := tk + 1 } :=
      I.turnedNew (ch := [e, it]) (fun b ob hb q => (sb.2 b (fun z => hb (by simp [z]))).trans (hk b ob (fun z => hb (by simp [z])) (fun z => hb (by simp [z])) q)) hf (Nat.le_refl _) new
    refine ⟨.ref s.heap.objs.size, _, I1, rfl, ⟨_, x, rfl, I.hok.fresh (Nat.le_refl _), rfl, fun ys hy => by rw [sqB_inj I hy hq]; exact hx⟩, ⟨⟨y, ?_⟩, itB_at hit' fun o q => (sb.2 it (Ne.symm hne)).trans q, hne, hea, hai⟩, fun b hb => ?_⟩
    · have e1 : ((i + 1 : Nat) : Int) = (i : Int) + 1 := by omega
      rw [e1]; exact he'
    · have hb' : b < s.heap.objs.size := by
        have e' : b = e ∨ b = it := by simpa using hb
        rcases e' with z | z
        · rw [z]; exact hel
        · rw [z]
          obtain ⟨_, q, _⟩ := itB_obj hit
          exact Heap.lt_size q
      rw [upd_ne (Nat.ne_of_lt hb')]
      exact (hf b hb).1
  done := by
    intro X hP hw hK hc i pins s σ H E I hf st hg
    subst hP hw hK
    obtain ⟨⟨old, he⟩, hit, hne, hea, hai⟩ := st
    obtain ⟨xs, hq, hx⟩ := hg
    obtain ⟨its, rv, p, hz⟩ := sqB_inv I hq
    obtain ⟨f0, f1, f2, f3, f4, f5⟩ := hf it (by simp)
    have hl := rv.length
    have hi : its.toArray.size = i := by simp; omega
    subst hi
    exact wpAny_pyNext_enum_endD (drB (A := X.A.in1) (I.ok.hd hc) t it a hai its.toArray) he ⟨hit, p⟩ fun h' eb => ⟨rfl, I.turned (t' := s.toks) (fun b o hb q => eb b o hb q) f0 f1 f3 f4 f5⟩
  self := fun A i s Q E st h => let ⟨⟨_, he⟩, _⟩ := st; wpAny_pyIter_enum he h
theorem meets_enumB {v : Value} {o : Obj} {H : Heap → Prop} (B : Begins v o H) :
    Meets (Builtin.«enumerate.__new__» ⟨[.type "enumerate", v], []⟩) (fun _ R s => H s.heap ∧
      R (.ok (.ret (.ref (s.heap.push o).objs.size))) { s with heap := (s.heap.push o).push { cls := .type "enumerate", data := .fields #[.none, .bool false, .ref s.heap.objs.size, rawInt 0, .none, .none] } }) :=
  .of_wp fun prog w A R s h => by
    obtain ⟨hp, g, d, tk, os⟩ := s; obtain ⟨h1, h⟩ := h
    have hsub := sub_enumerate
    have q1 : ∀ {A' : Around} {E : Value → Shared → Prop} {Q : Value → Shared → Prop}, Q (.ref hp.objs.size) ⟨hp.push o, g, d, tk, os⟩ → wpAny (model prog w) A' (pyIter v) Q E ⟨hp, g, d, tk, os⟩ :=
      fun q => B.iter prog w _ _ ⟨hp, g, d, tk, os⟩ _ h1 q
    wp_walk using q1
    refine wpAny_stack_any fun st => wpAny_pure ?_
    split
    · rename_i c _ _ _ _ _
      cases (c == Value.type "enumerate")
      · wp_walk using q1
        exact ⟨_, rfl, h⟩
      · wp_walk using q1
        exact ⟨_, rfl, h⟩
    · wp_walk using q1
      exact ⟨_, rfl, h⟩
theorem call_enumB {prog : Program} {w : World} {A : Around} {E : Value → Shared → Prop} {s : Shared} {v : Value} {o : Obj} {H : Heap → Prop} {Q : Value → Shared → Prop} (B : Begins v o H) (h1 : H s.heap)
    (h : ∀ h', IsEnum h' (s.heap.objs.size + 1) s.heap.objs.size 0 .none → h'.get? s.heap.objs.size = some o → h'.objs.size = s.heap.objs.size + 2 →
      (∀ b o, s.heap.get? b = some o → h'.get? b = some o) → Q (.ref (s.heap.objs.size + 1)) { s with heap := h' }) :
    wpAny (model prog w) A (call (.type "enumerate") [v]) Q E s := by
  refine callType_new F.called_enumerate (by decide) (F.typeCall_enumerate_1 _) (F.newCall_enumerate_1 _) (fun obj => F.args_object_init_2 obj _) F.entry_enumerate_new
    (meets_enumB B) ⟨h1, ?_⟩
  have hz : (s.heap.push o).objs.size = s.heap.objs.size + 1 := Heap.size_push ..
  show _ ∧ _
  rw [hz]
  have he : IsEnum ((s.heap.push o).push { cls := .type "enumerate", data := .fields #[.none, .bool false, .ref s.heap.objs.size, rawInt 0, .none, .none] }) (s.heap.objs.size + 1) s.heap.objs.size 0 .none := by
    have := Heap.get?_push_size (s.heap.push o) (o := { cls := .type "enumerate", data := .fields #[.none, .bool false, .ref s.heap.objs.size, rawInt 0, .none, .none] }) rfl
    rw [hz] at this; exact this
  refine ⟨⟨_, he, rfl⟩, h _ he (Heap.get?_push_of_some _ (Heap.get?_push_size _ B.free)) (by rw [Heap.size_push, hz]) fun b o x => Heap.get?_push_of_some _ (Heap.get?_push_of_some _ x)⟩
def iEnumB (K : PySem.W.Frag) (ta : TA) : TI := fun σ H R => ta σ H fun vs H1 => ∃ t a xs, vs = [.ref a] ∧ SqB K t H1 a xs ∧ R (IteB K t a) H1
theorem pi_enumB {X : L2.Cx} {e : Expr} {ta : TA} {p pos tpos : Pos} {elts : List Expr} {kk : Nat} (hg : Gl X "enumerate") (hm : X.mg "enumerate" = none) (ha : PA X [e] ta) (hs : starEach [e] X.env = [(false, eval e X.env)] := by rfl) :
    PI X (.Tuple elts kk tpos) (.Call (.Name "enumerate" p) [e] [] pos) (iEnumB X.K ta) := by
  refine ⟨fun pins s σ H R I h => ?_⟩
  refine Call_ (ld_blt I hg hm boot_enumerate (PyProof.Rows.callWith_type1 (thn (ha.run pos pins s σ H _ I h) fun us s1 ⟨vs, H1, I1, r1, q1⟩ => ?_) hs rfl))
  obtain ⟨t, a, xs, ex, hq, q⟩ := q1
  subst ex
  cases r1 with
  | cons r rr =>
    cases rr
    cases r
    obtain ⟨its, rv, p', hz⟩ := sqB_inv I1 hq
    have hlt := satB_lt p'
    refine call_enumB (begB t a its.toArray) p' fun h' he hit hsz hk => wpAny_pyIter_enum he ?_
    have I2 : L2.Inv X pins σ H1 { s1 with heap := h' } := I1.kept (t' := s1.toks) hk
    refine ⟨s1.heap.objs.size + 1, [s1.heap.objs.size + 1, s1.heap.objs.size], _, _, H1, rfl, I2, turn_enumB t a (s1.heap.objs.size + 1) s1.heap.objs.size, ⟨⟨.none, he⟩, itB_new hit, Nat.succ_ne_self _, Nat.ne_of_gt (Nat.lt_succ_of_lt hlt), Nat.ne_of_lt hlt⟩, fun b hb => ?_, q⟩
    have e' : b = s1.heap.objs.size + 1 ∨ b = s1.heap.objs.size := by simpa using hb
    have hle : s1.heap.objs.size ≤ b := by
      rcases e' with z | z
      · rw [z]; exact Nat.le_add_right _ _
      · rw [z]; exact Nat.le_refl _
    exact I1.fpOk hle (I1.hok.fresh hle)
end MW
end
section
set_option Elab.async false
set_option linter.all false
set_option maxRecDepth 100000
set_option maxHeartbeats 1000000
/-! Sk2: zip of two, in any mix. -/
namespace MW
open PySem PySem.Spec PyProof.Rows L2
def ItzB (K : PySem.W.Frag) (t1 t2 : Bool) (a b : PySem.Addr) : L2.It :=
  ⟨fun i H => ∃ (xs ys : List V) (x y : V), SqB K t1 H a xs ∧ SqB K t2 H b ys ∧ xs[i]? = some x ∧ ys[i]? = some y,
    fun i H v H' => ∃ T x y, v = .ref T ∧ H T = none ∧ H' = upd H T (.tup [x, y]) ∧ (∀ xs, SqB K t1 H a xs → xs[i]? = some x) ∧ ∀ ys, SqB K t2 H b ys → ys[i]? = some y,
    fun i H => ∃ xs ys : List V, SqB K t1 H a xs ∧ SqB K t2 H b ys ∧ i ≤ xs.length ∧ i ≤ ys.length ∧ (i = xs.length ∨ i = ys.length)⟩
theorem turn_zipB {P : Program} {w : World} {K : PySem.W.Frag} {elts : List Expr} {kk : Nat} {tpos : Pos} {t1 t2 : Bool} {a b z TI TO i1 i2 : PySem.Addr} (D : ZipSep2 z TI TO i1 i2 [i1, a] [i2, b]) (n1 : a ≠ i1) (n2 : b ≠ i2) :
    Turn P w K (.Tuple elts kk tpos) (ItzB K t1 t2 a b) [z, TI, TO, i1, i2] z (fun i h => IsZip h z TI TO .none ∧ IsTupOf2 h TI (.ref i1) (.ref i2) ∧ (∃ x y, IsTupOf2 h TO x y) ∧ ItB t1 i1 a i h ∧ ItB t2 i2 b i h) where
  mem := by simp
  obj := fun i h st c hc => by
    obtain ⟨hz, hTI, ⟨x, y, hTO⟩, h1, h2⟩ := st
    have e' : c = z ∨ c = TI ∨ c = TO ∨ c = i1 ∨ c = i2 := by simpa using hc
    rcases e' with q | q | q | q | q
    · rw [q]; exact ⟨_, hz, fun v q => nomatch q⟩
    · rw [q]; exact ⟨_, hTI, fun v q => nomatch q⟩
    · rw [q]; exact ⟨_, hTO, fun v q => nomatch q⟩
    · rw [q]; exact itB_obj h1
    · rw [q]; exact itB_obj h2
  keep := fun i h h' st k => by
    obtain ⟨hz, hTI, ⟨x, y, hTO⟩, h1, h2⟩ := st
    exact ⟨k z (by simp) _ hz, k TI (by simp) _ hTI, ⟨x, y, k TO (by simp) _ hTO⟩, itB_at h1 fun o q => k i1 (by simp) o q, itB_at h2 fun o q => k i2 (by simp) o q⟩
  item := by
    intro X hP hw hK hc i pins s σ H E I hf st hg
    subst hP hw hK
    obtain ⟨hz, hTI, ⟨x0, y0, hTO⟩, h1, h2⟩ := st
    obtain ⟨xs, ys, x, y, hqx, hqy, hx, hy⟩ := hg
    obtain ⟨its, rv, p, _⟩ := sqB_inv I hqx
    obtain ⟨its2, rv2, p2, _⟩ := sqB_inv I hqy
    obtain ⟨u, hu, ru⟩ := rv.get hx
    obtain ⟨u2, hu2, ru2⟩ := rv2.get hy
    have hzl : z < s.heap.objs.size := Heap.lt_size hz
    have hi : i < its.toArray.size := by
      have := (List.getElem?_eq_some_iff.mp hu).1
      simpa using this
    have hi2 : i < its2.toArray.size := by
      have := (List.getElem?_eq_some_iff.mp hu2).1
      simpa using this
    refine wpAny_pyNext_zipD2_item D (drB (A := X.A.in1) (I.ok.hd hc) t1 i1 a n1 its.toArray) (drB (A := X.A.in1) (I.ok.hd hc) t2 i2 b n2 its2.toArray) hz hTI hTO ⟨h1, p⟩ ⟨h2, p2⟩ hi hi2 fun v1 v2 h' tk q1 q2 z' TO' s1' s2' hT hsz hk => ?_
    have e1 : v1 = u := by
      have e1 : its.toArray[i]? = some u := by simpa using hu
      rw [e1] at q1
      exact (Option.some.inj q1).symm
    have e2 : v2 = u2 := by
      have e1 : its2.toArray[i]? = some u2 := by simpa using hu2
      rw [e1] at q2
      exact (Option.some.inj q2).symm
    subst e1 e2
    refine ⟨_, rfl, wpAny_letOwnedTupleGo_zip (s := { s with heap := h', toks := tk }) z' fun h'' z'' sb => ?_⟩
    have hT2 : h''.get? s.heap.objs.size = some { cls := .type "tuple", data := .seq #[v1, v2] } := (sb.2 _ (Nat.ne_of_gt hzl)).trans hT
    have new : ObjOk X.prog X.w (upd H s.heap.objs.size (.tup [x, y])) h'' s.heap.objs.size (.tup [x, y]) :=
      ⟨by show 2 ≤ sizeLine; decide, [v1, v2], .cons ru (.cons ru2 .nil), ⟨_, hT2, rfl, _, rfl⟩⟩
    have I1 : L2.Inv X pins σ (upd H s.heap.objs.size (.tup [x, y])) { s with heap := h'', toks := tk } :=
      I.turnedNew (t' := tk) (ch := [z, TI, TO, i1, i2]) (fun c o hb q => (sb.2 c (fun q' => hb (by simp [q']))).trans (hk c o (fun q' => hb (by simp [q'])) (fun q' => hb (by simp [q'])) (fun q' => hb (by simp [q'])) (fun q' => hb (by simp [q'])) q)) hf (Nat.le_refl _) new
    refine ⟨.ref s.heap.objs.size, _, I1, rfl, ⟨_, x, y, rfl, I.hok.fresh (Nat.le_refl _), rfl, fun l hl => by rw [sqB_inj I hl hqx]; exact hx, fun l hl => by rw [sqB_inj I hl hqy]; exact hy⟩, ⟨z'', ?_, ⟨v1, v2, ?_⟩, ?_, ?_⟩, fun c hcm => ?_⟩
    · exact (sb.2 _ D.TIz).trans (hk _ _ D.TIz D.TITO D.TIi1 D.TIi2 hTI)
    · exact (sb.2 _ D.TOz).trans TO'
    · exact itB_at s1'.1 fun o q => (sb.2 _ D.zi1.symm).trans q
    · exact itB_at s2'.1 fun o q => (sb.2 _ D.zi2.symm).trans q
    · have hlt : c < s.heap.objs.size := by
        have e' : c = z ∨ c = TI ∨ c = TO ∨ c = i1 ∨ c = i2 := by simpa using hcm
        rcases e' with q | q | q | q | q
        · rw [q]; exact hzl
        · rw [q]; exact Heap.lt_size hTI
        · rw [q]; exact Heap.lt_size hTO
        · rw [q]; obtain ⟨_, e1, _⟩ := itB_obj h1; exact Heap.lt_size e1
        · rw [q]; obtain ⟨_, e1, _⟩ := itB_obj h2; exact Heap.lt_size e1
      rw [upd_ne (Nat.ne_of_lt hlt)]
      exact (hf c hcm).1
  done := by
    intro X hP hw hK hc i pins s σ H E I hf st hg
    subst hP hw hK
    obtain ⟨hz, hTI, ⟨x0, y0, hTO⟩, h1, h2⟩ := st
    obtain ⟨xs, ys, hqx, hqy, l1, l2, hend⟩ := hg
    obtain ⟨its, rv, p, _⟩ := sqB_inv I hqx
    obtain ⟨its2, rv2, p2, _⟩ := sqB_inv I hqy
    have e1 : xs.length = its.toArray.size := by rw [List.size_toArray]; exact rv.length
    have e2 : ys.length = its2.toArray.size := by rw [List.size_toArray]; exact rv2.length
    rw [e1] at l1 hend
    rw [e2] at l2 hend
    exact wpAny_pyNext_zipD2_end D (drB (A := X.A.in1) (I.ok.hd hc) t1 i1 a n1 its.toArray) (drB (A := X.A.in1) (I.ok.hd hc) t2 i2 b n2 its2.toArray) hz hTI hTO ⟨h1, p⟩ ⟨h2, p2⟩ l1 l2 hend fun h' tk hk => ⟨rfl, I.turnedL (t' := tk) (ch := [z, TI, TO, i1, i2]) (fun c o hb q =>
      hk c o (fun q' => hb (by simp [q'])) (fun q' => hb (by simp [q'])) (fun q' => hb (by simp [q'])) (fun q' => hb (by simp [q'])) q) hf⟩
  self := fun A i s Q E st h => wpAny_pyIter_zip st.1 h
theorem nin2 {x a b : Nat} (h1 : x ≠ a) (h2 : x ≠ b) : x ∉ [a, b] := fun h => by
  rcases List.mem_cons.mp h with e | h
  · exact h1 e
  · exact h2 (List.mem_singleton.mp h)
theorem sep_new {n a b : Nat} (h1 : a < n) (h2 : b < n) : ZipSep2 (n + 4) (n + 2) (n + 3) n (n + 1) [n, a] [n + 1, b] where
  TIz := by show n + 2 ≠ n + 4; omega
  TOz := by show n + 3 ≠ n + 4; omega
  TITO := by show n + 2 ≠ n + 3; omega
  TIi1 := by show n + 2 ≠ n; omega
  mem1 := by simp
  zf1 := nin2 (show (n + 4 : Nat) ≠ n by omega) (show (n + 4 : Nat) ≠ a by omega)
  Tf1 := nin2 (show (n + 3 : Nat) ≠ n by omega) (show (n + 3 : Nat) ≠ a by omega)
  TIi2 := by show n + 2 ≠ n + 1; omega
  mem2 := by simp
  zf2 := nin2 (show (n + 4 : Nat) ≠ n + 1 by omega) (show (n + 4 : Nat) ≠ b by omega)
  Tf2 := nin2 (show (n + 3 : Nat) ≠ n + 1 by omega) (show (n + 3 : Nat) ≠ b by omega)
  sep1_2 := nin2 (show (n : Nat) ≠ n + 1 by omega) (show (n : Nat) ≠ b by omega)
  sep2_1 := nin2 (show (n + 1 : Nat) ≠ n by omega) (show (n + 1 : Nat) ≠ a by omega)
def iZipB (K : PySem.W.Frag) (ta : TA) : TI := fun σ H R => ta σ H fun vs H1 => ∃ t1 t2 a b xs ys, vs = [.ref a, .ref b] ∧ SqB K t1 H1 a xs ∧ SqB K t2 H1 b ys ∧ R (ItzB K t1 t2 a b) H1
theorem pi_zipB {X : L2.Cx} {e e2 : Expr} {ta : TA} {p pos tpos : Pos} {elts : List Expr} {kk : Nat} (hg : Gl X "zip") (hm : X.mg "zip" = none) (ha : PA X [e, e2] ta)
    (hs : starEach [e, e2] X.env = (false, eval e X.env) :: starEach [e2] X.env := by rfl) (hpl : (backTo pos (starEach [e2] X.env)).any (·.1) = false := by rfl) :
    PI X (.Tuple elts kk tpos) (.Call (.Name "zip" p) [e, e2] [] pos) (iZipB X.K ta) := by
  refine ⟨fun pins s σ H R I h => ?_⟩
  refine Call_ (ld_blt I hg hm PyProof.Rows.boot_zip (PyProof.Rows.callWith_type1 (thn (ha.run pos pins s σ H _ I h) fun us s1 ⟨vs, H1, I1, r1, q1⟩ => ?_) hs hpl))
  obtain ⟨t1, t2, a, b, xs, ys, ex, hqx, hqy, q⟩ := q1
  subst ex
  cases r1 with
  | cons r rr =>
    cases rr with
    | cons r' rr =>
      cases rr
      cases r
      cases r'
      have fresh5 : ∀ c, c ∈ [s1.heap.objs.size + 4, s1.heap.objs.size + 2, s1.heap.objs.size + 3, s1.heap.objs.size, s1.heap.objs.size + 1] → FpOk X pins H1 c := fun c hcm => by
        have e' : c = s1.heap.objs.size + 4 ∨ c = s1.heap.objs.size + 2 ∨ c = s1.heap.objs.size + 3 ∨ c = s1.heap.objs.size ∨ c = s1.heap.objs.size + 1 := by simpa using hcm
        have hle : s1.heap.objs.size ≤ c := by
          rcases e' with z | z | z | z | z
          · rw [z]; exact Nat.le_add_right _ _
          · rw [z]; exact Nat.le_add_right _ _
          · rw [z]; exact Nat.le_add_right _ _
          · rw [z]; exact Nat.le_refl _
          · rw [z]; exact Nat.le_add_right _ _
        exact I1.fpOk hle (I1.hok.fresh hle)
      obtain ⟨its, rv, p1, _⟩ := sqB_inv I1 hqx
      obtain ⟨its2, rv2, p2, _⟩ := sqB_inv I1 hqy
      have l1 := satB_lt p1
      have l2 := satB_lt p2
      refine zip_begins2 (begB t1 a its.toArray) (begB t2 b its2.toArray) p1 p2 fun h' hz hTI hTO g1 g2 hsz hk => wpAny_pyIter_zip hz ?_
      have I2 : L2.Inv X pins σ H1 { s1 with heap := h' } := I1.kept (t' := s1.toks) hk
      exact ⟨s1.heap.objs.size + 4, [s1.heap.objs.size + 4, s1.heap.objs.size + 2, s1.heap.objs.size + 3, s1.heap.objs.size, s1.heap.objs.size + 1], _, _, H1, rfl, I2, turn_zipB (sep_new l1 l2) (Nat.ne_of_lt l1) (Nat.ne_of_lt (Nat.lt_succ_of_lt l2)), ⟨hz, hTI, ⟨_, _, hTO⟩, itB_new g1, itB_new g2⟩, fresh5, q⟩
end MW
end
section
set_option Elab.async false
set_option linter.all false
set_option maxRecDepth 100000
set_option maxHeartbeats 1000000
/-! Sk3: any, all, sum, min, max of a list or a tuple. -/
namespace MW
open PySem PySem.Spec PyProof.Rows L2
theorem wkB {P : Program} {w : World} {A : Around} (hh : A.handled = none) (t : Bool) (it a : PySem.Addr) (hne : a ≠ it) (its : Array Value) :
    Walks P w A it [it, a] [it] its.size (fun i v => its[i]? = some v) (fun i h => ItB t it a i h ∧ SatB t a its h) := by
  cases t with
  | false => exact Walks.list hh it a hne its
  | true => exact Walks.tuple hh it a hne its
theorem itB_free (t : Bool) (a : PySem.Addr) : (iterO t a).isFreed = false := by cases t <;> rfl
theorem satB_push {t : Bool} {a : PySem.Addr} {its : Array Value} {h : Heap} {o : Obj} (q : SatB t a its h) : SatB t a its (h.push o) := by
  cases t with
  | false => exact Heap.IsList.push q _
  | true => exact Heap.IsTuple.at q fun o e => Heap.get?_push_of_some _ e
theorem iter_B {prog : Program} {w : World} {A : Around} {E : Value → Shared → Prop} {s : Shared} {t : Bool} {a : PySem.Addr} {its : Array Value} {Q : Value → Shared → Prop} (hl : SatB t a its s.heap)
    (h : ∀ s₂ : Shared, s₂ = { s with heap := s.heap.push (iterO t a) } → (ItB t s.heap.objs.size a 0 s₂.heap ∧ SatB t a its s₂.heap) → (∀ b ∈ [s.heap.objs.size, a], b < s₂.heap.objs.size) → a ≠ s.heap.objs.size → Q (.ref s.heap.objs.size) s₂) : wpAny (model prog w) A (pyIter (.ref a)) Q E s := by
  have hlt := satB_lt hl
  refine (begB t a its).iter prog w A E s Q hl (h _ rfl ⟨itB_new (Heap.get?_push_size _ (itB_free t a)), satB_push hl⟩ (fun b hb => ?_) (Nat.ne_of_lt hlt))
  show b < (s.heap.push _).objs.size
  rw [Heap.size_push]
  rcases List.mem_cons.mp hb with e | hb
  · rw [e]; exact Nat.lt_succ_self _
  · rw [List.mem_singleton.mp hb]; exact Nat.lt_succ_of_lt hlt
theorem keptB {s : Shared} {o : Obj} {h' : Heap} (hk : ∀ b o', b ∉ [s.heap.objs.size] → (s.heap.push o).get? b = some o' → h'.get? b = some o') :
    ∀ b o', s.heap.get? b = some o' → h'.get? b = some o' := fun b o' e => by
  refine hk b o' (fun hm => ?_) (Heap.get?_push_of_some _ e)
  rcases List.mem_cons.mp hm with e1 | hm
  · exact absurd (e1 ▸ Heap.lt_size e) (Nat.lt_irrefl _)
  · cases hm
/-- what is tested: truths and ints -/
inductive TV where
  | b (b : Bool) | i (i : Int)
def TV.v : TV → V
  | .b x => .bl x
  | .i n => .int n
def TV.t : TV → Bool
  | .b x => x
  | .i n => n != 0
theorem truth_tv {prog : Program} {w : World} {A : Around} {ts : List TV} {its : List Value} (e : Vals (ts.map TV.v) its) :
    TruthOf prog w A (fun i v => its.toArray[i]? = some v) (fun i => (ts.map TV.t).getD i false) := fun i v s Q E hv hq => by
  have hv' : its[i]? = some v := by simpa using hv
  have hlen := e.length
  have hi : i < its.length := (List.getElem?_eq_some_iff.mp hv').1
  rw [List.length_map] at hlen
  have hi2 : i < ts.length := by omega
  have hx : (ts.map TV.v)[i]? = some (ts[i].v) := by rw [List.getElem?_map, List.getElem?_eq_getElem hi2]; rfl
  obtain ⟨u, hu, ru⟩ := e.get hx
  rw [hv'] at hu
  cases hu
  have hg : (ts.map TV.t).getD i false = ts[i].t := by rw [List.getD_eq_getElem?_getD, List.getElem?_map, List.getElem?_eq_getElem hi2]; rfl
  have hq' : Q ((ts.map TV.t).getD i false) s := hq
  rw [hg] at hq'
  generalize ts[i] = y at ru hq'
  cases y with
  | b b =>
    obtain rfl : v = Value.bool b := ru
    exact wpAny_truthy_bool hq'
  | i n =>
    obtain ⟨tk, rfl⟩ := ru
    exact PySem.P.truthy_int hq'
section
variable {X : L2.Cx}
def rAnyB (K : PySem.W.Frag) : List V → Hp → VK → Prop := fun vs H Q => ∃ (t : Bool) (a : PySem.Addr) (ts : List TV), vs = [V.ref a] ∧ SqB K t H a (ts.map TV.v) ∧ Q (.bl ((ts.map TV.t).any id)) H
def rAllB (K : PySem.W.Frag) : List V → Hp → VK → Prop := fun vs H Q => ∃ (t : Bool) (a : PySem.Addr) (ts : List TV), vs = [V.ref a] ∧ SqB K t H a (ts.map TV.v) ∧ Q (.bl ((ts.map TV.t).all id)) H
theorem cr_anyB (hc : X.calm = true) : CallR X (.builtin "any") (rAnyB X.K) := by
  intro pins s σ H vs us Q I r h
  obtain ⟨t, a, ts, rfl, hs, q⟩ := h
  obtain ⟨its, rv, hl, _⟩ := sqB_inv I hs
  rw [Vals.ref1 r]
  refine call_any_walk (iter_B hl fun s₂ e2 st _ hne => ?_)
  subst e2
  refine ⟨_, _, _, _, _, _, _, rfl, wkB (A := X.A.in1) (I.ok.hd hc) t _ a hne its.toArray, st, truth_tv rv, fun h' tk hk => ?_⟩
  refine ⟨.bl _, H, I.kept (keptB hk), ?_, q⟩
  show Value.bool _ = Value.bool _
  have e := rv.length
  rw [← L2.any_range, List.length_map, List.size_toArray, ← e, List.length_map]
theorem cr_allB (hc : X.calm = true) : CallR X (.builtin "all") (rAllB X.K) := by
  intro pins s σ H vs us Q I r h
  obtain ⟨t, a, ts, rfl, hs, q⟩ := h
  obtain ⟨its, rv, hl, _⟩ := sqB_inv I hs
  rw [Vals.ref1 r]
  refine call_all_walk (iter_B hl fun s₂ e2 st _ hne => ?_)
  subst e2
  refine ⟨_, _, _, _, _, _, _, rfl, wkB (A := X.A.in1) (I.ok.hd hc) t _ a hne its.toArray, st, truth_tv rv, fun h' tk hk => ?_⟩
  refine ⟨.bl _, H, I.kept (keptB hk), ?_, q⟩
  show Value.bool _ = Value.bool _
  have e := rv.length
  rw [← L2.all_range, List.length_map, List.size_toArray, ← e, List.length_map]
theorem ints_at {ns : List Int} {its : List Value} (e : Vals (ns.map V.int) its) {i : Nat} {v : Value} (hv : its.toArray[i]? = some v) : ∃ t, v = .int (ns.getD i 0) t := by
  have hv' : its[i]? = some v := by simpa using hv
  have hlen := e.length
  have hi : i < its.length := (List.getElem?_eq_some_iff.mp hv').1
  rw [List.length_map] at hlen
  have hi2 : i < ns.length := by omega
  have hx : (ns.map V.int)[i]? = some (V.int ns[i]) := by rw [List.getElem?_map, List.getElem?_eq_getElem hi2]; rfl
  obtain ⟨u, hu, ru⟩ := e.get hx
  rw [hv'] at hu
  cases hu
  obtain ⟨tk, rfl⟩ := ru
  exact ⟨tk, by rw [List.getD_eq_getElem?_getD, List.getElem?_eq_getElem hi2]; rfl⟩
theorem preSum_getD : ∀ (ns : List Int) (k : Nat), preSum (fun i => ns.getD i 0) k = (ns.take k).sum
  | ns, 0 => by simp [preSum]
  | ns, k + 1 => by
    show preSum (fun i => ns.getD i 0) k + ns.getD k 0 = _
    rw [preSum_getD ns k]
    by_cases h : k < ns.length
    · rw [List.take_succ_eq_append_getElem h, List.sum_append, List.getD_eq_getElem?_getD, List.getElem?_eq_getElem h]
      simp
    · rw [List.getD_eq_getElem?_getD, List.getElem?_eq_none (by omega), List.take_of_length_le (by omega), List.take_of_length_le (by omega)]
      simp
def rSumB (K : PySem.W.Frag) : List V → Hp → VK → Prop := fun vs H Q => ∃ (t : Bool) (a : PySem.Addr) (ns : List Int), vs = [V.ref a] ∧ SqB K t H a (ns.map V.int) ∧ Q (.int ns.sum) H
theorem cr_sumB (hc : X.calm = true) : CallR X (.builtin "sum") (rSumB X.K) := by
  intro pins s σ H vs us Q I r h
  obtain ⟨t, a, ns, rfl, hs, q⟩ := h
  obtain ⟨its, rv, hl, _⟩ := sqB_inv I hs
  rw [Vals.ref1 r]
  refine call_sum_walkG (iter_B hl fun s₂ e2 st hfp hne => ?_)
  subst e2
  refine ⟨_, _, _, _, _, _, fun i => ns.getD i 0, rfl, wkB (A := X.A.in1) (I.ok.hd hc) t _ a hne its.toArray, st, hfp, fun i v hv => ints_at rv hv, fun h' tk t' hk => ?_⟩
  refine ⟨.int _, H, I.kept (keptB hk), ⟨t', ?_⟩, q⟩
  have e := rv.length
  rw [List.length_map] at e
  rw [preSum_getD, List.size_toArray, ← e, List.take_of_length_le (Nat.le_refl _)]
theorem getD_in {ns : List Int} {i : Nat} (h : i < ns.length) : ns.getD i 0 ∈ ns := by
  rw [List.getD_eq_getElem?_getD, List.getElem?_eq_getElem h]
  exact List.getElem_mem h
def rMinB (K : PySem.W.Frag) : List V → Hp → VK → Prop := fun vs H Q => ∃ (t : Bool) (a : PySem.Addr) (ns : List Int), vs = [V.ref a] ∧ SqB K t H a (ns.map V.int) ∧ 0 < ns.length ∧ ∀ m, m ∈ ns → (∀ y, y ∈ ns → m ≤ y) → Q (.int m) H
def rMaxB (K : PySem.W.Frag) : List V → Hp → VK → Prop := fun vs H Q => ∃ (t : Bool) (a : PySem.Addr) (ns : List Int), vs = [V.ref a] ∧ SqB K t H a (ns.map V.int) ∧ 0 < ns.length ∧ ∀ m, m ∈ ns → (∀ y, y ∈ ns → y ≤ m) → Q (.int m) H
theorem cr_minB (hc : X.calm = true) : CallR X (.builtin "min") (rMinB X.K) := by
  intro pins s σ H vs us Q I r h
  obtain ⟨t, a, ns, rfl, hs, hn, q⟩ := h
  obtain ⟨its, rv, hl, _⟩ := sqB_inv I hs
  rw [Vals.ref1 r]
  have e := rv.length
  rw [List.length_map] at e
  refine call_min_walk (iter_B hl fun s₂ e2 st hfp hne => ?_)
  subst e2
  refine ⟨_, _, _, _, _, _, _, rfl, wkB (A := X.A.in1) (I.ok.hd hc) t _ a hne its.toArray, st, hfp, by rw [List.size_toArray]; omega, CmpOf.ints_lt (fun i => ns.getD i 0) (fun i v hv => ints_at rv hv), fun v h' tk hP hk => ?_⟩
  obtain ⟨tk2, rfl⟩ := ints_at rv hP
  obtain ⟨h1, h2⟩ := argBest_lt (fun i => ns.getD i 0) (its.toArray.size - 1)
  rw [List.size_toArray] at h1 h2
  refine ⟨.int _, H, I.kept (keptB hk), ⟨tk2, rfl⟩, q _ (getD_in ?_) fun y hy => ?_⟩
  · rw [List.size_toArray]; omega
  · obtain ⟨j, hj, rfl⟩ := mem_getD hy
    rw [List.size_toArray]
    exact h2 j (by omega)
theorem cr_maxB (hc : X.calm = true) : CallR X (.builtin "max") (rMaxB X.K) := by
  intro pins s σ H vs us Q I r h
  obtain ⟨t, a, ns, rfl, hs, hn, q⟩ := h
  obtain ⟨its, rv, hl, _⟩ := sqB_inv I hs
  rw [Vals.ref1 r]
  have e := rv.length
  rw [List.length_map] at e
  refine call_max_walk (iter_B hl fun s₂ e2 st hfp hne => ?_)
  subst e2
  refine ⟨_, _, _, _, _, _, _, rfl, wkB (A := X.A.in1) (I.ok.hd hc) t _ a hne its.toArray, st, hfp, by rw [List.size_toArray]; omega, CmpOf.ints_gt (fun i => ns.getD i 0) (fun i v hv => ints_at rv hv), fun v h' tk hP hk => ?_⟩
  obtain ⟨tk2, rfl⟩ := ints_at rv hP
  obtain ⟨h1, h2⟩ := argBest_gt (fun i => ns.getD i 0) (its.toArray.size - 1)
  rw [List.size_toArray] at h1 h2
  refine ⟨.int _, H, I.kept (keptB hk), ⟨tk2, rfl⟩, q _ (getD_in ?_) fun y hy => ?_⟩
  · rw [List.size_toArray]; omega
  · obtain ⟨j, hj, rfl⟩ := mem_getD hy
    rw [List.size_toArray]
    exact h2 j (by omega)
end
end MW
end
section
set_option Elab.async false
set_option linter.all false
set_option maxRecDepth 100000
set_option maxHeartbeats 1000000
/-! Sk4: t[::-1] of a tuple. -/
namespace HT
open PySem PySem.Spec PyProof.Rows
section
variable {prog : Program} {w : World} {A : Around} {E : Value → Shared → Prop} {s : Shared}
theorem adjust_rev (n : Nat) : Builtin.Slice.sliceAdjust none none (-1) (n : Int) = ((n : Int) - 1, -1) := by
  unfold Builtin.Slice.sliceAdjust
  have h1 : ((-1 : Int) < 0) := by decide
  simp only [h1, if_true]
theorem places_rev (n : Nat) : Builtin.Slice.slicePlaces ((n : Int) - 1) (-1) (-1) = n := by
  unfold Builtin.Slice.slicePlaces
  have h1 : ¬ ((-1 : Int) > 0) := by decide
  simp only [h1, if_false]
  split
  · rw [show (- -1 : Int) = 1 by decide, Int.ediv_one]
    omega
  · omega
theorem sliceApplied_rev {sl : PySem.Addr} {vl vu vs : Value} {n : Nat} {Q : Int × Int × Nat → Shared → Prop} (hs : s.heap.IsSliceOf sl vl vu vs) (pl : IsPart vl none) (pu : IsPart vu none) (ps : IsPart vs (some (-1)))
    (h : Q ((n : Int) - 1, -1, n) s) : wpAny (model prog w) A (Builtin.Slice.sliceApplied (.ref sl) (pure (n : Int))) Q E s := by
  obtain ⟨os, hos, hcs, hds⟩ := id hs
  unfold Builtin.Slice.sliceApplied Builtin.Slice.sliceFields
  refine wpAny_bind (wpAny_bind (wpAny_field hos hds (x := vl) rfl (wpAny_bind (wpAny_field hos hds (x := vu) rfl (wpAny_bind (wpAny_field hos hds (x := vs) rfl (wpAny_pure ?_)))))))
  refine wpAny_bind (slicePart_ ps ?_)
  show wpAny _ _ (if ((-1 : Int) == 0) = true then _ else _) _ _ s
  rw [if_neg (by decide)]
  refine wpAny_bind (slicePart_ pl (wpAny_bind (slicePart_ pu (wpAny_bind (wpAny_pure ?_)))))
  show wpAny _ _ (match Builtin.Slice.sliceAdjust none none (-1) (n : Int) with | (lo, hi) => pure (lo, (-1 : Int), Builtin.Slice.slicePlaces lo hi (-1))) _ _ s
  rw [adjust_rev n]
  show wpAny _ _ (pure ((n : Int) - 1, (-1 : Int), Builtin.Slice.slicePlaces ((n : Int) - 1) (-1) (-1))) _ _ s
  rw [places_rev]
  exact wpAny_pure h
theorem fm_congr {α β : Type} {f g : α → Option β} : ∀ {l : List α}, (∀ x ∈ l, f x = g x) → l.filterMap f = l.filterMap g
  | [], _ => rfl
  | a :: l, h => by
    have e := fm_congr (l := l) (fun x m => h x (List.mem_cons_of_mem _ m))
    rw [List.filterMap_cons, List.filterMap_cons, h a List.mem_cons_self, e]
theorem pick_rev (xs : Array Value) : ((List.range xs.size).filterMap fun (m : Nat) => xs[((xs.size : Int) - 1 + (m : Int) * (-1)).toNat]?).toArray = xs.toList.reverse.toArray := by
  rw [← PySem.W.krv_all xs, ← List.filterMap_reverse, ← PySem.W.krv_range, List.filterMap_map]
  congr 1
  refine fm_congr fun m hm => ?_
  have := List.mem_range.mp hm
  have e : ((xs.size : Int) - 1 + (m : Int) * (-1)).toNat = xs.size - 1 - m := by omega
  rw [e]
  rfl
theorem getItem_tuple_rev {t sl : PySem.Addr} {items : Array Value} {vl vu vs : Value} {Q : Value → Shared → Prop} (ht : IsTup s.heap t items) (hs : s.heap.IsSliceOf sl vl vu vs) (pl : IsPart vl none) (pu : IsPart vu none) (ps : IsPart vs (some (-1)))
    (h : Q (.ref s.heap.objs.size) { s with heap := s.heap.push { cls := .type "tuple", data := .seq items.toList.reverse.toArray } })
    (hsz : items.size ≤ sizeLine) : wpAny (model prog w) A (getItem (.ref t) (.ref sl)) Q E s := by
  have htake : sizeOk (.seq items.toList.reverse.toArray) := by
    show items.toList.reverse.toArray.size ≤ sizeLine
    rw [List.size_toArray, List.length_reverse, Array.length_toList]
    exact hsz
  obtain ⟨os, hos, hcs, hds⟩ := id hs
  have hTs : s.TypeIs (.ref sl) "slice" := ⟨os, hos, hcs⟩
  unfold getItem
  try with_reducible refine wpAny_holding ?_
  first | refine wpAny_bind (wpAny_pure ?_) | skip
  refine wpAny_bind (wpAny_sequenceKey ht.typeIs (by decide) ?_)
  refine wpAny_bind (wpAny_callSpecial?_slot (name := Str.ofString "__getitem__") ht.typeIs PyProof.Rows.slot_tuple_getitem
    (wpAny_call_entry PyProof.Rows.slot_tuple_getitem ht.typeIs entry_tuple_getitem ?_ (args_tuple_getitem _ _)))
  show wpAny _ _ (Builtin.Tuple.tupleItemsOf (.ref t) >>= _) _ _ s
  refine wpAny_bind (tupleItemsOf_ ht ?_)
  refine wpAny_bind (wpAny_typeOf hTs ?_)
  rw [if_pos (by decide)]
  refine wpAny_bind (sliceApplied_rev hs pl pu ps ?_)
  have hno : ¬ ((((items.size : Int) - 1) == 0 && (-1 : Int) == 1 && items.size == items.size) = true) := by
    intro q
    rw [Bool.and_eq_true, Bool.and_eq_true] at q
    exact absurd q.1.2 (by decide)
  show wpAny _ _ (if (((items.size : Int) - 1) == 0 && (-1 : Int) == 1 && items.size == items.size) = true then _ else _) _ _ s
  rw [if_neg hno, pick_rev]
  first
    | exact wpAny_bind (m := Builtin.Tuple.tupleExact _) (wpAny_newObj_type (wpAny_pure ⟨_, rfl, wpAny_pure h⟩) htake)
    | exact wpAny_bind (m := Builtin.Tuple.tupleExact _) (wpAny_newObj_type (wpAny_bind (wpAny_pure (wpAny_pure ⟨_, rfl, wpAny_pure h⟩))) htake)
    | exact wpAny_bind (wpAny_bind (m := Builtin.Tuple.tupleExact _) (wpAny_newObj_type (wpAny_pure (wpAny_pure ⟨_, rfl, wpAny_pure h⟩)) htake))
    | exact wpAny_bind (wpAny_bind (m := Builtin.Tuple.tupleExact _) (wpAny_newObj_type (wpAny_pure ⟨_, rfl, wpAny_pure h⟩) htake))
end
end HT
namespace MW
open PySem PySem.Spec PyProof.Rows L2
/-- e[::-1] of a list or a tuple -/
def tRevB (K : PySem.W.Frag) (te : TE) : TE := fun σ H Q => te σ H fun x H1 => ∃ (t : Bool) (a : PySem.Addr) (xs : List V), x = .ref a ∧ SqB K t H1 a xs ∧ ∀ p, H1 p = none → Q (.ref p) (upd H1 p (match t with | false => .lst xs.reverse | true => .tup xs.reverse))
theorem pe_revB {X : L2.Cx} {e : Expr} {te : TE} {k : Nat} {p1 p2 p3 pos : Pos} (he : PE X e te) : PE X (.Subscript e (.Slice none none (some (.UnaryOp .USub (.Constant (.int 1) k p1) p2)) p3) pos) (tRevB X.K te) := by
  refine ⟨fun pins s σ H Q I h => ?_⟩
  refine Subscript_ (thn (he.run pins s σ H _ I h) fun v s1 ⟨x, H1, I1, r1, q1⟩ => ?_)
  obtain ⟨t, a, xs, ex, hx, q⟩ := q1
  subst ex
  cases r1
  have hst : PO X (some (.UnaryOp .USub (.Constant (.int 1) k p1) p2)) (tPart (tUn (rU fun i => .int (-i)) (tC (.int 1)))) := po_some (pe_un un_neg pe_int)
  refine wpAny_Slice (thn (po_none.run pins s1 σ H1 (fun o H2 => o = none ∧ H2 = H1) I1 ⟨rfl, rfl⟩) fun vl s2 ⟨l, H2, I2, pl, el, e2⟩ => ?_)
  subst el e2
  refine thn (po_none.run pins s2 σ H2 (fun o H3 => o = none ∧ H3 = H2) I2 ⟨rfl, rfl⟩) fun vu s3 ⟨u, H3, I3, pu, eu, e3⟩ => ?_
  subst eu e3
  refine thn (hst.run pins s3 σ H3 (fun o H4 => o = some (-1) ∧ H4 = H3) I3 ⟨1, rfl, -1, rfl, rfl, rfl⟩) fun vs s4 ⟨o, H4, I4, ps, eo, e4⟩ => ?_
  subst eo e4
  have I5 : L2.Inv X pins σ H4 { s4 with heap := s4.heap.push { cls := .type "slice", data := .fields #[vl, vu, vs] } } := I4.kept (t' := s4.toks) fun b ob q => Heap.get?_push_of_some _ q
  show wpAny (model X.prog X.w) X.A (subscriptTail e (.Slice none none (some (.UnaryOp .USub (.Constant (.int 1) k p1) p2)) p3) (.ref a) (.ref s4.heap.objs.size)) (EP X pins σ Q) X.xe { s4 with heap := s4.heap.push { cls := .type "slice", data := .fields #[vl, vu, vs] } }
  cases t with
  | false =>
    obtain ⟨its, r, ht, hz⟩ := I5.list hx
    have hlen := r.length
    refine tail_any (ops := [.ref a, .ref s4.heap.objs.size]) ht.isList.typeIs (PySem.slot_list_getitem.lookup) ?_ (by with_unfolding_all rfl)
    refine wpAny_getItem_list_slice ht.isList (Heap.IsSliceOf.new _ vl vu vs) pl pu ps (by decide) ?_ (by rw [List.size_toArray]; omega)
    rw [PySem.W.krv_pick]
    refine ⟨.ref _, _, I5.laid (t' := s4.toks) (o := .lst xs.reverse) (fun b ob q => Heap.get?_push_of_some _ q) (Nat.le_refl _) ?_, rfl, q _ (I5.hok.fresh (Nat.le_refl _))⟩
    exact ⟨by rw [List.length_reverse]; exact hz, _, 0, r.reverse, Heap.get?_push_size _ rfl⟩
  | true =>
    obtain ⟨its, r, ht, hz⟩ := I5.tuple hx
    have hlen := r.length
    refine tail_any (ops := [.ref a, .ref s4.heap.objs.size]) ht.typeIs (PyProof.Rows.slot_tuple_getitem.lookup) ?_ (by with_unfolding_all rfl)
    refine HT.getItem_tuple_rev ht (Heap.IsSliceOf.new _ vl vu vs) pl pu ps ?_ (by rw [List.size_toArray]; omega)
    refine ⟨.ref _, _, I5.laid (t' := s4.toks) (o := .tup xs.reverse) (fun b ob q => Heap.get?_push_of_some _ q) (Nat.le_refl _) ?_, rfl, q _ (I5.hok.fresh (Nat.le_refl _))⟩
    exact ⟨by rw [List.length_reverse]; exact hz, _, r.reverse, IsTup.new _ _⟩
end MW
end
section
set_option Elab.async false
set_option linter.all false
set_option maxRecDepth 100000
set_option maxHeartbeats 1000000
/-! So1: what stands for plain data: frozen and owned objects; states; steps between states. -/
namespace MW
open PySem
open L2 (V Hp HO St upd upd_same upd_ne SqL SqT Rd Vals RelV Key kV ne_of_none VK XK TE TT TA TS Ends PE PT PA PS PSs)

abbrev Ad := PySem.Addr
abbrev ZS := Ad → Prop
abbrev Fg := PySem.W.Frag

theorem szLine_eq : szLine = sizeLine := by rw [sizeLine_eq]; rfl

def isTbl : HO → Prop
  | .tbl _ => True
  | _ => False
def kD : Key → D
  | .inl i => .int i
  | .inr s => .str s
/-- a tuple of the written part -/
def KT (K : Fg) (a : Ad) (xs : List V) : Prop :=
  ∃ (o : Obj) (its : Array Value) (n : Nat), K.lookup a = some o ∧ o.cls = .type "tuple" ∧ o.data = .seq its n ∧ its.size ≤ sizeLine ∧ Vals xs its.toList
def AtL (Z : ZS) (H : Hp) (a : Ad) (xs : List V) : Prop := (Z a ∧ Rd H a (.lst xs)) ∧ xs.length ≤ szLine
def AtT (Z : ZS) (H : Hp) (a : Ad) (xs : List V) : Prop := (Z a ∧ H a = some (.tup xs)) ∧ xs.length ≤ szLine

mutual
/-- v stands for d, by frozen objects -/
def Fz (K : Fg) (Z : ZS) (H : Hp) : D → V → Prop
  | .none, v => v = .non
  | .bool b, v => v = .bl b
  | .int i, v => v = .int i
  | .str s, v => v = .str s ∧ s.length ≤ szLine
  | .list ds, v => ∃ a xs, v = .ref a ∧ AtL Z H a xs ∧ FzL K Z H ds xs
  | .tuple ds, v => ∃ a xs, v = .ref a ∧ AtT Z H a xs ∧ FzL K Z H ds xs
  | .dict kvs, v => ∃ a, v = .ref a ∧ Z a ∧ ((∃ ys, H a = some (.dK ys) ∧ FzK K Z H kvs ys) ∨ (∃ ys, H a = some (.dT ys) ∧ FzT K Z H kvs ys) ∨ FzR K Z H kvs a)
/-- a tuple whose object is known -/
def FzR (K : Fg) (Z : ZS) (H : Hp) : List (D × D) → Ad → Prop
  | [], _ => False
  | (k, d) :: r, a => k = .none ∧ r = [] ∧ FzU K Z H d a
def FzU (K : Fg) (Z : ZS) (H : Hp) : D → Ad → Prop
  | .tuple ds, a => ∃ xs o, H a = some (.frz o (.tup xs)) ∧ o.cls = .type "tuple" ∧ o.dict = none ∧ xs.length ≤ szLine ∧ FzL K Z H ds xs
  | _, _ => False
def FzL (K : Fg) (Z : ZS) (H : Hp) : List D → List V → Prop
  | [], xs => xs = []
  | d :: ds, xs => ∃ x r, xs = x :: r ∧ Fz K Z H d x ∧ FzL K Z H ds r
def FzK (K : Fg) (Z : ZS) (H : Hp) : List (D × D) → List (Key × V) → Prop
  | [], ys => ys = []
  | (k, d) :: r, ys => ∃ q x t, ys = (q, x) :: t ∧ kD q = k ∧ Fz K Z H d x ∧ FzK K Z H r t
def FzT (K : Fg) (Z : ZS) (H : Hp) : List (D × D) → List (List Key × V) → Prop
  | [], ys => ys = []
  | (k, d) :: r, ys => ∃ q x t, ys = (q, x) :: t ∧ .tuple (q.map kD) = k ∧ Fz K Z H d x ∧ FzT K Z H r t
end
section
variable {K : Fg} {Z Z' : ZS} {H H' : Hp}
mutual
theorem Fz.keep (hz : ∀ a, Z a → Z' a) (hh : ∀ a, Z a → H' a = H a) : ∀ (d : D) (v : V), Fz K Z H d v → Fz K Z' H' d v
  | .none, _, h => h
  | .bool _, _, h => h
  | .int _, _, h => h
  | .str _, _, h => h
  | .list ds, v, h => by
    obtain ⟨a, xs, e, ⟨⟨z, r⟩, l⟩, f⟩ := h
    refine ⟨a, xs, e, ⟨⟨hz a z, ?_⟩, l⟩, FzL.keep hz hh ds xs f⟩
    rcases r with r | ⟨o, r⟩
    · exact .inl ((hh a z).trans r)
    · exact .inr ⟨o, (hh a z).trans r⟩
  | .tuple ds, v, h => by
    obtain ⟨a, xs, e, ⟨⟨z, r⟩, l⟩, f⟩ := h
    exact ⟨a, xs, e, ⟨⟨hz a z, (hh a z).trans r⟩, l⟩, FzL.keep hz hh ds xs f⟩
  | .dict kvs, v, h => by
    obtain ⟨a, e, z, r⟩ := h
    refine ⟨a, e, hz a z, ?_⟩
    rcases r with ⟨ys, r, f⟩ | ⟨ys, r, f⟩ | f
    · exact .inl ⟨ys, (hh a z).trans r, FzK.keep hz hh kvs ys f⟩
    · exact .inr (.inl ⟨ys, (hh a z).trans r, FzT.keep hz hh kvs ys f⟩)
    · exact .inr (.inr (FzR.keep hz hh kvs a z f))
theorem FzR.keep (hz : ∀ a, Z a → Z' a) (hh : ∀ a, Z a → H' a = H a) : ∀ (kvs : List (D × D)) (a : Ad), Z a → FzR K Z H kvs a → FzR K Z' H' kvs a
  | [], _, _, h => h
  | (k, d) :: r, a, z, h => by
    obtain ⟨e1, e2, f⟩ := h
    exact ⟨e1, e2, FzU.keep hz hh d a z f⟩
theorem FzU.keep (hz : ∀ a, Z a → Z' a) (hh : ∀ a, Z a → H' a = H a) : ∀ (d : D) (a : Ad), Z a → FzU K Z H d a → FzU K Z' H' d a
  | .tuple ds, a, z, h => by
    obtain ⟨xs, o, e, c, dn, l, f⟩ := h
    exact ⟨xs, o, (hh a z).trans e, c, dn, l, FzL.keep hz hh ds xs f⟩
  | .none, _, _, h => h.elim
  | .bool _, _, _, h => h.elim
  | .int _, _, _, h => h.elim
  | .str _, _, _, h => h.elim
  | .list _, _, _, h => h.elim
  | .dict _, _, _, h => h.elim
theorem FzL.keep (hz : ∀ a, Z a → Z' a) (hh : ∀ a, Z a → H' a = H a) : ∀ (ds : List D) (xs : List V), FzL K Z H ds xs → FzL K Z' H' ds xs
  | [], _, h => h
  | d :: ds, xs, h => by
    obtain ⟨x, r, e, f, g⟩ := h
    exact ⟨x, r, e, Fz.keep hz hh d x f, FzL.keep hz hh ds r g⟩
theorem FzK.keep (hz : ∀ a, Z a → Z' a) (hh : ∀ a, Z a → H' a = H a) : ∀ (ds : List (D × D)) (xs : List (Key × V)), FzK K Z H ds xs → FzK K Z' H' ds xs
  | [], _, h => h
  | (k, d) :: ds, xs, h => by
    obtain ⟨q, x, r, e, ek, f, g⟩ := h
    exact ⟨q, x, r, e, ek, Fz.keep hz hh d x f, FzK.keep hz hh ds r g⟩
theorem FzT.keep (hz : ∀ a, Z a → Z' a) (hh : ∀ a, Z a → H' a = H a) : ∀ (ds : List (D × D)) (xs : List (List Key × V)), FzT K Z H ds xs → FzT K Z' H' ds xs
  | [], _, h => h
  | (k, d) :: ds, xs, h => by
    obtain ⟨q, x, r, e, ek, f, g⟩ := h
    exact ⟨q, x, r, e, ek, Fz.keep hz hh d x f, FzT.keep hz hh ds r g⟩
end
theorem FzL.len : ∀ {ds : List D} {xs : List V}, FzL K Z H ds xs → xs.length = ds.length
  | [], _, h => by
    have e : _ = [] := h
    rw [e]
    rfl
  | d :: ds, _, h => by
    obtain ⟨x, r, e, _, g⟩ := h
    rw [e, List.length_cons, List.length_cons, FzL.len g]
theorem FzL.app : ∀ {ds es : List D} {xs ys : List V}, FzL K Z H ds xs → FzL K Z H es ys → FzL K Z H (ds ++ es) (xs ++ ys)
  | [], _, _, _, h, g => by
    have e : _ = [] := h
    rw [e]
    exact g
  | d :: ds, _, _, _, h, g => by
    obtain ⟨x, r, e, f, t⟩ := h
    rw [e]
    exact ⟨x, r ++ _, rfl, f, FzL.app t g⟩
theorem FzL.get : ∀ {ds : List D} {xs : List V} {n : Nat} {d : D}, FzL K Z H ds xs → getAt ds n = some d → ∃ x, xs[n]? = some x ∧ Fz K Z H d x
  | [], _, _, _, _, e => by cases e
  | a :: ds, _, 0, d, h, e => by
    obtain ⟨x, r, e1, f, _⟩ := h
    have e2 : a = d := Option.some.inj e
    rw [e1, ← e2]
    exact ⟨x, rfl, f⟩
  | a :: ds, _, n + 1, d, h, e => by
    obtain ⟨x, r, e1, _, g⟩ := h
    obtain ⟨y, e2, f⟩ := FzL.get (n := n) g e
    rw [e1]
    exact ⟨y, by simpa using e2, f⟩
theorem FzL.set : ∀ {ds : List D} {xs : List V} (n : Nat) {d : D} {x : V}, FzL K Z H ds xs → Fz K Z H d x → FzL K Z H (setAt ds n d) (xs.set n x)
  | [], _, _, _, _, h, _ => by
    have e : _ = [] := h
    rw [e]
    exact rfl
  | a :: ds, _, 0, d, _, h, f => by
    obtain ⟨y, r, e1, _, g⟩ := h
    rw [e1]
    exact ⟨_, r, rfl, f, g⟩
  | a :: ds, _, n + 1, d, _, h, f => by
    obtain ⟨y, r, e1, f1, g⟩ := h
    rw [e1]
    exact ⟨y, r.set n _, rfl, f1, FzL.set n g f⟩
theorem FzL.erase : ∀ {ds : List D} {xs : List V} (n : Nat), FzL K Z H ds xs → FzL K Z H (dropAt ds n) (xs.eraseIdx n)
  | [], _, _, h => by
    have e : _ = [] := h
    rw [e]
    exact rfl
  | a :: ds, _, 0, h => by
    obtain ⟨y, r, e1, _, g⟩ := h
    rw [e1]
    exact g
  | a :: ds, _, n + 1, h => by
    obtain ⟨y, r, e1, f1, g⟩ := h
    rw [e1]
    exact ⟨y, r.eraseIdx n, rfl, f1, FzL.erase n g⟩
theorem FzL.take : ∀ {ds : List D} {xs : List V} (n : Nat), FzL K Z H ds xs → FzL K Z H (ds.take n) (xs.take n)
  | _, _, 0, _ => rfl
  | [], _, n + 1, h => by
    have e : _ = [] := h
    rw [e]
    exact rfl
  | a :: ds, _, n + 1, h => by
    obtain ⟨y, r, e1, f1, g⟩ := h
    rw [e1]
    exact ⟨y, r.take n, rfl, f1, FzL.take n g⟩
theorem FzL.drop : ∀ {ds : List D} {xs : List V} (n : Nat), FzL K Z H ds xs → FzL K Z H (ds.drop n) (xs.drop n)
  | _, _, 0, h => h
  | [], _, n + 1, h => by
    have e : _ = [] := h
    rw [e]
    exact rfl
  | a :: ds, _, n + 1, h => by
    obtain ⟨y, r, e1, f1, g⟩ := h
    rw [e1]
    exact FzL.drop n g
theorem FzL.rev {ds : List D} {xs : List V} (h : FzL K Z H ds xs) : FzL K Z H ds.reverse xs.reverse := by
  induction ds generalizing xs with
  | nil =>
    have e : xs = [] := h
    rw [e]
    exact rfl
  | cons a ds ih =>
    obtain ⟨y, r, e1, f1, g⟩ := h
    rw [e1, List.reverse_cons, List.reverse_cons]
    exact FzL.app (ih g) ⟨y, [], rfl, f1, rfl⟩
theorem FzL.rep {ds : List D} {xs : List V} (h : FzL K Z H ds xs) : ∀ n : Nat, FzL K Z H (repList n ds) (List.replicate n xs).flatten
  | 0 => rfl
  | n + 1 => by
    rw [List.replicate_succ, List.flatten_cons]
    exact FzL.app h (FzL.rep h n)
theorem FzL.dropLast {ds : List D} {xs : List V} (h : FzL K Z H ds xs) : FzL K Z H ds.dropLast xs.dropLast := by
  rw [List.dropLast_eq_take, List.dropLast_eq_take, h.len]
  exact h.take _
theorem FzL.mem {ds : List D} {xs : List V} (h : FzL K Z H ds xs) : ∀ x ∈ xs, ∃ d ∈ ds, Fz K Z H d x := by
  induction ds generalizing xs with
  | nil =>
    have e : xs = [] := h
    rw [e]
    intro x hx
    cases hx
  | cons a ds ih =>
    obtain ⟨y, r, e1, f1, g⟩ := h
    rw [e1]
    intro x hx
    rcases List.mem_cons.mp hx with rfl | hx
    · exact ⟨a, List.mem_cons_self, f1⟩
    · obtain ⟨d, hd, f⟩ := ih g x hx
      exact ⟨d, List.mem_cons_of_mem _ hd, f⟩
end

/-- an owned object at a -/
def Ow (K : Fg) (Z : ZS) (H : Hp) (a : Ad) : D → Prop
  | .list ds => ∃ xs, H a = some (.lst xs) ∧ xs.length ≤ szLine ∧ FzL K Z H ds xs
  | .dict kvs => (∃ ys, H a = some (.dK ys) ∧ FzK K Z H kvs ys) ∨ ∃ ys, H a = some (.dT ys) ∧ FzT K Z H kvs ys
  | _ => False
/-- v is to be read as d -/
def CT (K : Fg) (Z : ZS) (H : Hp) (d : D) (v : V) : Prop := ∃ ds a xs, d = .tuple ds ∧ v = .ref a ∧ KT K a xs ∧ xs.length ≤ szLine ∧ FzL K Z H ds xs
def RN (K : Fg) (Z : ZS) (H : Hp) (d : D) (v : V) : Prop := Fz K Z H d v ∨ ∃ a, v = .ref a ∧ Ow K Z H a d
def RV (K : Fg) (Z : ZS) (H : Hp) (d : D) (v : V) : Prop := Fz K Z H d v ∨ (∃ a, v = .ref a ∧ Ow K Z H a d) ∨ CT K Z H d v
theorem RN.rv {K : Fg} {Z : ZS} {H : Hp} {d : D} {v : V} (h : RN K Z H d v) : RV K Z H d v := h.elim .inl fun w => .inr (.inl w)
theorem RN.tup {K : Fg} {Z : ZS} {H : Hp} {d : List D} {v : V} (h : RN K Z H (.tuple d) v) : Fz K Z H (.tuple d) v := h.elim (fun w => w) fun ⟨_, _, w⟩ => w.elim
section
variable {K : Fg} {Z Z' : ZS} {H H' : Hp} {a : Ad} {d : D} {v : V}
theorem Ow.there (h : Ow K Z H a d) : ∃ o, H a = some o ∧ ¬ isTbl o := by
  cases d with
  | list ds =>
    obtain ⟨xs, e, _⟩ := h
    exact ⟨_, e, fun z => z⟩
  | dict kvs =>
    rcases h with ⟨ys, e, _⟩ | ⟨ys, e, _⟩
    · exact ⟨_, e, fun z => z⟩
    · exact ⟨_, e, fun z => z⟩
  | _ => exact h.elim
theorem code_ne {b : Ad} {q : Str} : LamX.CodeO b q ≠ .lst xs ∧ LamX.CodeO b q ≠ .dK ys ∧ LamX.CodeO b q ≠ .dT zs ∧ LamX.CodeO b q ≠ .tbl ps := by
  unfold LamX.CodeO
  exact ⟨(fun z => by cases z), (fun z => by cases z), (fun z => by cases z), (fun z => by cases z)⟩
/-- neither a code object nor a table -/
def NoCT (H : Hp) (p : Ad) : Prop := (∀ q, H p ≠ some (LamX.CodeO p q)) ∧ ∀ ps, H p ≠ some (.tbl ps)
theorem NoCT.none (h : H a = none) : NoCT H a := ⟨(fun q e => by rw [h] at e; cases e), (fun q e => by rw [h] at e; cases e)⟩
theorem NoCT.lst {xs : List V} (h : H a = some (.lst xs)) : NoCT H a := ⟨(fun q e => by rw [h] at e; exact (code_ne (ys := []) (zs := []) (ps := #[])).1 (Option.some.inj e).symm), (fun q e => by rw [h] at e; cases e)⟩
theorem NoCT.dK {xs : List (Key × V)} (h : H a = some (.dK xs)) : NoCT H a := ⟨(fun q e => by rw [h] at e; exact (code_ne (xs := []) (zs := []) (ps := #[])).2.1 (Option.some.inj e).symm), (fun q e => by rw [h] at e; cases e)⟩
theorem NoCT.dT {xs : List (List Key × V)} (h : H a = some (.dT xs)) : NoCT H a := ⟨(fun q e => by rw [h] at e; exact (code_ne (xs := []) (ys := []) (ps := #[])).2.2.1 (Option.some.inj e).symm), (fun q e => by rw [h] at e; cases e)⟩
theorem Ow.nc (h : Ow K Z H a d) : NoCT H a := by
  cases d with
  | list ds =>
    obtain ⟨xs, e, _⟩ := h
    exact .lst e
  | dict kvs =>
    rcases h with ⟨ys, e, _⟩ | ⟨ys, e, _⟩
    · exact .dK e
    · exact .dT e
  | _ => exact h.elim
theorem tab_upd {P : Ad} {q : Str} {ob : HO} (n : NoCT H a) (t : LamX.TabS H P q) : LamX.TabS (upd H a ob) P q := by
  obtain ⟨ps, h1, h2, h3⟩ := t
  have ne : P ≠ a := fun e => n.2 ps (e ▸ h1)
  refine ⟨ps, by rw [upd_ne ne]; exact h1, h2, fun pos cv hc => ?_⟩
  obtain ⟨c, e1, e2⟩ := h3 pos cv hc
  have nc : c ≠ a := fun e => n.1 q (e ▸ e2)
  exact ⟨c, e1, by rw [upd_ne nc]; exact e2⟩
theorem Ow.keep (hz : ∀ a, Z a → Z' a) (hh : ∀ a, Z a → H' a = H a) (ha : H' a = H a) (h : Ow K Z H a d) : Ow K Z' H' a d := by
  cases d with
  | list ds =>
    obtain ⟨xs, e, l, f⟩ := h
    exact ⟨xs, ha.trans e, l, f.keep hz hh⟩
  | dict kvs =>
    rcases h with ⟨ys, e, f⟩ | ⟨ys, e, f⟩
    · exact .inl ⟨ys, ha.trans e, f.keep hz hh⟩
    · exact .inr ⟨ys, ha.trans e, f.keep hz hh⟩
  | _ => exact h.elim
/-- an owned object is frozen -/
theorem Ow.frz (h : Ow K Z H a d) : Fz K (fun b => Z b ∨ b = a) H d (.ref a) := by
  have hz : ∀ b, Z b → Z b ∨ b = a := fun _ z => .inl z
  cases d with
  | list ds =>
    obtain ⟨xs, e, l, f⟩ := h
    exact ⟨a, xs, rfl, ⟨⟨.inr rfl, .inl e⟩, l⟩, f.keep hz fun _ _ => rfl⟩
  | dict kvs =>
    refine ⟨a, rfl, .inr rfl, ?_⟩
    rcases h with ⟨ys, e, f⟩ | ⟨ys, e, f⟩
    · exact .inl ⟨ys, e, f.keep hz fun _ _ => rfl⟩
    · exact .inr (.inl ⟨ys, e, f.keep hz fun _ _ => rfl⟩)
  | _ => exact h.elim
theorem RV.list {ds : List D} (h : RV K Z H (.list ds) v) : ∃ a xs, v = .ref a ∧ Rd H a (.lst xs) ∧ xs.length ≤ szLine ∧ FzL K Z H ds xs := by
  rcases h with ⟨a, xs, e, ⟨⟨_, r⟩, l⟩, f⟩ | ⟨a, e, xs, r, l, f⟩ | ⟨_, _, _, e, _⟩
  · exact ⟨a, xs, e, r, l, f⟩
  · exact ⟨a, xs, e, .inl r, l, f⟩
  · cases e
theorem AtT.sq {xs : List V} (h : AtT Z H a xs) : SqT K H a xs := .inl (.inl h.1.2)
theorem RV.tuple {ds : List D} (h : RV K Z H (.tuple ds) v) : ∃ a xs, v = .ref a ∧ SqT K H a xs ∧ xs.length ≤ szLine ∧ FzL K Z H ds xs := by
  rcases h with ⟨a, xs, e, r, f⟩ | ⟨a, _, r⟩ | ⟨es, a, xs, e1, e, r, l, f⟩
  · exact ⟨a, xs, e, r.sq, r.2, f⟩
  · exact r.elim
  · cases e1
    exact ⟨a, xs, e, .inr r, l, f⟩
theorem RV.int {i : Int} (h : RV K Z H (.int i) v) : v = .int i := by
  rcases h with e | ⟨a, _, r⟩ | ⟨_, _, _, e, _⟩
  · exact e
  · exact r.elim
  · cases e
theorem RV.bool {i : Bool} (h : RV K Z H (.bool i) v) : v = .bl i := by
  rcases h with e | ⟨a, _, r⟩ | ⟨_, _, _, e, _⟩
  · exact e
  · exact r.elim
  · cases e
theorem RV.non (h : RV K Z H .none v) : v = .non := by
  rcases h with e | ⟨a, _, r⟩ | ⟨_, _, _, e, _⟩
  · exact e
  · exact r.elim
  · cases e
theorem RV.str {s : Str} (h : RV K Z H (.str s) v) : v = .str s ∧ s.length ≤ szLine := by
  rcases h with e | ⟨a, _, r⟩ | ⟨_, _, _, e, _⟩
  · exact e
  · exact r.elim
  · cases e
theorem FzR.row : ∀ {kvs : List (D × D)}, FzR K Z H kvs a → ∃ ds, rowL kvs = some ds ∧ ∃ xs o, H a = some (.frz o (.tup xs)) ∧ o.cls = .type "tuple" ∧ o.dict = none ∧ xs.length ≤ szLine ∧ FzL K Z H ds xs
  | [], h => h.elim
  | (k, d) :: r, h => by
    obtain ⟨e1, e2, f⟩ := h
    subst e1 e2
    cases d with
    | tuple ds => exact ⟨ds, rfl, f⟩
    | _ => exact f.elim
theorem row_eq {kvs : List (D × D)} {ds : List D} (h : rowL kvs = some ds) : kvs = [(.none, .tuple ds)] := by
  unfold rowL at h
  split at h
  · cases h; rfl
  · cases h
theorem row_no {k : D} {kvs : List (D × D)} (h : kindOk k kvs = true) : rowL kvs = none := by
  cases q : rowL kvs with
  | none => rfl
  | some ds =>
    rw [row_eq q] at h
    simp [kindOk, keyOk] at h
theorem RV.dict {kvs : List (D × D)} (h : RV K Z H (.dict kvs) v) (no : rowL kvs = none) : ∃ a, v = .ref a ∧ ((∃ ys, H a = some (.dK ys) ∧ FzK K Z H kvs ys) ∨ ∃ ys, H a = some (.dT ys) ∧ FzT K Z H kvs ys) := by
  rcases h with ⟨a, e, _, r⟩ | ⟨a, e, r⟩ | ⟨_, _, _, e, _⟩
  · refine ⟨a, e, ?_⟩
    rcases r with r | r | r
    · exact .inl r
    · exact .inr r
    · obtain ⟨ds, q, _⟩ := r.row
      rw [q] at no
      cases no
  · exact ⟨a, e, r⟩
  · cases e
theorem RV.dictR {kvs : List (D × D)} (h : RV K Z H (.dict kvs) v) : ∃ a, v = .ref a := by
  rcases h with ⟨a, e, _, r⟩ | ⟨a, e, r⟩ | ⟨_, _, _, e, _⟩
  · exact ⟨a, e⟩
  · exact ⟨a, e⟩
  · cases e
/-- a row -/
theorem FzK.norow : ∀ {kvs : List (D × D)} {ys : List (Key × V)} {ds : List D}, FzK K Z H kvs ys → rowL kvs = some ds → False
  | kvs, ys, ds, h, e => by
    rw [row_eq e] at h
    obtain ⟨q, _, _, _, ek, _⟩ := h
    cases q <;> cases ek
theorem FzT.norow : ∀ {kvs : List (D × D)} {ys : List (List Key × V)} {ds : List D}, FzT K Z H kvs ys → rowL kvs = some ds → False
  | kvs, ys, ds, h, e => by
    rw [row_eq e] at h
    obtain ⟨q, _, _, _, ek, _⟩ := h
    cases ek
theorem RV.row {kvs : List (D × D)} {ds : List D} (h : RV K Z H (.dict kvs) v) (e : rowL kvs = some ds) : ∃ a xs o, v = .ref a ∧ Z a ∧ H a = some (.frz o (.tup xs)) ∧ o.cls = .type "tuple" ∧ o.dict = none ∧ xs.length ≤ szLine ∧ FzL K Z H ds xs := by
  rcases h with ⟨a, ev, z, r⟩ | ⟨a, ev, r⟩ | ⟨_, _, _, ee, _⟩
  · rcases r with ⟨ys, _, r⟩ | ⟨ys, _, r⟩ | r
    · exact (r.norow e).elim
    · exact (r.norow e).elim
    · obtain ⟨es, q, xs, o, h1, h2, h3, h4, h5⟩ := r.row
      rw [e] at q
      cases q
      exact ⟨a, xs, o, ev, z, h1, h2, h3, h4, h5⟩
  · rcases r with ⟨ys, _, r⟩ | ⟨ys, _, r⟩
    · exact (r.norow e).elim
    · exact (r.norow e).elim
  · cases ee
end

/-! ### names -/
def Slot.isIo : Slot → Bool
  | .io _ => true
  | _ => false
def sg (σ : St) (i : Nat) : Option V := (σ[i]?).join
theorem sg_some {σ : St} {i : Nat} {v : V} : sg σ i = some v ↔ σ[i]? = some (some v) := by
  unfold sg
  cases h : σ[i]? with
  | none => simp
  | some o => cases o <;> simp
def SlotR (K : Fg) (Z : ZS) (H : Hp) : Slot → Option V → Prop
  | .no, _ => True
  | .fz d, o => ∃ v, o = some v ∧ Fz K Z H d v
  | .ow d, o => ∃ a, o = some (.ref a) ∧ ¬ Z a ∧ Ow K Z H a d
  | .lk d, o => ∃ a, o = some (.ref a) ∧ ¬ Z a ∧ Ow K Z H a d
  | .io d, o => ∃ a, o = some (.ref a) ∧ ¬ Z a ∧ Ow K Z H a d
def Slot.dat : Slot → Option D
  | .no => none
  | .fz d | .ow d | .lk d | .io d => some d
/-- the tables of code objects that are watched -/
class Tbs where
  T : List (PySem.Addr × PySem.Str)
variable [Tbs]
/-- the slots' state -/
structure Ss (K : Fg) (Z : ZS) (H : Hp) (σ : St) (ρ : Env) : Prop where
  len : σ.length = ρ.length
  sl : ∀ i, SlotR K Z H (slotAt ρ i) (sg σ i)
  inj : ∀ i j a, i ≠ j → (slotAt ρ i).own = true → (slotAt ρ j).own = true → sg σ i = some (.ref a) → sg σ j ≠ some (.ref a)
  zd : ∀ a, Z a → ∃ o, H a = some o ∧ ¬ isTbl o
  tb : LamX.Tabs Tbs.T H
def Od (σ : St) (ρ : Env) (a : Ad) : Prop := ∃ i, (slotAt ρ i).own = true ∧ sg σ i = some (.ref a)
/-- an object that no name can own -/
def NotOw : HO → Prop
  | .lst _ | .dK _ | .dT _ => False
  | _ => True
def FrT (H : Hp) (a : Ad) : Prop := ∀ o, H a = some o → NotOw o
theorem FrT.none {H : Hp} {a : Ad} (h : H a = none) : FrT H a := fun o e => by
  rw [h] at e
  cases e
theorem Ow.nf {K : Fg} {Z : ZS} {H : Hp} {a : Ad} {d : D} (h : Ow K Z H a d) : ¬ FrT H a := fun f => by
  cases d with
  | list ds =>
    obtain ⟨xs, e, _⟩ := h
    exact f _ e
  | dict kvs =>
    rcases h with ⟨ys, e, _⟩ | ⟨ys, e, _⟩
    · exact f _ e
    · exact f _ e
  | _ => exact h.elim
theorem NotOw.tbl {o : HO} (h : isTbl o) : NotOw o := by
  cases o <;> first | exact False.elim h | exact True.intro
structure Step (O : ZS) (Z : ZS) (H : Hp) (Z' : ZS) (H' : Hp) : Prop where
  up : ∀ a, Z a → Z' a
  dn : ∀ a, Z' a → Z a ∨ O a ∨ FrT H a
  kp : ∀ a o, H a = some o → ¬ isTbl o → ¬ O a → H' a = some o
  th : ∀ a o, H a = some o → ∃ o', H' a = some o'
  tb : ∀ P q, (P, q) ∈ Tbs.T → LamX.TabS H P q → LamX.TabS H' P q
/-- from one state to another -/
structure Nx (K : Fg) (σ : St) (Z : ZS) (H : Hp) (ρ : Env) (σ' : St) (Z' : ZS) (H' : Hp) (ρ' : Env) : Prop where
  sp : Step (Od σ ρ) Z H Z' H'
  st : Ss K Z' H' σ' ρ'
  ow : ∀ a, Od σ' ρ' a → Od σ ρ a ∨ H a = none
  io : ∀ i, (slotAt ρ i).isIo = true → (slotAt ρ' i).isIo = true ∧ sg σ' i = sg σ i
  lk : ∀ i d, slotAt ρ i = .lk d → slotAt ρ' i = .lk d ∧ sg σ' i = sg σ i
  ln : σ'.length = σ.length
section
variable {K : Fg} {Z Z1 Z2 : ZS} {H H1 H2 : Hp} {σ σ1 σ2 : St} {ρ ρ1 ρ2 : Env} {O : ZS}
theorem SlotR.own {s : Slot} {o : Option V} (h : SlotR K Z H s o) (e : s.own = true) : ∃ a d, o = some (.ref a) ∧ s.dat = some d ∧ ¬ Z a ∧ Ow K Z H a d := by
  cases s with
  | no => cases e
  | fz d => cases e
  | ow d => obtain ⟨a, e1, nz, w⟩ := h; exact ⟨a, d, e1, rfl, nz, w⟩
  | lk d => obtain ⟨a, e1, nz, w⟩ := h; exact ⟨a, d, e1, rfl, nz, w⟩
  | io d => obtain ⟨a, e1, nz, w⟩ := h; exact ⟨a, d, e1, rfl, nz, w⟩
theorem Ss.od (h : Ss K Z H σ ρ) {a : Ad} (o : Od σ ρ a) : ¬ Z a ∧ ∃ u, H a = some u ∧ ¬ isTbl u := by
  obtain ⟨i, e1, e2⟩ := o
  obtain ⟨b, d, e3, _, nz, w⟩ := (h.sl i).own e1
  rw [e2] at e3
  cases e3
  exact ⟨nz, w.there⟩
theorem Step.refl : Step O Z H Z H := ⟨fun _ z => z, fun _ z => .inl z, fun _ _ e _ _ => e, fun _ o e => ⟨o, e⟩, fun _ _ _ t => t⟩
theorem Nx.refl (h : Ss K Z H σ ρ) : Nx K σ Z H ρ σ Z H ρ := ⟨Step.refl, h, fun _ o => .inl o, fun _ e => ⟨e, rfl⟩, fun _ _ e => ⟨e, rfl⟩, rfl⟩
theorem Step.none (h : Step O Z H Z1 H1) {a : Ad} (e : H1 a = none) : H a = none := by
  cases q : H a with
  | none => rfl
  | some o =>
    obtain ⟨o', e'⟩ := h.th a o q
    rw [e] at e'
    cases e'
theorem Nx.trans (a : Nx K σ Z H ρ σ1 Z1 H1 ρ1) (b : Nx K σ1 Z1 H1 ρ1 σ2 Z2 H2 ρ2) : Nx K σ Z H ρ σ2 Z2 H2 ρ2 where
  sp := {
    up := fun x z => b.sp.up x (a.sp.up x z)
    dn := fun x z => by
      rcases b.sp.dn x z with z | z | z
      · exact a.sp.dn x z
      · rcases a.ow x z with z | z
        · exact .inr (.inl z)
        · exact .inr (.inr (.none z))
      · by_cases no : Od σ ρ x
        · exact .inr (.inl no)
        · refine .inr (.inr fun o e => ?_)
          by_cases nt : isTbl o
          · exact NotOw.tbl nt
          · exact z o (a.sp.kp x o e nt no)
    kp := fun x o e nt no => b.sp.kp x o (a.sp.kp x o e nt no) nt fun z => by
      rcases a.ow x z with z | z
      · exact no z
      · rw [e] at z
        cases z
    th := fun x o e => by
      obtain ⟨o', e'⟩ := a.sp.th x o e
      exact b.sp.th x o' e'
    tb := fun P q m t => b.sp.tb P q m (a.sp.tb P q m t) }
  st := b.st
  ow := fun x z => by
    rcases b.ow x z with z | z
    · exact a.ow x z
    · exact .inr (a.sp.none z)
  io := fun i e => by
    obtain ⟨e1, q1⟩ := a.io i e
    obtain ⟨e2, q2⟩ := b.io i e1
    exact ⟨e2, q2.trans q1⟩
  lk := fun i d e => by
    obtain ⟨e1, q1⟩ := a.lk i d e
    obtain ⟨e2, q2⟩ := b.lk i d e1
    exact ⟨e2, q2.trans q1⟩
  ln := b.ln.trans a.ln
/-- what is frozen stays -/
theorem Step.zk (h : Step O Z H Z1 H1) (zd : ∀ a, Z a → ∃ o, H a = some o ∧ ¬ isTbl o) (no : ∀ a, Z a → ¬ O a) : ∀ a, Z a → H1 a = H a := fun a z => by
  obtain ⟨o, e, nt⟩ := zd a z
  rw [e]
  exact h.kp a o e nt (no a z)
theorem Nx.zk (st : Ss K Z H σ ρ) (n : Nx K σ Z H ρ σ1 Z1 H1 ρ1) : ∀ a, Z a → H1 a = H a :=
  n.sp.zk st.zd fun a z o => (st.od o).1 z
theorem Nx.fz (st : Ss K Z H σ ρ) (n : Nx K σ Z H ρ σ1 Z1 H1 ρ1) {d : D} {v : V} (h : Fz K Z H d v) : Fz K Z1 H1 d v := h.keep n.sp.up (n.zk st)
theorem Nx.fzl (st : Ss K Z H σ ρ) (n : Nx K σ Z H ρ σ1 Z1 H1 ρ1) {d : List D} {v : List V} (h : FzL K Z H d v) : FzL K Z1 H1 d v := h.keep n.sp.up (n.zk st)
end

/-- a value that an expression gives: frozen, or a fresh object that nothing else refers to -/
def VR (K : Fg) (Z : ZS) (H : Hp) (H₀ : Hp) (o : Bool) (d : D) (v : V) : Prop :=
  if o = true then ∃ a, v = .ref a ∧ ¬ Z a ∧ Ow K Z H a d ∧ H₀ a = none else Fz K Z H d v
section
variable {K : Fg} {Z Z1 Z2 : ZS} {H H0 H1 H2 : Hp} {σ σ1 σ2 : St} {ρ ρ1 ρ2 : Env} {o : Bool} {d : D} {v : V}
theorem VR.rn (h : VR K Z H H0 o d v) : RN K Z H d v := by
  unfold VR at h
  cases o with
  | true =>
    obtain ⟨a, e, _, w, _⟩ := h
    exact .inr ⟨a, e, w⟩
  | false => exact .inl h
/-- a value in hand stays through a step -/
theorem VR.nx (st : Ss K Z H σ ρ) (n0 : ∀ a, Od σ ρ a → ∃ u, H0 a = some u) (n : Nx K σ Z H ρ σ1 Z1 H1 ρ1) (h : VR K Z H H0 o d v) : VR K Z1 H1 H0 o d v := by
  unfold VR at h ⊢
  cases o with
  | true =>
    obtain ⟨a, e, nz, w, f⟩ := h
    have no : ¬ Od σ ρ a := fun z => by
      obtain ⟨u, q⟩ := n0 a z
      rw [f] at q
      cases q
    obtain ⟨u, eu, nt⟩ := w.there
    refine ⟨a, e, fun z => ?_, w.keep n.sp.up (n.zk st) ?_, f⟩
    · rcases n.sp.dn a z with z | z | z
      · exact nz z
      · exact no z
      · exact w.nf z
    · rw [eu]
      exact n.sp.kp a u eu nt no
  | false => exact n.fz st h
end
end MW
end
section
set_option Elab.async false
set_option linter.all false
set_option maxRecDepth 100000
set_option maxHeartbeats 1000000
/-! So2: the operations of plain values are what the machine does. -/
namespace MW
open PySem
open L2 (V Hp HO St upd upd_same upd_ne SqL SqT Rd Vals RelV Key kV ne_of_none VK XK TE TT TA TS Ends PE PT PA PS PSs OpR CallR MtR IxR SlR Dp DpAll PSet)
variable [Tbs]

def Zd (Z : ZS) (H : Hp) : Prop := ∀ a, Z a → ∃ o, H a = some o ∧ ¬ isTbl o
/-- what an operation of plain values may leave -/
def Fin (K : Fg) (Z : ZS) (H : Hp) (o : Bool) (d : D) (Q : VK) : Prop :=
  ∀ v Z' H', Step (fun _ => False) Z H Z' H' → Zd Z' H' → VR K Z' H' H o d v → Q v H'
section
variable {K : Fg} {Z : ZS} {H : Hp} {d : D} {v : V} {Q : VK} {o : Bool}
theorem Fin.val (f : Fin K Z H false d Q) (zd : Zd Z H) (h : Fz K Z H d v) : Q v H := f v Z H Step.refl zd h
theorem step_new {O : ZS} {Z : ZS} {H : Hp} {p : Ad} {o : HO} {Z' : ZS} (hp : H p = none) (h1 : ∀ a, Z a → Z' a) (h2 : ∀ a, Z' a → Z a ∨ a = p) : Step O Z H Z' (upd H p o) where
  up := h1
  dn := fun a z => by
    rcases h2 a z with z | z
    · exact .inl z
    · subst z
      exact .inr (.inr (.none hp))
  kp := fun a u e _ _ => by rw [upd_ne (ne_of_none e hp)]; exact e
  th := fun a u e => ⟨u, by rw [upd_ne (ne_of_none e hp)]; exact e⟩
  tb := fun P q _ t => t.ext fun a u e => by rw [upd_ne (ne_of_none e hp)]; exact e
theorem zd_new {Z Z' : ZS} {H : Hp} {p : Ad} {o : HO} (zd : Zd Z H) (hp : H p = none) (nt : ¬ isTbl o) (h2 : ∀ a, Z' a → Z a ∨ a = p) : Zd Z' (upd H p o) := fun a z => by
  rcases h2 a z with z | z
  · obtain ⟨u, e, n⟩ := zd a z
    exact ⟨u, by rw [upd_ne (ne_of_none e hp)]; exact e, n⟩
  · subst z
    exact ⟨o, upd_same, nt⟩
theorem keep_new {Z : ZS} {H : Hp} {p : Ad} {o : HO} (zd : Zd Z H) (hp : H p = none) : ∀ a, Z a → upd H p o a = H a := fun a z => by
  obtain ⟨u, e, _⟩ := zd a z
  rw [upd_ne (ne_of_none e hp)]
theorem Fin.lst {ds : List D} {xs : List V} (f : Fin K Z H true (.list ds) Q) (zd : Zd Z H) (h : FzL K Z H ds xs) (hl : xs.length ≤ szLine) : ∀ p, H p = none → Q (.ref p) (upd H p (.lst xs)) := fun p hp => by
  refine f (.ref p) Z _ (step_new hp (fun _ z => z) fun _ z => .inl z) (zd_new zd hp (fun z => z) fun _ z => .inl z) ?_
  refine ⟨p, rfl, fun z => ?_, ⟨xs, upd_same, hl, h.keep (fun _ z => z) (keep_new zd hp)⟩, hp⟩
  obtain ⟨u, e, _⟩ := zd p z
  rw [hp] at e
  cases e
theorem Fin.tup {ds : List D} {xs : List V} (f : Fin K Z H false (.tuple ds) Q) (zd : Zd Z H) (h : FzL K Z H ds xs) (hl : xs.length ≤ szLine) : ∀ p, H p = none → Q (.ref p) (upd H p (.tup xs)) := fun p hp => by
  refine f (.ref p) (fun a => Z a ∨ a = p) _ (step_new hp (fun _ z => .inl z) fun _ z => z) (zd_new zd hp (fun z => z) fun _ z => z) ?_
  exact ⟨p, xs, rfl, ⟨⟨.inr rfl, upd_same⟩, hl⟩, h.keep (fun _ z => .inl z) (keep_new zd hp)⟩
theorem Fin.row {ds : List D} {xs : List V} {o : Obj} (f : Fin K Z H false (.dict [(.none, .tuple ds)]) Q) (zd : Zd Z H) (h : FzL K Z H ds xs) (hl : xs.length ≤ szLine) (hc : o.cls = .type "tuple") (hd : o.dict = none) : ∀ p, H p = none → Q (.ref p) (upd H p (.frz o (.tup xs))) := fun p hp => by
  refine f (.ref p) (fun a => Z a ∨ a = p) _ (step_new hp (fun _ z => .inl z) fun _ z => z) (zd_new zd hp (fun z => z) fun _ z => z) ?_
  exact ⟨p, rfl, .inr rfl, .inr (.inr ⟨rfl, rfl, xs, o, upd_same, hc, hd, hl, h.keep (fun _ z => .inl z) (keep_new zd hp)⟩)⟩
/-- the empty tuple too may be any tuple that stands -/
theorem Fin.int {i : Int} (f : Fin K Z H false (.int i) Q) (zd : Zd Z H) : Q (.int i) H := f.val zd rfl
theorem Fin.bl {b : Bool} (f : Fin K Z H false (.bool b) Q) (zd : Zd Z H) : Q (.bl b) H := f.val zd rfl
end
section
variable {K : Fg} {Z : ZS} {H : Hp}
mutual
theorem Fz.dp : ∀ (d : D) (v : V), Fz K Z H d v → (∀ n, shp n d = true → Dp K H v d)
  | .none, v, h, _, _ => by
    have e : v = .non := h
    rw [e]
    exact .non
  | .bool b, v, h, _, _ => by
    have e : v = .bl b := h
    rw [e]
    exact .bl b
  | .int b, v, h, _, _ => by
    have e : v = .int b := h
    rw [e]
    exact .int b
  | .str b, v, h, _, _ => by
    rw [h.1]
    exact .str b
  | .list ds, v, h, n, s => by
    obtain ⟨a, xs, e, r, f⟩ := h
    cases n with
    | zero => simp [shp] at s
    | succ n =>
      rw [e]
      exact .lst (.inl r.1.2) (FzL.dp ds xs f n (by simpa [shp] using s))
  | .tuple ds, v, h, n, s => by
    obtain ⟨a, xs, e, r, f⟩ := h
    cases n with
    | zero => simp [shp] at s
    | succ n =>
      rw [e]
      exact .tup r.sq (FzL.dp ds xs f n (by simpa [shp] using s))
  | .dict _, _, _, n, s => by cases n <;> simp [shp] at s
theorem FzL.dp : ∀ (ds : List D) (xs : List V), FzL K Z H ds xs → (∀ n, shpA n ds = true → DpAll K H xs ds)
  | [], xs, h, _, _ => by
    have e : xs = [] := h
    rw [e]
    exact .nil
  | d :: ds, xs, h, n, s => by
    obtain ⟨x, r, e, f, g⟩ := h
    rw [shpA, Bool.and_eq_true] at s
    rw [e]
    exact .cons (Fz.dp d x f n s.1) (FzL.dp ds r g n s.2)
end
theorem RV.dp {d : D} {v : V} (h : RV K Z H d v) {n : Nat} (s : shp n d = true) : Dp K H v d := by
  cases d with
  | none => rw [h.non]; exact .non
  | bool b => rw [h.bool]; exact .bl b
  | int b => rw [h.int]; exact .int b
  | str b => rw [h.str.1]; exact .str b
  | list ds =>
    obtain ⟨a, xs, e, r, _, f⟩ := h.list
    cases n with
    | zero => simp [shp] at s
    | succ n =>
      rw [e]
      exact .lst (.inl r) (FzL.dp ds xs f n (by simpa [shp] using s))
  | tuple ds =>
    obtain ⟨a, xs, e, r, _, f⟩ := h.tuple
    cases n with
    | zero => simp [shp] at s
    | succ n =>
      rw [e]
      exact .tup r (FzL.dp ds xs f n (by simpa [shp] using s))
  | dict _ => cases n <;> simp [shp] at s
end
mutual
theorem shp_mono : ∀ (d : D) (n m : Nat), n ≤ m → shp n d = true → shp m d = true
  | .none, n, m, _, _ => by simp [shp]
  | .bool _, n, m, _, _ => by simp [shp]
  | .int _, n, m, _, _ => by simp [shp]
  | .str _, n, m, _, s => by simpa [shp] using s
  | .list xs, n, m, h, s => by
    cases n with
    | zero => simp [shp] at s
    | succ n =>
      obtain ⟨k, rfl⟩ : ∃ k, m = k + 1 := ⟨m - 1, by omega⟩
      rw [shp] at s ⊢
      exact shpA_mono xs n k (by omega) s
  | .tuple xs, n, m, h, s => by
    cases n with
    | zero => simp [shp] at s
    | succ n =>
      obtain ⟨k, rfl⟩ : ∃ k, m = k + 1 := ⟨m - 1, by omega⟩
      rw [shp] at s ⊢
      exact shpA_mono xs n k (by omega) s
  | .dict _, n, m, _, s => by cases n <;> simp [shp] at s
theorem shpA_mono : ∀ (ds : List D) (n m : Nat), n ≤ m → shpA n ds = true → shpA m ds = true
  | [], n, m, _, _ => by simp [shpA]
  | d :: ds, n, m, h, s => by
    rw [shpA, Bool.and_eq_true] at s ⊢
    exact ⟨shp_mono d n m h s.1, shpA_mono ds n m h s.2⟩
end
mutual
theorem shp_shaped : ∀ (d : D) (n : Nat), shp n d = true → d.canLay0 = true ∧ d.depth ≤ n
  | .none, n, _ => by simp [PyData.canLay0, PyData.depth]
  | .bool _, n, _ => by simp [PyData.canLay0, PyData.depth]
  | .int _, n, _ => by simp [PyData.canLay0, PyData.depth]
  | .str _, n, s => by
    rw [PyData.canLay0, PyData.depth]
    exact ⟨by simpa [shp] using s, Nat.zero_le _⟩
  | .list xs, n, s => by
    cases n with
    | zero => simp [shp] at s
    | succ n =>
      rw [shp] at s
      obtain ⟨h1, h2⟩ := shpA_shaped xs n s
      rw [PyData.canLay0, PyData.depth]
      exact ⟨h1, by omega⟩
  | .tuple xs, n, s => by
    cases n with
    | zero => simp [shp] at s
    | succ n =>
      rw [shp] at s
      obtain ⟨h1, h2⟩ := shpA_shaped xs n s
      rw [PyData.canLay0, PyData.depth]
      exact ⟨h1, by omega⟩
  | .dict _, n, s => by cases n <;> simp [shp] at s
theorem shpA_shaped : ∀ (ds : List D) (n : Nat), shpA n ds = true → PyData.canLayAll0 ds = true ∧ PyData.depthAll ds ≤ n
  | [], n, _ => by simp [PyData.canLayAll0, PyData.depthAll]
  | d :: ds, n, s => by
    rw [shpA, Bool.and_eq_true] at s
    obtain ⟨h1, h2⟩ := shp_shaped d n s.1
    obtain ⟨h3, h4⟩ := shpA_shaped ds n s.2
    rw [PyData.canLayAll0, PyData.depthAll, h1, h3]
    exact ⟨rfl, by omega⟩
end
theorem shp_ok {d : D} (s : shp 60 d = true) : SeqAt.shaped d = true := by
  obtain ⟨h1, h2⟩ := shp_shaped d 60 s
  unfold SeqAt.shaped
  rw [h1, Bool.true_and]
  exact decide_eq_true (by omega)
theorem shpL_ok {ds : List D} (s : shpA 60 ds = true) : SeqAt.shaped (.list ds) = true := by
  obtain ⟨h1, h2⟩ := shpA_shaped ds 60 s
  unfold SeqAt.shaped
  rw [PyData.canLay0, PyData.depth, h1, Bool.true_and]
  exact decide_eq_true (by omega)

/-! ### operators -/
def opA : Op → Operator
  | .add => .Add
  | .sub => .Sub
  | .mul => .Mult
  | .fdiv => .FloorDiv
  | .mod => .Mod
/-- two operands that are read as data, what comes of them -/
def r2D (K : Fg) (f : D → D → Option (Bool × D)) : L2.R2 := fun x y H Q => ∃ Z a b o d, Zd Z H ∧ RN K Z H a x ∧ RN K Z H b y ∧ f a b = some (o, d) ∧ Fin K Z H o d Q
def r2V (K : Fg) (f : D → D → Option (Bool × D)) : L2.R2 := fun x y H Q => ∃ Z a b o d, Zd Z H ∧ RN K Z H a x ∧ RV K Z H b y ∧ f a b = some (o, d) ∧ Fin K Z H o d Q
def r2I (K : Fg) (f : D → D → Option (Bool × D)) : L2.R2 := fun x y H Q => ∃ Z a b o d, Zd Z H ∧ RV K Z H a x ∧ RN K Z H b y ∧ f a b = some (o, d) ∧ Fin K Z H o d Q
section
variable {X : L2.Cx} {pins : List (Ad × Obj)} {σ : St} {H : Hp} {s : Shared} {a : Ad} {xs : List V}
theorem rd_lst (I : L2.Inv X pins σ H s) (h : Rd H a (.lst xs)) : xs.length ≤ sizeLine ∧ ∃ (its : List Value) (n : Nat), Vals xs its ∧ xs.length = its.length ∧ s.heap.get? a = some { cls := .type "list", data := .seq its.toArray n } := by
  obtain ⟨z, its, n, r, e⟩ := h.ok I.hok
  exact ⟨z, its, n, r, r.length, e⟩
def rCatR : L2.R2 := fun x y H Q => ∃ l b xs zs, x = .ref l ∧ y = .ref b ∧ Rd H l (.lst xs) ∧ Rd H b (.lst zs) ∧ xs.length + zs.length ≤ sizeLine ∧ ∀ p, H p = none → Q (.ref p) (upd H p (.lst (xs ++ zs)))
theorem op_catR : OpR X (binaryOp .Add) rCatR := by
  intro pins s σ H x y v u Q I rx ry h
  obtain ⟨l, b, xs, zs, rfl, rfl, hH, hB, hz, q⟩ := h
  obtain rfl : v = Value.ref l := rx
  obtain rfl : u = Value.ref b := ry
  obtain ⟨z, i1, n1, r1, l1, e1⟩ := rd_lst I hH
  obtain ⟨z2, i2, n2, r2, l2, e2⟩ := rd_lst I hB
  refine PySem.P.add_list e1 e2 ?_ (by simp only [List.size_toArray]; omega)
  rw [show i1.toArray ++ i2.toArray = (i1 ++ i2).toArray from by simp]
  exact ⟨.ref s.heap.objs.size, _, I.lnew (t' := s.toks) (r1.append r2) (by rw [List.length_append]; omega), rfl, q _ I.fresh⟩
def rRepR : L2.R2 := fun x y H Q => ∃ l k xs, x = .ref l ∧ y = .int k ∧ Rd H l (.lst xs) ∧ k.natAbs < 1073741824 ∧ xs.length * k.toNat ≤ sizeLine ∧
  ∀ p, H p = none → Q (.ref p) (upd H p (.lst (List.replicate k.toNat xs).flatten))
theorem op_repR : OpR X (binaryOp .Mult) rRepR := by
  intro pins s σ H x y v u Q I rx ry h
  obtain ⟨l, k, xs, rfl, rfl, hH, hk, hz, q⟩ := h
  obtain rfl : v = Value.ref l := rx
  obtain ⟨t, rfl⟩ := ry
  obtain ⟨z, its, n, r, hl, e⟩ := rd_lst I hH
  have hsz : its.toArray.size * k.toNat ≤ sizeLine := by rw [List.size_toArray, ← hl]; exact hz
  have hcap : ¬ its.toArray.size * k.toNat > (2 ^ 63 - 1) / 8 := by
    have q1 : (sizeLine : Nat) ≤ (2 ^ 63 - 1) / 8 := by decide
    omega
  have hfit : ¬ (!Builtin.List.listFitsIndex k) = true := by
    rw [fitsIndex_both (by omega) (by omega)]
    exact Bool.false_ne_true
  have hlong : ¬ Builtin.List.listTooLong (its.toArray.size * k.toNat) = true := by
    rw [L2.notLongL hsz]
    exact Bool.false_ne_true
  have flat : ∀ m : Nat, List.foldl (fun x1 x2 => x1 ++ x2) #[] (List.replicate m its.toArray) = (List.replicate m its).flatten.toArray := fun m => L2.size_rep its m
  have hnew : List.foldl (fun x1 x2 => x1 ++ x2) #[] (List.replicate (if its.toArray.isEmpty = true then 0 else k.toNat) its.toArray) = (List.replicate k.toNat its).flatten.toArray := by
    rw [flat]
    cases its with
    | nil => simp
    | cons c r' => simp
  refine wpAny_binaryOp_repeat_ref (T := "list") (U := "int") (by decide) ⟨_, e, rfl⟩ (fun s' => typeIs_int s' k t) noFill_list_mul F.fills_int_mul F.slot_int_rmul repeat_list F.slot_int_index.lookup
    (call_meets F.slot_int_rmul (typeIs_int s k t) F.entry_int_rmul (F.args_int_rmul_2 _ _) (int___rmul___int_list k t l its.toArray n)
      ⟨e, rfl, ⟨_, e, rfl⟩, call_meets F.slot_list_mul ⟨_, e, rfl⟩ F.entry_list_mul (F.args_list_mul_2 _ _) (AutoListH.list___mul___list_int_3 l its.toArray n k t hfit hcap hlong) ⟨e, ?_⟩⟩)
  rw [hnew]
  exact ⟨.ref s.heap.objs.size, _, I.lnew (t' := s.toks) (r.rep k.toNat) (by rw [PyProof.Rows.lm_len_rep_flat, Nat.mul_comm]; exact hz), rfl, q _ I.fresh⟩
end
end MW
end
section
set_option Elab.async false
set_option linter.all false
set_option maxRecDepth 100000
set_option maxHeartbeats 2000000
/-! So3: operators and comparisons. -/
namespace MW
open PySem
open L2 (V Hp HO St upd upd_same upd_ne SqL SqT Rd Vals RelV Key kV ne_of_none VK XK TE TT TA TS Ends PE PT PA PS PSs OpR CallR MtR IxR SlR Dp DpAll PSet)
variable [Tbs]
section
variable {X : L2.Cx}
/-! a tuple times an int: any int -/
section
theorem tup_mul1 (l : Addr) (items : Array Value) (n : Nat) (dd : Option Addr) (sl : Array (Option Value)) (x : Int) (u : Tok) (c0 : (decide (x < -(2 ^ 63)) || decide (x ≥ 2 ^ 63)) = false) (c1 : (items.isEmpty || x == 1) = true) :
    Meets (Builtin.«tuple.__mul__» ⟨[.ref l, .int x u], []⟩) (fun _ R s => s.heap.get? l = some { cls := .type "tuple", dict := dd, data := .seq items n, slots := sl } ∧ R (.ok (.ret (Value.ref l))) s) :=
  .of_wp fun prog w A R s h => by
    obtain ⟨hp, g, d, tk, os⟩ := s
    obtain ⟨hl, h⟩ := h
    have f1 := AutoSeq1.idx_int
    wp_walk using wpAny_loadPart' hl
    repeat (first
      | (refine wpAny_ite_false (decide_eq_false (by rw [c0]; exact Bool.false_ne_true)) ?_; wp_walk using wpAny_loadPart' hl)
      | (refine wpAny_ite_true (decide_eq_true c1) ?_; wp_walk using wpAny_loadPart' hl))
    all_goals exact ⟨_, rfl, h⟩
theorem tup_mul0 (l : Addr) (items : Array Value) (n : Nat) (dd : Option Addr) (sl : Array (Option Value)) (x : Int) (u : Tok) (c0 : (decide (x < -(2 ^ 63)) || decide (x ≥ 2 ^ 63)) = false) (c1 : (items.isEmpty || x == 1) = false) (c2 : (decide (x ≤ 0) || items.isEmpty) = true) :
    Meets (Builtin.«tuple.__mul__» ⟨[.ref l, .int x u], []⟩) (fun _ R s => s.heap.get? l = some { cls := .type "tuple", dict := dd, data := .seq items n, slots := sl } ∧ R (.ok (.ret (Value.ref s.heap.objs.size))) { s with heap := s.heap.push { cls := Value.type "tuple", data := Data.seq #[] } }) :=
  .of_wp fun prog w A R s h => by
    obtain ⟨hp, g, d, tk, os⟩ := s
    obtain ⟨hl, h⟩ := h
    have f1 := AutoSeq1.idx_int
    wp_walk using wpAny_loadPart' hl
    repeat (first
      | (refine wpAny_ite_false (decide_eq_false (by rw [c0]; exact Bool.false_ne_true)) ?_; wp_walk using wpAny_loadPart' hl)
      | (refine wpAny_ite_false (decide_eq_false (by rw [c1]; exact Bool.false_ne_true)) ?_; wp_walk using wpAny_loadPart' hl)
      | (refine wpAny_ite_true (decide_eq_true c2) ?_; wp_walk using wpAny_loadPart' hl))
    all_goals exact ⟨_, rfl, h⟩
end
def rRepA (K : Fg) : L2.R2 := fun x y H Q => ∃ l k xs, x = .ref l ∧ y = .int k ∧ SqT K H l xs ∧ xs.length ≤ 1000 ∧ k.natAbs ≤ 1000 ∧
  ((List.replicate k.toNat xs).flatten = xs → Q (.ref l) H) ∧ ∀ p, H p = none → Q (.ref p) (upd H p (.tup (List.replicate k.toNat xs).flatten))
theorem op_repA : OpR X (binaryOp .Mult) (rRepA X.K) := by
  intro pins s σ H x y v u Q I rx ry h
  obtain ⟨l, k, xs, e1, e2, hT, hz, hk, q1, q2⟩ := h
  by_cases big : xs ≠ [] ∧ 2 ≤ k
  · exact L2.op_repT pins s σ H x y v u Q I rx ry ⟨l, k, xs, e1, e2, hT, big.1, big.2, by omega, hz, q2⟩
  subst e1
  subst e2
  obtain rfl : v = Value.ref l := rx
  obtain ⟨t, rfl⟩ := ry
  obtain ⟨its, r, ⟨⟨cls, dd, data, sl⟩, ho, hc, n, hd⟩, hs⟩ := I.tuple hT
  simp only at hc hd
  subst hc hd
  have hle : its.length = xs.length := r.length.symm
  have c0 : (decide (k < -(2 ^ 63)) || decide (k ≥ 2 ^ 63)) = false := by
    rw [decide_eq_false (by omega), decide_eq_false (by omega)] <;> rfl
  have go : ∀ {R : Result → Shared → Prop} {W : Heap → Prop}, True := fun {_ _} => trivial
  by_cases one : xs = [] ∨ k = 1
  · have c1 : (its.toArray.isEmpty || k == 1) = true := by
      rcases one with e | e
      · have : its = [] := List.eq_nil_of_length_eq_zero (by rw [hle, e]; rfl)
        rw [this]
        rfl
      · rw [e]
        simp
    refine wpAny_binaryOp_repeat_ref (T := "tuple") (U := "int") (by decide) ⟨_, ho, rfl⟩ (fun s' => typeIs_int s' k t) L2.noFill_tuple_mul F.fills_int_mul F.slot_int_rmul L2.repeat_tuple F.slot_int_index.lookup
      (call_meets F.slot_int_rmul (typeIs_int s k t) F.entry_int_rmul (F.args_int_rmul_2 _ _) (L2.int_rmul_tuple k t l its.toArray n dd sl)
        ⟨ho, rfl, ⟨_, ho, rfl⟩, call_meets F.slot_tuple_mul ⟨_, ho, rfl⟩ F.entry_tuple_mul (F.args_tuple_mul_2 _ _) (tup_mul1 l its.toArray n dd sl k t c0 c1) ⟨ho, ?_⟩⟩)
    refine ⟨.ref l, H, I, rfl, q1 ?_⟩
    rcases one with e | e
    · rw [e]
      simp
    · rw [e]
      show (List.replicate 1 xs).flatten = xs
      simp
  · have hne : xs ≠ [] := fun e => one (.inl e)
    have h1 : k ≠ 1 := fun e => one (.inr e)
    have h0 : k ≤ 0 := by
      have : ¬ 2 ≤ k := fun z => big ⟨hne, z⟩
      omega
    have hne' : its.toArray.isEmpty = false := by
      cases its with
      | nil => exact absurd (List.eq_nil_of_length_eq_zero hle.symm) hne
      | cons a b => rfl
    have c1 : (its.toArray.isEmpty || k == 1) = false := by
      rw [hne', Bool.false_or]
      exact beq_eq_false_iff_ne.mpr h1
    have c2 : (decide (k ≤ 0) || its.toArray.isEmpty) = true := by
      rw [decide_eq_true h0, Bool.true_or]
    refine wpAny_binaryOp_repeat_ref (T := "tuple") (U := "int") (by decide) ⟨_, ho, rfl⟩ (fun s' => typeIs_int s' k t) L2.noFill_tuple_mul F.fills_int_mul F.slot_int_rmul L2.repeat_tuple F.slot_int_index.lookup
      (call_meets F.slot_int_rmul (typeIs_int s k t) F.entry_int_rmul (F.args_int_rmul_2 _ _) (L2.int_rmul_tuple k t l its.toArray n dd sl)
        ⟨ho, rfl, ⟨_, ho, rfl⟩, call_meets F.slot_tuple_mul ⟨_, ho, rfl⟩ F.entry_tuple_mul (F.args_tuple_mul_2 _ _) (tup_mul0 l its.toArray n dd sl k t c0 c1 c2) ⟨ho, ?_⟩⟩)
    have e0 : (List.replicate k.toNat xs).flatten = [] := by
      rw [show k.toNat = 0 by omega]
      rfl
    refine ⟨.ref s.heap.objs.size, _, I.laid (t' := s.toks) (o := .tup []) (fun b ob q => Heap.get?_push_of_some _ q) (Nat.le_refl _) ?_, rfl, ?_⟩
    · exact ⟨Nat.zero_le _, [], .nil, PyProof.Rows.IsTup.new _ _⟩
    · have := q2 s.heap.objs.size (I.hok.fresh (Nat.le_refl _))
      rw [e0] at this
      exact this
theorem rep_self {ds : List D} {k : Nat} (h : k * ds.length = ds.length) : repList k ds = ds := by
  cases ds with
  | nil =>
    induction k with
    | zero => rfl
    | succ k ih =>
      show [] ++ repList k [] = []
      rw [ih (by simp)]
      rfl
  | cons a r =>
    have : k = 1 := by
      have h1 : k * (a :: r).length = 1 * (a :: r).length := by rw [Nat.one_mul]; exact h
      exact Nat.eq_of_mul_eq_mul_right (by simp) h1
    subst this
    show (a :: r) ++ [] = a :: r
    rw [List.append_nil]
theorem op_ok (o : Op) : OpR X (binaryOp (opA o)) (r2D X.K (opSem o)) := by
  intro pins s σ H x y v u Q I rx ry h
  obtain ⟨Z, a, b, ow, d, zd, ha, hb, e, f⟩ := h
  cases o with
  | add =>
    cases a <;> cases b <;> simp only [opSem] at e <;> try cases e
    · rw [ha.rv.int] at rx
      rw [hb.rv.int] at ry
      exact L2.op_add pins s σ H _ _ v u Q I rx ry ⟨_, _, rfl, rfl, f.int zd⟩
    · split at e
      · rename_i hl
        cases e
        rw [ha.rv.str.1] at rx
        rw [hb.rv.str.1] at ry
        exact L2.op_add_str pins s σ H _ _ v u Q I rx ry ⟨_, _, rfl, rfl, by rw [← szLine_eq]; exact hl, f.val zd ⟨rfl, by
          rw [show (_ ++ _ : Str).length = _ + _ from Array.size_append]
          exact hl⟩⟩
      · cases e
    · split at e
      · rename_i hl
        cases e
        obtain ⟨p, xs, e1, r1, l1, f1⟩ := ha.rv.list
        obtain ⟨q, ys, e2, r2, l2, f2⟩ := hb.rv.list
        rw [e1] at rx
        rw [e2] at ry
        have hl' : xs.length + ys.length ≤ szLine := by rw [f1.len, f2.len]; exact hl
        exact op_catR pins s σ H _ _ v u Q I rx ry ⟨p, q, xs, ys, rfl, rfl, r1, r2, by rw [← szLine_eq]; exact hl', f.lst zd (f1.app f2) (by rw [List.length_append]; exact hl')⟩
      · cases e
    · split at e
      · rename_i hl
        cases e
        have ha' := ha.tup
        have hb' := hb.tup
        obtain ⟨p, xs, e1, r1, l1, f1⟩ := ha.rv.tuple
        obtain ⟨q, ys, e2, r2, l2, f2⟩ := hb.rv.tuple
        rw [e1] at rx ha'
        rw [e2] at ry hb'
        have hl' : xs.length + ys.length ≤ szLine := by rw [f1.len, f2.len]; exact hl
        refine L2.op_catA pins s σ H _ _ v u Q I rx ry ⟨p, q, xs, ys, rfl, rfl, r1, r2, by rw [← szLine_eq]; exact hl', fun z => ?_, fun _ z => ?_, fun _ _ => f.tup zd (f1.app f2) (by rw [List.length_append]; exact hl')⟩
        · rename_i as bs
          have : as = [] := List.eq_nil_of_length_eq_zero (by rw [← f1.len, z]; rfl)
          subst this
          exact f.val zd hb'
        · rename_i as bs _
          have : bs = [] := List.eq_nil_of_length_eq_zero (by rw [← f2.len, z]; rfl)
          subst this
          rw [List.append_nil] at f
          exact f.val zd ha'
      · cases e
  | sub =>
    cases a <;> cases b <;> simp only [opSem] at e <;> cases e
    rw [ha.rv.int] at rx
    rw [hb.rv.int] at ry
    exact L2.op_sub pins s σ H _ _ v u Q I rx ry ⟨_, _, rfl, rfl, f.int zd⟩
  | mul =>
    cases a <;> cases b <;> simp only [opSem] at e <;> try cases e
    · split at e
      · rename_i i j hm
        cases e
        rw [ha.rv.int] at rx
        rw [hb.rv.int] at ry
        refine L2.op_mul pins s σ H _ _ v u Q I rx ry ⟨_, _, rfl, rfl, ?_, f.int zd⟩
        unfold mulOk at hm
        rw [Bool.or_eq_true, decide_eq_true_eq, decide_eq_true_eq] at hm
        unfold big64 at hm
        rcases hm with hm | hm
        · exact .inl ⟨by omega, by omega⟩
        · exact .inr ⟨by omega, by omega⟩
      · cases e
    · split at e
      · rename_i ds j hm
        cases e
        obtain ⟨p, xs, e1, r1, l1, f1⟩ := ha.rv.list
        rw [e1] at rx
        rw [hb.rv.int] at ry
        have hz : xs.length * j.toNat ≤ szLine := by rw [f1.len]; exact hm.1
        exact op_repR pins s σ H _ _ v u Q I rx ry ⟨p, j, xs, rfl, rfl, r1, hm.2, by rw [← szLine_eq]; exact hz, f.lst zd (f1.rep _) (by rw [PyProof.Rows.lm_len_rep_flat, Nat.mul_comm]; exact hz)⟩
      · cases e
    · split at e
      · rename_i ds j hm
        cases e
        have ha' := ha.tup
        obtain ⟨p, xs, e1, r1, l1, f1⟩ := ha.rv.tuple
        rw [e1] at rx ha'
        rw [hb.rv.int] at ry
        have hz : xs.length ≤ 1000 := by rw [f1.len]; exact hm.1
        refine op_repA pins s σ H _ _ v u Q I rx ry ⟨p, j, xs, rfl, rfl, r1, hz, hm.2, fun z => ?_, f.tup zd (f1.rep _) ?_⟩
        · have hz' := congrArg List.length z
          rw [PyProof.Rows.lm_len_rep_flat, f1.len] at hz'
          rw [rep_self hz'] at f
          exact f.val zd ha'
        · rw [PyProof.Rows.lm_len_rep_flat]
          have : j.toNat * xs.length ≤ 1000 * 1000 := Nat.mul_le_mul (by omega) hz
          unfold szLine
          omega
      · cases e
  | fdiv =>
    cases a <;> cases b <;> simp only [opSem] at e <;> try cases e
    split at e
    · rename_i i j hm
      cases e
      rw [ha.rv.int] at rx
      rw [hb.rv.int] at ry
      exact L2.op_fdiv pins s σ H _ _ v u Q I rx ry ⟨_, _, rfl, rfl, hm, f.int zd⟩
    · cases e
  | mod =>
    cases a <;> cases b <;> simp only [opSem] at e <;> try cases e
    split at e
    · rename_i i j hm
      cases e
      rw [ha.rv.int] at rx
      rw [hb.rv.int] at ry
      exact L2.op_mod pins s σ H _ _ v u Q I rx ry ⟨_, _, rfl, rfl, hm, f.int zd⟩
    · cases e
/-! ### comparisons -/
/-! dicts -/
def DicAt (K : Fg) (Z : ZS) (H : Hp) (a : Ad) (kvs : List (D × D)) : Prop := (∃ ys, H a = some (.dK ys) ∧ FzK K Z H kvs ys) ∨ ∃ ys, H a = some (.dT ys) ∧ FzT K Z H kvs ys
theorem eqv_kD (q r : Key) : PyData.eqv (kD q) (kD r) = decide (q = r) := by
  cases q <;> cases r <;> simp [kD, PyData.eqv] <;> rfl
theorem eqv_kDs : ∀ (q r : List Key), PyData.eqvAll (q.map kD) (r.map kD) = decide (q = r)
  | [], [] => by simp [PyData.eqvAll]
  | [], _ :: _ => by simp [PyData.eqvAll]
  | _ :: _, [] => by simp [PyData.eqvAll]
  | a :: q, b :: r => by
    rw [List.map_cons, List.map_cons, PyData.eqvAll, eqv_kD, eqv_kDs q r]
    by_cases h1 : a = b <;> by_cases h2 : q = r <;> simp [h1, h2]
section
variable {K : Fg} {Z : ZS} {H : Hp} {a : Ad}
theorem FzK.val : ∀ {kvs : List (D × D)} {ys : List (Key × V)} (q : Key), FzK K Z H kvs ys → (∀ d, dGet (kD q) kvs = some d → ∃ v, L2.valV ys q = some v ∧ Fz K Z H d v) ∧ (dGet (kD q) kvs = none → L2.valV ys q = none)
  | [], ys, q, h => by
    have e : ys = [] := h
    subst e
    exact ⟨fun d z => (by cases z), fun _ => rfl⟩
  | (k, d0) :: r, ys, q, h => by
    obtain ⟨q0, x, t, e, ek, f, g⟩ := h
    subst e
    subst ek
    have ih := FzK.val q g
    rw [show dGet (kD q) ((kD q0, d0) :: r) = if PyData.eqv (kD q0) (kD q) then some d0 else dGet (kD q) r from rfl, eqv_kD]
    by_cases hq : q0 = q
    · rw [decide_eq_true hq, if_pos rfl, L2.valV_pos hq]
      exact ⟨fun d z => ⟨x, rfl, Option.some.inj z ▸ f⟩, fun z => (by cases z)⟩
    · rw [decide_eq_false hq, if_neg Bool.false_ne_true, L2.valV_neg hq]
      exact ih
theorem FzT.val : ∀ {kvs : List (D × D)} {ys : List (List Key × V)} (q : List Key), FzT K Z H kvs ys → (∀ d, dGet (.tuple (q.map kD)) kvs = some d → ∃ v, L2.valV ys q = some v ∧ Fz K Z H d v) ∧ (dGet (.tuple (q.map kD)) kvs = none → L2.valV ys q = none)
  | [], ys, q, h => by
    have e : ys = [] := h
    subst e
    exact ⟨fun d z => (by cases z), fun _ => rfl⟩
  | (k, d0) :: r, ys, q, h => by
    obtain ⟨q0, x, t, e, ek, f, g⟩ := h
    subst e
    subst ek
    have ih := FzT.val q g
    rw [show dGet (.tuple (q.map kD)) ((.tuple (q0.map kD), d0) :: r) = if PyData.eqv (.tuple (q0.map kD)) (.tuple (q.map kD)) then some d0 else dGet (.tuple (q.map kD)) r from rfl, PyData.eqv, eqv_kDs]
    by_cases hq : q0 = q
    · rw [decide_eq_true hq, if_pos rfl, L2.valV_pos hq]
      exact ⟨fun d z => ⟨x, rfl, Option.some.inj z ▸ f⟩, fun z => (by cases z)⟩
    · rw [decide_eq_false hq, if_neg Bool.false_ne_true, L2.valV_neg hq]
      exact ih
/-- a key, taken apart -/
inductive KeyR (K : Fg) (Z : ZS) (H : Hp) : D → V → Prop
  | k (q : Key) : KeyR K Z H (kD q) (kV q)
  | t (q : List Key) (b : Ad) (hb : H b = some (.tup (q.map kV))) : KeyR K Z H (.tuple (q.map kD)) (.ref b)
theorem keys_of : ∀ {ds : List D} {xs : List V}, FzL K Z H ds xs → (ds.all fun x => match x with | .int _ => true | .str _ => true | _ => false) = true → ∃ q : List Key, ds = q.map kD ∧ xs = q.map kV
  | [], xs, h, _ => ⟨[], rfl, h⟩
  | d :: ds, xs, h, e => by
    obtain ⟨x, r, e1, f, g⟩ := h
    rw [List.all_cons, Bool.and_eq_true] at e
    obtain ⟨q, h1, h2⟩ := keys_of g e.2
    subst e1
    subst h1
    subst h2
    cases d <;> simp at e
    · have : x = _ := f
      subst this
      exact ⟨.inl _ :: q, rfl, rfl⟩
    · have : x = _ := f.1
      subst this
      exact ⟨.inr _ :: q, rfl, rfl⟩
theorem key_of {d : D} {v : V} (h : RN K Z H d v) (e : keyOk d = true) : KeyR K Z H d v := by
  cases d <;> simp only [keyOk] at e <;> try cases e
  · rw [h.rv.int]
    exact .k (.inl _)
  · rw [h.rv.str.1]
    exact .k (.inr _)
  · obtain ⟨b, xs, e1, ⟨⟨_, r⟩, _⟩, f⟩ := h.tup
    obtain ⟨q, h1, h2⟩ := keys_of f e
    subst e1
    subst h1
    subst h2
    exact .t q b r
theorem kind_key {d : D} {kvs : List (D × D)} (h : kindOk d kvs = true) : keyOk d = true := by
  cases kvs with
  | nil => exact h
  | cons p r =>
    unfold kindOk at h
    rw [Bool.and_eq_true, Bool.and_eq_true] at h
    exact h.1.1
end
section
variable {pins : List (Ad × Obj)} {σ : St} {H : Hp} {s : Shared} {a : Ad} {Z : ZS}
/-- an empty dict is of either kind -/
theorem toT (I : L2.Inv X pins σ H s) (h : H a = some (.dK [])) : L2.Inv X pins σ (upd H a (.dT [])) s := by
  obtain ⟨z, ns, vs, r, o, es, ep, ho, hx, hd, kp, pr, _⟩ := I.hok a _ h
  cases r
  have hes : es.toList = [] := List.eq_nil_of_length_eq_zero pr.length
  refine I.write (t' := s.toks) (h' := s.heap) (e := a) (by rw [h]; trivial) (.inl rfl) (fun _ _ _ q => q) ⟨o, ho⟩ ?_
  exact ⟨Nat.zero_le _, ns, [], .nil, o, es, ep, ho, hx, hd, by rw [hes]; rfl, .nil⟩
theorem toK (I : L2.Inv X pins σ H s) (h : H a = some (.dT [])) : L2.Inv X pins σ (upd H a (.dK [])) s := by
  obtain ⟨z, ns, xs, r, o, es, ep, ho, hx, hd, e, _⟩ := I.hok a _ h
  cases r
  have hes : es.toList = [] := by simpa using e
  refine I.write (t' := s.toks) (h' := s.heap) (e := a) (by rw [h]; trivial) (.inl rfl) (fun _ _ _ q => q) ⟨o, ho⟩ ?_
  refine ⟨Nat.zero_le _, ns, [], .nil, o, es, ep, ho, hx, hd, fun e he => ?_, by rw [hes]; exact .nil, .nil⟩
  have : e ∈ es.toList := by simpa using he
  rw [hes] at this
  cases this
theorem upd_back {ob oc : HO} (h : H a = some oc) : upd (upd H a ob) a oc = H := by
  funext b
  by_cases e : b = a
  · subst e
    rw [upd_same, h]
  · rw [upd_ne e, upd_ne e]
/-- a look into a dict: in a heap that is as good -/
theorem dic_get {K : Fg} {kvs : List (D × D)} {k : D} {x : V} (I : L2.Inv X pins σ H s) (hd : DicAt K Z H a kvs) (hk : RN K Z H k x) (ko : kindOk k kvs = true) :
    ∃ H2 o, L2.Inv X pins σ H2 s ∧ (∀ s', L2.Inv X pins σ H2 s' → L2.Inv X pins σ H s') ∧ L2.DGet H2 a x o ∧ (∀ d, dGet k kvs = some d → ∃ v, o = some v ∧ Fz K Z H d v) ∧ (dGet k kvs = none → o = none) := by
  have kr := key_of hk (kind_key ko)
  rcases hd with ⟨ys, ha, f⟩ | ⟨ys, ha, f⟩
  · cases kr with
    | k q => exact ⟨H, _, I, fun _ z => z, L2.DGet.k ha, (f.val q).1, (f.val q).2⟩
    | t q b hb =>
      cases kvs with
      | cons p r =>
        obtain ⟨p1, p2⟩ := p
        obtain ⟨q0, x0, t0, e0, ek, _⟩ := f
        subst ek
        cases q0 <;> simp [kD, kindOk] at ko
      | nil =>
        have e : ys = [] := f
        subst e
        have hb' : upd H a (.dT []) b = some (.tup (q.map kV)) := by
          rw [upd_ne (fun z => by rw [z, ha] at hb; cases hb)]
          exact hb
        refine ⟨_, _, toT I ha, fun s' z => ?_, L2.DGet.t upd_same hb', fun d z => (by cases z), fun _ => rfl⟩
        have := toK z upd_same
        rw [upd_back ha] at this
        exact this
  · cases kr with
    | t q b hb => exact ⟨H, _, I, fun _ z => z, L2.DGet.t ha hb, (f.val q).1, (f.val q).2⟩
    | k q =>
      cases kvs with
      | cons p r =>
        obtain ⟨p1, p2⟩ := p
        obtain ⟨q0, x0, t0, e0, ek, _⟩ := f
        subst ek
        cases q <;> simp [kD, kindOk] at ko
      | nil =>
        have e : ys = [] := f
        subst e
        refine ⟨_, _, toK I ha, fun s' z => ?_, L2.DGet.k (k := q) upd_same, fun d z => (by cases z), fun _ => rfl⟩
        have := toT z upd_same
        rw [upd_back ha] at this
        exact this
end
theorem ltRow_eq : ∀ a b : List Int, ltRow a b = HT.lexLt a b
  | [], [] => rfl
  | [], _ :: _ => rfl
  | _ :: _, [] => rfl
  | x :: xs, y :: ys => by
    rw [ltRow, HT.lexLt_cons, ltRow_eq xs ys]
theorem ints_row {K : Fg} {Z : ZS} {H : Hp} : ∀ {ds : List D} {xs : List V} {is : List Int}, FzL K Z H ds xs → allInts ds = some is → xs = is.map V.int
  | [], xs, is, h, e => by
    cases e
    exact h
  | d :: ds, xs, is, h, e => by
    obtain ⟨x, r, e1, f, g⟩ := h
    cases d <;> simp only [allInts] at e <;> try cases e
    rename_i i
    cases q : allInts ds with
    | none =>
      rw [q] at e
      cases e
    | some js =>
      rw [q] at e
      cases e
      have h1 := ints_row g q
      have : x = .int i := f
      subst this
      subst h1
      rw [e1]
      rfl
theorem leRow_at (ns ms : List Int) : ∀ (k i : Nat), k + i = min ns.length ms.length →
    Ob.lexAt (fun j => decide (ns.getD j 0 = ms.getD j 0)) (fun j => decide (ns.getD j 0 ≤ ms.getD j 0)) (decide (ns.length ≤ ms.length)) i k = leRow (ns.drop i) (ms.drop i)
  | 0, i, h => by
    rw [Ob.lexAt_zero]
    by_cases q : ns.length ≤ ms.length
    · rw [List.drop_eq_nil_of_le (as := ns) (by omega), decide_eq_true q]
      rfl
    · rw [List.drop_eq_nil_of_le (as := ms) (by omega), decide_eq_false q, List.drop_eq_getElem_cons (show i < ns.length by omega)]
      rfl
  | k + 1, i, h => by
    have h1 : i < ns.length := by omega
    have h2 : i < ms.length := by omega
    rw [Ob.lexAt_succ, leRow_at ns ms k (i + 1) (by omega), List.drop_eq_getElem_cons h1, List.drop_eq_getElem_cons h2, leRow]
    have e1 : ns.getD i 0 = ns[i] := by rw [List.getD_eq_getElem?_getD, List.getElem?_eq_getElem h1]; rfl
    have e2 : ms.getD i 0 = ms[i] := by rw [List.getD_eq_getElem?_getD, List.getElem?_eq_getElem h2]; rfl
    rw [e1, e2]
    by_cases q : ns[i] = ms[i]
    · rw [if_pos (decide_eq_true q), if_pos q]
    · rw [if_neg (by rw [decide_eq_false q]; decide), if_neg q]
def cmpA : Cmp → CmpOp
  | .eq => .Eq
  | .ne => .NotEq
  | .lt => .Lt
  | .le => .LtE
  | .gt => .Gt
  | .ge => .GtE
  | .isn => .Is
  | .isnot => .IsNot
  | .cin => .In
  | .notin => .NotIn
def cmpF (c : Cmp) (a b : D) : Option (Bool × D) := (cmpSem c a b).map fun t => (false, .bool t)
theorem memD_any (x : D) : ∀ xs : List D, memD x xs = xs.any fun z => PyData.eqv z x
  | [] => rfl
  | y :: r => by rw [memD, List.any_cons, memD_any x r]
theorem op_inT (hu : X.A.units + 65 < cLine) {pins : List (Ad × Obj)} {s : Shared} {σ : St} {H : Hp} {x y : V} {v u : Value} {Q : VK} (I : L2.Inv X pins σ H s) (rx : RelV x v) (ry : RelV y u) {d : D} {ds : List D}
    (hd : Dp X.K H x d) (he : Dp X.K H y (.tuple ds)) (sd : SeqAt.shaped d = true) (se : SeqAt.shaped (.list ds) = true) : (Q (.bl (ds.any fun z => PyData.eqv z d)) H → wpAny (model X.prog X.w) X.A (compareOp .In v u) (L2.EP X pins σ Q) X.xe s) ∧
    (Q (.bl (!ds.any fun z => PyData.eqv z d)) H → wpAny (model X.prog X.w) X.A (compareOp .NotIn v u) (L2.EP X pins σ Q) X.xe s) := by
  obtain ⟨as, r1⟩ := Dp.reads I d x v hd rx
  obtain ⟨bs, r2⟩ := Dp.reads I (.tuple ds) y u he ry
  exact ⟨fun q => SeqAt.in_tuple_reads r2 r1 (SeqAt.canLay_of_shaped se) (SeqAt.canLay_of_shaped sd) (PyProof.Rows.room_in_shaped sd hu) ⟨.bl _, H, I, rfl, q⟩,
    fun q => SeqAt.notIn_tuple_reads r2 r1 (SeqAt.canLay_of_shaped se) (SeqAt.canLay_of_shaped sd) (PyProof.Rows.room_in_shaped sd hu) ⟨.bl _, H, I, rfl, q⟩⟩
theorem RV.dpL {K : Fg} {Z : ZS} {H : Hp} {ds : List D} {v : V} (h : RV K Z H (.list ds) v) (s : shpA 60 ds = true) : Dp K H v (.list ds) := h.dp (n := 61) (by rw [shp]; exact s)
theorem RV.dpT {K : Fg} {Z : ZS} {H : Hp} {ds : List D} {v : V} (h : RV K Z H (.tuple ds) v) (s : shpA 60 ds = true) : Dp K H v (.tuple ds) := h.dp (n := 61) (by rw [shp]; exact s)
theorem cmp_ok (c : Cmp) (hu : X.A.units + 65 < cLine) : OpR X (compareOp (cmpA c)) (r2V X.K (cmpF c)) := by
  intro pins s σ H x y v u Q I rx ry h
  obtain ⟨Z, a, b, ow, d, zd, ha0, hb, e, f⟩ := h
  have ha := ha0.rv
  unfold cmpF at e
  cases es : cmpSem c a b with
  | none =>
    rw [es] at e
    cases e
  | some t =>
    rw [es] at e
    cases e
    cases c with
    | eq =>
      simp only [cmpSem] at es
      split at es
      · rename_i hs
        cases es
        rw [Bool.and_eq_true] at hs
        exact L2.op_eqD (by omega) pins s σ H x y v u Q I rx ry ⟨a, b, ha.dp hs.1, hb.dp hs.2, shp_ok hs.1, shp_ok hs.2, f.bl zd⟩
      · cases es
    | ne =>
      simp only [cmpSem] at es
      split at es
      · rename_i hs
        cases es
        rw [Bool.and_eq_true] at hs
        exact L2.op_neD (by omega) pins s σ H x y v u Q I rx ry ⟨a, b, ha.dp hs.1, hb.dp hs.2, shp_ok hs.1, shp_ok hs.2, f.bl zd⟩
      · cases es
    | lt =>
      cases a <;> cases b <;> simp only [cmpSem] at es <;> try cases es
      rotate_left
      · rename_i as bs
        unfold rowCmp at es
        cases q1 : allInts as with
        | none => rw [q1] at es; cases es
        | some ns =>
          cases q2 : allInts bs with
          | none => rw [q1, q2] at es; cases es
          | some ms =>
            rw [q1, q2] at es
            cases es
            obtain ⟨p, xs, e1, r1, _, f1⟩ := ha.tuple
            obtain ⟨p', xs', e1', r1', _, f1'⟩ := hb.tuple
            have h1 := ints_row f1 q1
            have h2 := ints_row f1' q2
            subst h1 h2
            refine L2.op_ltT (by omega) pins s σ H _ _ v u Q I rx ry ⟨p, p', ns, ms, e1, e1', r1, r1', ?_⟩
            rw [← ltRow_eq]
            exact f.bl zd
      rw [ha.int] at rx
      rw [hb.int] at ry
      exact L2.op_lt pins s σ H _ _ v u Q I rx ry ⟨_, _, rfl, rfl, f.bl zd⟩
    | le =>
      cases a <;> cases b <;> simp only [cmpSem] at es <;> try cases es
      rotate_left
      · rename_i as bs
        unfold rowCmp at es
        cases q1 : allInts as with
        | none => rw [q1] at es; cases es
        | some ns =>
          cases q2 : allInts bs with
          | none => rw [q1, q2] at es; cases es
          | some ms =>
            rw [q1, q2] at es
            cases es
            obtain ⟨p, xs, e1, r1, _, f1⟩ := ha.tuple
            obtain ⟨p', xs', e1', r1', _, f1'⟩ := hb.tuple
            have h1 := ints_row f1 q1
            have h2 := ints_row f1' q2
            subst h1 h2
            refine L2.op_leT (by omega) pins s σ H _ _ v u Q I rx ry ⟨p, p', ns, ms, e1, e1', r1, r1', ?_⟩
            rw [leRow_at ns ms _ 0 (Nat.add_zero _)]
            exact f.bl zd
      rw [ha.int] at rx
      rw [hb.int] at ry
      exact L2.op_le pins s σ H _ _ v u Q I rx ry ⟨_, _, rfl, rfl, f.bl zd⟩
    | gt =>
      cases a <;> cases b <;> simp only [cmpSem] at es <;> cases es
      rw [ha.int] at rx
      rw [hb.int] at ry
      exact L2.op_gt pins s σ H _ _ v u Q I rx ry ⟨_, _, rfl, rfl, f.bl zd⟩
    | ge =>
      cases a <;> cases b <;> simp only [cmpSem] at es <;> cases es
      rw [ha.int] at rx
      rw [hb.int] at ry
      exact L2.op_ge pins s σ H _ _ v u Q I rx ry ⟨_, _, rfl, rfl, f.bl zd⟩
    | isn =>
      have f' := f.bl zd
      cases b with
      | none =>
        rw [hb.non] at ry
        refine L2.op_isN pins s σ H x _ v u Q I rx ry ⟨rfl, ?_⟩
        have : decide (x = V.non) = t := by
          cases a <;> simp only [cmpSem, Option.some.injEq] at es <;> subst es
          · rw [ha.non]; rfl
          · rw [ha.bool]; rfl
          · rw [ha.int]; rfl
          · rw [ha.str.1]; rfl
          · obtain ⟨_, _, e1, _⟩ := ha.list; rw [e1]; rfl
          · obtain ⟨_, _, e1, _⟩ := ha.tuple; rw [e1]; rfl
          · obtain ⟨_, e1⟩ := ha.dictR; rw [e1]; rfl
        rw [this]
        exact f'
      | bool c =>
        cases a <;> simp only [cmpSem] at es <;> cases es
        rw [ha.bool] at rx
        rw [hb.bool] at ry
        exact L2.op_isBl pins s σ H _ _ v u Q I rx ry ⟨_, _, rfl, rfl, f'⟩
      | _ => cases a <;> simp only [cmpSem] at es <;> cases es
    | isnot =>
      have f' := f.bl zd
      cases b with
      | none =>
        rw [hb.non] at ry
        refine L2.op_notN pins s σ H x _ v u Q I rx ry ⟨rfl, ?_⟩
        have : (!decide (x = V.non)) = t := by
          cases a <;> simp only [cmpSem, Option.some.injEq] at es <;> subst es
          · rw [ha.non]; rfl
          · rw [ha.bool]; rfl
          · rw [ha.int]; rfl
          · rw [ha.str.1]; rfl
          · obtain ⟨_, _, e1, _⟩ := ha.list; rw [e1]; rfl
          · obtain ⟨_, _, e1, _⟩ := ha.tuple; rw [e1]; rfl
          · obtain ⟨_, e1⟩ := ha.dictR; rw [e1]; rfl
        rw [this]
        exact f'
      | bool c =>
        cases a <;> simp only [cmpSem] at es <;> cases es
        rw [ha.bool] at rx
        rw [hb.bool] at ry
        exact L2.op_notBl pins s σ H _ _ v u Q I rx ry ⟨_, _, rfl, rfl, f'⟩
      | _ => cases a <;> simp only [cmpSem] at es <;> cases es
    | cin =>
      have f' := f.bl zd
      cases b with
      | list ds =>
        simp only [cmpSem] at es
        split at es
        · rename_i hs
          cases es
          rw [Bool.and_eq_true] at hs
          rw [memD_any] at f'
          exact L2.op_inD hu pins s σ H x y v u Q I rx ry ⟨a, ds, ha.dp hs.1, hb.dpL hs.2, shp_ok hs.1, shpL_ok hs.2, f'⟩
        · cases es
      | tuple ds =>
        simp only [cmpSem] at es
        split at es
        · rename_i hs
          cases es
          rw [Bool.and_eq_true] at hs
          rw [memD_any] at f'
          exact (op_inT hu I rx ry (ha.dp hs.1) (hb.dpT hs.2) (shp_ok hs.1) (shpL_ok hs.2)).1 f'
        · cases es
      | dict kvs =>
        simp only [cmpSem] at es
        split at es
        · rename_i hs
          cases es
          obtain ⟨p, ep, hp⟩ := hb.dict (row_no hs)
          subst ep
          obtain ⟨H2, o, I2, back, g, h1, h2⟩ := dic_get I hp ha0 hs
          obtain rfl : u = Value.ref p := ry
          refine L2.d_in (by omega) I2 g rx fun s' I' => ⟨.bl o.isSome, H, back s' I', rfl, ?_⟩
          have : (dGet a kvs).isSome = o.isSome := by
            cases hg : dGet a kvs with
            | none => rw [h2 hg]; rfl
            | some d => obtain ⟨w, e, _⟩ := h1 d hg; rw [e]; rfl
          rw [← this]
          exact f'
        · cases es
      | _ => cases a <;> simp only [cmpSem] at es <;> cases es
    | notin =>
      have f' := f.bl zd
      cases b with
      | list ds =>
        simp only [cmpSem] at es
        split at es
        · rename_i hs
          cases es
          rw [Bool.and_eq_true] at hs
          rw [memD_any] at f'
          exact L2.op_notInD hu pins s σ H x y v u Q I rx ry ⟨a, ds, ha.dp hs.1, hb.dpL hs.2, shp_ok hs.1, shpL_ok hs.2, f'⟩
        · cases es
      | tuple ds =>
        simp only [cmpSem] at es
        split at es
        · rename_i hs
          cases es
          rw [Bool.and_eq_true] at hs
          rw [memD_any] at f'
          exact (op_inT hu I rx ry (ha.dp hs.1) (hb.dpT hs.2) (shp_ok hs.1) (shpL_ok hs.2)).2 f'
        · cases es
      | dict kvs =>
        simp only [cmpSem] at es
        split at es
        · rename_i hs
          cases es
          obtain ⟨p, ep, hp⟩ := hb.dict (row_no hs)
          subst ep
          obtain ⟨H2, o, I2, back, g, h1, h2⟩ := dic_get I hp ha0 hs
          obtain rfl : u = Value.ref p := ry
          refine L2.d_notIn (by omega) I2 g rx fun s' I' => ⟨.bl (!o.isSome), H, back s' I', rfl, ?_⟩
          have : (dGet a kvs).isSome = o.isSome := by
            cases hg : dGet a kvs with
            | none => rw [h2 hg]; rfl
            | some d => obtain ⟨w, e, _⟩ := h1 d hg; rw [e]; rfl
          rw [← this]
          exact f'
        · cases es
      | _ => cases a <;> simp only [cmpSem] at es <;> cases es
end
end MW
end
section
set_option Elab.async false
set_option linter.all false
set_option maxRecDepth 100000
set_option maxHeartbeats 2000000
/-! So4: items, slices, built-in functions, methods. -/
namespace MW
open PySem PySem.Spec PyProof.Rows
open L2 (V Hp HO St upd upd_same upd_ne SqL SqT Rd Vals RelV Key kV ne_of_none VK XK TE TT TA TS Ends PE PT PA PS PSs OpR CallR MtR IxR SlR Dp DpAll PSet)
variable [Tbs]
section
variable {X : L2.Cx}
theorem idxNat_eq (n : Nat) (i : Int) : idxNat n i = L2.ixN n i := by
  unfold idxNat L2.ixN
  split
  · rfl
  · split
    · rw [Int.add_comm]
    · rfl
theorem FzL.at_ {K : Fg} {Z : ZS} {H : Hp} {ds : List D} {xs : List V} (h : FzL K Z H ds xs) {i : Int} {d : D} (e : (idxNat ds.length i).bind (getAt ds) = some d) : ∃ x, L2.atI xs i = some x ∧ Fz K Z H d x := by
  cases hi : idxNat ds.length i with
  | none =>
    rw [hi] at e
    cases e
  | some n =>
    rw [hi] at e
    obtain ⟨x, h1, h2⟩ := h.get (n := n) e
    refine ⟨x, ?_, h2⟩
    unfold L2.atI
    rw [h.len, ← idxNat_eq, hi]
    exact h1
def idxF (a b : D) : Option (Bool × D) := (idxSem a b).map fun d => (false, d)
theorem ix_ok (hu : X.A.units + 65 < cLine) : IxR X (r2I X.K idxF) := by
  intro value slice pins s σ H x y v u Q I rx ry h hs
  obtain ⟨Z, a, b, ow, d, zd, ha, hb0, e, f⟩ := h
  have hb := hb0.rv
  unfold idxF at e
  cases es : idxSem a b with
  | none =>
    rw [es] at e
    cases e
  | some t =>
    rw [es] at e
    cases e
    cases a with
    | list ds =>
      cases b <;> simp only [idxSem] at es <;> try cases es
      obtain ⟨p, xs, ep, r, l, fl⟩ := ha.list
      obtain ⟨w, h1, h2⟩ := fl.at_ es
      rw [ep] at rx
      rw [hb.int] at ry
      exact L2.ix_list value slice pins s σ H _ _ v u Q I rx ry ⟨p, xs, _, w, rfl, rfl, .inl r, h1, f.val zd h2⟩ hs
    | tuple ds =>
      cases b <;> simp only [idxSem] at es <;> try cases es
      obtain ⟨p, xs, ep, r, l, fl⟩ := ha.tuple
      obtain ⟨w, h1, h2⟩ := fl.at_ es
      rw [ep] at rx
      rw [hb.int] at ry
      exact L2.ix_tup value slice pins s σ H _ _ v u Q I rx ry ⟨p, xs, _, w, rfl, rfl, r, h1, f.val zd h2⟩ hs
    | str z =>
      cases b <;> simp only [idxSem] at es <;> try cases es
      rename_i i
      obtain ⟨e1, l⟩ := ha.str
      rw [e1] at rx
      rw [hb.int] at ry
      cases hi : idxNat z.cps.size i with
      | none =>
        rw [hi] at es
        cases es
      | some n =>
        rw [hi] at es
        cases hc : z.cps[n]? with
        | none =>
          simp only [Option.bind_some, hc] at es
          cases es
        | some c =>
          simp only [Option.bind_some, hc, Option.map_some] at es
          cases es
          refine L2.ix_str value slice pins s σ H _ _ v u Q I rx ry ⟨z, i, c, rfl, rfl, by rw [← szLine_eq]; exact l, ?_, f.val zd ⟨rfl, by show 1 ≤ szLine; decide⟩⟩ hs
          unfold L2.atI
          rw [← idxNat_eq, Array.length_toList, hi]
          show z.cps.toList[n]? = some c
          rw [Array.getElem?_toList]
          exact hc
    | dict kvs =>
      simp only [idxSem] at es
      split at es
      · rename_i ds0 er
        cases b <;> simp only at es <;> try cases es
        obtain ⟨p, xs, o, ep, _, r, _, _, l, fl⟩ := ha.row er
        obtain ⟨w, h1, h2⟩ := fl.at_ es
        rw [ep] at rx
        rw [hb.int] at ry
        exact L2.ix_tup value slice pins s σ H _ _ v u Q I rx ry ⟨p, xs, _, w, rfl, rfl, .inl (.inr ⟨o, r⟩), h1, f.val zd h2⟩ hs
      split at es
      · rename_i ko
        obtain ⟨p, ep, hp⟩ := ha.dict (row_no ko)
        subst ep
        obtain ⟨H2, o, I2, back, g, h1, h2⟩ := dic_get I hp hb0 ko
        obtain ⟨w, ew, fw⟩ := h1 _ es
        subst ew
        obtain rfl : v = Value.ref p := rx
        unfold subscriptTail
        have ty := L2.dict_typeIs I2 g
        refine wpAny_bind ?_
        rw [getitemInPython_of_ne ty.not_modules]
        refine wpAny_bind (wpAny_specialOf ty PySem.F.slot_dict_getitem.lookup ?_)
        have fin : wpAny (model X.prog X.w) X.A (subscripted slice false (Value.ref p) u) (fun r s₃ => wpAny (model X.prog X.w) X.A (letTemporaryGo value (Value.ref p) r >>= fun _ => pure r) (L2.EP X pins σ Q) X.xe s₃) X.xe s := by
          rw [hs]
          exact wpAny_operating (L2.d_getItem (by omega) I2 g ry fun w' s' I' rw' => wpAny_bind (wpAny_letTemporaryGo (wpAny_pure ⟨w, H, back s' I', rw', f.val zd fw⟩)))
        first
          | exact wpAny_pure (wpAny_bind fin)
          | exact wpAny_bind (wpAny_pure (wpAny_bind fin))
          | exact wpAny_bind fin
      · cases es
    | _ => cases b <;> simp only [idxSem] at es <;> cases es
theorem clamp_eq (n d : Nat) (i : Int) : HT.sIx n d (some i) = clampIx n i := by
  show (if i < 0 then (i + (n : Int)).toNat else min i.toNat n) = clampIx n i
  unfold clampIx
  split
  · split
    · omega
    · rfl
  · split <;> omega
/-- a slice's end -/
def endO : D → Option (Option Int)
  | .none => some none
  | .int i => some (some i)
  | _ => none
theorem cut_eq {K : Fg} {Z : ZS} {H : Hp} {ds : List D} {xs : List V} (h : FzL K Z H ds xs) {lo hi : D} {r : List D} {l u : Option Int} (el : endO lo = some l) (eu : endO hi = some u) (e : cutL ds lo hi = some r) : FzL K Z H r (L2.cutV xs l u) := by
  unfold L2.cutV
  cases lo <;> simp only [endO] at el <;> cases el <;> cases hi <;> simp only [endO] at eu <;> cases eu <;> simp only [cutL] at e <;> cases e
  · rw [HT.sIx_none, HT.sIx_none, List.drop_zero, Nat.sub_zero, List.take_length]
    exact h
  · rw [HT.sIx_none, clamp_eq, List.drop_zero, Nat.sub_zero, h.len]
    exact h.take _
  · rw [HT.sIx_none, clamp_eq, ← h.len]
    rw [show List.take (xs.length - clampIx xs.length _) (List.drop (clampIx xs.length _) xs) = List.drop (clampIx xs.length _) xs from List.take_of_length_le (by rw [List.length_drop]; exact Nat.le_refl _)]
    exact h.drop _
  · rw [clamp_eq, clamp_eq, h.len]
    exact (h.drop _).take _
theorem cut_whole {ds r : List D} {lo hi : D} {l u : Option Int} (e : cutL ds lo hi = some r) (el : endO lo = some l) (eu : endO hi = some u) (w : HT.sIx ds.length 0 l = 0 ∧ HT.sIx ds.length ds.length u = ds.length) : r = ds := by
  cases lo <;> simp only [endO] at el <;> cases el <;> cases hi <;> simp only [endO] at eu <;> cases eu <;> simp only [cutL] at e <;> cases e
  · rfl
  · rw [clamp_eq] at w
    rw [w.2, List.take_length]
  · rw [clamp_eq] at w
    rw [w.1, List.drop_zero]
  · rw [clamp_eq, clamp_eq] at w
    rw [w.1, w.2, List.drop_zero, Nat.sub_zero, List.take_length]
def rSlD (K : Fg) : V → Option Int → Option Int → Hp → VK → Prop := fun x lo hi H Q => ∃ Z a l u o d, Zd Z H ∧ RN K Z H a x ∧ endO l = some lo ∧ endO u = some hi ∧ sliceSem a l u = some (o, d) ∧ Fin K Z H o d Q
theorem sl_ok : SlR X (rSlD X.K) := by
  intro pins s σ H x v vl vu lo hi sl Q I rx hs pl pu h
  obtain ⟨Z, a, l, u, o, d, zd, ha0, el, eu, e, f⟩ := h
  have ha := ha0.rv
  cases a <;> simp only [sliceSem] at e <;> try cases e
  · obtain ⟨p, xs, ep, r, lz, fl⟩ := ha.list
    rw [ep] at rx
    cases ec : cutL _ l u with
    | none =>
      rw [ec] at e
      cases e
    | some q =>
      rw [ec] at e
      cases e
      have g := cut_eq fl el eu ec
      exact L2.sl_list pins s σ H _ v vl vu lo hi sl Q I rx hs pl pu ⟨p, xs, rfl, .inl r, f.lst zd g (Nat.le_trans (L2.cutV_length xs lo hi) lz)⟩
  · have ht := ha0.tup
    obtain ⟨p, xs, ep, r, lz, fl⟩ := ha.tuple
    rw [ep] at rx ht
    cases ec : cutL _ l u with
    | none =>
      rw [ec] at e
      cases e
    | some q =>
      rw [ec] at e
      cases e
      have g := cut_eq fl el eu ec
      refine L2.sl_tupA pins s σ H _ v vl vu lo hi sl Q I rx hs pl pu ⟨p, xs, rfl, r, fun w => ?_, fun _ => f.tup zd g (Nat.le_trans (L2.cutV_length xs lo hi) lz)⟩
      have : q = _ := cut_whole ec el eu (by rw [← fl.len]; exact w)
      subst this
      exact f.val zd ht
end
end MW
end
section
set_option Elab.async false
set_option linter.all false
set_option maxRecDepth 100000
set_option maxHeartbeats 2000000
/-! Sa1: sorted of rows of ints, of any number. -/
namespace MW
open PySem PySem.Spec
open PyProof.Rows hiding St
open L2 (V Hp HO upd SqL SqT Rd Vals RelV VK CallR TupI bkV)
def lexZ (fin : Bool) : List Int → List Int → Bool
  | x :: xs, y :: ys => if x = y then lexZ fin xs ys else decide (x < y)
  | _, _ => fin
theorem lexZ_eq : ∀ (fin : Bool) (ns ms : List Int), fin = decide (ns.length < ms.length) → lexZ fin ns ms = HT.lexLt ns ms
  | fin, [], [], e => by rw [e]; rfl
  | fin, [], y :: ys, e => by
    rw [e]
    show decide (0 < ys.length + 1) = true
    exact decide_eq_true (Nat.succ_pos _)
  | fin, x :: xs, [], e => by
    rw [e]
    show decide (xs.length + 1 < 0) = false
    exact decide_eq_false (by omega)
  | fin, x :: xs, y :: ys, e => by
    rw [HT.lexLt_cons, ← lexZ_eq fin xs ys (by rw [e]; simp)]
    rfl
section
variable {prog : Program} {w : World} {A : Around} {E : Value → Shared → Prop} {s : Shared}
theorem kat_ints {b fin : Bool} {Q : Bool → Shared → Prop} : ∀ {vs ws : List Value} {ns ms : List Int} (i : Nat), IntsAre vs ns → IntsAre ws ms → Q (lexZ fin ns ms) s → PySem.W.KatLex prog w A b fin Q (vs.zip ws) i s
  | _, _, _, _, i, .nil, _, h => PySem.W.kat_nil h
  | _, _, _, _, i, .cons x t r, .nil, h => PySem.W.kat_nil h
  | _, _, _, _, i, .cons x t r, .cons y u q, h => by
    refine PySem.W.kat_cons (SeqAt.EqAt.int_int x t y u prog w _ _ ?_)
    refine PySem.W.kat_go (fun e1 => ?_) (fun e1 => ?_)
    · have ex : x = y := by simpa using e1
      refine PySem.W.kat_yes (kat_ints (i + 1) r q ?_)
      rw [lexZ, if_pos ex] at h
      exact h
    · have ex : ¬ x = y := by simpa using e1
      rw [lexZ, if_neg ex] at h
      refine PySem.W.kat_no ?_
      cases hb : (b && i == 0) with
      | true => exact oneLt_int h
      | false => exact PySem.W.kat_one _ _ (PyProof.Rows.lt_int h)
theorem row_cmp {vs : List Value} {k : Value → List Int} (hp : ∀ v ∈ vs, TS.TupInts s.heap v (k v)) : SrtO.Cmp prog w A s (tuples' true) (fun p => p.1 ∈ vs) (SrtO.lt2 fun v u => HT.lexLt (k v) (k u)) := by
  intro p q hm hm'
  have h1 := hp _ hm
  have h2 := hp _ hm'
  show wpAny (model prog w) A (keyLt' (tuples' true) p.1 q.1) (fun r s' => s' = s ∧ r = HT.lexLt (k p.1) (k q.1)) (fun _ _ => False) s
  generalize k p.1 = ns at h1 ⊢
  generalize k q.1 = ms at h2 ⊢
  obtain ⟨a, xs, e, ⟨o, ho, hc, n, hd⟩, i⟩ := h1
  obtain ⟨a', xs', e', ⟨o', ho', hc', n', hd'⟩, i'⟩ := h2
  rw [e, e']
  refine PySem.W.kat_lt ho hd ho' hd' (kat_ints 0 i i' ⟨rfl, lexZ_eq _ _ _ ?_⟩)
  rw [← i.length, ← i'.length, Array.length_toList, Array.length_toList]
theorem row_firsts {h : Heap} : ∀ {vs : List Value}, (∀ v ∈ vs, ∃ ns, TS.TupInts h v ns ∧ ns ≠ []) → ∃ fs, PySem.W.KatTups h vs fs ∧ fs.length = vs.length ∧ ∀ f ∈ fs, ∃ x t, f = Value.int x t
  | [], _ => ⟨[], PySem.W.KatTups.nil, rfl, fun f hf => absurd hf (by simp)⟩
  | v :: vs, hv => by
    obtain ⟨fs, h1, h2, h3⟩ := row_firsts (vs := vs) fun u hu => hv u (List.mem_cons_of_mem _ hu)
    obtain ⟨ns, ⟨a, xs, e, ⟨o, ho, hc, n, hd⟩, i⟩, ne⟩ := hv v List.mem_cons_self
    subst e
    cases hx : xs.toList with
    | nil =>
      rw [hx] at i
      cases i
      exact absurd rfl ne
    | cons f r =>
      rw [hx] at i
      have hf : ∃ x t, f = Value.int x t := by
        cases i with
        | cons x t _ => exact ⟨x, t, rfl⟩
      have h0 : xs[0]? = some f := by rw [← Array.getElem?_toList, hx]; rfl
      refine ⟨f :: fs, PySem.W.KatTups.cons ho hc hd h0 h1, by rw [List.length_cons, List.length_cons, h2], fun g hg => ?_⟩
      rcases List.mem_cons.mp hg with z | z
      · rw [z]; exact hf
      · exact h3 g z
theorem rows_sortable {a : Addr} {vs : List Value} {k : Value → List Int} (h0 : 0 < vs.length) (hp : ∀ v ∈ vs, TS.TupInts s.heap v (k v) ∧ k v ≠ []) (ha : ∀ o, s.heap.get? a = some o → o.cls ≠ .type "tuple") : SrtO.SortableO prog w A s a vs fun v u => HT.lexLt (k v) (k u) := by
  intro h' keep
  have hp' : ∀ v ∈ vs, TS.TupInts h' v (k v) := fun v hm => (hp v hm).1.keeps fun b o e c => keep b o (fun z => by subst z; exact ha o e c) e
  obtain ⟨fs, h1, h2, h3⟩ := row_firsts fun v hm => ⟨_, hp' v hm, (hp v hm).2⟩
  refine ⟨tuples' true, fun Q E hq => ?_, row_cmp (s := { s with heap := h' }) hp'⟩
  refine PySem.W.kat_kind (T := .type "int") h1 (by omega) (fun f hm => ?_) (by rfl) ?_
  · obtain ⟨x, t, rfl⟩ := h3 f hm
    exact PySem.W.Looks.now
  · have e : (Value.type "int" != Value.type "tuple") = true := by first | decide +kernel | rfl | decide
    rw [e]
    exact hq
end
end MW
end
section
set_option Elab.async false
set_option linter.all false
set_option maxRecDepth 100000
set_option maxHeartbeats 2000000
/-! Sa2: sorted, as a rule. -/
namespace MW
open PySem PySem.Spec
open PyProof.Rows hiding St
open L2 (V Hp HO upd SqL SqT Rd Vals RelV VK CallR TupI bkV)
section
variable {X : L2.Cx}
/-- sorted(xs), xs a list of rows of ints -/
def rSortRows (K : Fg) : List V → Hp → VK → Prop := fun vs H Q => ∃ (a : Ad) (xs : List V), vs = [V.ref a] ∧ SqL K H a xs ∧ (∀ x ∈ xs, ∃ ns, TupI K H x ns ∧ (2 ≤ xs.length → ns ≠ [])) ∧
  ∀ (ys : List V) (p : Ad), ys.Perm xs → ys.Pairwise (fun x y => ∀ n m, TupI K H x n → TupI K H y m → HT.lexLt m n = false) → H p = none → Q (.ref p) (upd H p (.lst ys))
theorem cr_sortRows : CallR X (.builtin "sorted") (rSortRows X.K) := by
  intro pins s σ H vs us Q I r h
  obtain ⟨a, xs, rfl, hs, hx, q⟩ := h
  obtain ⟨its, rv, hl, hz⟩ := I.list hs
  rw [Vals.ref1 r]
  obtain ⟨e1, e2⟩ := L2.bkV_refs rv fun x m => by
    obtain ⟨ns, ⟨t, e, _⟩, _⟩ := hx x m
    exact ⟨t, e⟩
  have hlen0 : xs.length = its.length := rv.length
  have raw : ∀ v ∈ its, TS.TupInts s.heap v (TS.intsOf s.heap v) ∧ (2 ≤ its.length → TS.intsOf s.heap v ≠ []) := fun v hv => by
    obtain ⟨t, rfl⟩ := e2 v hv
    have hm : V.ref t ∈ xs := by
      rw [e1]
      exact List.mem_map.mpr ⟨_, hv, rfl⟩
    obtain ⟨ns, ⟨t', e, ht⟩, hn⟩ := hx _ hm
    cases e
    have ti := L2.tupI_raw I ht
    rw [ti.ints]
    exact ⟨ti, by rw [← hlen0]; exact hn⟩
  refine SrtO.sorted_ord (ltv := fun v u => HT.lexLt (TS.intsOf s.heap v) (TS.intsOf s.heap u)) (NtL.swo_lexL _) hl.isList (by rw [← rv.length]; exact hz) (fun h2 h₁ a' ha kk => ?_) fun out h1 h2 => ?_
  · refine rows_sortable (s := { s with heap := h₁ }) (by omega) (fun v hm => ⟨(raw v hm).1.keeps fun b o e _ => (kk b o e).2, (raw v hm).2 h2⟩) fun o e => ?_
    have e' : some o = some (seqObj "list" its.toArray 0) := e.symm.trans ha
    cases e'
    intro c
    exact absurd (Value.type.inj c) (by decide)
  · obtain ⟨ep, he'⟩ := PyProof.Rows.sortedAll_at s.heap its out.toArray
    have h3 : ∀ u ∈ out, ∃ a, u = Value.ref a := fun u hu => e2 u (h2.perm.mem_iff.mp hu)
    have hp : (out.map bkV).Perm xs := by
      rw [e1]
      exact h2.perm.map bkV
    have hlen : (out.map bkV).length ≤ sizeLine := by
      rw [hp.length_eq]
      exact hz
    refine ⟨.ref _, upd H (s.heap.objs.size + 1) (.lst (out.map bkV)), I.laid (t' := s.toks) (fun _ _ => PyProof.Rows.sortedAll_old) (Nat.le_succ _) ⟨hlen, out, ep, L2.bkV_vals h3, he'⟩, rfl, q _ _ hp ?_ (I.hok.fresh (Nat.le_succ _))⟩
    rw [List.pairwise_map]
    refine List.Pairwise.imp (fun {u v} huv n m hn hm => ?_) h1
    obtain ⟨t, et, ht⟩ := hn
    obtain ⟨t', et', ht'⟩ := hm
    have eu := L2.bkV_ref et
    have ev := L2.bkV_ref et'
    have i1 : TS.intsOf s.heap u = n := by
      rw [eu]
      exact (L2.tupI_raw I ht).ints
    have i2 : TS.intsOf s.heap v = m := by
      rw [ev]
      exact (L2.tupI_raw I ht').ints
    rw [← i1, ← i2]
    exact huv
end
end MW
end
section
set_option Elab.async false
set_option linter.all false
set_option maxRecDepth 100000
set_option maxHeartbeats 2000000
/-! Sa3: sorted of plain values. -/
namespace MW
open PySem PySem.Spec
open PyProof.Rows hiding St
open L2 (V Hp HO upd SqL SqT Rd Vals RelV VK CallR TupI bkV)
variable [Tbs]
theorem ins_perm {A : Type} (lt : A → A → Bool) (x : A) : ∀ l : List A, (insB lt x l).Perm (x :: l)
  | [] => List.Perm.refl _
  | y :: r => by
    rw [insB]
    split
    · exact ((ins_perm lt x r).cons y).trans (List.Perm.swap x y r)
    · exact List.Perm.refl _
theorem sort_perm {A : Type} (lt : A → A → Bool) : ∀ l : List A, (sortB lt l).Perm l
  | [] => List.Perm.refl _
  | x :: r => (ins_perm lt x _).trans ((sort_perm lt r).cons x)
theorem ins_srtd {A : Type} {lt : A → A → Bool} (O : SrtO.Swo lt) (x : A) : ∀ {l : List A}, SrtO.Srtd lt l → SrtO.Srtd lt (insB lt x l)
  | [], _ => List.pairwise_singleton _ _
  | y :: r, h => by
    rw [insB]
    obtain ⟨h1, h2⟩ := List.pairwise_cons.mp h
    split
    · rename_i q
      refine List.pairwise_cons.mpr ⟨fun z hz => ?_, ins_srtd O x h2⟩
      rcases List.mem_cons.mp ((ins_perm lt x r).mem_iff.mp hz) with e | e
      · rw [e]
        exact O.asym _ _ q
      · exact h1 z e
    · rename_i q
      have q' : lt y x = false := by simpa using q
      refine List.pairwise_cons.mpr ⟨fun z hz => ?_, h⟩
      rcases List.mem_cons.mp hz with e | e
      · rw [e]
        exact q'
      · exact O.tr _ _ _ q' (h1 z e)
theorem sort_srtd {A : Type} {lt : A → A → Bool} (O : SrtO.Swo lt) : ∀ l : List A, SrtO.Srtd lt (sortB lt l)
  | [] => List.Pairwise.nil
  | x :: r => ins_srtd O x (sort_srtd O r)
theorem perm_uniq {A : Type} {R : A → A → Prop} (anti : ∀ x y, R x y → R y x → x = y) : ∀ {l m : List A}, l.Pairwise R → m.Pairwise R → l.Perm m → l = m
  | [], m, _, _, p => (List.Perm.eq_nil p.symm).symm
  | x :: l, [], _, _, p => absurd p.length_eq (by simp)
  | x :: l, y :: m, hl, hm, p => by
    obtain ⟨h1, h2⟩ := List.pairwise_cons.mp hl
    obtain ⟨h3, h4⟩ := List.pairwise_cons.mp hm
    have e : x = y := by
      rcases List.mem_cons.mp (p.mem_iff.mp (List.mem_cons_self (a := x) (l := l))) with e | hx
      · exact e
      · rcases List.mem_cons.mp (p.mem_iff.mpr (List.mem_cons_self (a := y) (l := m))) with e | hy
        · exact e.symm
        · exact anti _ _ (h1 y hy) (h3 x hx)
    subst e
    rw [perm_uniq anti h2 h4 p.cons_inv]
theorem swo_ltI : SrtO.Swo ltI := by
  refine ⟨fun x y h => ?_, fun x y z h1 h2 => ?_⟩
  · have a := of_decide_eq_true (p := x < y) h
    exact decide_eq_false (p := y < x) (by omega)
  · have a := of_decide_eq_false (p := y < x) h1
    have b := of_decide_eq_false (p := z < y) h2
    exact decide_eq_false (p := z < x) (by omega)
theorem sort_ints {ns is : List Int} (pm : ns.Perm is) (pw : ns.Pairwise (· ≤ ·)) : ns = sortB ltI is := by
  refine perm_uniq (R := fun x y : Int => x ≤ y) (fun x y a b => Int.le_antisymm a b) pw ?_ (pm.trans (sort_perm ltI is).symm)
  exact (sort_srtd swo_ltI is).imp fun {x y} h => Int.not_lt.mp (of_decide_eq_false (p := y < x) h)
theorem lex_tot : ∀ a b : List Int, HT.lexLt a b = false → HT.lexLt b a = false → a = b
  | [], [], _, _ => rfl
  | [], _ :: _, h, _ => by cases h
  | _ :: _, [], _, h => by cases h
  | x :: xs, y :: ys, h1, h2 => by
    rw [HT.lexLt_cons] at h1 h2
    by_cases e : x = y
    · subst e
      rw [if_pos rfl] at h1 h2
      rw [lex_tot xs ys h1 h2]
    · rw [if_neg e] at h1
      rw [if_neg (fun q => e q.symm)] at h2
      have a := of_decide_eq_false (p := x < y) h1
      have b := of_decide_eq_false (p := y < x) h2
      exact absurd (by omega) e
theorem allInts_eq : ∀ {ds : List D} {is : List Int}, allInts ds = some is → ds = is.map PyData.int
  | [], is, e => by cases e; rfl
  | d :: ds, is, e => by
    cases d <;> simp only [allInts] at e <;> try cases e
    rename_i i
    cases q : allInts ds with
    | none => rw [q] at e; cases e
    | some js =>
      rw [q] at e
      cases e
      rw [allInts_eq q]
      rfl
theorem rowsI_eq : ∀ {ds : List D} {rs : List (List Int)}, rowsI ds = some rs → ds = rs.map rowD
  | [], rs, e => by cases e; rfl
  | d :: ds, rs, e => by
    cases d <;> simp only [rowsI] at e <;> try cases e
    rename_i xs
    cases q : allInts xs with
    | none => rw [q] at e; cases e
    | some js =>
      rw [q] at e
      cases q2 : rowsI ds with
      | none => rw [q2] at e; cases e
      | some r2 =>
        rw [q2] at e
        cases e
        rw [allInts_eq q, rowsI_eq q2]
        rfl
section
variable {K : Fg} {Z : ZS} {H : Hp}
theorem fz_ints : ∀ is : List Int, FzL K Z H (is.map PyData.int) (is.map V.int)
  | [] => rfl
  | i :: is => ⟨_, _, rfl, rfl, fz_ints is⟩
theorem fz_intsE : ∀ {is : List Int} {xs : List V}, FzL K Z H (is.map PyData.int) xs → xs = is.map V.int
  | [], xs, h => h
  | i :: is, xs, h => by
    obtain ⟨x, r, e, f, g⟩ := h
    have fx : x = V.int i := f
    rw [e, fx, fz_intsE g]
    rfl
theorem rowD_tupI {r : List Int} {x : V} (h : Fz K Z H (rowD r) x) : TupI K H x r := by
  obtain ⟨a, xs, e, t, f⟩ := h
  have e2 := fz_intsE f
  subst e2
  exact ⟨a, e, t.sq⟩
theorem rows_tupI : ∀ {rs : List (List Int)} {xs : List V}, FzL K Z H (rs.map rowD) xs → xs.length = rs.length ∧ ∀ x ∈ xs, ∃ ns, ns ∈ rs ∧ TupI K H x ns
  | [], xs, h => by
    have e : xs = [] := h
    subst e
    exact ⟨rfl, fun x hx => absurd hx (by simp)⟩
  | r :: rs, xs, h => by
    obtain ⟨x, t, e, f, g⟩ := h
    obtain ⟨h1, h2⟩ := rows_tupI g
    subst e
    refine ⟨by rw [List.length_cons, List.length_cons, h1], fun y hy => ?_⟩
    rcases List.mem_cons.mp hy with z | z
    · rw [z]
      exact ⟨r, List.mem_cons_self, rowD_tupI f⟩
    · obtain ⟨ns, m, t⟩ := h2 y z
      exact ⟨ns, List.mem_cons_of_mem _ m, t⟩
theorem rows_of {ds : List D} {xs : List V} {rs : List (List Int)} (h : FzL K Z H ds xs) (e : rowsI ds = some rs) : xs.length = rs.length ∧ ∀ x ∈ xs, ∃ ns, ns ∈ rs ∧ TupI K H x ns := by
  rw [rowsI_eq e] at h
  exact rows_tupI h
theorem FzL.perm {xs ys : List V} (p : ys.Perm xs) : ∀ {ds : List D}, FzL K Z H ds xs → ∃ ds', ds'.Perm ds ∧ FzL K Z H ds' ys := by
  induction p with
  | nil => exact fun {ds} h => ⟨ds, List.Perm.refl _, h⟩
  | cons x p ih =>
    intro ds h
    cases ds with
    | nil => exact absurd (show _ :: _ = ([] : List V) from h) (by simp)
    | cons d ds =>
      obtain ⟨y, r, e, f, g⟩ := h
      cases e
      obtain ⟨ds', p', g'⟩ := ih g
      exact ⟨d :: ds', p'.cons d, _, _, rfl, f, g'⟩
  | swap x y l =>
    intro ds h
    cases ds with
    | nil => exact absurd (show _ :: _ = ([] : List V) from h) (by simp)
    | cons d ds =>
      obtain ⟨u, r, e, f, g⟩ := h
      cases e
      cases ds with
      | nil => exact absurd (show _ :: _ = ([] : List V) from g) (by simp)
      | cons d2 ds =>
        obtain ⟨u2, r2, e2, f2, g2⟩ := g
        cases e2
        exact ⟨d2 :: d :: ds, List.Perm.swap _ _ _, _, _, rfl, f2, _, _, rfl, f, g2⟩
  | trans p q ih1 ih2 =>
    intro ds h
    obtain ⟨d1, p1, f1⟩ := ih2 h
    obtain ⟨d2, p2, f2⟩ := ih1 f1
    exact ⟨d2, p2.trans p1, f2⟩
end
theorem map_perm {A B : Type} {f : A → B} {l' l : List B} (p : l'.Perm l) : ∀ {rs : List A}, l = rs.map f → ∃ rs' : List A, l' = rs'.map f ∧ rs'.Perm rs := by
  induction p with
  | nil =>
    intro rs e
    exact ⟨rs, e, List.Perm.refl _⟩
  | cons x p ih =>
    intro rs e
    cases rs with
    | nil => cases e
    | cons r rs =>
      rw [List.map_cons] at e
      injection e with e1 e2
      obtain ⟨rs', e3, p3⟩ := ih e2
      exact ⟨r :: rs', by rw [List.map_cons, ← e1, ← e3], p3.cons r⟩
  | swap x y l =>
    intro rs e
    cases rs with
    | nil => cases e
    | cons r rs =>
      rw [List.map_cons] at e
      injection e with e1 e2
      cases rs with
      | nil => cases e2
      | cons r2 rs =>
        rw [List.map_cons] at e2
        injection e2 with e3 e4
        exact ⟨r2 :: r :: rs, by rw [List.map_cons, List.map_cons, ← e1, ← e3, ← e4], List.Perm.swap _ _ _⟩
  | trans p q ih1 ih2 =>
    intro rs e
    obtain ⟨r1, e1, p1⟩ := ih2 e
    obtain ⟨r2, e2, p2⟩ := ih1 e1
    exact ⟨r2, e2, p2.trans p1⟩
theorem rows_perm {ds ds' : List D} {rs : List (List Int)} (p : ds'.Perm ds) (e : rowsI ds = some rs) : ∃ rs' : List (List Int), ds' = rs'.map rowD ∧ rs'.Perm rs := map_perm p (rowsI_eq e)
theorem rows_pw {K : Fg} {Z : ZS} {H : Hp} : ∀ {rs : List (List Int)} {ys : List V}, FzL K Z H (rs.map rowD) ys → ys.Pairwise (fun x y => ∀ n m, TupI K H x n → TupI K H y m → HT.lexLt m n = false) → rs.Pairwise fun n m => HT.lexLt m n = false
  | [], _, _, _ => List.Pairwise.nil
  | r :: rs, ys, h, pw => by
    obtain ⟨y, t, e, f, g⟩ := h
    subst e
    obtain ⟨h1, h2⟩ := List.pairwise_cons.mp pw
    refine List.pairwise_cons.mpr ⟨fun m hm => ?_, rows_pw g h2⟩
    have back : ∀ {rs : List (List Int)} {t : List V}, FzL K Z H (rs.map rowD) t → m ∈ rs → ∃ z, z ∈ t ∧ TupI K H z m := by
      intro rs
      induction rs with
      | nil => intro t _ hm; cases hm
      | cons q rs ih =>
        intro t h hm
        obtain ⟨y, t, e, f, g⟩ := h
        subst e
        rcases List.mem_cons.mp hm with z | z
        · rw [z]
          exact ⟨y, List.mem_cons_self, rowD_tupI f⟩
        · obtain ⟨u, hu, tu⟩ := ih g z
          exact ⟨u, List.mem_cons_of_mem _ hu, tu⟩
    obtain ⟨z, hz, tz⟩ := back g hm
    exact h1 z hz r m (rowD_tupI f) tz
theorem sort_rows {K : Fg} {Z : ZS} {H : Hp} {ds' : List D} {rs rs' : List (List Int)} {ys : List V} (fl : FzL K Z H ds' ys) (e : ds' = rs'.map rowD) (p : rs'.Perm rs) (pw : ys.Pairwise (fun x y => ∀ n m, TupI K H x n → TupI K H y m → HT.lexLt m n = false)) : ds' = (sortB ltRow rs).map rowD := by
  subst e
  have h1 := rows_pw fl pw
  have O : SrtO.Swo ltRow := by
    have : ltRow = fun v u => HT.lexLt v u := funext fun a => funext fun b => ltRow_eq a b
    rw [this]
    exact NtL.swo_lexL fun v => v
  have h2 : (sortB ltRow rs).Pairwise fun n m => HT.lexLt m n = false := (sort_srtd O rs).imp fun {x y} h => by rw [← ltRow_eq]; exact h
  rw [perm_uniq (fun x y a b => lex_tot x y b a) h1 h2 (p.trans (sort_perm ltRow rs).symm)]
end MW
end
section
set_option Elab.async false
set_option linter.all false
set_option maxRecDepth 100000
set_option maxHeartbeats 2000000
/-! So5: built-in functions and methods of plain values. -/
namespace MW
open PySem PySem.Spec PyProof.Rows
open L2 (V Hp HO St upd upd_same upd_ne SqL SqT Rd Vals RelV Key kV ne_of_none VK XK TE TT TA TS Ends PE PT PA PS PSs OpR CallR MtR IxR SlR Dp DpAll PSet)
variable [Tbs]
def RNs (K : Fg) (Z : ZS) (H : Hp) : List D → List V → Prop
  | [], xs => xs = []
  | d :: ds, xs => ∃ x r, xs = x :: r ∧ RN K Z H d x ∧ RNs K Z H ds r
section
variable {K : Fg} {Z : ZS} {H : Hp}
theorem RNs.one {d : D} {xs : List V} (h : RNs K Z H [d] xs) : ∃ x, xs = [x] ∧ RN K Z H d x := by
  obtain ⟨x, r, e, f, g⟩ := h
  have : r = [] := g
  subst this
  exact ⟨x, e, f⟩
theorem RNs.two {d e : D} {xs : List V} (h : RNs K Z H [d, e] xs) : ∃ x y, xs = [x, y] ∧ RN K Z H d x ∧ RN K Z H e y := by
  obtain ⟨x, r, e1, f, g⟩ := h
  obtain ⟨y, e2, g2⟩ := RNs.one g
  subst e2
  exact ⟨x, y, e1, f, g2⟩
theorem ints_of : ∀ {ds : List D} {xs : List V} {is : List Int}, FzL K Z H ds xs → allInts ds = some is → xs = is.map V.int ∧ ds = is.map PyData.int
  | [], xs, is, h, e => by
    cases e
    exact ⟨h, rfl⟩
  | d :: ds, xs, is, h, e => by
    obtain ⟨x, r, e1, f, g⟩ := h
    cases d <;> simp only [allInts] at e <;> try cases e
    rename_i i
    cases q : allInts ds with
    | none =>
      rw [q] at e
      cases e
    | some js =>
      rw [q] at e
      cases e
      obtain ⟨h1, h2⟩ := ints_of g q
      have : x = .int i := f
      subst this
      subst h1
      rw [e1, h2]
      exact ⟨rfl, rfl⟩
theorem tvs_of : ∀ {ds : List D} {xs : List V} {bs : List Bool}, FzL K Z H ds xs → truths ds = some bs → ∃ ts : List TV, xs = ts.map TV.v ∧ bs = ts.map TV.t
  | [], xs, bs, h, e => by
    cases e
    exact ⟨[], h, rfl⟩
  | d :: ds, xs, bs, h, e => by
    obtain ⟨x, r, e1, f, g⟩ := h
    cases d <;> simp only [truths] at e <;> try cases e
    · rename_i i
      cases q : truths ds with
      | none =>
        rw [q] at e
        cases e
      | some js =>
        rw [q] at e
        cases e
        obtain ⟨ts, h1, h2⟩ := tvs_of g q
        have : x = .bl i := f
        subst this
        subst h1
        subst h2
        exact ⟨.b i :: ts, e1, rfl⟩
    · rename_i i
      cases q : truths ds with
      | none =>
        rw [q] at e
        cases e
      | some js =>
        rw [q] at e
        cases e
        obtain ⟨ts, h1, h2⟩ := tvs_of g q
        have : x = .int i := f
        subst this
        subst h1
        subst h2
        exact ⟨.i i :: ts, e1, rfl⟩
end
theorem leastI_spec : ∀ (r : List Int) (m : Int), (leastI m r ∈ m :: r) ∧ ∀ y ∈ m :: r, leastI m r ≤ y
  | [], m => ⟨List.mem_cons_self, fun y hy => by
    rcases List.mem_cons.mp hy with rfl | h
    · exact Int.le_refl _
    · cases h⟩
  | x :: r, m => by
    rw [show leastI m (x :: r) = leastI (if x < m then x else m) r from rfl]
    by_cases q : x < m
    · rw [if_pos q]
      obtain ⟨h1, h2⟩ := leastI_spec r x
      refine ⟨List.mem_cons_of_mem _ h1, fun y hy => ?_⟩
      rcases List.mem_cons.mp hy with rfl | hy
      · have := h2 x List.mem_cons_self
        omega
      · exact h2 y hy
    · rw [if_neg q]
      obtain ⟨h1, h2⟩ := leastI_spec r m
      refine ⟨?_, fun y hy => ?_⟩
      · rcases List.mem_cons.mp h1 with h | h
        · rw [h]; exact List.mem_cons_self
        · exact List.mem_cons_of_mem _ (List.mem_cons_of_mem _ h)
      · rcases List.mem_cons.mp hy with rfl | hy
        · exact h2 _ List.mem_cons_self
        · rcases List.mem_cons.mp hy with rfl | hy
          · have := h2 m List.mem_cons_self
            omega
          · exact h2 y (List.mem_cons_of_mem _ hy)
theorem mostI_spec : ∀ (r : List Int) (m : Int), (mostI m r ∈ m :: r) ∧ ∀ y ∈ m :: r, y ≤ mostI m r
  | [], m => ⟨List.mem_cons_self, fun y hy => by
    rcases List.mem_cons.mp hy with rfl | h
    · exact Int.le_refl _
    · cases h⟩
  | x :: r, m => by
    rw [show mostI m (x :: r) = mostI (if m < x then x else m) r from rfl]
    by_cases q : m < x
    · rw [if_pos q]
      obtain ⟨h1, h2⟩ := mostI_spec r x
      refine ⟨List.mem_cons_of_mem _ h1, fun y hy => ?_⟩
      rcases List.mem_cons.mp hy with rfl | hy
      · have := h2 x List.mem_cons_self
        omega
      · exact h2 y hy
    · rw [if_neg q]
      obtain ⟨h1, h2⟩ := mostI_spec r m
      refine ⟨?_, fun y hy => ?_⟩
      · rcases List.mem_cons.mp h1 with h | h
        · rw [h]; exact List.mem_cons_self
        · exact List.mem_cons_of_mem _ (List.mem_cons_of_mem _ h)
      · rcases List.mem_cons.mp hy with rfl | hy
        · exact h2 _ List.mem_cons_self
        · rcases List.mem_cons.mp hy with rfl | hy
          · have := h2 m List.mem_cons_self
            omega
          · exact h2 y (List.mem_cons_of_mem _ hy)
section
variable {K : Fg} {Z : ZS} {H : Hp}
theorem fzk_len : ∀ {kvs : List (D × D)} {ys : List (Key × V)}, FzK K Z H kvs ys → ys.length = kvs.length
  | [], ys, h => by
    have e : ys = [] := h
    rw [e]
    rfl
  | (k, d) :: r, ys, h => by
    obtain ⟨_, _, t, e, _, _, g⟩ := h
    rw [e, List.length_cons, List.length_cons, fzk_len g]
theorem fzt_len : ∀ {kvs : List (D × D)} {ys : List (List Key × V)}, FzT K Z H kvs ys → ys.length = kvs.length
  | [], ys, h => by
    have e : ys = [] := h
    rw [e]
    rfl
  | (k, d) :: r, ys, h => by
    obtain ⟨_, _, t, e, _, _, g⟩ := h
    rw [e, List.length_cons, List.length_cons, fzt_len g]
end
/-- a built-in function: its name, the value -/
def priA : P → Option (Str × Value)
  | .len => some ("len", .builtin "len")
  | .list => some ("list", .type "list")
  | .tuple => some ("tuple", .type "tuple")
  | .sum => some ("sum", .builtin "sum")
  | .min => some ("min", .builtin "min")
  | .max => some ("max", .builtin "max")
  | .any => some ("any", .builtin "any")
  | .all => some ("all", .builtin "all")
  | .abs => some ("abs", .builtin "abs")
  | .int => some ("int", .type "int")
  | .tupr => some ("tuple", .type "tuple")
  | .sorted => some ("sorted", .builtin "sorted")
  | _ => none
def rPD (K : Fg) (p : P) : List V → Hp → VK → Prop := fun xs H Q => ∃ Z ds o d, Zd Z H ∧ RNs K Z H ds xs ∧ primSem p ds = some (o, d) ∧ Fin K Z H o d Q
section
variable {X : L2.Cx}
theorem rd_sq {K : Fg} {H : Hp} {a : Ad} {xs : List V} (h : Rd H a (.lst xs)) : SqL K H a xs := .inl h
theorem pri_ok {p : P} {nm : Str} {f : Value} (e : priA p = some (nm, f)) (hc : X.calm = true) : CallR X f (rPD X.K p) := by
  intro pins s σ H xs us Q I rx h
  obtain ⟨Z, ds, o, d, zd, hd, es, fi⟩ := h
  have one : ∀ {d0 : D} {x : V}, RN X.K Z H d0 x → RV X.K Z H d0 x := fun r => r.rv
  cases p <;> simp only [priA] at e <;> cases e
  -- len
  · match ds, es with
    | [.list ys], es =>
      obtain ⟨x, e1, r⟩ := hd.one
      obtain ⟨a, zs, e2, ra, l, fl⟩ := r.rv.list
      subst e1
      subst e2
      cases es
      rw [← fl.len] at fi
      exact L2.call_len_seq pins s σ H _ us Q I rx ⟨a, zs, rfl, .inl (rd_sq ra), fi.int zd⟩
    | [.tuple ys], es =>
      obtain ⟨x, e1, r⟩ := hd.one
      obtain ⟨a, zs, e2, ra, l, fl⟩ := r.rv.tuple
      subst e1
      subst e2
      cases es
      rw [← fl.len] at fi
      exact L2.call_len_seq pins s σ H _ us Q I rx ⟨a, zs, rfl, .inr ra, fi.int zd⟩
    | [.str z], es =>
      obtain ⟨x, e1, r⟩ := hd.one
      obtain ⟨e2, l⟩ := r.rv.str
      subst e1
      subst e2
      cases es
      exact L2.call_len_str pins s σ H _ us Q I rx ⟨z, rfl, by rw [← szLine_eq]; exact l, fi.int zd⟩
    | [.dict kvs], es =>
      obtain ⟨x, e1, r⟩ := hd.one
      simp only [primSem] at es
      split at es
      · cases es
      rename_i er
      obtain ⟨a, e2, hp⟩ := r.rv.dict er
      subst e1
      subst e2
      cases es
      have fi' := fi.int zd
      obtain ⟨u, eu, ru⟩ := L2.vals1 rx
      subst eu
      obtain rfl : u = Value.ref a := ru
      rcases hp with ⟨ys, ha, fk⟩ | ⟨ys, ha, fk⟩
      · have hl : ys.length = kvs.length := fzk_len fk
        refine L2.d_len I (.inl ha) fun t s' I' => ⟨.int ys.length, H, I', ⟨t, rfl⟩, ?_⟩
        rw [hl]
        exact fi'
      · have hl : ys.length = kvs.length := fzt_len fk
        refine L2.call_len_dT pins s σ H [V.ref a] [Value.ref a] Q I (.cons rfl .nil) ⟨a, ys, rfl, ha, ?_⟩
        rw [hl]
        exact fi'
  -- list
  · match ds, es with
    | [.list ys], es =>
      obtain ⟨x, e1, r⟩ := hd.one
      obtain ⟨a, zs, e2, ra, l, fl⟩ := r.rv.list
      subst e1
      subst e2
      cases es
      exact L2.call_list_of pins s σ H _ us Q I rx ⟨a, zs, rfl, .inl (rd_sq ra), fi.lst zd fl l⟩
    | [.tuple ys], es =>
      obtain ⟨x, e1, r⟩ := hd.one
      obtain ⟨a, zs, e2, ra, l, fl⟩ := r.rv.tuple
      subst e1
      subst e2
      cases es
      exact L2.call_list_of pins s σ H _ us Q I rx ⟨a, zs, rfl, .inr ra, fi.lst zd fl l⟩
  · match ds, es with
    | [.list ys], es =>
      obtain ⟨x, e1, r⟩ := hd.one
      obtain ⟨a, zs, e2, ra, l, fl⟩ := r.rv.list
      subst e1
      subst e2
      cases es
      exact L2.call_tuple_of pins s σ H _ us Q I rx ⟨a, zs, rfl, .inl ⟨rd_sq ra, fi.tup zd fl l⟩⟩
    | [.tuple ys], es =>
      obtain ⟨x, e1, r⟩ := hd.one
      have rt := r.tup
      obtain ⟨a, zs, e2, ra, l, fl⟩ := r.rv.tuple
      subst e1
      subst e2
      cases es
      exact L2.call_tuple_of pins s σ H _ us Q I rx ⟨a, zs, rfl, .inr ⟨ra, fi.val zd rt⟩⟩
  -- sorted
  · match ds, es with
    | [.list ys], es =>
      obtain ⟨x, e1, r⟩ := hd.one
      obtain ⟨a, zs, e2, ra, l, fl⟩ := r.rv.list
      subst e1
      subst e2
      simp only [primSem, sortL] at es
      cases q : allInts ys with
      | some is =>
        rw [q] at es
        cases es
        have h1 := (ints_of fl q).1
        subst h1
        refine L2.cr_sortedI pins s σ H _ us Q I rx ⟨a, is, rfl, rd_sq ra, fun ns' p pm pw hp => ?_⟩
        rw [sort_ints pm pw]
        refine fi.lst zd (fz_ints _) ?_ p hp
        rw [List.length_map, ← (sort_perm ltI is).length_eq.symm]
        rw [List.length_map] at l
        exact l
      | none =>
        rw [q] at es
        cases q2 : rowsI ys with
        | none =>
          rw [q2] at es
          cases es
        | some rs =>
          rw [q2] at es
          simp only at es
          split at es
          · rename_i hc
            cases es
            obtain ⟨e3, hx⟩ := rows_of fl q2
            refine cr_sortRows pins s σ H _ us Q I rx ⟨a, zs, rfl, rd_sq ra, fun x hm => ?_, fun ys' p pm pw hp => ?_⟩
            · obtain ⟨ns, hn, t⟩ := hx x hm
              refine ⟨ns, t, fun h2 e0 => ?_⟩
              rcases hc with hc | hc
              · rw [← e3] at hc
                omega
              · have := List.all_eq_true.mp hc ns hn
                rw [e0] at this
                cases this
            · obtain ⟨ds', pd, fl'⟩ := FzL.perm pm fl
              obtain ⟨rs', e4, pr⟩ := rows_perm pd q2
              have e5 := sort_rows fl' e4 pr pw
              rw [← e5] at fi
              exact fi.lst zd fl' (by rw [pm.length_eq]; exact l) p hp
          · cases es
  -- sum
  · match ds, es with
    | [.list ys], es =>
      obtain ⟨x, e1, r⟩ := hd.one
      obtain ⟨a, zs, e2, ra, l, fl⟩ := r.rv.list
      subst e1
      subst e2
      simp only [primSem] at es
      cases q : allInts ys with
      | none =>
        rw [q] at es
        cases es
      | some is =>
        rw [q] at es
        cases es
        have h1 := (ints_of fl q).1
        subst h1
        exact L2.cr_sum hc pins s σ H _ us Q I rx ⟨a, is, rfl, rd_sq ra, fi.int zd⟩
    | [.tuple ys], es =>
      obtain ⟨x, e1, r⟩ := hd.one
      obtain ⟨a, zs, e2, ra, l, fl⟩ := r.rv.tuple
      subst e1
      subst e2
      simp only [primSem] at es
      cases q : allInts ys with
      | none =>
        rw [q] at es
        cases es
      | some is =>
        rw [q] at es
        cases es
        have h1 := (ints_of fl q).1
        subst h1
        exact cr_sumB hc pins s σ H _ us Q I rx ⟨true, a, is, rfl, ra, fi.int zd⟩
  -- min
  · match ds, es with
    | [.list ys], es =>
      obtain ⟨x, e1, r⟩ := hd.one
      obtain ⟨a, zs, e2, ra, l, fl⟩ := r.rv.list
      subst e1
      subst e2
      simp only [primSem] at es
      cases q : allInts ys with
      | none =>
        rw [q] at es
        cases es
      | some is =>
        rw [q] at es
        cases is with
        | nil => cases es
        | cons i is =>
          cases es
          have h1 := (ints_of fl q).1
          subst h1
          obtain ⟨k1, k2⟩ := leastI_spec is i
          refine L2.cr_min hc pins s σ H _ us Q I rx ⟨a, i :: is, rfl, rd_sq ra, by simp, fun m m1 m2 => ?_⟩
          have : m = leastI i is := Int.le_antisymm (m2 _ k1) (k2 _ m1)
          rw [this]
          exact fi.int zd
    | [.tuple ys], es =>
      obtain ⟨x, e1, r⟩ := hd.one
      obtain ⟨a, zs, e2, ra, l, fl⟩ := r.rv.tuple
      subst e1
      subst e2
      simp only [primSem] at es
      cases q : allInts ys with
      | none =>
        rw [q] at es
        cases es
      | some is =>
        rw [q] at es
        cases is with
        | nil => cases es
        | cons i is =>
          cases es
          have h1 := (ints_of fl q).1
          subst h1
          obtain ⟨k1, k2⟩ := leastI_spec is i
          refine cr_minB hc pins s σ H _ us Q I rx ⟨true, a, i :: is, rfl, ra, by simp, fun m m1 m2 => ?_⟩
          have : m = leastI i is := Int.le_antisymm (m2 _ k1) (k2 _ m1)
          rw [this]
          exact fi.int zd
    | [.int i, .int j], es =>
      obtain ⟨x, y, e1, r1, r2⟩ := hd.two
      subst e1
      rw [r1.rv.int, r2.rv.int] at rx
      cases es
      exact L2.call_min2 hc pins s σ H _ us Q I rx ⟨i, j, rfl, fi.int zd⟩
  -- max
  · match ds, es with
    | [.list ys], es =>
      obtain ⟨x, e1, r⟩ := hd.one
      obtain ⟨a, zs, e2, ra, l, fl⟩ := r.rv.list
      subst e1
      subst e2
      simp only [primSem] at es
      cases q : allInts ys with
      | none =>
        rw [q] at es
        cases es
      | some is =>
        rw [q] at es
        cases is with
        | nil => cases es
        | cons i is =>
          cases es
          have h1 := (ints_of fl q).1
          subst h1
          obtain ⟨k1, k2⟩ := mostI_spec is i
          refine L2.cr_max hc pins s σ H _ us Q I rx ⟨a, i :: is, rfl, rd_sq ra, by simp, fun m m1 m2 => ?_⟩
          have : m = mostI i is := Int.le_antisymm (k2 _ m1) (m2 _ k1)
          rw [this]
          exact fi.int zd
    | [.tuple ys], es =>
      obtain ⟨x, e1, r⟩ := hd.one
      obtain ⟨a, zs, e2, ra, l, fl⟩ := r.rv.tuple
      subst e1
      subst e2
      simp only [primSem] at es
      cases q : allInts ys with
      | none =>
        rw [q] at es
        cases es
      | some is =>
        rw [q] at es
        cases is with
        | nil => cases es
        | cons i is =>
          cases es
          have h1 := (ints_of fl q).1
          subst h1
          obtain ⟨k1, k2⟩ := mostI_spec is i
          refine cr_maxB hc pins s σ H _ us Q I rx ⟨true, a, i :: is, rfl, ra, by simp, fun m m1 m2 => ?_⟩
          have : m = mostI i is := Int.le_antisymm (k2 _ m1) (m2 _ k1)
          rw [this]
          exact fi.int zd
    | [.int i, .int j], es =>
      obtain ⟨x, y, e1, r1, r2⟩ := hd.two
      subst e1
      rw [r1.rv.int, r2.rv.int] at rx
      cases es
      exact L2.call_max2 hc pins s σ H _ us Q I rx ⟨i, j, rfl, fi.int zd⟩
  -- any, all
  · match ds, es with
    | [.list ys], es =>
      obtain ⟨x, e1, r⟩ := hd.one
      obtain ⟨a, zs, e2, ra, l, fl⟩ := r.rv.list
      subst e1
      subst e2
      simp only [primSem] at es
      cases q : truths ys with
      | none =>
        rw [q] at es
        cases es
      | some is =>
        rw [q] at es
        cases es
        obtain ⟨ts, h1, h2⟩ := tvs_of fl q
        subst h1
        subst h2
        exact cr_anyB hc pins s σ H _ us Q I rx ⟨false, a, ts, rfl, rd_sq ra, fi.bl zd⟩
    | [.tuple ys], es =>
      obtain ⟨x, e1, r⟩ := hd.one
      obtain ⟨a, zs, e2, ra, l, fl⟩ := r.rv.tuple
      subst e1
      subst e2
      simp only [primSem] at es
      cases q : truths ys with
      | none =>
        rw [q] at es
        cases es
      | some is =>
        rw [q] at es
        cases es
        obtain ⟨ts, h1, h2⟩ := tvs_of fl q
        subst h1
        subst h2
        exact cr_anyB hc pins s σ H _ us Q I rx ⟨true, a, ts, rfl, ra, fi.bl zd⟩
  · match ds, es with
    | [.list ys], es =>
      obtain ⟨x, e1, r⟩ := hd.one
      obtain ⟨a, zs, e2, ra, l, fl⟩ := r.rv.list
      subst e1
      subst e2
      simp only [primSem] at es
      cases q : truths ys with
      | none =>
        rw [q] at es
        cases es
      | some is =>
        rw [q] at es
        cases es
        obtain ⟨ts, h1, h2⟩ := tvs_of fl q
        subst h1
        subst h2
        exact cr_allB hc pins s σ H _ us Q I rx ⟨false, a, ts, rfl, rd_sq ra, fi.bl zd⟩
    | [.tuple ys], es =>
      obtain ⟨x, e1, r⟩ := hd.one
      obtain ⟨a, zs, e2, ra, l, fl⟩ := r.rv.tuple
      subst e1
      subst e2
      simp only [primSem] at es
      cases q : truths ys with
      | none =>
        rw [q] at es
        cases es
      | some is =>
        rw [q] at es
        cases es
        obtain ⟨ts, h1, h2⟩ := tvs_of fl q
        subst h1
        subst h2
        exact cr_allB hc pins s σ H _ us Q I rx ⟨true, a, ts, rfl, ra, fi.bl zd⟩
  -- abs, int
  · match ds, es with
    | [.int i], es =>
      obtain ⟨x, e1, r⟩ := hd.one
      subst e1
      rw [r.rv.int] at rx
      cases es
      exact L2.call_abs pins s σ H _ us Q I rx ⟨i, rfl, fi.int zd⟩
  · match ds, es with
    | [.int i], es =>
      obtain ⟨x, e1, r⟩ := hd.one
      subst e1
      rw [r.rv.int] at rx
      cases es
      exact L2.call_int1 pins s σ H _ us Q I rx (.inl ⟨i, rfl, fi.int zd⟩)
    | [.bool i], es =>
      obtain ⟨x, e1, r⟩ := hd.one
      subst e1
      rw [r.rv.bool] at rx
      cases es
      exact L2.call_int1 pins s σ H _ us Q I rx (.inr ⟨i, rfl, fi.int zd⟩)
  -- a tuple whose object is known
  · match ds, es with
    | [.list ys], es =>
      obtain ⟨x, e1, r⟩ := hd.one
      obtain ⟨a, zs, e2, ra, l, fl⟩ := r.rv.list
      subst e1
      subst e2
      cases es
      obtain ⟨u, eu, ru⟩ := L2.vals1 rx
      subst eu
      obtain rfl : u = Value.ref a := ru
      obtain ⟨its, rv, pl, hz⟩ := I.list (rd_sq ra)
      refine call_tuple_list pl.isList (fun h' hk => ?_) (by rw [List.size_toArray, ← rv.length]; exact hz)
      have I1 : L2.Inv X pins σ H { s with heap := h' } := I.kept (t' := s.toks) hk
      have hf := I1.hok.fresh (Nat.le_refl h'.objs.size)
      refine ⟨.ref h'.objs.size, _, I1.laid (t' := s.toks) (o := .frz { cls := .type "tuple", data := .seq its.toArray } (.tup zs)) (fun b o e => Heap.get?_push_of_some _ e) (Nat.le_refl _) ?_, rfl, fi.row zd fl l rfl rfl _ hf⟩
      exact ⟨Heap.get?_push_size _ rfl, hz, its, rv, PyProof.Rows.IsTup.new _ _⟩
/-! isinstance -/
def isaA : P → Option String
  | .isint => some "int"
  | .isbool => some "bool"
  | .istuple => some "tuple"
  | .isstr => some "str"
  | .islist => some "list"
  | _ => none
def tyD : D → String
  | .none => "NoneType"
  | .bool _ => "bool"
  | .int _ => "int"
  | .str _ => "str"
  | .list _ => "list"
  | .tuple _ => "tuple"
  | .dict _ => "dict"
def isDict : D → Bool
  | .dict _ => true
  | _ => false
def rIsD (K : Fg) (p : P) (T : String) : List V → Hp → VK → Prop := fun xs H Q => ∃ Z a x o d, xs = [x, .ty T] ∧ Zd Z H ∧ RN K Z H a x ∧ primSem p [a] = some (o, d) ∧ Fin K Z H o d Q
theorem ty_of {K : Fg} {Z : ZS} {H : Hp} {d : D} {x : V} (h : RN K Z H d x) (nd : isDict d = false) : L2.TyX K H x (.type (tyD d)) := by
  cases d with
  | none => rw [h.rv.non]; exact .base .non
  | bool b => rw [h.rv.bool]; exact .base (.bl b)
  | int b => rw [h.rv.int]; exact .base (.int b)
  | str b => rw [h.rv.str.1]; exact .base (.str b)
  | list ds =>
    obtain ⟨a, xs, e, r, _⟩ := h.rv.list
    rw [e]
    rcases r with r | ⟨o, r⟩
    · exact .base (.lst r)
    · exact .base (.frz r)
  | tuple ds =>
    obtain ⟨a, xs, e, r, _⟩ := h.tup
    rw [e]
    exact .base (.tup r.1.2)
  | dict kvs => cases nd
theorem isa_ok {p : P} {T : String} (e : isaA p = some T) : CallR X (.builtin "isinstance") (rIsD X.K p T) := by
  intro pins s σ H xs us Q I rx h
  obtain ⟨Z, a, x, o, d, ex, zd, ha, es, f⟩ := h
  have nd : isDict a = false := by
    cases a with
    | dict _ => cases p <;> simp only [isaA] at e <;> cases e <;> simp only [primSem] at es <;> cases es
    | _ => rfl
  have ty := ty_of ha nd
  subst ex
  have kit : ∀ S T : String, ∀ b : Bool, (if (Value.type S == Value.type T) = true then some true else PySem.W.kitCls X.K (.type S) (.type T)) = some b → PySem.W.kitOne X.K (.type S) (.type T) = some b := fun S T b h => h
  cases p <;> simp only [isaA] at e <;> cases e <;> cases a <;> simp only [primSem] at es <;> cases es <;>
    exact L2.call_isi pins s σ H _ us Q I rx ⟨x, .ty _, _, _, _, rfl, .ty _, ty, (by first | rfl | with_unfolding_all rfl | kernel_rfl), f.bl zd⟩
end
end MW
end
section
set_option Elab.async false
set_option linter.all false
set_option maxRecDepth 100000
set_option maxHeartbeats 2000000
/-! So6: what an expression's outcome promises. -/
namespace MW
open PySem PySem.Spec
open PyProof.Rows hiding St
open L2 (V Hp HO St upd upd_same upd_ne SqL SqT Rd Vals RelV Key kV ne_of_none VK XK TE TT TA TS Ends PE PT PW PA PS PSs OpR CallR MtR IxR SlR Dp DpAll PSet)
variable [Tbs]

structure Ge where
  K : Fg
  mw : Cx
  ck : Nat → Ad
  fl : Nat → List Str
/-- a step of an expression: no name is bound -/
structure Nxe (K : Fg) (σ : St) (Z : ZS) (H : Hp) (ρ : Env) (Z' : ZS) (H' : Hp) (ρ' : Env) : Prop where
  nx : Nx K σ Z H ρ σ Z' H' ρ'
  od : ∀ a, Od σ ρ' a → Od σ ρ a
section
variable {K : Fg} {Z Z1 Z2 : ZS} {H H0 H1 H2 : Hp} {σ : St} {ρ ρ1 ρ2 : Env} {o : Bool} {d : D} {v : V} {x : Opd}
theorem Nxe.refl (h : Ss K Z H σ ρ) : Nxe K σ Z H ρ Z H ρ := ⟨Nx.refl h, fun _ z => z⟩
theorem Nxe.trans (a : Nxe K σ Z H ρ Z1 H1 ρ1) (b : Nxe K σ Z1 H1 ρ1 Z2 H2 ρ2) : Nxe K σ Z H ρ Z2 H2 ρ2 := ⟨a.nx.trans b.nx, fun c z => a.od c (b.od c z)⟩
theorem Ss.zd' (h : Ss K Z H σ ρ) : Zd Z H := h.zd
/-- an operation of plain values alone -/
theorem Ss.pure (st : Ss K Z H σ ρ) (s : Step (fun _ => False) Z H Z1 H1) (zd : Zd Z1 H1) : Nxe K σ Z H ρ Z1 H1 ρ := by
  have zk : ∀ a, Z a → H1 a = H a := fun a z => by
    obtain ⟨u, e, nt⟩ := st.zd a z
    rw [e]
    exact s.kp a u e nt fun f => f
  have ok : ∀ a u, H a = some u → ¬ isTbl u → H1 a = H a := fun a u e nt => by
    rw [e]
    exact s.kp a u e nt fun f => f
  have nz : ∀ a d, Ow K Z H a d → ¬ Z a → ¬ Z1 a := fun a d w n z => by
    rcases s.dn a z with z | z | z
    · exact n z
    · exact z
    · exact w.nf z
  have own : ∀ {a : Ad} {d : D}, ¬ Z a → Ow K Z H a d → ¬ Z1 a ∧ Ow K Z1 H1 a d := fun {a d} n w => by
    obtain ⟨u, e, nt⟩ := w.there
    exact ⟨nz a d w n, w.keep s.up zk (ok a u e nt)⟩
  refine ⟨⟨⟨s.up, fun a z => ?_, fun a u e nt _ => s.kp a u e nt fun f => f, s.th, s.tb⟩, ⟨st.len, fun i => ?_, st.inj, zd, fun p hp => s.tb _ _ hp (st.tb p hp)⟩, fun a z => .inl z, fun i e => ⟨e, rfl⟩, fun i d e => ⟨e, rfl⟩, rfl⟩, fun a z => z⟩
  · rcases s.dn a z with z | z | z
    · exact .inl z
    · exact z.elim
    · exact .inr (.inr z)
  · have q := st.sl i
    cases hs : slotAt ρ i with
    | no => trivial
    | fz d =>
      rw [hs] at q
      obtain ⟨v, e, f⟩ := q
      exact ⟨v, e, f.keep s.up zk⟩
    | ow d =>
      rw [hs] at q
      obtain ⟨a, e, n, w⟩ := q
      exact ⟨a, e, own n w⟩
    | lk d =>
      rw [hs] at q
      obtain ⟨a, e, n, w⟩ := q
      exact ⟨a, e, own n w⟩
    | io d =>
      rw [hs] at q
      obtain ⟨a, e, n, w⟩ := q
      exact ⟨a, e, own n w⟩
theorem VR.back (h : VR K Z H H1 o d v) (f : ∀ a, H1 a = none → H0 a = none) : VR K Z H H0 o d v := by
  unfold VR at h ⊢
  cases o with
  | true =>
    obtain ⟨a, e, n, w, z⟩ := h
    exact ⟨a, e, n, w, f a z⟩
  | false => exact h
/-- a value in hand is frozen -/
theorem Nxe.freeze (st : Ss K Z H σ ρ) (n : Nxe K σ Z H ρ Z1 H1 ρ1) (h : VR K Z1 H1 H o d v) : ∃ Z2, Nxe K σ Z H ρ Z2 H1 ρ1 ∧ Fz K Z2 H1 d v := by
  unfold VR at h
  cases o with
  | false => exact ⟨Z1, n, h⟩
  | true =>
    obtain ⟨a, e, nz, w, f⟩ := h
    subst e
    have no : ¬ Od σ ρ1 a := fun z => by
      obtain ⟨u, e, _⟩ := (st.od (n.od a z)).2
      rw [f] at e
      cases e
    have hz : ∀ b, Z1 b → Z1 b ∨ b = a := fun _ z => .inl z
    have own : ∀ {i : Nat} {b : Ad} {d : D}, (slotAt ρ1 i).own = true → sg σ i = some (.ref b) → ¬ Z1 b → Ow K Z1 H1 b d → ¬ (Z1 b ∨ b = a) ∧ Ow K (fun c => Z1 c ∨ c = a) H1 b d := fun {i b d} ho hb nb wb =>
      ⟨fun z => z.elim nb fun q => no (q ▸ ⟨i, ho, hb⟩), wb.keep hz (fun _ _ => rfl) rfl⟩
    refine ⟨fun b => Z1 b ∨ b = a, ⟨⟨⟨fun b z => .inl (n.nx.sp.up b z), fun b z => ?_, n.nx.sp.kp, n.nx.sp.th, n.nx.sp.tb⟩, ⟨n.nx.st.len, fun i => ?_, n.nx.st.inj, fun b z => ?_, n.nx.st.tb⟩, n.nx.ow, n.nx.io, n.nx.lk, n.nx.ln⟩, n.od⟩, w.frz⟩
    · rcases z with z | z
      · exact n.nx.sp.dn b z
      · subst z
        exact .inr (.inr (.none f))
    · have q := n.nx.st.sl i
      cases hs : slotAt ρ1 i with
      | no => trivial
      | fz d =>
        rw [hs] at q
        obtain ⟨v, e, g⟩ := q
        exact ⟨v, e, g.keep hz fun _ _ => rfl⟩
      | ow d =>
        rw [hs] at q
        obtain ⟨b, e, n, w⟩ := q
        exact ⟨b, e, own (by rw [hs]; rfl) e n w⟩
      | lk d =>
        rw [hs] at q
        obtain ⟨b, e, n, w⟩ := q
        exact ⟨b, e, own (by rw [hs]; rfl) e n w⟩
      | io d =>
        rw [hs] at q
        obtain ⟨b, e, n, w⟩ := q
        exact ⟨b, e, own (by rw [hs]; rfl) e n w⟩
    · rcases z with z | z
      · exact n.nx.st.zd b z
      · subst z
        exact w.there

/-! operands -/
/-- v stands for d through all that follows: frozen, the module's own, or an object that no name owns -/
def Fast (K : Fg) (O : ZS) (Z : ZS) (H : Hp) (t : Bool) (d : D) (v : V) : Prop := Fz K Z H d v ∨ CT K Z H d v ∨ ∃ a, v = .ref a ∧ Ow K Z H a d ∧ ¬ Z a ∧ ¬ O a ∧ t = true
/-- .. of an operand -/
def Fst (K : Fg) (σ : St) (Z : ZS) (H : Hp) (ρ : Env) (x : Opd) (d : D) (v : V) : Prop :=
  match x with
  | .ref i => sg σ i = some v
  | .val o c => c = d → Fast K (Od σ ρ) Z H o d v
  | .cst c => c = d → Fast K (Od σ ρ) Z H false d v
/-- x is v, now and later in the expression -/
def Held (K : Fg) (σ : St) (Z : ZS) (H : Hp) (ρ : Env) (x : Opd) (v : V) : Prop :=
  ∀ Z2 H2 ρ2, Nxe K σ Z H ρ Z2 H2 ρ2 → ∀ d, (opdD ρ2 x = some d → RV K Z2 H2 d v) ∧ (opdV ρ2 x = some d → RN K Z2 H2 d v) ∧ Fst K σ Z2 H2 ρ2 x d v
theorem Held.nx (h : Held K σ Z H ρ x v) (n : Nxe K σ Z H ρ Z1 H1 ρ1) : Held K σ Z1 H1 ρ1 x v := fun Z2 H2 ρ2 m => h Z2 H2 ρ2 (n.trans m)
theorem Held.rv (h : Held K σ Z H ρ x v) (st : Ss K Z H σ ρ) (e : opdD ρ x = some d) : RV K Z H d v := (h Z H ρ (Nxe.refl st) d).1 e
theorem Held.rn (h : Held K σ Z H ρ x v) (st : Ss K Z H σ ρ) (e : opdV ρ x = some d) : RN K Z H d v := (h Z H ρ (Nxe.refl st) d).2.1 e
theorem held_val (st : Ss K Z H σ ρ) (n : Nxe K σ Z H ρ Z1 H1 ρ1) (h : VR K Z1 H1 H o d v) : Held K σ Z1 H1 ρ1 (.val o d) v := fun Z2 H2 ρ2 m e => by
  have q := h.nx n.nx.st (fun a z => let ⟨_, u, e, _⟩ := st.od (n.od a z); ⟨u, e⟩) m.nx
  refine ⟨fun z => Option.some.inj z ▸ q.rn.rv, fun z => Option.some.inj z ▸ q.rn, fun z => ?_⟩
  subst z
  unfold VR at q
  cases o with
  | false => exact .inl q
  | true =>
    obtain ⟨a, e, nz, w, f⟩ := q
    refine .inr (.inr ⟨a, e, w, nz, fun z => ?_, rfl⟩)
    obtain ⟨u, e, _⟩ := (st.od (n.od a (m.od a z))).2
    rw [f] at e
    cases e
theorem slot_rn {s : Slot} {d : D} (h : SlotR K Z H s (some v)) (e : s.dat = some d) : RN K Z H d v := by
  cases s with
  | no => cases e
  | fz c =>
    cases e
    obtain ⟨w, ew, f⟩ := h
    cases ew
    exact .inl f
  | ow c =>
    cases e
    obtain ⟨a, ew, _, f⟩ := h
    cases ew
    exact .inr ⟨a, rfl, f⟩
  | lk c =>
    cases e
    obtain ⟨a, ew, _, f⟩ := h
    cases ew
    exact .inr ⟨a, rfl, f⟩
  | io c =>
    cases e
    obtain ⟨a, ew, _, f⟩ := h
    cases ew
    exact .inr ⟨a, rfl, f⟩
theorem opd_ref {ρ : Env} {i : Nat} : opdD ρ (.ref i) = (slotAt ρ i).dat := by
  simp only [opdD]
  cases slotAt ρ i <;> rfl
theorem held_ref {i : Nat} (hv : sg σ i = some v) : Held K σ Z H ρ (.ref i) v := fun Z2 H2 ρ2 m d => by
  have q := m.nx.st.sl i
  rw [hv] at q
  have e : opdV ρ2 (.ref i) = opdD ρ2 (.ref i) := rfl
  rw [e, opd_ref]
  exact ⟨fun z => (slot_rn q z).rv, fun z => slot_rn q z, hv⟩
theorem ct_keep (hz : ∀ a, Z a → Z1 a) (hh : ∀ a, Z a → H1 a = H a) (h : CT K Z H d v) : CT K Z1 H1 d v := by
  obtain ⟨ds, a, xs, e1, e2, k, l, f⟩ := h
  exact ⟨ds, a, xs, e1, e2, k, l, f.keep hz hh⟩
theorem held_cst (st : Ss K Z H σ ρ) (h : CT K Z H d v ∨ Fz K Z H d v) (hs : isScal d = true → Fz K Z H d v) : Held K σ Z H ρ (.cst d) v := fun Z2 H2 ρ2 m e => by
  refine ⟨fun z => ?_, fun z => ?_, fun z => ?_⟩
  · cases z
    rcases h with h | h
    · exact .inr (.inr (ct_keep m.nx.sp.up (m.nx.zk st) h))
    · exact .inl (m.nx.fz st h)
  · have z' : (if isScal d = true then some d else none) = some e := z
    by_cases q : isScal d = true
    · rw [if_pos q] at z'
      cases z'
      exact .inl (m.nx.fz st (hs q))
    · rw [if_neg q] at z'
      cases z'
  · subst z
    rcases h with h | h
    · exact .inr (.inl (ct_keep m.nx.sp.up (m.nx.zk st) h))
    · exact .inl (m.nx.fz st h)
end

/-! ### outcomes -/
/-- an exception of class k with these arguments, as the wish E asks for it -/
def ExW (g : Ge) (E : XK) (k : Nat) (as : List D) (Z' : ZS) (H' : Hp) : Prop :=
  ∀ dd xs, H' dd = some (.xd ((g.fl k).zip xs)) → xs.length = (g.fl k).length → FzL g.K Z' H' as xs → E (.ref (g.ck k)) (some dd) H'
def Oc (g : Ge) (E : XK) (σ : St) (Z : ZS) (H : Hp) (ρ : Env) {A : Type} (r : Res A) (Q : A → ZS → Hp → Env → Prop) : Prop :=
  match r with
  | .ok a ρ' => ∀ Z' H', Nxe g.K σ Z H ρ Z' H' ρ' → Q a Z' H' ρ'
  | .ex k as ρ' => ∀ Z' H', Nxe g.K σ Z H ρ Z' H' ρ' → ExW g E k as Z' H'
  | .st _ => False
section
variable {g : Ge} {E : XK} {Z Z1 Z2 : ZS} {H H0 H1 H2 : Hp} {σ : St} {ρ ρ1 ρ2 : Env} {A B : Type}
theorem Oc.bnd {x : Res A} {f : A → Env → Res B} {Q : B → ZS → Hp → Env → Prop} (h : Oc g E σ Z H ρ (x.bind f) Q) : Oc g E σ Z H ρ x fun a Z1 H1 ρ1 => Oc g E σ Z1 H1 ρ1 (f a ρ1) Q := by
  cases x with
  | st n => exact h
  | ex k as ρ1 => exact h
  | ok a ρ1 =>
    intro Z1 H1 n
    have h' : Oc g E σ Z H ρ (f a ρ1) Q := h
    cases e : f a ρ1 with
    | st m =>
      rw [e] at h'
      exact h'
    | ok b ρ2 =>
      rw [e] at h'
      exact fun Z2 H2 m => h' Z2 H2 (n.trans m)
    | ex k as ρ2 =>
      rw [e] at h'
      exact fun Z2 H2 m => h' Z2 H2 (n.trans m)
theorem Oc.imp {x : Res A} {Q Q' : A → ZS → Hp → Env → Prop} (h : Oc g E σ Z H ρ x Q) (f : ∀ a Z' H' ρ', Nxe g.K σ Z H ρ Z' H' ρ' → Q a Z' H' ρ' → Q' a Z' H' ρ') : Oc g E σ Z H ρ x Q' := by
  cases x with
  | st n => exact h
  | ex k as ρ1 => exact h
  | ok a ρ1 => exact fun Z1 H1 n => f a Z1 H1 ρ1 n (h Z1 H1 n)
theorem Oc.now {a : A} {Q : A → ZS → Hp → Env → Prop} (h : Oc g E σ Z H ρ (.ok a ρ) Q) (st : Ss g.K Z H σ ρ) : Q a Z H ρ := h Z H (Nxe.refl st)
end
/-- the reading of an expression: its value -/
def RE (g : Ge) (E : XK) (e : MW.E) : TE := fun σ H Q => ∃ Z ρ, Ss g.K Z H σ ρ ∧ Oc g E σ Z H ρ (ev g.mw e ρ) fun r Z' H' ρ' => ∀ v, VR g.K Z' H' H r.1 r.2 v → Q v H'
/-- .. as an operand -/
def RO (g : Ge) (E : XK) (e : MW.E) : TE := fun σ H Q => ∃ Z ρ, Ss g.K Z H σ ρ ∧ Oc g E σ Z H ρ (evO g.mw e ρ) fun x Z' H' ρ' => ∀ v, Held g.K σ Z' H' ρ' x v → Q v H'
/-- .. as a test -/
def RT (g : Ge) (E : XK) (e : MW.E) : TT := fun σ H Q => ∃ Z ρ, Ss g.K Z H σ ρ ∧ Oc g E σ Z H ρ (evT g.mw e ρ) fun b Z' H' ρ' => Q b H'
def HeldL (K : Fg) (σ : St) (Z : ZS) (H : Hp) (ρ : Env) : List Opd → List V → Prop
  | [], vs => vs = []
  | x :: xs, vs => ∃ v r, vs = v :: r ∧ Held K σ Z H ρ x v ∧ HeldL K σ Z H ρ xs r
/-- operands one after another -/
def RL (g : Ge) (E : XK) (es : Es) : TA := fun σ H Q => ∃ Z ρ, Ss g.K Z H σ ρ ∧ Oc g E σ Z H ρ (evOs g.mw es ρ) fun xs Z' H' ρ' => ∀ vs, HeldL g.K σ Z' H' ρ' xs vs → Q vs H'
/-- frozen values one after another -/
def RV' (g : Ge) (E : XK) (es : Es) : TA := fun σ H Q => ∃ Z ρ, Ss g.K Z H σ ρ ∧ Oc g E σ Z H ρ (evs g.mw es ρ) fun ds Z' H' ρ' => ∀ vs, FzL g.K Z' H' ds vs → Q vs H'
section
variable {K : Fg} {Z Z1 : ZS} {H H1 : Hp} {σ : St} {ρ ρ1 : Env}
theorem HeldL.nx : ∀ {xs : List Opd} {vs : List V}, HeldL K σ Z H ρ xs vs → Nxe K σ Z H ρ Z1 H1 ρ1 → HeldL K σ Z1 H1 ρ1 xs vs
  | [], _, h, _ => h
  | x :: xs, _, h, n => by
    obtain ⟨v, r, e, f, t⟩ := h
    exact ⟨v, r, e, f.nx n, HeldL.nx t n⟩
theorem HeldL.rns : ∀ {xs : List Opd} {vs : List V} {ds : List D}, HeldL K σ Z H ρ xs vs → Ss K Z H σ ρ → opdsD ρ xs = some ds → RNs K Z H ds vs
  | [], vs, ds, h, _, e => by
    cases e
    exact h
  | x :: xs, vs, ds, h, st, e => by
    obtain ⟨v, r, e1, f, t⟩ := h
    rw [opdsD] at e
    cases q : opdV ρ x with
    | none =>
      rw [q] at e
      cases e
    | some d =>
      rw [q] at e
      cases q2 : opdsD ρ xs with
      | none =>
        rw [q2] at e
        cases e
      | some es =>
        rw [q2] at e
        cases e
        exact ⟨v, r, e1, f.rn st q, HeldL.rns t st q2⟩
end
/-! an operation of plain values at the end of an expression -/
section
variable {g : Ge} {E : XK} {Z Z0 Z1 Z2 : ZS} {H H0 H1 H2 : Hp} {σ : St} {ρ ρ0 ρ1 ρ2 : Env} {Q : VK}
theorem fin_of {o : Bool} {d : D} (st : Ss g.K Z H σ ρ) (back : ∀ a, H a = none → H0 a = none) (h : Oc g E σ Z H ρ (.ok (o, d) ρ) fun r Z' H' ρ' => ∀ v, VR g.K Z' H' H0 r.1 r.2 v → Q v H') : Fin g.K Z H o d Q := fun v Z' H' s zd vr =>
  h Z' H' (st.pure s zd) v (vr.back back)
theorem fin_ov {n : Nat} {x : OV} (st : Ss g.K Z H σ ρ) (back : ∀ a, H a = none → H0 a = none) (h : Oc g E σ Z H ρ (ofOV n x ρ) fun r Z' H' ρ' => ∀ v, VR g.K Z' H' H0 r.1 r.2 v → Q v H') : ∃ o d, x = some (o, d) ∧ Fin g.K Z H o d Q := by
  cases x with
  | none => exact h.elim
  | some p => exact ⟨p.1, p.2, rfl, fin_of st back h⟩
theorem Nxe.back (n : Nxe g.K σ Z H ρ Z1 H1 ρ1) : ∀ a, H1 a = none → H a = none := fun a z => n.nx.sp.none z
end
end MW
end
section
set_option Elab.async false
set_option linter.all false
set_option maxRecDepth 100000
set_option maxHeartbeats 2000000
/-! So7: each expression's reading, out of its parts' readings. -/
namespace MW
open PySem PySem.Spec
open PyProof.Rows hiding St
open L2 (V Hp HO St upd upd_same upd_ne SqL SqT Rd Vals RelV Key kV ne_of_none VK XK TE TT TA TS Ends PE PT PW PA PS PSs OpR CallR MtR IxR SlR Dp DpAll PSet)
variable [Tbs]
section
variable {X : L2.Cx} {e : Expr}
theorem pe_imp {t t' : TE} (h : PE X e t) (i : ∀ σ H Q, t' σ H Q → t σ H Q) : PE X e t' := ⟨fun pins s σ H Q I q => h.run pins s σ H Q I (i σ H Q q)⟩
theorem pt_imp {t t' : TT} (h : PT X e t) (i : ∀ σ H Q, t' σ H Q → t σ H Q) : PT X e t' := ⟨fun pins s σ H Q I q => h.run pins s σ H Q I (i σ H Q q)⟩
theorem pw_imp {t t' : TT} (h : PW X e t) (i : ∀ σ H Q, t' σ H Q → t σ H Q) : PW X e t' := ⟨fun wh pins s σ H Q I q => h.run wh pins s σ H Q I (i σ H Q q)⟩
theorem pa_imp {es : List Expr} {t t' : TA} (h : PA X es t) (i : ∀ σ H Q, t' σ H Q → t σ H Q) : PA X es t' := ⟨fun pos pins s σ H Q I q => h.run pos pins s σ H Q I (i σ H Q q)⟩
end
section
variable {g : Ge} {E : XK} {Z Z0 Z1 Z2 : ZS} {H H0 H1 H2 : Hp} {σ : St} {ρ ρ0 ρ1 ρ2 : Env} {Q : VK} {a b c : MW.E}
/-- the operand that a value in hand is -/
theorem ro_of_val (h : ∀ r : Env, evO g.mw a r = (ev g.mw a r).bind fun v r => .ok (.val v.1 v.2) r) : ∀ σ H Q, RO g E a σ H Q → RE g E a σ H Q := fun σ H Q ⟨Z, ρ, st, o⟩ => by
  refine ⟨Z, ρ, st, ?_⟩
  rw [h] at o
  exact o.bnd.imp fun r Z' H' ρ' n q v vr => (show Oc g E σ Z' H' ρ' (.ok (Opd.val r.1 r.2) ρ') _ from q).now n.nx.st v (held_val st n vr)
theorem set_sg {K : Fg} {i : Nat} (st : Ss K Z H σ ρ) (h : isSet (slotAt ρ i) = true) : ∃ v, sg σ i = some v := by
  have q := st.sl i
  cases e : slotAt ρ i with
  | no => rw [e] at h; cases h
  | fz d => rw [e] at q; obtain ⟨v, ev, _⟩ := q; exact ⟨v, ev⟩
  | ow d => rw [e] at q; obtain ⟨v, ev, _⟩ := q; exact ⟨_, ev⟩
  | lk d => rw [e] at q; obtain ⟨v, ev, _⟩ := q; exact ⟨_, ev⟩
  | io d => rw [e] at q; obtain ⟨v, ev, _⟩ := q; exact ⟨_, ev⟩
theorem ro_var {i : Nat} : ∀ σ H Q, RO g E (.var i) σ H Q → L2.tVar i σ H Q := fun σ H Q ⟨Z, ρ, st, o⟩ => by
  simp only [evO] at o
  split at o
  · rename_i hs
    obtain ⟨v, ev⟩ := set_sg st hs
    exact ⟨v, sg_some.mp ev, o.now st v (held_ref ev)⟩
  · exact o.elim
end
section
variable {g : Ge} {E : XK} {σ : St} {H : Hp} {Q : VK} {a b c : MW.E}
theorem re_bin {o : Op} (h : RE g E (.bin o a b) σ H Q) : L2.tOp (r2D g.K (opSem o)) (RO g E a) (RO g E b) σ H Q := by
  obtain ⟨Z, ρ, st, h⟩ := h
  simp only [ev] at h
  refine ⟨Z, ρ, st, h.bnd.imp fun x Z1 H1 ρ1 n1 h1 v hv => ?_⟩
  refine ⟨Z1, ρ1, n1.nx.st, h1.bnd.imp fun y Z2 H2 ρ2 n2 h2 w hw => ?_⟩
  split at h2
  · rename_i d1 d2 e1 e2
    obtain ⟨ow, d, es, f⟩ := fin_ov n2.nx.st (n1.trans n2).back h2
    exact ⟨Z2, d1, d2, ow, d, n2.nx.st.zd, (hv.nx n2).rn n2.nx.st e1, hw.rn n2.nx.st e2, es, f⟩
  · exact h2.elim
theorem re_neg (h : RE g E (.neg a) σ H Q) : L2.tUn (L2.rU fun i => .int (-i)) (RO g E a) σ H Q := by
  obtain ⟨Z, ρ, st, h⟩ := h
  simp only [ev] at h
  refine ⟨Z, ρ, st, h.bnd.imp fun x Z1 H1 ρ1 n1 h1 v hv => ?_⟩
  split at h1
  · rename_i i e1
    rw [(hv.rv n1.nx.st e1).int]
    exact ⟨i, rfl, (fin_of n1.nx.st n1.back h1).int n1.nx.st.zd⟩
  · exact h1.elim
theorem re_cmp {o : Cmp} (h : RE g E (.cmp o a b) σ H Q) : L2.tOp (r2V g.K (cmpF o)) (RO g E a) (RO g E b) σ H Q := by
  obtain ⟨Z, ρ, st, h⟩ := h
  simp only [ev] at h
  refine ⟨Z, ρ, st, h.bnd.imp fun x Z1 H1 ρ1 n1 h1 v hv => ?_⟩
  refine ⟨Z1, ρ1, n1.nx.st, h1.bnd.imp fun y Z2 H2 ρ2 n2 h2 w hw => ?_⟩
  split at h2
  · rename_i d1 d2 e1 e2
    split at h2
    · rename_i t es
      exact ⟨Z2, d1, d2, false, .bool t, n2.nx.st.zd, (hv.nx n2).rn n2.nx.st e1, hw.rv n2.nx.st e2, by unfold cmpF; rw [es]; rfl, fin_of n2.nx.st (n1.trans n2).back h2⟩
    · exact h2.elim
  · exact h2.elim
theorem re_idx (h : RE g E (.idx a b) σ H Q) : L2.tOp (r2I g.K idxF) (RO g E a) (RO g E b) σ H Q := by
  obtain ⟨Z, ρ, st, h⟩ := h
  simp only [ev] at h
  refine ⟨Z, ρ, st, h.bnd.imp fun x Z1 H1 ρ1 n1 h1 v hv => ?_⟩
  refine ⟨Z1, ρ1, n1.nx.st, h1.bnd.imp fun y Z2 H2 ρ2 n2 h2 w hw => ?_⟩
  split at h2
  · rename_i d1 d2 e1 e2
    split at h2
    · rename_i t es
      exact ⟨Z2, d1, d2, false, t, n2.nx.st.zd, (hv.nx n2).rv n2.nx.st e1, hw.rn n2.nx.st e2, by unfold idxF; rw [es]; rfl, fin_of n2.nx.st (n1.trans n2).back h2⟩
    · exact h2.elim
  · exact h2.elim
theorem re_chain {o p : Cmp} (h : RE g E (.chain o p a b c) σ H Q) : L2.tChain (r2V g.K (cmpF o)) (r2V g.K (cmpF p)) (RO g E a) (RO g E b) (RO g E c) σ H Q := by
  obtain ⟨Z, ρ, st, h⟩ := h
  simp only [ev] at h
  refine ⟨Z, ρ, st, h.bnd.imp fun x Z1 H1 ρ1 n1 h1 v hv => ?_⟩
  refine ⟨Z1, ρ1, n1.nx.st, h1.bnd.imp fun y Z2 H2 ρ2 n2 h2 w hw => ?_⟩
  split at h2
  · rename_i d1 d2 e1 e2
    have rw2 : RV g.K Z2 H2 d2 w := (hw.rn n2.nx.st e2).rv
    split at h2
    · rename_i es
      refine ⟨Z2, d1, d2, false, .bool true, n2.nx.st.zd, (hv.nx n2).rn n2.nx.st e1, rw2, by unfold cmpF; rw [es]; rfl, fun z Z3 H3 s3 zd3 vr => ?_⟩
      have ez : z = .bl true := vr
      refine ⟨true, ez, ?_⟩
      rw [if_pos rfl]
      have n3 := n2.nx.st.pure s3 zd3
      refine ⟨Z3, ρ2, n3.nx.st, ?_⟩
      have h3 : Oc g E σ Z3 H3 ρ2 (evO g.mw c ρ2) fun z Z4 H4 ρ4 => Oc g E σ Z4 H4 ρ4 _ _ := (Oc.bnd (x := .ok () ρ2) (f := fun _ r => _) h2 Z3 H3 n3).bnd
      refine h3.imp fun q Z4 H4 ρ4 n4 h4 u hu => ?_
      split at h4
      · rename_i d3 d4 e3 e4
        split at h4
        · rename_i t et
          exact ⟨Z4, d3, d4, false, .bool t, n4.nx.st.zd, ((hw.nx n3).nx n4).rn n4.nx.st e3, hu.rv n4.nx.st e4, by unfold cmpF; rw [et]; rfl, fin_of n4.nx.st (((n1.trans n2).trans n3).trans n4).back h4⟩
        · exact h4.elim
      · exact h4.elim
    · rename_i es
      refine ⟨Z2, d1, d2, false, .bool false, n2.nx.st.zd, (hv.nx n2).rn n2.nx.st e1, rw2, by unfold cmpF; rw [es]; rfl, fun z Z3 H3 s3 zd3 vr => ?_⟩
      have ez : z = .bl false := vr
      refine ⟨false, ez, ?_⟩
      rw [if_neg Bool.false_ne_true]
      have n3 := n2.nx.st.pure s3 zd3
      have h3 := h2 Z3 H3 n3
      exact h3 _ rfl
    · exact h2.elim
  · exact h2.elim
theorem re_ite (h : RE g E (.ite c a b) σ H Q) : L2.tIf (RT g E c) (RE g E a) (RE g E b) σ H Q := by
  obtain ⟨Z, ρ, st, h⟩ := h
  simp only [ev] at h
  refine ⟨Z, ρ, st, h.bnd.imp fun t Z1 H1 ρ1 n1 h1 => ?_⟩
  have lift : ∀ {e : MW.E}, Oc g E σ Z1 H1 ρ1 (ev g.mw e ρ1) (fun r Z' H' ρ' => ∀ v, VR g.K Z' H' H r.1 r.2 v → Q v H') → RE g E e σ H1 Q := fun {e} q =>
    ⟨Z1, ρ1, n1.nx.st, q.imp fun r Z2 H2 ρ2 n2 k v vr => k v (vr.back n1.back)⟩
  cases t with
  | true => exact lift h1
  | false => exact lift h1
theorem FzL.emp {K : Fg} {Z : ZS} {H : Hp} {ds : List D} {xs : List V} (h : FzL K Z H ds xs) : (!ds.isEmpty) = (!xs.isEmpty) := by
  cases ds with
  | nil =>
    have e : xs = [] := h
    rw [e]
    rfl
  | cons d r =>
    obtain ⟨x, t, e, _⟩ := h
    rw [e]
    rfl
theorem truV {K : Fg} {Z : ZS} {H : Hp} {d : D} {v : V} {t : Bool} (h : RN K Z H d v) (e : tru d = some t) : L2.TruV K v H t := by
  cases d with
  | none => cases e; rw [h.rv.non]; exact rfl
  | bool b => cases e; rw [h.rv.bool]; exact rfl
  | int i => cases e; rw [h.rv.int]; exact rfl
  | str s =>
    cases e
    rw [h.rv.str.1]
    refine ⟨by rw [← szLine_eq]; exact h.rv.str.2, ?_⟩
    show (s.length != 0) = ((s.length : Int) != 0)
    cases s.length <;> rfl
  | list ds =>
    cases e
    obtain ⟨a, xs, e1, r, _, f⟩ := h.rv.list
    rw [e1]
    exact .inl ⟨xs, .inl r, f.emp⟩
  | tuple ds =>
    cases e
    obtain ⟨a, xs, e1, r, _, f⟩ := h.rv.tuple
    rw [e1]
    exact .inr (.inl ⟨xs, r, f.emp⟩)
  | dict _ => cases e
theorem re_and (h : RE g E (.and a b) σ H Q) : L2.tAndT g.K (RE g E a) (RE g E b) σ H Q := by
  obtain ⟨Z, ρ, st, h⟩ := h
  simp only [ev] at h
  refine ⟨Z, ρ, st, h.bnd.imp fun r Z1 H1 ρ1 n1 h1 v vr => ?_⟩
  split at h1
  · rename_i e1
    exact ⟨true, truV vr.rn e1, ⟨Z1, ρ1, n1.nx.st, h1.imp fun r Z2 H2 ρ2 n2 k v vr => k v (vr.back n1.back)⟩⟩
  · rename_i e1
    exact ⟨false, truV vr.rn e1, h1.now n1.nx.st v vr⟩
  · exact h1.elim
theorem re_or (h : RE g E (.or a b) σ H Q) : L2.tOrT g.K (RE g E a) (RE g E b) σ H Q := by
  obtain ⟨Z, ρ, st, h⟩ := h
  simp only [ev] at h
  refine ⟨Z, ρ, st, h.bnd.imp fun r Z1 H1 ρ1 n1 h1 v vr => ?_⟩
  split at h1
  · rename_i e1
    exact ⟨true, truV vr.rn e1, h1.now n1.nx.st v vr⟩
  · rename_i e1
    exact ⟨false, truV vr.rn e1, ⟨Z1, ρ1, n1.nx.st, h1.imp fun r Z2 H2 ρ2 n2 k v vr => k v (vr.back n1.back)⟩⟩
  · exact h1.elim
/-! tests -/
theorem re_not (h : RE g E (.not a) σ H Q) : L2.tNotT g.K (RO g E a) σ H Q := by
  obtain ⟨Z, ρ, st, h⟩ := h
  simp only [ev] at h
  refine ⟨Z, ρ, st, h.bnd.imp fun x Z1 H1 ρ1 n1 h1 v hv => ?_⟩
  split at h1
  · rename_i t e
    cases q : opdV ρ1 x with
    | none =>
      rw [q] at e
      cases e
    | some d =>
      rw [q] at e
      exact ⟨t, truV (hv.rn n1.nx.st q) e, (fin_of n1.nx.st n1.back h1).bl n1.nx.st.zd⟩
  · exact h1.elim
variable {QT : Bool → Hp → Prop}
theorem rt_not (h : RT g E (.not a) σ H QT) : L2.tNot (RT g E a) σ H QT := by
  obtain ⟨Z, ρ, st, h⟩ := h
  simp only [evT] at h
  exact ⟨Z, ρ, st, h.bnd.imp fun t Z1 H1 ρ1 n1 h1 => h1.now n1.nx.st⟩
theorem rt_and (h : RT g E (.and a b) σ H QT) : L2.tAnd (RT g E a) (RT g E b) σ H QT := by
  obtain ⟨Z, ρ, st, h⟩ := h
  simp only [evT] at h
  refine ⟨Z, ρ, st, h.bnd.imp fun t Z1 H1 ρ1 n1 h1 => ?_⟩
  cases t with
  | true => exact ⟨Z1, ρ1, n1.nx.st, h1⟩
  | false => exact h1.now n1.nx.st
theorem rt_or (h : RT g E (.or a b) σ H QT) : L2.tOr (RT g E a) (RT g E b) σ H QT := by
  obtain ⟨Z, ρ, st, h⟩ := h
  simp only [evT] at h
  refine ⟨Z, ρ, st, h.bnd.imp fun t Z1 H1 ρ1 n1 h1 => ?_⟩
  cases t with
  | false => exact ⟨Z1, ρ1, n1.nx.st, h1⟩
  | true => exact h1.now n1.nx.st
/-- a test by its value's truth -/
theorem rt_val (hT : ∀ r, evT g.mw a r = (evO g.mw a r).bind fun x r => match (opdV r x).bind tru with | some t => .ok t r | none => .st 64) (h : RT g E a σ H QT) : RO g E a σ H fun x H' => ∃ k, L2.TruV g.K x H' k ∧ QT k H' := by
  obtain ⟨Z, ρ, st, h⟩ := h
  rw [hT] at h
  refine ⟨Z, ρ, st, h.bnd.imp fun x Z1 H1 ρ1 n1 h1 v hv => ?_⟩
  split at h1
  · rename_i t e
    cases q : opdV ρ1 x with
    | none =>
      rw [q] at e
      cases e
    | some d =>
      rw [q] at e
      exact ⟨t, truV (hv.rn n1.nx.st q) e, h1.now n1.nx.st⟩
  · exact h1.elim
theorem bind_ok {A B : Type} {x : Res A} {f : A → Env → Res B} {b : B} {r : Env} (h : x.bind f = .ok b r) : ∃ a r1, x = .ok a r1 ∧ f a r1 = .ok b r := by
  cases x with
  | ok a r1 => exact ⟨a, r1, rfl, h⟩
  | ex k as r1 => cases h
  | st n => cases h
theorem cmp_bl {mw : Cx} {o : Cmp} {r r' : Env} {v : Bool × D} (h : ev mw (.cmp o a b) r = .ok v r') : ∃ t, v = (false, .bool t) := by
  simp only [ev] at h
  obtain ⟨x, r1, _, h⟩ := bind_ok h
  obtain ⟨y, r2, _, h⟩ := bind_ok h
  split at h
  · split at h
    · cases h
      exact ⟨_, rfl⟩
    · cases h
  · cases h
theorem chain_bl {mw : Cx} {o p : Cmp} {r r' : Env} {v : Bool × D} (h : ev mw (.chain o p a b c) r = .ok v r') : ∃ t, v = (false, .bool t) := by
  simp only [ev] at h
  obtain ⟨x, r1, _, h⟩ := bind_ok h
  obtain ⟨y, r2, _, h⟩ := bind_ok h
  split at h
  · split at h
    · obtain ⟨z, r3, _, h⟩ := bind_ok h
      split at h
      · split at h
        · cases h
          exact ⟨_, rfl⟩
        · cases h
      · cases h
    · cases h
      exact ⟨_, rfl⟩
    · cases h
  · cases h
theorem Oc.imp' {A : Type} {Z : ZS} {ρ : Env} {x : Res A} {Q Q' : A → ZS → Hp → Env → Prop} (h : Oc g E σ Z H ρ x Q) (f : ∀ a Z' H' ρ', x = .ok a ρ' → Nxe g.K σ Z H ρ Z' H' ρ' → Q a Z' H' ρ' → Q' a Z' H' ρ') : Oc g E σ Z H ρ x Q' := by
  cases x with
  | st n => exact h
  | ex k as ρ1 => exact h
  | ok a ρ1 => exact fun Z1 H1 n => f a Z1 H1 ρ1 rfl n (h Z1 H1 n)
/-- a test by a value that is a bool -/
theorem rt_bl (hO : ∀ r : Env, evO g.mw a r = (ev g.mw a r).bind fun v r => .ok (.val v.1 v.2) r) (hT : ∀ r, evT g.mw a r = (evO g.mw a r).bind fun x r => match (opdV r x).bind tru with | some t => .ok t r | none => .st 64)
    (hb : ∀ r r' v, ev g.mw a r = .ok v r' → ∃ t, v = (false, .bool t)) (h : RT g E a σ H QT) : RE g E a σ H fun x H' => ∃ k, x = .bl k ∧ QT k H' := by
  obtain ⟨Z, ρ, st, q⟩ := ro_of_val hO σ H _ (rt_val hT h)
  refine ⟨Z, ρ, st, q.imp' fun r Z1 H1 ρ1 e n k v vr => ?_⟩
  obtain ⟨t, et⟩ := hb ρ ρ1 r e
  subst et
  have ev : v = .bl t := vr
  obtain ⟨k1, tk, q1⟩ := k v vr
  rw [ev] at tk
  have : k1 = t := tk
  rw [this] at q1
  exact ⟨t, ev, q1⟩
end
end MW
end
section
set_option Elab.async false
set_option linter.all false
set_option maxRecDepth 100000
set_option maxHeartbeats 2000000
/-! So8: lists of expressions, displays, built-in functions, calls. -/
namespace MW
open PySem PySem.Spec
open PyProof.Rows hiding St
open L2 (V Hp HO St upd upd_same upd_ne SqL SqT Rd Vals RelV Key kV ne_of_none VK XK TE TT TA TS Ends PE PT PW PA PS PSs OpR CallR MtR IxR SlR Dp DpAll PSet)
variable [Tbs]
section
variable {g : Ge} {E : XK} {σ : St} {H : Hp} {Q : VK} {QA : List V → Hp → Prop} {a b c : MW.E} {es : Es}
theorem rl_nil (h : RL g E .nil σ H QA) : L2.tNil σ H QA := by
  obtain ⟨Z, ρ, st, h⟩ := h
  simp only [evOs] at h
  exact h.now st [] rfl
theorem rl_cons (h : RL g E (.cons a es) σ H QA) : L2.tCons (RO g E a) (RL g E es) σ H QA := by
  obtain ⟨Z, ρ, st, h⟩ := h
  simp only [evOs] at h
  refine ⟨Z, ρ, st, h.bnd.imp fun x Z1 H1 ρ1 n1 h1 v hv => ?_⟩
  refine ⟨Z1, ρ1, n1.nx.st, h1.bnd.imp fun xs Z2 H2 ρ2 n2 h2 vs hvs => ?_⟩
  exact h2.now n2.nx.st (v :: vs) ⟨v, vs, rfl, hv.nx n2, hvs⟩
theorem rv_nil (h : RV' g E .nil σ H QA) : L2.tNil σ H QA := by
  obtain ⟨Z, ρ, st, h⟩ := h
  simp only [evs] at h
  exact h.now st [] rfl
theorem rv_cons (h : RV' g E (.cons a es) σ H QA) : L2.tCons (RE g E a) (RV' g E es) σ H QA := by
  obtain ⟨Z, ρ, st, h⟩ := h
  simp only [evs] at h
  have h0 := h.bnd
  refine ⟨Z, ρ, st, ?_⟩
  cases ea : ev g.mw a ρ with
  | st n => rw [ea] at h0; exact h0
  | ex k as ρ1 => rw [ea] at h0; exact h0
  | ok r ρ1 =>
    rw [ea] at h0
    intro Z1 H1 n1 v vr
    obtain ⟨Z1', n1', fz⟩ := n1.freeze st vr
    have h1 := h0 Z1' H1 n1'
    refine ⟨Z1', ρ1, n1'.nx.st, h1.bnd.imp fun ds Z2 H2 ρ2 n2 h2 vs hvs => ?_⟩
    exact h2.now n2.nx.st (v :: vs) ⟨v, vs, rfl, n2.nx.fz n1'.nx.st fz, hvs⟩
def esLen : Es → Nat
  | .nil => 0
  | .cons _ es => esLen es + 1
theorem evs_len {mw : Cx} : ∀ {es : Es} {r r' : Env} {ds : List D}, evs mw es r = .ok ds r' → ds.length = esLen es
  | .nil, r, r', ds, h => by
    simp only [evs] at h
    cases h
    rfl
  | .cons e es, r, r', ds, h => by
    simp only [evs] at h
    obtain ⟨x, r1, _, h⟩ := bind_ok h
    obtain ⟨y, r2, h2, h⟩ := bind_ok h
    cases h
    rw [List.length_cons, evs_len h2]
    rfl
theorem re_tup (hl : esLen es ≤ 1000) (h : RE g E (.tup es) σ H Q) : L2.tTup (RV' g E es) σ H Q := by
  obtain ⟨Z, ρ, st, h⟩ := h
  simp only [ev] at h
  refine ⟨Z, ρ, st, h.bnd.imp' fun ds Z1 H1 ρ1 e n1 h1 vs hvs => ?_⟩
  have l : vs.length ≤ szLine := by rw [hvs.len, evs_len e]; unfold szLine; omega
  exact ⟨by rw [← szLine_eq]; exact l, (fin_of n1.nx.st n1.back h1).tup n1.nx.st.zd hvs l⟩
theorem re_lst (hl : esLen es ≤ 1000) (h : RE g E (.lst es) σ H Q) : L2.tLst (RV' g E es) σ H Q := by
  obtain ⟨Z, ρ, st, h⟩ := h
  simp only [ev] at h
  refine ⟨Z, ρ, st, h.bnd.imp' fun ds Z1 H1 ρ1 e n1 h1 vs hvs => ?_⟩
  have l : vs.length ≤ szLine := by rw [hvs.len, evs_len e]; unfold szLine; omega
  exact ⟨by rw [← szLine_eq]; exact l, (fin_of n1.nx.st n1.back h1).lst n1.nx.st.zd hvs l⟩
theorem re_dic {t : Bool} (h : RE g E (.dic t .nil) σ H Q) : L2.tDNewK σ H Q := by
  obtain ⟨Z, ρ, st, h⟩ := h
  simp only [ev, evs, Res.bind, pairsK] at h
  intro p hp
  refine fin_of st (fun _ z => z) h (.ref p) Z _ (step_new hp (fun _ z => z) fun _ z => .inl z) (zd_new st.zd hp (fun z => z) fun _ z => .inl z) ⟨p, rfl, fun z => ?_, .inl ⟨[], upd_same, rfl⟩, hp⟩
  obtain ⟨u, e, _⟩ := st.zd p z
  rw [hp] at e
  cases e
theorem re_prim {p : P} (h : RE g E (.prim p es) σ H Q) : L2.tCB (rPD g.K p) (RL g E es) σ H Q := by
  obtain ⟨Z, ρ, st, h⟩ := h
  simp only [ev] at h
  refine ⟨Z, ρ, st, h.bnd.imp fun xs Z1 H1 ρ1 n1 h1 vs hvs => ?_⟩
  split at h1
  · rename_i ds e
    obtain ⟨o, d, es', f⟩ := fin_ov n1.nx.st n1.back h1
    exact ⟨Z1, ds, o, d, n1.nx.st.zd, hvs.rns n1.nx.st e, es', f⟩
  · exact h1.elim
theorem re_isa {p : P} {T : String} (h : RE g E (.prim p (.cons a .nil)) σ H Q) : L2.tCB (rIsD g.K p T) (L2.tCons (RO g E a) (L2.tCons (L2.tC (.ty T)) L2.tNil)) σ H Q := by
  obtain ⟨Z, ρ, st, h⟩ := h
  simp only [ev, evOs] at h
  have h0 := h.bnd.bnd
  refine ⟨Z, ρ, st, h0.imp fun x Z1 H1 ρ1 n1 h1 v hv => ?_⟩
  have h2 := (h1.bnd.now n1.nx.st).now n1.nx.st
  split at h2
  · rename_i ds e
    rw [opdsD] at e
    cases q : opdV ρ1 x with
    | none => rw [q] at e; cases e
    | some d =>
      rw [q] at e
      cases e
      obtain ⟨o, d', es', f⟩ := fin_ov n1.nx.st n1.back h2
      exact ⟨Z1, d, v, o, d', rfl, n1.nx.st.zd, hv.rn n1.nx.st q, es', f⟩
  · exact h2.elim
end

/-! ### calls of defs -/
/-- what the def f promises, by what the evaluator tells -/
def SpF (g : Ge) (np : Nat) (f : Nat) : L2.Sp := fun vs H Q E => ∃ Z ss, vs.length = np ∧ Ss g.K Z H (vs.map some) ss ∧ (∀ i, (slotAt ss i).own = true → (slotAt ss i).isIo = true) ∧
  match g.mw.call f ss with
  | .ok r s' => ∀ Z' H' v, Step (Od (vs.map some) ss) Z H Z' H' → Zd Z' H' → (∀ i, (slotAt ss i).isIo = true → (slotAt s' i).isIo = true ∧ SlotR g.K Z' H' (slotAt s' i) (sg (vs.map some) i)) → VR g.K Z' H' H r.1 r.2 v → Q v H'
  | .ex k as s' => ∀ Z' H', Step (Od (vs.map some) ss) Z H Z' H' → Zd Z' H' → (∀ i, (slotAt ss i).isIo = true → (slotAt s' i).isIo = true ∧ SlotR g.K Z' H' (slotAt s' i) (sg (vs.map some) i)) → ExW g E k as Z' H'
  | .st _ => False
/-- arguments -/
def ArgR (K : Fg) (σ : St) (Z : ZS) (H : Hp) : List Arg → List V → Prop
  | [], vs => vs = []
  | x :: xs, vs => ∃ v r, vs = v :: r ∧ (match x with | .val d => Fz K Z H d v | .io i => sg σ i = some v) ∧ ArgR K σ Z H xs r
def RG (g : Ge) (E : XK) (bs : List Bool) (es : Es) : TA := fun σ H Q => ∃ Z ρ, Ss g.K Z H σ ρ ∧ Oc g E σ Z H ρ (evArgs g.mw bs es ρ) fun xs Z' H' ρ' => ∀ vs, ArgR g.K σ Z' H' xs vs → Q vs H'
section
variable {g : Ge} {E : XK} {σ : St} {H : Hp} {Q : VK} {QA : List V → Hp → Prop} {a b c : MW.E} {es : Es} {bs : List Bool}
theorem ArgR.nx {K : Fg} {Z Z1 : ZS} {H H1 : Hp} {ρ ρ1 : Env} (st : Ss K Z H σ ρ) (n : Nxe K σ Z H ρ Z1 H1 ρ1) : ∀ {xs : List Arg} {vs : List V}, ArgR K σ Z H xs vs → ArgR K σ Z1 H1 xs vs
  | [], _, h => h
  | x :: xs, _, h => by
    obtain ⟨v, r, e, f, t⟩ := h
    refine ⟨v, r, e, ?_, ArgR.nx st n t⟩
    cases x with
    | val d => exact n.nx.fz st f
    | io i => exact f
theorem rg_nil (h : RG g E bs .nil σ H QA) : L2.tNil σ H QA := by
  obtain ⟨Z, ρ, st, h⟩ := h
  simp only [evArgs] at h
  exact h.now st [] rfl
theorem rg_val (hb : headIo bs = false) (h : RG g E bs (.cons a es) σ H QA) : L2.tCons (RE g E a) (RG g E bs.tail es) σ H QA := by
  obtain ⟨Z, ρ, st, h⟩ := h
  have eq : evArgs g.mw bs (.cons a es) ρ = (ev g.mw a ρ).bind fun x r => (evArgs g.mw bs.tail es r).bind fun xs r => .ok (.val x.2 :: xs) r := by
    cases a <;> simp [evArgs, hb]
  rw [eq] at h
  have h0 := h.bnd
  refine ⟨Z, ρ, st, ?_⟩
  cases ea : ev g.mw a ρ with
  | st n => rw [ea] at h0; exact h0
  | ex k as ρ1 => rw [ea] at h0; exact h0
  | ok r ρ1 =>
    rw [ea] at h0
    intro Z1 H1 n1 v vr
    obtain ⟨Z1', n1', fz⟩ := n1.freeze st vr
    have h1 := h0 Z1' H1 n1'
    refine ⟨Z1', ρ1, n1'.nx.st, h1.bnd.imp fun ds Z2 H2 ρ2 n2 h2 vs hvs => ?_⟩
    exact h2.now n2.nx.st (v :: vs) ⟨v, vs, rfl, n2.nx.fz n1'.nx.st fz, hvs⟩
theorem rg_io {i : Nat} (hb : headIo bs = true) (h : RG g E bs (.cons (.var i) es) σ H QA) : L2.tCons (L2.tVar i) (RG g E bs.tail es) σ H QA := by
  obtain ⟨Z, ρ, st, h⟩ := h
  rw [evArgs, if_pos hb] at h
  split at h
  · rename_i ho
    obtain ⟨a, d, e1, _⟩ := (st.sl i).own ho
    refine ⟨_, sg_some.mp e1, ?_⟩
    refine ⟨Z, ρ, st, h.bnd.imp fun xs Z1 H1 ρ1 n1 h1 vs hvs => ?_⟩
    exact h1.now n1.nx.st (_ :: vs) ⟨_, vs, rfl, e1, hvs⟩
  · exact h.elim
structure ArgS (K : Fg) (σ : St) (Z : ZS) (H : Hp) (ρ : Env) (n : Bool) (vs : List V) (ss : List Slot) : Prop where
  len : ss.length = vs.length
  sl : ∀ i, SlotR K Z H (slotAt ss i) (sg (vs.map some) i)
  no : n = true → ∀ i, (slotAt ss i).own = false
  one : ∀ i j, (slotAt ss i).own = true → (slotAt ss j).own = true → i = j
  od : ∀ a, Od (vs.map some) ss a → Od σ ρ a
  io : ∀ i, (slotAt ss i).own = true → (slotAt ss i).isIo = true
theorem arg_io {K : Fg} {Z : ZS} {ρ : Env} {v : V} {r : List V} {sr : List Slot} {k : Nat} {d : D} (st : Ss K Z H σ ρ) (h : ArgS K σ Z H ρ true r sr) (ho : (slotAt ρ k).own = true) (hd : (slotAt ρ k).dat = some d) (f : sg σ k = some v) : ArgS K σ Z H ρ false (v :: r) (.io d :: sr) := by
  obtain ⟨b, d', eb, ed, nz, w⟩ := (st.sl k).own ho
  rw [hd] at ed
  cases ed
  rw [f] at eb
  cases eb
  refine ⟨by rw [List.length_cons, List.length_cons, h.len], fun i => ?_, fun n => (by cases n), fun i j a c => ?_, fun a ⟨i, o1, o2⟩ => ?_, fun i a => ?_⟩
  · cases i with
    | zero => exact ⟨b, rfl, nz, w⟩
    | succ i => exact h.sl i
  · cases i with
    | zero =>
      cases j with
      | zero => rfl
      | succ j =>
        have := h.no rfl j
        rw [show slotAt (Slot.io d :: sr) (j + 1) = slotAt sr j from rfl, this] at c
        cases c
    | succ i =>
      have := h.no rfl i
      rw [show slotAt (Slot.io d :: sr) (i + 1) = slotAt sr i from rfl, this] at a
      cases a
  · cases i with
    | zero => exact ⟨k, ho, by rw [f]; exact o2⟩
    | succ i => exact h.od a ⟨i, o1, o2⟩
  · cases i with
    | zero => rfl
    | succ i => exact h.io i a
/-- the parameters' places, as the caller sees them -/
theorem arg_ss {K : Fg} {Z : ZS} {ρ : Env} (st : Ss K Z H σ ρ) : ∀ {xs : List Arg} {vs : List V} {ss : List Slot}, ArgR K σ Z H xs vs → argSlots ρ xs = some ss → ArgS K σ Z H ρ (noIo xs) vs ss
  | [], vs, ss, h, e => by
    have e1 : vs = [] := h
    subst e1
    cases e
    refine ⟨rfl, fun i => trivial, fun _ i => rfl, fun i j a => ?_, fun a ⟨i, e, _⟩ => ?_, fun i a => ?_⟩
    · cases a
    · cases e
    · cases a
  | x :: xs, vs, ss, h, e => by
    obtain ⟨v, r, e1, f, t⟩ := h
    subst e1
    cases x with
    | val d =>
      simp only [argSlots] at e
      cases q : argSlots ρ xs with
      | none => rw [q] at e; cases e
      | some sr =>
        rw [q] at e
        cases e
        have h := arg_ss st t q
        refine ⟨by rw [List.length_cons, List.length_cons, h.len], fun i => ?_, fun n i => ?_, fun i j a b => ?_, fun a ⟨i, ho, hv⟩ => ?_, fun i a => ?_⟩
        · cases i with
          | zero => exact ⟨v, rfl, f⟩
          | succ i => exact h.sl i
        · cases i with
          | zero => rfl
          | succ i => exact h.no n i
        · cases i with
          | zero => cases a
          | succ i =>
            cases j with
            | zero => cases b
            | succ j => rw [h.one i j a b]
        · cases i with
          | zero => cases ho
          | succ i => exact h.od a ⟨i, ho, hv⟩
        · cases i with
          | zero => cases a
          | succ i => exact h.io i a
    | io k =>
      simp only [argSlots] at e
      split at e
      · rename_i hn
        cases q : argSlots ρ xs with
        | none =>
          rw [q] at e
          split at e <;> cases e
        | some sr =>
          rw [q] at e
          have h := arg_ss st t q
          rw [hn] at h
          split at e
          · rename_i d hs
            cases e
            exact arg_io st h (by rw [hs]; rfl) (by rw [hs]; rfl) f
          · rename_i d hs
            cases e
            exact arg_io st h (by rw [hs]; rfl) (by rw [hs]; rfl) f
          · cases e
      · cases e
theorem arg_state {K : Fg} {Z : ZS} {ρ : Env} (st : Ss K Z H σ ρ) {xs : List Arg} {vs : List V} {ss : List Slot} (h : ArgR K σ Z H xs vs) (e : argSlots ρ xs = some ss) : Ss K Z H (vs.map some) ss := by
  have q := arg_ss st h e
  exact ⟨by rw [List.length_map, q.len], q.sl, fun i j a ne o1 o2 => absurd (q.one i j o1 o2) ne, st.zd, st.tb⟩
theorem slot_set : ∀ (ρ : Env) (k : Nat) (s : Slot) (i : Nat), slotAt (setSlot ρ k s) i = if i = k then (if k < ρ.length then s else .no) else slotAt ρ i
  | [], k, s, i => by
    show Slot.no = _
    split
    · simp
    · rfl
  | x :: r, 0, s, 0 => by simp [setSlot, slotAt]
  | x :: r, 0, s, i + 1 => by simp [setSlot, slotAt]
  | x :: r, k + 1, s, 0 => by simp [setSlot, slotAt]
  | x :: r, k + 1, s, i + 1 => by
    have := slot_set r k s i
    simp only [setSlot, slotAt, List.length_cons]
    rw [this]
    by_cases h : i = k
    · subst h
      simp
    · simp [h]
theorem set_len : ∀ (ρ : Env) (k : Nat) (s : Slot), (setSlot ρ k s).length = ρ.length
  | [], _, _ => rfl
  | _ :: _, 0, _ => rfl
  | _ :: r, k + 1, s => by
    show (setSlot r k s).length + 1 = r.length + 1
    rw [set_len r k s]
theorem slot_lt : ∀ {ρ : Env} {k : Nat}, slotAt ρ k ≠ .no → k < ρ.length
  | [], _, h => absurd rfl h
  | _ :: _, 0, _ => Nat.succ_pos _
  | _ :: r, k + 1, h => Nat.succ_lt_succ (slot_lt (ρ := r) (k := k) h)
theorem slot_at_set {ρ : Env} {k : Nat} {s : Slot} (h : slotAt ρ k ≠ .no) (i : Nat) : slotAt (setSlot ρ k s) i = if i = k then s else slotAt ρ i := by
  rw [slot_set, if_pos (slot_lt h)]
theorem own_ne {s : Slot} (h : s.own = true) : s ≠ .no := fun e => by
  subst e
  cases h
/-- an owned place has another value -/
theorem ss_set {K : Fg} {Z1 : ZS} {H1 : Hp} {ρ : Env} {k : Nat} {s : Slot} {Z : ZS} {H : Hp} (st : Ss K Z H σ ρ) (ho : (slotAt ρ k).own = true) (hs : s.own = true) (h1 : SlotR K Z1 H1 s (sg σ k)) (h2 : ∀ i, i ≠ k → SlotR K Z1 H1 (slotAt ρ i) (sg σ i)) (zd : Zd Z1 H1) (tb : LamX.Tabs Tbs.T H1) : Ss K Z1 H1 σ (setSlot ρ k s) := by
  have at_ := slot_at_set (s := s) (own_ne ho)
  have same : ∀ i, (slotAt (setSlot ρ k s) i).own = (slotAt ρ i).own := fun i => by
    rw [at_]
    split
    · rename_i e
      rw [e, ho, hs]
    · rfl
  refine ⟨by rw [set_len, st.len], fun i => ?_, fun i j a ne o1 o2 => st.inj i j a ne (by rw [← same]; exact o1) (by rw [← same]; exact o2), zd, tb⟩
  rw [at_]
  split
  · rename_i e
    rw [e]
    exact h1
  · rename_i e
    exact h2 i e
theorem od_set {ρ : Env} {k : Nat} {s : Slot} (ho : (slotAt ρ k).own = true) (hs : s.own = true) (a : Ad) : Od σ (setSlot ρ k s) a ↔ Od σ ρ a := by
  have at_ := slot_at_set (s := s) (own_ne ho)
  constructor
  · rintro ⟨i, o1, o2⟩
    refine ⟨i, ?_, o2⟩
    rw [at_] at o1
    split at o1
    · rename_i e
      rw [e]
      exact ho
    · exact o1
  · rintro ⟨i, o1, o2⟩
    refine ⟨i, ?_, o2⟩
    rw [at_]
    split
    · exact hs
    · exact o1
theorem tb_no : ∀ {xs : List Arg} {r r' : Env} {s : Env}, noIo xs = true → takeBack r xs s = some r' → r' = r
  | [], r, r', s, _, h => by
    cases s <;> cases h <;> rfl
  | .val d :: xs, r, r', s, n, h => by
    cases s with
    | nil => cases h
    | cons c s => exact tb_no (xs := xs) n h
  | .io i :: xs, r, r', s, n, h => by cases n
theorem tb_cases {K : Fg} {Z : ZS} {ρ ρ' : Env} : ∀ {xs : List Arg} {vs : List V} {ss s' : List Slot}, ArgR K σ Z H xs vs → argSlots ρ xs = some ss → takeBack ρ xs s' = some ρ' →
    (noIo xs = true ∧ ρ' = ρ) ∨ ∃ n k d0 d, sg (vs.map some) n = sg σ k ∧ slotAt ss n = .io d0 ∧ slotAt s' n = .io d ∧ ((slotAt ρ k = .ow d0 ∧ ρ' = setSlot ρ k (.ow d)) ∨ (slotAt ρ k = .io d0 ∧ ρ' = setSlot ρ k (.io d)))
  | [], _, _, s', _, _, h => by
    cases s' <;> cases h <;> exact .inl ⟨rfl, rfl⟩
  | .val c :: xs, vs, ss, s', ha, e, h => by
    obtain ⟨v, r, e1, f, t⟩ := ha
    subst e1
    simp only [argSlots] at e
    cases q : argSlots ρ xs with
    | none => rw [q] at e; cases e
    | some sr =>
      rw [q] at e
      cases e
      cases s' with
      | nil => cases h
      | cons c2 s2 =>
        rcases tb_cases t q h with z | ⟨n, k, d0, d, h1, h2, h3, h4⟩
        · exact .inl z
        · exact .inr ⟨n + 1, k, d0, d, h1, h2, h3, h4⟩
  | .io k :: xs, vs, ss, s', ha, e, h => by
    obtain ⟨v, r, e1, f, t⟩ := ha
    subst e1
    simp only [argSlots] at e
    have fk : sg σ k = some v := f
    split at e
    · rename_i hn
      cases q : argSlots ρ xs with
      | none =>
        rw [q] at e
        split at e <;> cases e
      | some sr =>
        rw [q] at e
        unfold takeBack at h
        split at h
        · rename_i d s2
          split at e
          · rename_i d0 hs
            cases e
            rw [hs] at h
            have := tb_no hn h
            exact .inr ⟨0, k, d0, d, fk.symm, rfl, rfl, .inl ⟨hs, this⟩⟩
          · rename_i d0 hs
            cases e
            rw [hs] at h
            have := tb_no hn h
            exact .inr ⟨0, k, d0, d, fk.symm, rfl, rfl, .inr ⟨hs, this⟩⟩
          · cases e
        · cases h
    · cases e
/-- what was lent comes back -/
theorem take_back {K : Fg} {Z Z1 : ZS} {H1 : Hp} {ρ : Env} (st : Ss K Z H σ ρ) {xs : List Arg} {vs : List V} {ss s' : List Slot} {ρ' : Env} (h : ArgR K σ Z H xs vs) (e : argSlots ρ xs = some ss)
    (sp : Step (Od (vs.map some) ss) Z H Z1 H1) (zd : Zd Z1 H1) (io : ∀ i, (slotAt ss i).isIo = true → (slotAt s' i).isIo = true ∧ SlotR K Z1 H1 (slotAt s' i) (sg (vs.map some) i)) (tb : takeBack ρ xs s' = some ρ') : Nxe K σ Z H ρ Z1 H1 ρ' := by
  have q := arg_ss st h e
  have sp' : Step (Od σ ρ) Z H Z1 H1 := ⟨sp.up, fun a z => (sp.dn a z).elim .inl fun z => z.elim (fun z => .inr (.inl (q.od a z))) fun z => .inr (.inr z), fun a o e nt no => sp.kp a o e nt fun z => no (q.od a z), sp.th, sp.tb⟩
  have zk := sp'.zk st.zd fun a z o => (st.od o).1 z
  -- a place that was not lent
  have keep : ∀ i, (∀ a, (slotAt ρ i).own = true → sg σ i = some (.ref a) → ¬ Od (vs.map some) ss a) → SlotR K Z1 H1 (slotAt ρ i) (sg σ i) := fun i no => by
    have own : ∀ {a : Ad} {d : D}, (slotAt ρ i).own = true → sg σ i = some (.ref a) → ¬ Z a → Ow K Z H a d → ¬ Z1 a ∧ Ow K Z1 H1 a d := fun {a d} ho ha nz w => by
      obtain ⟨u, eu, nt⟩ := w.there
      refine ⟨fun z => ?_, w.keep sp.up zk ?_⟩
      · rcases sp.dn a z with z | z | z
        · exact nz z
        · exact no a ho ha z
        · exact w.nf z
      · rw [eu]
        exact sp.kp a u eu nt (no a ho ha)
    have s0 := st.sl i
    cases hs : slotAt ρ i with
    | no => trivial
    | fz d =>
      rw [hs] at s0
      obtain ⟨v, ev, f⟩ := s0
      exact ⟨v, ev, f.keep sp.up zk⟩
    | ow d =>
      rw [hs] at s0
      obtain ⟨a, ea, nz, w⟩ := s0
      exact ⟨a, ea, own (by rw [hs]; rfl) ea nz w⟩
    | lk d =>
      rw [hs] at s0
      obtain ⟨a, ea, nz, w⟩ := s0
      exact ⟨a, ea, own (by rw [hs]; rfl) ea nz w⟩
    | io d =>
      rw [hs] at s0
      obtain ⟨a, ea, nz, w⟩ := s0
      exact ⟨a, ea, own (by rw [hs]; rfl) ea nz w⟩
  rcases tb_cases h e tb with ⟨hn, rfl⟩ | ⟨n, k, d0, d, h1, h2, h3, h4⟩
  · have none : ∀ a, ¬ Od (vs.map some) ss a := fun a ⟨i, o, _⟩ => by
      rw [q.no hn i] at o
      cases o
    exact ⟨⟨sp', ⟨st.len, fun i => keep i fun a _ _ => none a, st.inj, zd, fun p hp => sp.tb _ _ hp (st.tb p hp)⟩, fun a z => .inl z, fun i e => ⟨e, rfl⟩, fun i d e => ⟨e, rfl⟩, rfl⟩, fun a z => z⟩
  · have hio : (slotAt ss n).isIo = true := by rw [h2]; rfl
    obtain ⟨_, io2⟩ := io n hio
    rw [h3, h1] at io2
    obtain ⟨b, eb, nb, wb⟩ := io2
    have ho : (slotAt ρ k).own = true := by
      rcases h4 with ⟨e, _⟩ | ⟨e, _⟩ <;> rw [e] <;> rfl
    have others : ∀ i, i ≠ k → SlotR K Z1 H1 (slotAt ρ i) (sg σ i) := fun i ne => keep i fun a oi ai ⟨m, om, am⟩ => by
      have : m = n := q.one m n om (by rw [h2]; rfl)
      subst this
      rw [h1] at am
      exact st.inj i k a ne oi ho ai am
    rcases h4 with ⟨hk, rfl⟩ | ⟨hk, rfl⟩
    · refine ⟨⟨sp', ss_set st ho rfl ⟨b, eb, nb, wb⟩ others zd (fun p hp => sp.tb _ _ hp (st.tb p hp)), fun a z => .inl ((od_set ho rfl a).mp z), fun i e => ⟨?_, rfl⟩, fun i d e => ⟨?_, rfl⟩, rfl⟩, fun a z => (od_set ho rfl a).mp z⟩
      · rw [slot_at_set (own_ne ho)]
        split
        · rename_i ei
          rw [ei, hk] at e
          cases e
        · exact e
      · rw [slot_at_set (own_ne ho)]
        split
        · rename_i ei
          rw [ei, hk] at e
          cases e
        · exact e
    · refine ⟨⟨sp', ss_set st ho rfl ⟨b, eb, nb, wb⟩ others zd (fun p hp => sp.tb _ _ hp (st.tb p hp)), fun a z => .inl ((od_set ho rfl a).mp z), fun i e => ⟨?_, rfl⟩, fun i d e => ⟨?_, rfl⟩, rfl⟩, fun a z => (od_set ho rfl a).mp z⟩
      · rw [slot_at_set (own_ne ho)]
        split
        · rfl
        · exact e
      · rw [slot_at_set (own_ne ho)]
        split
        · rename_i ei
          rw [ei, hk] at e
          cases e
        · exact e
theorem arg_len : ∀ {es : Es} {mw : Cx} {bs : List Bool} {r r' : Env} {xs : List Arg}, evArgs mw bs es r = .ok xs r' → xs.length = esLen es
  | .nil, mw, bs, r, r', xs, h => by
    unfold evArgs at h
    cases h
    rfl
  | .cons e es, mw, bs, r, r', xs, h => by
    unfold evArgs at h
    split at h
    · split at h
      · split at h
        · obtain ⟨y, r2, h2, h⟩ := bind_ok h
          cases h
          rw [List.length_cons, arg_len h2]
          rfl
        · cases h
      · cases h
    · obtain ⟨x, r1, _, h⟩ := bind_ok h
      obtain ⟨y, r2, h2, h⟩ := bind_ok h
      cases h
      rw [List.length_cons, arg_len h2]
      rfl
theorem argR_len {K : Fg} {Z : ZS} : ∀ {xs : List Arg} {vs : List V}, ArgR K σ Z H xs vs → vs.length = xs.length
  | [], vs, h => by
    have e : vs = [] := h
    rw [e]
    rfl
  | x :: xs, vs, h => by
    obtain ⟨v, r, e, _, t⟩ := h
    rw [e, List.length_cons, List.length_cons, argR_len t]
theorem re_call {f np : Nat} (hn : esLen es = np) (h : RE g E (.call f es) σ H Q) : L2.tCall (SpF g np f) [] E (RG g E (g.mw.io f) es) σ H Q := by
  obtain ⟨Z, ρ, st, h⟩ := h
  simp only [ev] at h
  refine ⟨Z, ρ, st, h.bnd.imp' fun xs Z1 H1 ρ1 ea n1 h1 vs hvs => ?_⟩
  show SpF g np f (vs ++ []) H1 Q E
  rw [List.append_nil]
  split at h1
  · rename_i ss es'
    refine ⟨Z1, ss, by rw [argR_len hvs, arg_len ea, hn], arg_state n1.nx.st hvs es', (arg_ss n1.nx.st hvs es').io, ?_⟩
    cases ec : g.mw.call f ss with
    | st n => rw [ec] at h1; exact h1
    | ok r s' =>
      rw [ec] at h1
      intro Z2 H2 v sp zd io vr
      simp only at h1
      split at h1
      · rename_i ρ2 tb
        exact h1 Z2 H2 (take_back n1.nx.st hvs es' sp zd io tb) v (vr.back n1.back)
      · exact h1.elim
    | ex k as s' =>
      rw [ec] at h1
      intro Z2 H2 sp zd io
      simp only at h1
      split at h1
      · rename_i ρ2 tb
        exact h1 Z2 H2 (take_back n1.nx.st hvs es' sp zd io tb)
      · exact h1.elim
  · exact h1.elim
end
end MW
end
section
set_option Elab.async false
set_option linter.all false
set_option maxRecDepth 100000
set_option maxHeartbeats 2000000
/-! So9: outcomes of statements; stores; what is walked. -/
namespace MW
open PySem PySem.Spec
open PyProof.Rows hiding St
open L2 (V Hp HO St upd upd_same upd_ne SqL SqT Rd Vals RelV Key kV ne_of_none VK XK TE TT TA TS TG TGs TI Ends PE PT PW PA PS PSs PG PGs PI OpR CallR MtR IxR SlR Dp DpAll PSet)
variable [Tbs]

/-- a statement's outcome, from the state at which one stands -/
def OcS (g : Ge) (E : XK) (σ : St) (Z : ZS) (H : Hp) (ρ : Env) {A : Type} (r : Res A) (Q : A → St → ZS → Hp → Env → Prop) : Prop :=
  match r with
  | .ok a ρ' => ∀ σ' Z' H', Nx g.K σ Z H ρ σ' Z' H' ρ' → Q a σ' Z' H' ρ'
  | .ex k as ρ' => ∀ σ' Z' H', Nx g.K σ Z H ρ σ' Z' H' ρ' → ExW g E k as Z' H'
  | .st _ => False
section
variable {g : Ge} {E : XK} {Z Z1 Z2 : ZS} {H H0 H1 H2 : Hp} {σ σ1 σ2 : St} {ρ ρ1 ρ2 : Env} {A B : Type}
theorem OcS.ev {x : Res A} {f : A → Env → Res B} {Q : B → St → ZS → Hp → Env → Prop} (h : OcS g E σ Z H ρ (x.bind f) Q) (n : Nx g.K σ Z H ρ σ1 Z1 H1 ρ1) :
    Oc g E σ1 Z1 H1 ρ1 x fun a Z2 H2 ρ2 => Nx g.K σ Z H ρ σ1 Z2 H2 ρ2 ∧ OcS g E σ Z H ρ (f a ρ2) Q := by
  cases x with
  | st k => exact h
  | ex k as ρ2 => exact fun Z2 H2 m => h _ Z2 H2 (n.trans m.nx)
  | ok a ρ2 => exact fun Z2 H2 m => ⟨n.trans m.nx, h⟩
theorem OcS.run {x : Res A} {f : A → Env → Res B} {Q : B → St → ZS → Hp → Env → Prop} (h : OcS g E σ Z H ρ (x.bind f) Q) (n : Nx g.K σ Z H ρ σ1 Z1 H1 ρ1) :
    OcS g E σ1 Z1 H1 ρ1 x fun a σ2 Z2 H2 ρ2 => Nx g.K σ Z H ρ σ2 Z2 H2 ρ2 ∧ OcS g E σ Z H ρ (f a ρ2) Q := by
  cases x with
  | st k => exact h
  | ex k as ρ2 => exact fun σ' Z2 H2 m => h σ' Z2 H2 (n.trans m)
  | ok a ρ2 => exact fun σ2 Z2 H2 m => ⟨n.trans m, h⟩
theorem OcS.imp {x : Res A} {Q Q' : A → St → ZS → Hp → Env → Prop} (h : OcS g E σ Z H ρ x Q) (f : ∀ a σ' Z' H' ρ', Nx g.K σ Z H ρ σ' Z' H' ρ' → Q a σ' Z' H' ρ' → Q' a σ' Z' H' ρ') : OcS g E σ Z H ρ x Q' := by
  cases x with
  | st n => exact h
  | ex k as ρ1 => exact h
  | ok a ρ1 => exact fun σ1 Z1 H1 n => f a σ1 Z1 H1 ρ1 n (h σ1 Z1 H1 n)
theorem OcS.now {a : A} {Q : A → St → ZS → Hp → Env → Prop} (h : OcS g E σ Z H ρ (.ok a ρ1) Q) (n : Nx g.K σ Z H ρ σ1 Z1 H1 ρ1) : Q a σ1 Z1 H1 ρ1 := h σ1 Z1 H1 n
/-- from an earlier state -/
theorem OcS.from {x : Res A} {Q : A → St → ZS → Hp → Env → Prop} (h : OcS g E σ Z H ρ x Q) (n : Nx g.K σ Z H ρ σ1 Z1 H1 ρ1) : OcS g E σ1 Z1 H1 ρ1 x Q := by
  cases x with
  | st k => exact h
  | ex k as ρ2 => exact fun σ' Z2 H2 m => h σ' Z2 H2 (n.trans m)
  | ok a ρ2 => exact fun σ' Z2 H2 m => h σ' Z2 H2 (n.trans m)
end

/-! ### stores -/
/-- a value as it lies at a state, seen from an earlier one: frozen, or an object that no name owns and that was not another's -/
def VS (K : Fg) (σ : St) (H : Hp) (ρ : Env) (σ' : St) (Z' : ZS) (H' : Hp) (ρ' : Env) (o : Bool) (d : D) (v : V) : Prop :=
  if o = true then ∃ a, v = .ref a ∧ ¬ Z' a ∧ Ow K Z' H' a d ∧ ¬ Od σ' ρ' a ∧ (Od σ ρ a ∨ H a = none) else Fz K Z' H' d v
section
variable {K : Fg} {Z Z1 Z2 : ZS} {H H1 H2 : Hp} {σ σ1 σ2 : St} {ρ ρ1 ρ2 : Env} {o : Bool} {d : D} {v : V}
theorem VR.vs (n0 : Nx K σ Z H ρ σ1 Z1 H1 ρ1) (n : Nxe K σ1 Z1 H1 ρ1 Z2 H2 ρ2) (h : VR K Z2 H2 H1 o d v) : VS K σ H ρ σ1 Z2 H2 ρ2 o d v := by
  unfold VR at h
  unfold VS
  cases o with
  | false => exact h
  | true =>
    obtain ⟨a, e, nz, w, f⟩ := h
    refine ⟨a, e, nz, w, fun z => ?_, .inr (n0.sp.none f)⟩
    obtain ⟨u, e, _⟩ := (n0.st.od (n.od a z)).2
    rw [f] at e
    cases e
theorem sg_set {σ : St} {k : Nat} {v : V} (i : Nat) : sg (σ.set k (some v)) i = if i = k ∧ k < σ.length then some v else sg σ i := by
  unfold sg
  rw [List.getElem?_set]
  by_cases e : k = i
  · subst e
    by_cases l : k < σ.length
    · simp [l]
    · simp [l]
  · have : ¬ i = k := fun z => e z.symm
    simp [e, this]
/-- a name is stored -/
theorem store_nx {k : Nat} (n : Nx K σ Z H ρ σ1 Z1 H1 ρ1) (hio : ∀ c, slotAt ρ1 k ≠ .io c) (hlk : ∀ c, slotAt ρ1 k ≠ .lk c) (h : VS K σ H ρ σ1 Z1 H1 ρ1 o d v) :
    Nx K σ Z H ρ (σ1.set k (some v)) Z1 H1 (setSlot ρ1 k (if o then .ow d else .fz d)) := by
  generalize hs : (if o = true then Slot.ow d else Slot.fz d) = s
  have hl : ρ1.length = σ1.length := n.st.len.symm
  have nio : ∀ i, (slotAt ρ i).isIo = true → i ≠ k := fun i e z => by
    have := (n.io i e).1
    rw [z] at this
    cases q : slotAt ρ1 k with
    | io c => exact hio c q
    | _ => rw [q] at this; cases this
  have nlk : ∀ i c, slotAt ρ i = .lk c → i ≠ k := fun i c e z => by
    have := (n.lk i c e).1
    rw [z] at this
    exact hlk c this
  -- the new place
  have new : k < ρ1.length → SlotR K Z1 H1 s (some v) := fun _ => by
    unfold VS at h
    cases o with
    | false =>
      simp at hs
      subst hs
      exact ⟨v, rfl, h⟩
    | true =>
      simp at hs
      subst hs
      obtain ⟨a, e, nz, w, _⟩ := h
      exact ⟨a, by rw [e], nz, w⟩
  have own : ∀ a, s.own = true → v = .ref a → ¬ Od σ1 ρ1 a ∧ (Od σ ρ a ∨ H a = none) := fun a so va => by
    unfold VS at h
    cases o with
    | false =>
      simp at hs
      subst hs
      cases so
    | true =>
      obtain ⟨b, e, nz, w, q⟩ := h
      rw [va] at e
      cases e
      exact q
  have at_ : ∀ i, (i = k ∧ k < ρ1.length ∧ slotAt (setSlot ρ1 k s) i = s ∧ sg (σ1.set k (some v)) i = some v) ∨ (¬ (i = k ∧ k < ρ1.length) ∧ slotAt (setSlot ρ1 k s) i = slotAt ρ1 i ∧ sg (σ1.set k (some v)) i = sg σ1 i) := fun i => by
    rw [slot_set, sg_set, ← hl]
    by_cases e : i = k
    · by_cases l : k < ρ1.length
      · exact .inl ⟨e, l, by simp [e, l], by simp [e, l]⟩
      · refine .inr ⟨fun z => l z.2, ?_, by simp [l]⟩
        have : slotAt ρ1 k = .no := Classical.byContradiction fun z => l (slot_lt z)
        simp [e, l, this]
    · exact .inr ⟨fun z => e z.1, by simp [e], by simp [e]⟩
  refine ⟨n.sp, ⟨by rw [List.length_set, set_len, hl], fun i => ?_, fun i j a ne o1 o2 e1 e2 => ?_, n.st.zd, n.st.tb⟩, fun a ⟨i, o1, o2⟩ => ?_, fun i e => ?_, fun i c e => ?_, by rw [List.length_set, n.ln]⟩
  · rcases at_ i with ⟨_, l, e1, e2⟩ | ⟨_, e1, e2⟩
    · rw [e1, e2]
      exact new l
    · rw [e1, e2]
      exact n.st.sl i
  · rcases at_ i with ⟨ei, l, p1, p2⟩ | ⟨_, p1, p2⟩
    · rcases at_ j with ⟨ej, _, q1, q2⟩ | ⟨_, q1, q2⟩
      · exact ne (ei.trans ej.symm)
      · rw [p1] at o1
        rw [p2] at e1
        rw [q1] at o2
        rw [q2] at e2
        exact (own a o1 (Option.some.inj e1)).1 ⟨j, o2, e2⟩
    · rcases at_ j with ⟨ej, _, q1, q2⟩ | ⟨_, q1, q2⟩
      · rw [p1] at o1
        rw [p2] at e1
        rw [q1] at o2
        rw [q2] at e2
        exact (own a o2 (Option.some.inj e2)).1 ⟨i, o1, e1⟩
      · rw [p1] at o1
        rw [p2] at e1
        rw [q1] at o2
        rw [q2] at e2
        exact n.st.inj i j a ne o1 o2 e1 e2
  · rcases at_ i with ⟨ei, l, p1, p2⟩ | ⟨_, p1, p2⟩
    · rw [p1] at o1
      rw [p2] at o2
      exact (own a o1 (Option.some.inj o2)).2
    · rw [p1] at o1
      rw [p2] at o2
      exact n.ow a ⟨i, o1, o2⟩
  · obtain ⟨p1, p2⟩ := n.io i e
    rcases at_ i with ⟨ei, _⟩ | ⟨_, q1, q2⟩
    · exact absurd ei (nio i e)
    · rw [q1, q2]
      exact ⟨p1, p2⟩
  · obtain ⟨p1, p2⟩ := n.lk i c e
    rcases at_ i with ⟨ei, _⟩ | ⟨_, q1, q2⟩
    · exact absurd ei (nlk i c e)
    · rw [q1, q2]
      exact ⟨p1, p2⟩
theorem store_ok {i : Nat} {w : Bool × D} {r r' : Env} (h : store i w r = .ok () r') : (∀ c, slotAt r i ≠ .io c) ∧ (∀ c, slotAt r i ≠ .lk c) ∧ r' = setSlot r i (if w.1 then .ow w.2 else .fz w.2) := by
  unfold store at h
  split at h
  · cases h
  · cases h
  · rename_i h1 h2
    cases h
    exact ⟨fun c e => h1 c e, fun c e => h2 c e, rfl⟩
end
/-- targets: HandS's own promise -/
def gT (K : Fg) : T → TG
  | .name i => L2.gName i
  | .two a b => L2.gTup K 2 (L2.gCons (gT K a) (L2.gCons (gT K b) L2.gNil))
  | .three a b c => L2.gTup K 3 (L2.gCons (gT K a) (L2.gCons (gT K b) (L2.gCons (gT K c) L2.gNil)))
  | .four a b c d => L2.gTup K 4 (L2.gCons (gT K a) (L2.gCons (gT K b) (L2.gCons (gT K c) (L2.gCons (gT K d) L2.gNil))))
/-- what a store leaves -/
structure AsgR (l : List Nat) (o : Bool) (σ1 : St) (ρ1 : Env) (σ2 : St) (ρ2 : Env) : Prop where
  out : ∀ i, i ∉ l → σ2[i]? = σ1[i]? ∧ slotAt ρ2 i = slotAt ρ1 i
  len : σ2.length = σ1.length
  nf : o = false → ∀ i ∈ l, (slotAt ρ2 i).own = false
theorem AsgR.app {l m : List Nat} {σ1 σ2 σ3 : St} {ρ1 ρ2 ρ3 : Env} {o : Bool} (h : AsgR l false σ1 ρ1 σ2 ρ2) (k : AsgR m false σ2 ρ2 σ3 ρ3) : AsgR (l ++ m) o σ1 ρ1 σ3 ρ3 :=
  ⟨fun i ni => by
    rw [List.mem_append] at ni
    obtain ⟨a1, a2⟩ := h.out i fun z => ni (.inl z)
    obtain ⟨b1, b2⟩ := k.out i fun z => ni (.inr z)
    exact ⟨b1.trans a1, b2.trans a2⟩, k.len.trans h.len, fun _ i hi => by
    by_cases q : i ∈ m
    · exact k.nf rfl i q
    · rw [(k.out i q).2]
      rcases List.mem_append.mp hi with z | z
      · exact h.nf rfl i z
      · exact absurd z q⟩
section
variable {g : Ge} {E : XK} {Z Z1 : ZS} {H H1 : Hp} {σ σ1 : St} {ρ ρ1 : Env} {B : Type}
theorem VS.tup {K : Fg} {o : Bool} {ds : List D} {v : V} (h : VS K σ H ρ σ1 Z1 H1 ρ1 o (.tuple ds) v) : Fz K Z1 H1 (.tuple ds) v := by
  unfold VS at h
  cases o with
  | false => exact h
  | true =>
    obtain ⟨a, _, _, w, _⟩ := h
    exact w.elim
/-- targets are stored -/
theorem asg_ok : ∀ {t : T} {w : Bool × D} {v : V} {σ1 : St} {ρ1 : Env} {f : Unit → Env → Res B} {Q : B → St → ZS → Hp → Env → Prop} {R : St → Hp → Prop}, OcS g E σ Z H ρ ((assignT t w ρ1).bind f) Q → Nx g.K σ Z H ρ σ1 Z1 H1 ρ1 → VS g.K σ H ρ σ1 Z1 H1 ρ1 w.1 w.2 v →
    (∀ σ2 ρ2, Nx g.K σ Z H ρ σ2 Z1 H1 ρ2 → AsgR (tSlots t) w.1 σ1 ρ1 σ2 ρ2 → OcS g E σ Z H ρ (f () ρ2) Q → R σ2 H1) → gT g.K t v σ1 H1 R
  | .name i, w, v, σ1, ρ1, f, Q, R, h, n, hv, k => by
    simp only [assignT] at h
    cases q : store i w ρ1 with
    | st m => rw [q] at h; exact h.elim
    | ex a b c =>
      unfold store at q
      split at q <;> cases q
    | ok u ρ2 =>
      rw [q] at h
      obtain ⟨h1, h2, h3⟩ := store_ok q
      subst h3
      refine k _ _ (store_nx n h1 h2 hv) ⟨fun j hj => ?_, by rw [List.length_set], fun e j hj => ?_⟩ h
      · have ne : ¬ j = i := fun z => hj (z ▸ List.mem_cons_self)
        have ne' : ¬ i = j := fun z => ne z.symm
        rw [slot_set]
        simp [ne, ne']
      · rw [e, slot_set]
        have : j = i := List.mem_singleton.mp hj
        subst this
        simp
        split <;> rfl
  | .two a b, w, v, σ1, ρ1, f, Q, R, h, n, hv, k => by
    simp only [assignT] at h
    split at h
    · rename_i x y e
      rw [e] at hv
      obtain ⟨p, xs, ep, r, F⟩ := hv.tup
      obtain ⟨u1, r1, e1, f1, u2, r2, e2, f2, e3⟩ := F
      subst e3
      refine ⟨p, xs, ep, r.sq, by rw [e1, e2]; rfl, u1, [u2], by rw [e1, e2], ?_⟩
      have hh : OcS g E σ Z H ρ ((assignT a (false, x) ρ1).bind fun u r => (assignT b (false, y) r).bind f) Q := by
        cases q : assignT a (false, x) ρ1 <;> (rw [q] at h; exact h)
      refine asg_ok hh n f1 fun σ2 ρ2 n2 a2 h2 => ⟨u2, [], rfl, asg_ok h2 n2 f2 fun σ3 ρ3 n3 a3 h3 => ⟨rfl, k σ3 ρ3 n3 (a2.app a3) h3⟩⟩
    · exact h.elim
  | .three a b c, w, v, σ1, ρ1, f, Q, R, h, n, hv, k => by
    simp only [assignT] at h
    split at h
    · rename_i x y z e
      rw [e] at hv
      obtain ⟨p, xs, ep, r, F⟩ := hv.tup
      obtain ⟨u1, r1, e1, f1, u2, r2, e2, f2, u3, r3, e3, f3, e4⟩ := F
      subst e4
      refine ⟨p, xs, ep, r.sq, by rw [e1, e2, e3]; rfl, u1, [u2, u3], by rw [e1, e2, e3], ?_⟩
      have hh : OcS g E σ Z H ρ ((assignT a (false, x) ρ1).bind fun u r => (assignT b (false, y) r).bind fun u r => (assignT c (false, z) r).bind f) Q := by
        cases q : assignT a (false, x) ρ1 with
        | st m => rw [q] at h; exact h
        | ex i j l => rw [q] at h; exact h
        | ok u r =>
          rw [q] at h
          show OcS g E σ Z H ρ ((assignT b (false, y) r).bind _) Q
          have h : OcS g E σ Z H ρ (((assignT b (false, y) r).bind fun _ r => assignT c (false, z) r).bind f) Q := h
          cases q : assignT b (false, y) r <;> (rw [q] at h; exact h)
      refine asg_ok hh n f1 fun σ2 ρ2 n2 a2 h2 => ⟨u2, [u3], rfl, asg_ok h2 n2 f2 fun σ3 ρ3 n3 a3 h3 => ⟨u3, [], rfl, asg_ok h3 n3 f3 fun σ4 ρ4 n4 a4 h4 => ⟨rfl, k σ4 ρ4 n4 (a2.app (a3.app a4)) h4⟩⟩⟩
    · exact h.elim
  | .four a b c d, w, v, σ1, ρ1, f, Q, R, h, n, hv, k => by
    simp only [assignT] at h
    split at h
    · rename_i x y z t e
      rw [e] at hv
      obtain ⟨p, xs, ep, r, F⟩ := hv.tup
      obtain ⟨u1, r1, e1, f1, u2, r2, e2, f2, u3, r3, e3, f3, u4, r4, e4, f4, e5⟩ := F
      subst e5
      refine ⟨p, xs, ep, r.sq, by rw [e1, e2, e3, e4]; rfl, u1, [u2, u3, u4], by rw [e1, e2, e3, e4], ?_⟩
      have hh : OcS g E σ Z H ρ ((assignT a (false, x) ρ1).bind fun u r => (assignT b (false, y) r).bind fun u r => (assignT c (false, z) r).bind fun u r => (assignT d (false, t) r).bind f) Q := by
        cases q : assignT a (false, x) ρ1 with
        | st m => rw [q] at h; exact h
        | ex i j l => rw [q] at h; exact h
        | ok u r =>
          rw [q] at h
          have h : OcS g E σ Z H ρ (((assignT b (false, y) r).bind fun _ r => (assignT c (false, z) r).bind fun _ r => assignT d (false, t) r).bind f) Q := h
          show OcS g E σ Z H ρ ((assignT b (false, y) r).bind _) Q
          cases q : assignT b (false, y) r with
          | st m => rw [q] at h; exact h
          | ex i j l => rw [q] at h; exact h
          | ok u r =>
            rw [q] at h
            have h : OcS g E σ Z H ρ (((assignT c (false, z) r).bind fun _ r => assignT d (false, t) r).bind f) Q := h
            show OcS g E σ Z H ρ ((assignT c (false, z) r).bind _) Q
            cases q : assignT c (false, z) r <;> (rw [q] at h; exact h)
      refine asg_ok hh n f1 fun σ2 ρ2 n2 a2 h2 => ⟨u2, [u3, u4], rfl, asg_ok h2 n2 f2 fun σ3 ρ3 n3 a3 h3 => ⟨u3, [u4], rfl, asg_ok h3 n3 f3 fun σ4 ρ4 n4 a4 h4 => ⟨u4, [], rfl, asg_ok h4 n4 f4 fun σ5 ρ5 n5 a5 h5 => ⟨rfl, k σ5 ρ5 n5 (a2.app (a3.app (a4.app a5))) h5⟩⟩⟩⟩
    · exact h.elim
end
end MW
end
section
set_option Elab.async false
set_option linter.all false
set_option maxRecDepth 100000
set_option maxHeartbeats 2000000
/-! So10: what is walked. -/
namespace MW
open PySem PySem.Spec
open PyProof.Rows hiding St
open L2 (V Hp HO St upd upd_same upd_ne SqL SqT Rd Vals RelV Key kV ne_of_none VK XK TE TT TA TS TG TGs TI Ends PE PT PW PA PS PSs PG PGs PI OpR CallR MtR IxR SlR Dp DpAll PSet Walk)
variable [Tbs]

/-- x is walked: it stands through a loop that locks it -/
def LoopOk (K : Fg) (σ : St) (Z : ZS) (H : Hp) (ρ : Env) (x : Opd) (d : D) (v : V) : Prop :=
  Fast K (Od σ ρ) Z H (isTmp x) d v ∨ ∃ i, x = .ref i ∧ sg σ i = some v ∧ (slotAt ρ i = .ow d ∨ slotAt ρ i = .lk d) ∧ RV K Z H d v
def LoopOks (K : Fg) (σ : St) (Z : ZS) (H : Hp) (ρ : Env) : List Opd → List (D × V) → Prop
  | [], l => l = []
  | x :: xs, l => ∃ d v r, l = (d, v) :: r ∧ LoopOk K σ Z H ρ x d v ∧ LoopOks K σ Z H ρ xs r
/-- what stands holds -/
def AllRV (K : Fg) (Z : ZS) (H : Hp) (l : List (D × V)) : Prop := ∀ q ∈ l, RV K Z H q.1 q.2
structure Wk (K : Fg) (σ : St) (Z : ZS) (H : Hp) (ρ : Env) (p : List D × List Opd) (J : L2.It) : Prop where
  ex : ∃ l G Y, LoopOks K σ Z H ρ p.2 l ∧ Walk J p.1.length G Y ∧ (∀ Z1 H1, AllRV K Z1 H1 l → G H1) ∧
    ∀ i Z1 H1 x H2, i < p.1.length → Zd Z1 H1 → AllRV K Z1 H1 l → Y i H1 x H2 → ∃ d Z2, p.1[i]? = some d ∧ Step (fun _ => False) Z1 H1 Z2 H2 ∧ Zd Z2 H2 ∧ Fz K Z2 H2 d x
def RI (g : Ge) (E : XK) (it : MW.It) : TI := fun σ H R => ∃ Z ρ, Ss g.K Z H σ ρ ∧ Oc g E σ Z H ρ (evIt g.mw it ρ) fun p Z' H' ρ' => ∀ J, Wk g.K σ Z' H' ρ' p J → R J H'
section
variable {g : Ge} {E : XK} {σ : St} {H : Hp} {R : L2.It → Hp → Prop} {a b c : MW.E}
theorem Held.fst {K : Fg} {Z : ZS} {ρ : Env} {x : Opd} {d : D} {v : V} (h : Held K σ Z H ρ x v) (st : Ss K Z H σ ρ) : Fst K σ Z H ρ x d v := (h Z H ρ (Nxe.refl st) d).2.2
theorem Held.loop {K : Fg} {Z : ZS} {ρ : Env} {x : Opd} {d : D} {v : V} (h : Held K σ Z H ρ x v) (st : Ss K Z H σ ρ) (e : opdD ρ x = some d) (ok : itOk ρ x = true) : LoopOk K σ Z H ρ x d v := by
  have f := h.fst (d := d) st
  cases x with
  | val o c => exact .inl (f (by cases e; rfl))
  | cst c => exact .inl (f (by cases e; rfl))
  | ref i =>
    have f : sg σ i = some v := f
    have s := st.sl i
    rw [f] at s
    rw [opd_ref] at e
    cases q : slotAt ρ i with
    | no => rw [q] at e; cases e
    | fz c =>
      rw [q] at e s
      cases e
      obtain ⟨w, ew, fz⟩ := s
      cases ew
      exact .inl (.inl fz)
    | ow c =>
      rw [q] at e
      cases e
      exact .inr ⟨i, rfl, f, .inl q, h.rv st (by rw [opd_ref, q]; rfl)⟩
    | lk c =>
      rw [q] at e
      cases e
      exact .inr ⟨i, rfl, f, .inr q, h.rv st (by rw [opd_ref, q]; rfl)⟩
    | io c =>
      simp only [itOk, q] at ok
      cases ok
/-- a tuple is frozen, or the module's -/
theorem Held.loopT {K : Fg} {Z : ZS} {ρ : Env} {x : Opd} {d : List D} {v : V} (h : Held K σ Z H ρ x v) (st : Ss K Z H σ ρ) (e : opdD ρ x = some (.tuple d)) : LoopOk K σ Z H ρ x (.tuple d) v := by
  rcases h.rv st e with f | ⟨a, _, w⟩ | f
  · exact .inl (.inl f)
  · exact w.elim
  · exact .inl (.inr (.inl f))
theorem getAt_eq : ∀ (l : List D) (i : Nat), getAt l i = l[i]?
  | [], _ => rfl
  | _ :: _, 0 => rfl
  | _ :: r, i + 1 => by
    show getAt r i = _
    rw [getAt_eq r i]
    simp
theorem fzl_nth {K : Fg} {Z : ZS} {ds : List D} {xs : List V} (F : FzL K Z H ds xs) {i : Nat} {x : V} (e : xs[i]? = some x) : ∃ d, ds[i]? = some d ∧ Fz K Z H d x := by
  have hi : i < ds.length := by
    rw [← F.len]
    obtain ⟨h, _⟩ := List.getElem?_eq_some_iff.mp e
    exact h
  obtain ⟨y, e1, f⟩ := F.get (n := i) (d := ds[i]) (by rw [getAt_eq]; simp [hi])
  rw [e] at e1
  cases e1
  exact ⟨ds[i], by simp [hi], f⟩
/-- the list at a, n items -/
theorem walk_listN {K : Fg} {a : Ad} {n : Nat} : Walk (L2.Itl K a) n (fun H => ∃ xs, SqL K H a xs ∧ xs.length = n) (fun i H x H' => H' = H ∧ ∀ xs, SqL K H a xs → xs[i]? = some x) :=
  ⟨fun i _ hi ⟨xs, q, l⟩ => ⟨xs, xs[i], q, by simp [l, hi]⟩, fun _ ⟨xs, q, l⟩ => ⟨xs, q, Nat.le_of_eq l⟩, fun _ _ _ _ _ _ y => y⟩
theorem walk_tupN {K : Fg} {a : Ad} {n : Nat} : Walk (L2.Itt K a) n (fun H => ∃ xs, SqT K H a xs ∧ xs.length = n) (fun i H x H' => H' = H ∧ ∀ xs, SqT K H a xs → xs[i]? = some x) :=
  ⟨fun i _ hi ⟨xs, q, l⟩ => ⟨xs, xs[i], q, by simp [l, hi]⟩, fun _ ⟨xs, q, l⟩ => ⟨xs, q, Nat.le_of_eq l⟩, fun _ _ _ _ _ _ y => y⟩
theorem walk_enumN {K : Fg} {a : Ad} {n : Nat} : Walk (L2.Ite K a) n (fun H => ∃ xs, SqL K H a xs ∧ xs.length = n) (fun i H v H' => ∃ T x, v = .ref T ∧ H T = none ∧ H' = upd H T (.tup [.int (i : Nat), x]) ∧ ∀ xs, SqL K H a xs → xs[i]? = some x) :=
  ⟨fun i _ hi ⟨xs, q, l⟩ => ⟨xs, xs[i], q, by simp [l, hi]⟩, fun _ ⟨xs, q, l⟩ => ⟨xs, q, Nat.le_of_eq l⟩, fun _ _ _ _ _ _ y => y⟩
theorem walk_zipN {K : Fg} {a b : Ad} {m k : Nat} : Walk (L2.Itz K a b) (min m k) (fun H => (∃ xs, SqL K H a xs ∧ xs.length = m) ∧ ∃ ys, SqL K H b ys ∧ ys.length = k)
    (fun i H v H' => ∃ T x y, v = .ref T ∧ H T = none ∧ H' = upd H T (.tup [x, y]) ∧ (∀ xs, SqL K H a xs → xs[i]? = some x) ∧ ∀ ys, SqL K H b ys → ys[i]? = some y) :=
  ⟨fun i _ hi ⟨⟨xs, q, l⟩, ys, q2, l2⟩ => ⟨xs, ys, xs[i]'(by omega), ys[i]'(by omega), q, q2, by simp [show i < xs.length by omega], by simp [show i < ys.length by omega]⟩,
    fun _ ⟨⟨xs, q, l⟩, ys, q2, l2⟩ => ⟨xs, ys, q, q2, by omega⟩, fun _ _ _ _ _ _ y => y⟩
theorem walk_zipTN {K : Fg} {a b : Ad} {m k : Nat} : Walk (RZ.ItzT K a b) (min m k) (fun H => (∃ xs, SqT K H a xs ∧ xs.length = m) ∧ ∃ ys, SqT K H b ys ∧ ys.length = k)
    (fun i H v H' => ∃ T x y, v = .ref T ∧ H T = none ∧ H' = upd H T (.tup [x, y]) ∧ (∀ xs, SqT K H a xs → xs[i]? = some x) ∧ ∀ ys, SqT K H b ys → ys[i]? = some y) :=
  ⟨fun i _ hi ⟨⟨xs, q, l⟩, ys, q2, l2⟩ => ⟨xs, ys, xs[i]'(by omega), ys[i]'(by omega), q, q2, by simp [show i < xs.length by omega], by simp [show i < ys.length by omega]⟩,
    fun _ ⟨⟨xs, q, l⟩, ys, q2, l2⟩ => ⟨xs, ys, q, q2, by omega⟩, fun _ _ _ _ _ _ y => y⟩
theorem one_rv {K : Fg} {Z : ZS} {d : D} {v : V} (h : AllRV K Z H [(d, v)]) : RV K Z H d v := h (d, v) List.mem_cons_self
/-- a new pair is frozen -/
theorem pair_new {K : Fg} {Z : ZS} {T : Ad} {x y : V} {d e : D} (zd : Zd Z H) (hT : H T = none) (h1 : Fz K Z H d x) (h2 : Fz K Z H e y) : ∃ Z2, Step (fun _ => False) Z H Z2 (upd H T (.tup [x, y])) ∧ Zd Z2 (upd H T (.tup [x, y])) ∧ Fz K Z2 (upd H T (.tup [x, y])) (.tuple [d, e]) (.ref T) := by
  have up : ∀ a, Z a → Z a ∨ a = T := fun _ z => .inl z
  have kp := keep_new (o := .tup [x, y]) zd hT
  exact ⟨fun a => Z a ∨ a = T, step_new hT up fun _ z => z, zd_new zd hT (fun z => z) fun _ z => z, T, [x, y], rfl, ⟨⟨.inr rfl, upd_same⟩, by show 2 ≤ szLine; decide⟩, x, [y], rfl, h1.keep up kp, y, [], rfl, h2.keep up kp, rfl⟩
theorem nth_ranged : ∀ (n : Nat) (lo : Int) (i : Nat), i < n → (ranged lo n)[i]? = some (.int (lo + i))
  | 0, _, _, h => absurd h (Nat.not_lt_zero _)
  | n + 1, lo, 0, _ => by simp [ranged]
  | n + 1, lo, i + 1, h => by
    show (ranged (lo + 1) n)[i]? = _
    rw [nth_ranged n (lo + 1) i (Nat.lt_of_succ_lt_succ h)]
    congr 2
    omega
theorem len_ranged : ∀ (n : Nat) (lo : Int), (ranged lo n).length = n
  | 0, _ => rfl
  | n + 1, lo => by
    show (ranged (lo + 1) n).length + 1 = _
    rw [len_ranged n]
theorem nth_rangedBy : ∀ (n : Nat) (lo c : Int) (i : Nat), i < n → (rangedBy lo c n)[i]? = some (.int (lo + i * c))
  | 0, _, _, _, h => absurd h (Nat.not_lt_zero _)
  | n + 1, lo, c, 0, _ => by simp [rangedBy]
  | n + 1, lo, c, i + 1, h => by
    show (rangedBy (lo + c) c n)[i]? = _
    rw [nth_rangedBy n (lo + c) c i (Nat.lt_of_succ_lt_succ h)]
    congr 2
    rw [show ((i + 1 : Nat) : Int) = (i : Int) + 1 by omega, Int.add_mul]
    omega
theorem len_rangedBy : ∀ (n : Nat) (lo c : Int), (rangedBy lo c n).length = n
  | 0, _, _ => rfl
  | n + 1, lo, c => by
    show (rangedBy (lo + c) c n).length + 1 = _
    rw [len_rangedBy n]
theorem len_enum : ∀ (l : List D) (n : Nat), (enumFrom n l).length = l.length
  | [], _ => rfl
  | _ :: r, n => by
    show (enumFrom (n + 1) r).length + 1 = _
    rw [len_enum r, List.length_cons]
theorem nth_enum : ∀ (l : List D) (n i : Nat) (d : D), l[i]? = some d → (enumFrom n l)[i]? = some (.tuple [.int ((n + i : Nat) : Int), d])
  | [], _, _, _, h => by simp at h
  | x :: r, n, 0, d, h => by
    simp at h
    subst h
    simp [enumFrom]
  | x :: r, n, i + 1, d, h => by
    show (enumFrom (n + 1) r)[i]? = _
    rw [nth_enum r (n + 1) i d (by simpa using h)]
    congr 5
    omega
theorem len_zip : ∀ (l m : List D), (zipD l m).length = min l.length m.length
  | [], m => by simp [zipD]
  | _ :: _, [] => by simp [zipD]
  | _ :: r, _ :: t => by
    show (zipD r t).length + 1 = _
    rw [len_zip r t, List.length_cons, List.length_cons]
    omega
theorem nth_zip : ∀ (l m : List D) (i : Nat) (d e : D), l[i]? = some d → m[i]? = some e → (zipD l m)[i]? = some (.tuple [d, e])
  | [], _, _, _, _, h, _ => by simp at h
  | _ :: _, [], _, _, _, _, h => by simp at h
  | x :: r, y :: t, 0, d, e, h, h2 => by
    simp at h h2
    subst h h2
    simp [zipD]
  | x :: r, y :: t, i + 1, d, e, h, h2 => by
    show (zipD r t)[i]? = _
    exact nth_zip r t i d e (by simpa using h) (by simpa using h2)
theorem wk_list {K : Fg} {Z : ZS} {ρ : Env} {x : Opd} {ds : List D} {v : V} {a : Ad} (h : LoopOk K σ Z H ρ x (.list ds) v) (ev : v = .ref a) : Wk K σ Z H ρ (ds, [x]) (L2.Itl K a) := by
  subst ev
  refine ⟨[(.list ds, .ref a)], _, _, ⟨_, _, [], rfl, h, rfl⟩, walk_listN, fun Z1 H1 q => ?_, fun i Z1 H1 x H2 hi zd q y => ?_⟩
  · obtain ⟨b, xs, e, r, l, F⟩ := (one_rv q).list
    cases e
    exact ⟨xs, .inl r, F.len⟩
  · obtain ⟨e, y⟩ := y
    subst e
    obtain ⟨b, xs, e, r, l, F⟩ := (one_rv q).list
    cases e
    obtain ⟨d, e1, f⟩ := fzl_nth F (y xs (.inl r))
    exact ⟨d, Z1, e1, Step.refl, zd, f⟩
theorem wk_tup {K : Fg} {Z : ZS} {ρ : Env} {x : Opd} {ds : List D} {v : V} {a : Ad} (h : LoopOk K σ Z H ρ x (.tuple ds) v) (ev : v = .ref a) : Wk K σ Z H ρ (ds, [x]) (L2.Itt K a) := by
  subst ev
  refine ⟨[(.tuple ds, .ref a)], _, _, ⟨_, _, [], rfl, h, rfl⟩, walk_tupN, fun Z1 H1 q => ?_, fun i Z1 H1 x H2 hi zd q y => ?_⟩
  · obtain ⟨b, xs, e, r, l, F⟩ := (one_rv q).tuple
    cases e
    exact ⟨xs, r, F.len⟩
  · obtain ⟨e, y⟩ := y
    subst e
    obtain ⟨b, xs, e, r, l, F⟩ := (one_rv q).tuple
    cases e
    obtain ⟨d, e1, f⟩ := fzl_nth F (y xs r)
    exact ⟨d, Z1, e1, Step.refl, zd, f⟩
theorem wk_enum {K : Fg} {Z : ZS} {ρ : Env} {x : Opd} {ds : List D} {v : V} {a : Ad} (h : LoopOk K σ Z H ρ x (.list ds) v) (ev : v = .ref a) : Wk K σ Z H ρ (enumFrom 0 ds, [x]) (L2.Ite K a) := by
  subst ev
  refine ⟨[(.list ds, .ref a)], fun H => ∃ xs, SqL K H a xs ∧ xs.length = ds.length, _, ⟨_, _, [], rfl, h, rfl⟩, by rw [len_enum]; exact walk_enumN, fun Z1 H1 q => ?_, fun i Z1 H1 x H2 hi zd q y => ?_⟩
  · obtain ⟨b, xs, e, r, l, F⟩ := (one_rv q).list
    cases e
    exact ⟨xs, .inl r, F.len⟩
  · obtain ⟨T, x, e1, e2, e3, y⟩ := y
    subst e1 e3
    obtain ⟨b, xs, e, r, l, F⟩ := (one_rv q).list
    cases e
    obtain ⟨d, e1, f⟩ := fzl_nth F (y xs (.inl r))
    obtain ⟨Z2, h1, h2, h3⟩ := pair_new (d := .int ((i : Nat) : Int)) zd e2 rfl f
    exact ⟨_, Z2, by rw [nth_enum ds 0 i d e1, Nat.zero_add], h1, h2, h3⟩
theorem wk_zip {K : Fg} {Z : ZS} {ρ : Env} {x y : Opd} {ds es : List D} {v w : V} {a b : Ad} (h : LoopOk K σ Z H ρ x (.list ds) v) (h2 : LoopOk K σ Z H ρ y (.list es) w) (ev : v = .ref a) (ew : w = .ref b) : Wk K σ Z H ρ (zipD ds es, [x, y]) (L2.Itz K a b) := by
  subst ev ew
  refine ⟨[(.list ds, .ref a), (.list es, .ref b)], fun H => (∃ xs, SqL K H a xs ∧ xs.length = ds.length) ∧ ∃ xs, SqL K H b xs ∧ xs.length = es.length, _, ⟨_, _, _, rfl, h, _, _, [], rfl, h2, rfl⟩, by rw [len_zip]; exact walk_zipN, fun Z1 H1 q => ?_, fun i Z1 H1 x H2 hi zd q y => ?_⟩
  · obtain ⟨_, xs, e, r, l, F⟩ := (q _ List.mem_cons_self).list
    cases e
    obtain ⟨_, ys, e, r2, l2, F2⟩ := (q _ (List.mem_cons_of_mem _ List.mem_cons_self)).list
    cases e
    exact ⟨⟨xs, .inl r, F.len⟩, ys, .inl r2, F2.len⟩
  · obtain ⟨T, x, z, e1, e2, e3, y1, y2⟩ := y
    subst e1 e3
    obtain ⟨_, xs, e, r, l, F⟩ := (q _ List.mem_cons_self).list
    cases e
    obtain ⟨_, ys, e, r2, l2, F2⟩ := (q _ (List.mem_cons_of_mem _ List.mem_cons_self)).list
    cases e
    obtain ⟨d, e1, f⟩ := fzl_nth F (y1 xs (.inl r))
    obtain ⟨d2, e3, f2⟩ := fzl_nth F2 (y2 ys (.inl r2))
    obtain ⟨Z2, h1, h2, h3⟩ := pair_new zd e2 f f2
    exact ⟨_, Z2, nth_zip ds es i d d2 e1 e3, h1, h2, h3⟩
theorem wk_zipT {K : Fg} {Z : ZS} {ρ : Env} {x y : Opd} {ds es : List D} {v w : V} {a b : Ad} (h : LoopOk K σ Z H ρ x (.tuple ds) v) (h2 : LoopOk K σ Z H ρ y (.tuple es) w) (ev : v = .ref a) (ew : w = .ref b) : Wk K σ Z H ρ (zipD ds es, [x, y]) (RZ.ItzT K a b) := by
  subst ev ew
  refine ⟨[(.tuple ds, .ref a), (.tuple es, .ref b)], fun H => (∃ xs, SqT K H a xs ∧ xs.length = ds.length) ∧ ∃ xs, SqT K H b xs ∧ xs.length = es.length, _, ⟨_, _, _, rfl, h, _, _, [], rfl, h2, rfl⟩, by rw [len_zip]; exact walk_zipTN, fun Z1 H1 q => ?_, fun i Z1 H1 x H2 hi zd q y => ?_⟩
  · obtain ⟨_, xs, e, r, l, F⟩ := (q _ List.mem_cons_self).tuple
    cases e
    obtain ⟨_, ys, e, r2, l2, F2⟩ := (q _ (List.mem_cons_of_mem _ List.mem_cons_self)).tuple
    cases e
    exact ⟨⟨xs, r, F.len⟩, ys, r2, F2.len⟩
  · obtain ⟨T, x, z, e1, e2, e3, y1, y2⟩ := y
    subst e1 e3
    obtain ⟨_, xs, e, r, l, F⟩ := (q _ List.mem_cons_self).tuple
    cases e
    obtain ⟨_, ys, e, r2, l2, F2⟩ := (q _ (List.mem_cons_of_mem _ List.mem_cons_self)).tuple
    cases e
    obtain ⟨d, e1, f⟩ := fzl_nth F (y1 xs r)
    obtain ⟨d2, e3, f2⟩ := fzl_nth F2 (y2 ys r2)
    obtain ⟨Z2, h1, h2, h3⟩ := pair_new zd e2 f f2
    exact ⟨_, Z2, nth_zip ds es i d d2 e1 e3, h1, h2, h3⟩
theorem wk_range {K : Fg} {Z : ZS} {ρ : Env} {lo : Int} {n : Nat} : Wk K σ Z H ρ (ranged lo n, []) (L2.Itr lo n) := by
  refine ⟨[], fun _ => True, L2.YFn fun i => .int (lo + i), rfl, by rw [len_ranged]; exact L2.walk_range, fun _ _ _ => trivial, fun i Z1 H1 x H2 hi zd q y => ?_⟩
  obtain ⟨e, y⟩ := y
  subst e y
  rw [len_ranged] at hi
  exact ⟨_, Z1, nth_ranged n lo i hi, Step.refl, zd, rfl⟩
theorem wk_rangeC {K : Fg} {Z : ZS} {ρ : Env} {lo c : Int} {n : Nat} : Wk K σ Z H ρ (rangedBy lo c n, []) (L2.Itc lo c n) := by
  refine ⟨[], fun _ => True, L2.YFn fun i => .int (lo + (i : Nat) * c), rfl, by rw [len_rangedBy]; exact L2.walk_rangeC, fun _ _ _ => trivial, fun i Z1 H1 x H2 hi zd q y => ?_⟩
  obtain ⟨e, y⟩ := y
  subst e y
  rw [len_rangedBy] at hi
  exact ⟨_, Z1, nth_rangedBy n lo c i hi, Step.refl, zd, rfl⟩

/-! lists and tuples in any mix -/
def seqD (t : Bool) (ds : List D) : D := match t with
  | false => .list ds
  | true => .tuple ds
theorem rv_seqB {K : Fg} {Z : ZS} {t : Bool} {ds : List D} {v : V} {H : Hp} (h : RV K Z H (seqD t ds) v) : ∃ a xs, v = .ref a ∧ SqB K t H a xs ∧ xs.length ≤ szLine ∧ FzL K Z H ds xs := by
  cases t with
  | false =>
    obtain ⟨a, xs, e, r, l, F⟩ := RV.list h
    exact ⟨a, xs, e, .inl r, l, F⟩
  | true => exact RV.tuple h
theorem walk_enumNB {K : Fg} {t : Bool} {a : Ad} {n : Nat} : Walk (IteB K t a) n (fun H => ∃ xs, SqB K t H a xs ∧ xs.length = n) (fun i H v H' => ∃ T x, v = .ref T ∧ H T = none ∧ H' = upd H T (.tup [.int (i : Nat), x]) ∧ ∀ xs, SqB K t H a xs → xs[i]? = some x) :=
  ⟨fun i _ hi ⟨xs, q, l⟩ => ⟨xs, xs[i], q, by simp [l, hi]⟩, fun _ ⟨xs, q, l⟩ => ⟨xs, q, l⟩, fun _ _ _ _ _ _ y => y⟩
theorem walk_zipNB {K : Fg} {t1 t2 : Bool} {a b : Ad} {m k : Nat} : Walk (ItzB K t1 t2 a b) (min m k) (fun H => (∃ xs, SqB K t1 H a xs ∧ xs.length = m) ∧ ∃ ys, SqB K t2 H b ys ∧ ys.length = k)
    (fun i H v H' => ∃ T x y, v = .ref T ∧ H T = none ∧ H' = upd H T (.tup [x, y]) ∧ (∀ xs, SqB K t1 H a xs → xs[i]? = some x) ∧ ∀ ys, SqB K t2 H b ys → ys[i]? = some y) :=
  ⟨fun i _ hi ⟨⟨xs, q, l⟩, ys, q2, l2⟩ => ⟨xs, ys, xs[i]'(by omega), ys[i]'(by omega), q, q2, by simp [show i < xs.length by omega], by simp [show i < ys.length by omega]⟩,
    fun _ ⟨⟨xs, q, l⟩, ys, q2, l2⟩ => ⟨xs, ys, q, q2, by omega, by omega, by omega⟩, fun _ _ _ _ _ _ y => y⟩
theorem wk_enumB {K : Fg} {t : Bool} {Z : ZS} {ρ : Env} {x : Opd} {ds : List D} {v : V} {a : Ad} (h : LoopOk K σ Z H ρ x (seqD t ds) v) (ev : v = .ref a) : Wk K σ Z H ρ (enumFrom 0 ds, [x]) (IteB K t a) := by
  subst ev
  refine ⟨[(seqD t ds, .ref a)], fun H => ∃ xs, SqB K t H a xs ∧ xs.length = ds.length, _, ⟨_, _, [], rfl, h, rfl⟩, by rw [len_enum]; exact walk_enumNB, fun Z1 H1 q => ?_, fun i Z1 H1 x H2 hi zd q y => ?_⟩
  · obtain ⟨b, xs, e, r, l, F⟩ := rv_seqB (one_rv q)
    cases e
    exact ⟨xs, r, F.len⟩
  · obtain ⟨T, x, e1, e2, e3, y⟩ := y
    subst e1 e3
    obtain ⟨b, xs, e, r, l, F⟩ := rv_seqB (one_rv q)
    cases e
    obtain ⟨d, e1, f⟩ := fzl_nth F (y xs r)
    obtain ⟨Z2, h1, h2, h3⟩ := pair_new (d := .int ((i : Nat) : Int)) zd e2 rfl f
    exact ⟨_, Z2, by rw [nth_enum ds 0 i d e1, Nat.zero_add], h1, h2, h3⟩
theorem wk_zipB {K : Fg} {t1 t2 : Bool} {Z : ZS} {ρ : Env} {x y : Opd} {ds es : List D} {v w : V} {a b : Ad} (h : LoopOk K σ Z H ρ x (seqD t1 ds) v) (h2 : LoopOk K σ Z H ρ y (seqD t2 es) w) (ev : v = .ref a) (ew : w = .ref b) : Wk K σ Z H ρ (zipD ds es, [x, y]) (ItzB K t1 t2 a b) := by
  subst ev ew
  refine ⟨[(seqD t1 ds, .ref a), (seqD t2 es, .ref b)], fun H => (∃ xs, SqB K t1 H a xs ∧ xs.length = ds.length) ∧ ∃ xs, SqB K t2 H b xs ∧ xs.length = es.length, _, ⟨_, _, _, rfl, h, _, _, [], rfl, h2, rfl⟩, by rw [len_zip]; exact walk_zipNB, fun Z1 H1 q => ?_, fun i Z1 H1 x H2 hi zd q y => ?_⟩
  · obtain ⟨_, xs, e, r, l, F⟩ := rv_seqB (q _ List.mem_cons_self)
    cases e
    obtain ⟨_, ys, e, r2, l2, F2⟩ := rv_seqB (q _ (List.mem_cons_of_mem _ List.mem_cons_self))
    cases e
    exact ⟨⟨xs, r, F.len⟩, ys, r2, F2.len⟩
  · obtain ⟨T, x, z, e1, e2, e3, y1, y2⟩ := y
    subst e1 e3
    obtain ⟨_, xs, e, r, l, F⟩ := rv_seqB (q _ List.mem_cons_self)
    cases e
    obtain ⟨_, ys, e, r2, l2, F2⟩ := rv_seqB (q _ (List.mem_cons_of_mem _ List.mem_cons_self))
    cases e
    obtain ⟨d, e1, f⟩ := fzl_nth F (y1 xs r)
    obtain ⟨d2, e3, f2⟩ := fzl_nth F2 (y2 ys r2)
    obtain ⟨Z2, h1, h2, h3⟩ := pair_new zd e2 f f2
    exact ⟨_, Z2, nth_zip ds es i d d2 e1 e3, h1, h2, h3⟩
/-! readings -/
def iSeq (K : Fg) (te : TE) : TI := fun σ H R => te σ H fun x H1 => (∃ a xs, x = .ref a ∧ SqL K H1 a xs ∧ R (L2.Itl K a) H1) ∨ ∃ a xs, x = .ref a ∧ SqT K H1 a xs ∧ R (L2.Itt K a) H1
theorem ri_seq (h : RI g E (.seq a) σ H R) : iSeq g.K (RO g E a) σ H R := by
  obtain ⟨Z, ρ, st, h⟩ := h
  simp only [evIt] at h
  refine ⟨Z, ρ, st, h.bnd.imp fun x Z1 H1 ρ1 n1 h1 v hv => ?_⟩
  split at h1
  · rename_i xs e
    split at h1
    · rename_i ok
      obtain ⟨p, ys, ep, r, _⟩ := (hv.rv n1.nx.st e).list
      exact .inl ⟨p, ys, ep, .inl r, h1.now n1.nx.st _ (wk_list (hv.loop n1.nx.st e ok) ep)⟩
    · exact h1.elim
  · rename_i xs e
    obtain ⟨p, ys, ep, r, _⟩ := (hv.rv n1.nx.st e).tuple
    exact .inr ⟨p, ys, ep, r, h1.now n1.nx.st _ (wk_tup (hv.loopT n1.nx.st e) ep)⟩
  · exact h1.elim
theorem small_of {n : Int} (h : smallI n = true) : -(2 ^ 62) ≤ n ∧ n < 2 ^ 62 := by
  unfold smallI at h
  rw [Bool.and_eq_true, decide_eq_true_eq, decide_eq_true_eq] at h
  exact h
theorem ri_range1 (h : RI g E (.range1 a) σ H R) : L2.iRng1 (L2.tCons (RO g E a) L2.tNil) σ H R := by
  obtain ⟨Z, ρ, st, h⟩ := h
  simp only [evIt] at h
  refine ⟨Z, ρ, st, h.bnd.imp fun x Z1 H1 ρ1 n1 h1 v hv => ?_⟩
  split at h1
  · rename_i n e
    split at h1
    · rename_i ok
      have ev := (hv.rv n1.nx.st e).int
      exact ⟨n, by rw [ev], (small_of ok).1, (small_of ok).2, h1.now n1.nx.st _ wk_range⟩
    · exact h1.elim
  · exact h1.elim
theorem ri_range2 (h : RI g E (.range2 a b) σ H R) : L2.iRng2 (L2.tCons (RO g E a) (L2.tCons (RO g E b) L2.tNil)) σ H R := by
  obtain ⟨Z, ρ, st, h⟩ := h
  simp only [evIt] at h
  refine ⟨Z, ρ, st, h.bnd.imp fun x Z1 H1 ρ1 n1 h1 v hv => ?_⟩
  refine ⟨Z1, ρ1, n1.nx.st, h1.bnd.imp fun y Z2 H2 ρ2 n2 h2 w hw => ?_⟩
  split at h2
  · rename_i m n e1 e2
    split at h2
    · rename_i ok
      rw [Bool.and_eq_true] at ok
      have ev := ((hv.nx n2).rv n2.nx.st e1).int
      have ew := (hw.rv n2.nx.st e2).int
      exact ⟨m, n, by rw [ev, ew], ⟨(small_of ok.1).1, (small_of ok.1).2, (small_of ok.2).1, (small_of ok.2).2⟩, h2.now n2.nx.st _ wk_range⟩
    · exact h2.elim
  · exact h2.elim
theorem rgc_of {m n k : Int} {j : Nat} (h : rangeLen m n k = some j) : L2.RgC m n k j := by
  unfold rangeLen at h
  split at h
  · rename_i c
    cases h
    rw [c.1]
    exact L2.RgC.neg (small_of c.2.1).1 (small_of c.2.1).2 (small_of c.2.2).1 (small_of c.2.2).2
  · split at h
    · rename_i c
      cases h
      exact ⟨c.1, c.2.1, c.2.2.1, by have := c.2.2.2; omega⟩
    · cases h
theorem ri_range3 (h : RI g E (.range3 a b c) σ H R) : L2.iRng3 (L2.tCons (RO g E a) (L2.tCons (RO g E b) (L2.tCons (RO g E c) L2.tNil))) σ H R := by
  obtain ⟨Z, ρ, st, h⟩ := h
  simp only [evIt] at h
  refine ⟨Z, ρ, st, h.bnd.imp fun x Z1 H1 ρ1 n1 h1 v hv => ?_⟩
  refine ⟨Z1, ρ1, n1.nx.st, h1.bnd.imp fun y Z2 H2 ρ2 n2 h2 w hw => ?_⟩
  refine ⟨Z2, ρ2, n2.nx.st, h2.bnd.imp fun z Z3 H3 ρ3 n3 h3 u hu => ?_⟩
  split at h3
  · rename_i m n k e1 e2 e3
    split at h3
    · rename_i j ej
      have ev := (((hv.nx n2).nx n3).rv n3.nx.st e1).int
      have ew := ((hw.nx n3).rv n3.nx.st e2).int
      have eu := (hu.rv n3.nx.st e3).int
      exact ⟨m, n, k, j, by rw [ev, ew, eu], rgc_of ej, h3.now n3.nx.st _ wk_rangeC⟩
    · exact h3.elim
  · exact h3.elim
theorem ri_enum (h : RI g E (.enum a) σ H R) : iEnumB g.K (L2.tCons (RO g E a) L2.tNil) σ H R := by
  obtain ⟨Z, ρ, st, h⟩ := h
  simp only [evIt] at h
  refine ⟨Z, ρ, st, h.bnd.imp fun x Z1 H1 ρ1 n1 h1 v hv => ?_⟩
  have fin : ∀ t ds, opdD ρ1 x = some (seqD t ds) → LoopOk g.K σ Z1 H1 ρ1 x (seqD t ds) v → Oc g E σ Z1 H1 ρ1 (.ok (enumFrom 0 ds, [x]) ρ1) (fun p Z' H' ρ' => ∀ J, Wk g.K σ Z' H' ρ' p J → R J H') →
      ∃ (t : Bool) (a : Ad) (xs : List V), [v] = [V.ref a] ∧ SqB g.K t H1 a xs ∧ R (IteB g.K t a) H1 := fun t ds e lo h1 => by
    obtain ⟨p, ys, ep, r, _⟩ := rv_seqB (hv.rv n1.nx.st e)
    exact ⟨t, p, ys, by rw [ep], r, h1.now n1.nx.st _ (wk_enumB lo ep)⟩
  split at h1
  · rename_i xs e
    split at h1
    · rename_i ok
      exact fin false xs e (hv.loop n1.nx.st e ok) h1
    · exact h1.elim
  · rename_i xs e
    exact fin true xs e (hv.loopT n1.nx.st e) h1
  · exact h1.elim
theorem ri_zip (h : RI g E (.zip2 a b) σ H R) : iZipB g.K (L2.tCons (RO g E a) (L2.tCons (RO g E b) L2.tNil)) σ H R := by
  obtain ⟨Z, ρ, st, h⟩ := h
  simp only [evIt] at h
  refine ⟨Z, ρ, st, h.bnd.imp fun x Z1 H1 ρ1 n1 h1 v hv => ?_⟩
  refine ⟨Z1, ρ1, n1.nx.st, h1.bnd.imp fun y Z2 H2 ρ2 n2 h2 w hw => ?_⟩
  have hv := hv.nx n2
  have fin : ∀ t1 t2 xs ys, opdD ρ2 x = some (seqD t1 xs) → opdD ρ2 y = some (seqD t2 ys) → LoopOk g.K σ Z2 H2 ρ2 x (seqD t1 xs) v → LoopOk g.K σ Z2 H2 ρ2 y (seqD t2 ys) w → Oc g E σ Z2 H2 ρ2 (.ok (zipD xs ys, [x, y]) ρ2) (fun p Z' H' ρ' => ∀ J, Wk g.K σ Z' H' ρ' p J → R J H') →
      ∃ (t1 t2 : Bool) (a b : Ad) (us ws : List V), [v, w] = [V.ref a, V.ref b] ∧ SqB g.K t1 H2 a us ∧ SqB g.K t2 H2 b ws ∧ R (ItzB g.K t1 t2 a b) H2 := fun t1 t2 xs ys e1 e2 l1 l2 h2 => by
    obtain ⟨p, us, ep, r, _⟩ := rv_seqB (hv.rv n2.nx.st e1)
    obtain ⟨q, ws, eq, r2, _⟩ := rv_seqB (hw.rv n2.nx.st e2)
    exact ⟨t1, t2, p, q, us, ws, by rw [ep, eq], r, r2, h2.now n2.nx.st _ (wk_zipB l1 l2 ep eq)⟩
  split at h2
  · rename_i xs ys e1 e2
    split at h2
    · rename_i ok
      rw [Bool.and_eq_true] at ok
      exact fin false false xs ys e1 e2 (hv.loop n2.nx.st e1 ok.1) (hw.loop n2.nx.st e2 ok.2) h2
    · exact h2.elim
  · rename_i xs ys e1 e2
    exact fin true true xs ys e1 e2 (hv.loopT n2.nx.st e1) (hw.loopT n2.nx.st e2) h2
  · rename_i xs ys e1 e2
    split at h2
    · rename_i ok
      exact fin false true xs ys e1 e2 (hv.loop n2.nx.st e1 ok) (hw.loopT n2.nx.st e2) h2
    · exact h2.elim
  · rename_i xs ys e1 e2
    split at h2
    · rename_i ok
      exact fin true false xs ys e1 e2 (hv.loopT n2.nx.st e1) (hw.loop n2.nx.st e2 ok) h2
    · exact h2.elim
  · exact h2.elim
end
end MW
end
section
set_option Elab.async false
set_option linter.all false
set_option maxRecDepth 100000
set_option maxHeartbeats 2000000
/-! So11: locks, blocks of their own, comprehensions. -/
namespace MW
open PySem PySem.Spec
open PyProof.Rows hiding St
open L2 (V Hp HO St upd upd_same upd_ne SqL SqT Rd Vals RelV Key kV ne_of_none VK XK TE TT TA TS TG TGs TI Ends PE PT PW PA PS PSs PG PGs PI OpR CallR MtR IxR SlR Dp DpAll PSet Walk wipe wipe_length wipe_some wipe_out)
variable [Tbs]

/-! ### locks -/
def lkS : Slot → Slot
  | .ow d => .lk d
  | s => s
def unS : Slot → Slot → Slot
  | .ow _, .lk d => .ow d
  | _, s => s
def isRef (i : Nat) : Opd → Bool
  | .ref k => k == i
  | _ => false
theorem set_self : ∀ (ρ : Env) (k i : Nat), slotAt (setSlot ρ k (slotAt ρ k)) i = slotAt ρ i := fun ρ k i => by
  rw [slot_set]
  by_cases e : i = k
  · subst e
    by_cases l : i < ρ.length
    · simp [l]
    · have : slotAt ρ i = .no := Classical.byContradiction fun z => l (slot_lt z)
      simp [l, this]
  · simp [e]
theorem lockO_at (ρ : Env) (x : Opd) (i : Nat) : slotAt (lockO ρ x) i = if isRef i x then lkS (slotAt ρ i) else slotAt ρ i := by
  cases x with
  | val _ _ => rfl
  | cst _ => rfl
  | ref k =>
    show slotAt (match slotAt ρ k with | .ow d => setSlot ρ k (.lk d) | _ => ρ) i = if k == i then lkS (slotAt ρ i) else slotAt ρ i
    by_cases e : k = i
    · subst e
      rw [if_pos (by simp)]
      cases q : slotAt ρ k with
      | ow d => simp only [lkS]; rw [slot_at_set (by rw [q]; exact fun z => nomatch z), if_pos rfl]
      | no => simp only [lkS]; exact q
      | fz d => simp only [lkS]; exact q
      | lk d => simp only [lkS]; exact q
      | io d => simp only [lkS]; exact q
    · rw [if_neg (by simp [e])]
      cases q : slotAt ρ k with
      | ow d => simp only; rw [slot_at_set (by rw [q]; exact fun z => nomatch z), if_neg fun z => e z.symm]
      | no => rfl
      | fz d => rfl
      | lk d => rfl
      | io d => rfl
theorem unlockO_at (r₀ ρ : Env) (x : Opd) (i : Nat) : slotAt (unlockO r₀ ρ x) i = if isRef i x then unS (slotAt r₀ i) (slotAt ρ i) else slotAt ρ i := by
  cases x with
  | val _ _ => rfl
  | cst _ => rfl
  | ref k =>
    show slotAt (match slotAt r₀ k, slotAt ρ k with | .ow _, .lk d => setSlot ρ k (.ow d) | _, _ => ρ) i = if k == i then unS (slotAt r₀ i) (slotAt ρ i) else slotAt ρ i
    by_cases e : k = i
    · subst e
      rw [if_pos (by simp)]
      cases q0 : slotAt r₀ k <;> cases q : slotAt ρ k <;> simp only [unS] <;> first | exact q | (rw [slot_at_set (by rw [q]; exact fun z => nomatch z), if_pos rfl])
    · rw [if_neg (by simp [e])]
      cases q0 : slotAt r₀ k <;> cases q : slotAt ρ k <;> first | rfl | (simp only; rw [slot_at_set (by rw [q]; exact fun z => nomatch z), if_neg fun z => e z.symm])
theorem lock_at : ∀ (l : List Opd) (ρ : Env) (i : Nat), slotAt (l.foldl lockO ρ) i = if l.any (isRef i) then lkS (slotAt ρ i) else slotAt ρ i
  | [], ρ, i => rfl
  | x :: l, ρ, i => by
    rw [List.foldl_cons, lock_at l, lockO_at, List.any_cons]
    cases isRef i x <;> cases l.any (isRef i)
    · rfl
    · rfl
    · rfl
    · show lkS (lkS (slotAt ρ i)) = lkS (slotAt ρ i)
      cases slotAt ρ i <;> rfl
theorem unlock_at (r₀ : Env) : ∀ (l : List Opd) (ρ : Env) (i : Nat), slotAt (l.foldl (unlockO r₀) ρ) i = if l.any (isRef i) then unS (slotAt r₀ i) (slotAt ρ i) else slotAt ρ i
  | [], ρ, i => rfl
  | x :: l, ρ, i => by
    rw [List.foldl_cons, unlock_at r₀ l, unlockO_at, List.any_cons]
    cases isRef i x <;> cases l.any (isRef i)
    · rfl
    · rfl
    · rfl
    · show unS (slotAt r₀ i) (unS (slotAt r₀ i) (slotAt ρ i)) = unS (slotAt r₀ i) (slotAt ρ i)
      cases slotAt r₀ i <;> cases slotAt ρ i <;> rfl
theorem lockO_len (ρ : Env) (x : Opd) : (lockO ρ x).length = ρ.length := by
  cases x with
  | val _ _ => rfl
  | cst _ => rfl
  | ref k =>
    show (match slotAt ρ k with | .ow d => setSlot ρ k (.lk d) | _ => ρ).length = _
    cases slotAt ρ k <;> first | rfl | exact set_len ..
theorem unlockO_len (r₀ ρ : Env) (x : Opd) : (unlockO r₀ ρ x).length = ρ.length := by
  cases x with
  | val _ _ => rfl
  | cst _ => rfl
  | ref k =>
    show (match slotAt r₀ k, slotAt ρ k with | .ow _, .lk d => setSlot ρ k (.ow d) | _, _ => ρ).length = _
    cases slotAt r₀ k <;> cases slotAt ρ k <;> first | rfl | exact set_len ..
theorem lock_len : ∀ (l : List Opd) (ρ : Env), (l.foldl lockO ρ).length = ρ.length
  | [], _ => rfl
  | x :: l, ρ => by rw [List.foldl_cons, lock_len l, lockO_len]
theorem unlock_len (r₀ : Env) : ∀ (l : List Opd) (ρ : Env), (l.foldl (unlockO r₀) ρ).length = ρ.length
  | [], _ => rfl
  | x :: l, ρ => by rw [List.foldl_cons, unlock_len r₀ l, unlockO_len]
theorem wipeT_len : ∀ (t : T) (ρ : Env), (wipeT t ρ).length = ρ.length
  | .name i, ρ => set_len ..
  | .two a b, ρ => by rw [wipeT, wipeT_len b, wipeT_len a]
  | .three a b c, ρ => by rw [wipeT, wipeT_len c, wipeT_len b, wipeT_len a]
  | .four a b c d, ρ => by rw [wipeT, wipeT_len d, wipeT_len c, wipeT_len b, wipeT_len a]
theorem backT_len (r₀ : Env) : ∀ (t : T) (ρ : Env), (backT r₀ t ρ).length = ρ.length
  | .name i, ρ => set_len ..
  | .two a b, ρ => by rw [backT, backT_len r₀ b, backT_len r₀ a]
  | .three a b c, ρ => by rw [backT, backT_len r₀ c, backT_len r₀ b, backT_len r₀ a]
  | .four a b c d, ρ => by rw [backT, backT_len r₀ d, backT_len r₀ c, backT_len r₀ b, backT_len r₀ a]
theorem wipeT_at : ∀ (t : T) (ρ : Env) (i : Nat), slotAt (wipeT t ρ) i = if i ∈ tSlots t then .no else slotAt ρ i
  | .name k, ρ, i => by
    show slotAt (setSlot ρ k .no) i = _
    rw [slot_set]
    by_cases e : i = k
    · simp [e, tSlots]
    · simp [e, tSlots]
  | .two a b, ρ, i => by
    rw [wipeT, wipeT_at b, wipeT_at a, tSlots]
    by_cases h1 : i ∈ tSlots a <;> by_cases h2 : i ∈ tSlots b <;> simp [h1, h2]
  | .three a b c, ρ, i => by
    rw [wipeT, wipeT_at c, wipeT_at b, wipeT_at a, tSlots]
    by_cases h1 : i ∈ tSlots a <;> by_cases h2 : i ∈ tSlots b <;> by_cases h3 : i ∈ tSlots c <;> simp [h1, h2, h3]
  | .four a b c d, ρ, i => by
    rw [wipeT, wipeT_at d, wipeT_at c, wipeT_at b, wipeT_at a, tSlots]
    by_cases h1 : i ∈ tSlots a <;> by_cases h2 : i ∈ tSlots b <;> by_cases h3 : i ∈ tSlots c <;> by_cases h4 : i ∈ tSlots d <;> simp [h1, h2, h3, h4]
theorem back1_at (r₀ ρ : Env) (hl : r₀.length ≤ ρ.length) (k i : Nat) : slotAt (setSlot ρ k (slotAt r₀ k)) i = if i = k then slotAt r₀ i else slotAt ρ i := by
  rw [slot_set]
  by_cases e : i = k
  · subst e
    by_cases l : i < ρ.length
    · simp [l]
    · have : slotAt r₀ i = .no := Classical.byContradiction fun z => l (Nat.lt_of_lt_of_le (slot_lt z) hl)
      simp [l, this]
  · simp [e]
theorem backT_at (r₀ : Env) : ∀ (t : T) (ρ : Env) (i : Nat), r₀.length ≤ ρ.length → slotAt (backT r₀ t ρ) i = if i ∈ tSlots t then slotAt r₀ i else slotAt ρ i
  | .name k, ρ, i, hl => by
    show slotAt (setSlot ρ k (slotAt r₀ k)) i = _
    rw [back1_at r₀ ρ hl]
    simp [tSlots]
  | .two a b, ρ, i, hl => by
    rw [backT, backT_at r₀ b _ _ (by rw [backT_len]; exact hl), backT_at r₀ a _ _ hl, tSlots]
    by_cases h1 : i ∈ tSlots a <;> by_cases h2 : i ∈ tSlots b <;> simp [h1, h2]
  | .three a b c, ρ, i, hl => by
    rw [backT, backT_at r₀ c _ _ (by rw [backT_len, backT_len]; exact hl), backT_at r₀ b _ _ (by rw [backT_len]; exact hl), backT_at r₀ a _ _ hl, tSlots]
    by_cases h1 : i ∈ tSlots a <;> by_cases h2 : i ∈ tSlots b <;> by_cases h3 : i ∈ tSlots c <;> simp [h1, h2, h3]
  | .four a b c d, ρ, i, hl => by
    rw [backT, backT_at r₀ d _ _ (by rw [backT_len, backT_len, backT_len]; exact hl), backT_at r₀ c _ _ (by rw [backT_len, backT_len]; exact hl), backT_at r₀ b _ _ (by rw [backT_len]; exact hl), backT_at r₀ a _ _ hl, tSlots]
    by_cases h1 : i ∈ tSlots a <;> by_cases h2 : i ∈ tSlots b <;> by_cases h3 : i ∈ tSlots c <;> by_cases h4 : i ∈ tSlots d <;> simp [h1, h2, h3, h4]
theorem lkS_own (s : Slot) : (lkS s).own = s.own := by cases s <;> rfl
theorem lkS_io (s : Slot) : (lkS s).isIo = s.isIo := by cases s <;> rfl
theorem unS_own (s0 s : Slot) : (unS s0 s).own = s.own := by cases s0 <;> cases s <;> rfl
theorem unS_io (s0 s : Slot) : (unS s0 s).isIo = s.isIo := by cases s0 <;> cases s <;> rfl
section
variable {K : Fg} {Z Z0 Z1 Z2 : ZS} {H H0 H1 H2 : Hp} {σ σ0 σ1 σ2 : St} {ρ ρ0 ρ1 ρ2 : Env} {d : D} {v : V} {t : T} {vs : List Nat} {l : List Opd}
theorem SlotR.lkS {s : Slot} {o : Option V} (h : SlotR K Z H s o) : SlotR K Z H (lkS s) o := by
  cases s <;> exact h
theorem SlotR.unS {s0 s : Slot} {o : Option V} (h : SlotR K Z H s o) : SlotR K Z H (unS s0 s) o := by
  cases s0 <;> cases s <;> exact h
/-- what is walked is locked -/
theorem nx_lock (st : Ss K Z H σ ρ) : Nxe K σ Z H ρ Z H (l.foldl lockO ρ) := by
  have own : ∀ i, (slotAt (l.foldl lockO ρ) i).own = (slotAt ρ i).own := fun i => by
    rw [lock_at]
    split
    · exact lkS_own _
    · rfl
  have od : ∀ a, Od σ (l.foldl lockO ρ) a → Od σ ρ a := fun a ⟨i, o1, o2⟩ => ⟨i, by rw [← own]; exact o1, o2⟩
  refine ⟨⟨Step.refl, ⟨by rw [lock_len, st.len], fun i => ?_, fun i j a ne o1 o2 => st.inj i j a ne (by rw [← own]; exact o1) (by rw [← own]; exact o2), st.zd, st.tb⟩, fun a z => .inl (od a z), fun i e => ⟨?_, rfl⟩, fun i c e => ⟨?_, rfl⟩, rfl⟩, od⟩
  · rw [lock_at]
    split
    · exact (st.sl i).lkS
    · exact st.sl i
  · rw [lock_at]
    split
    · rw [lkS_io]; exact e
    · exact e
  · rw [lock_at]
    split
    · rw [e]; rfl
    · exact e
/-- .. and unlocked -/
theorem nx_unlock (n0 : Nx K σ Z H ρ σ0 Z0 H0 ρ0) (n : Nx K σ Z H ρ σ1 Z1 H1 ρ1) : Nx K σ Z H ρ σ1 Z1 H1 (l.foldl (unlockO ρ0) ρ1) := by
  have own : ∀ i, (slotAt (l.foldl (unlockO ρ0) ρ1) i).own = (slotAt ρ1 i).own := fun i => by
    rw [unlock_at]
    split
    · exact unS_own _ _
    · rfl
  refine ⟨n.sp, ⟨by rw [unlock_len, n.st.len], fun i => ?_, fun i j a ne o1 o2 => n.st.inj i j a ne (by rw [← own]; exact o1) (by rw [← own]; exact o2), n.st.zd, n.st.tb⟩, fun a ⟨i, o1, o2⟩ => n.ow a ⟨i, by rw [← own]; exact o1, o2⟩, fun i e => ⟨?_, (n.io i e).2⟩, fun i c e => ⟨?_, (n.lk i c e).2⟩, n.ln⟩
  · rw [unlock_at]
    split
    · exact (n.st.sl i).unS
    · exact n.st.sl i
  · rw [unlock_at]
    split
    · rw [unS_io]; exact (n.io i e).1
    · exact (n.io i e).1
  · rw [unlock_at]
    split
    · rw [(n0.lk i c e).1, (n.lk i c e).1]; rfl
    · exact (n.lk i c e).1
/-- what a loop starts from -/
structure Strt (K : Fg) (σ : St) (Z : ZS) (H : Hp) (ρ0 : Env) (l : List Opd) (σs : St) (ρs : Env) : Prop where
  st : Ss K Z H σs ρs
  od : ∀ a, Od σs ρs a → Od σ ρ0 a
  ow : ∀ i, l.any (isRef i) = true → ∀ d, (slotAt ρ0 i = .ow d ∨ slotAt ρ0 i = .lk d) → (slotAt ρs i = .lk d ∧ sg σs i = sg σ i) ∨ ∀ a, sg σ i = some (.ref a) → ¬ Od σs ρs a
theorem strt_lock (st : Ss K Z H σ ρ) : Strt K σ Z H ρ l σ (l.foldl lockO ρ) :=
  ⟨(nx_lock st).nx.st, (nx_lock st).od, fun i e d h => .inl ⟨by rw [lock_at, if_pos e]; rcases h with h | h <;> rw [h] <;> rfl, rfl⟩⟩
theorem sg_wipe {vs : List Nat} {σ : St} (i : Nat) : sg (wipe σ vs) i = if i ∈ vs then none else sg σ i := by
  by_cases e : i ∈ vs
  · rw [if_pos e]
    cases q : sg (wipe σ vs) i with
    | none => rfl
    | some v => exact absurd e (wipe_some (sg_some.mp q)).2
  · rw [if_neg e]
    unfold sg
    rw [wipe_out e]
/-- a block's own names are not set -/
theorem ss_wipe (st : Ss K Z H σ ρ) (hv : ∀ i, i ∈ vs ↔ i ∈ tSlots t) : Ss K Z H (wipe σ vs) (wipeT t ρ) ∧ ∀ a, Od (wipe σ vs) (wipeT t ρ) a → Od σ ρ a := by
  have at_ : ∀ i, (i ∈ vs ∧ slotAt (wipeT t ρ) i = .no) ∨ (i ∉ vs ∧ slotAt (wipeT t ρ) i = slotAt ρ i ∧ sg (wipe σ vs) i = sg σ i) := fun i => by
    rw [wipeT_at, sg_wipe]
    by_cases e : i ∈ vs
    · exact .inl ⟨e, if_pos ((hv i).mp e)⟩
    · exact .inr ⟨e, if_neg fun z => e ((hv i).mpr z), if_neg e⟩
  have on : ∀ i a, (slotAt (wipeT t ρ) i).own = true → sg (wipe σ vs) i = some (.ref a) → (slotAt ρ i).own = true ∧ sg σ i = some (.ref a) := fun i a o e => by
    rcases at_ i with ⟨_, q⟩ | ⟨_, q1, q2⟩
    · rw [q] at o; cases o
    · rw [q1] at o
      rw [q2] at e
      exact ⟨o, e⟩
  refine ⟨⟨by rw [wipe_length, wipeT_len, st.len], fun i => ?_, fun i j a ne o1 o2 e1 e2 => ?_, st.zd, st.tb⟩, fun a ⟨i, o1, o2⟩ => ⟨i, on i a o1 o2⟩⟩
  · rcases at_ i with ⟨_, q⟩ | ⟨_, q1, q2⟩
    · rw [q]; trivial
    · rw [q1, q2]; exact st.sl i
  · obtain ⟨p1, p2⟩ := on i a o1 e1
    obtain ⟨q1, q2⟩ := on j a o2 e2
    exact st.inj i j a ne p1 q1 p2 q2
theorem strt_wipe (st : Ss K Z H σ ρ) (hv : ∀ i, i ∈ vs ↔ i ∈ tSlots t) : Strt K σ Z H ρ l (wipe σ vs) (wipeT t (l.foldl lockO ρ)) := by
  have n := nx_lock (l := l) st
  obtain ⟨s1, od1⟩ := ss_wipe n.nx.st hv
  refine ⟨s1, fun a z => n.od a (od1 a z), fun i e d h => ?_⟩
  by_cases hi : i ∈ vs
  · refine .inr fun a ea z => ?_
    obtain ⟨j, o1, o2⟩ := z
    have hj : j ∉ vs := fun q => by
      rw [wipeT_at, if_pos ((hv j).mp q)] at o1
      cases o1
    rw [sg_wipe, if_neg hj] at o2
    rw [wipeT_at, if_neg fun z => hj ((hv j).mpr z), lock_at] at o1
    have o1 : (slotAt ρ j).own = true := by
      split at o1
      · rw [lkS_own] at o1; exact o1
      · exact o1
    exact st.inj j i a (fun q => hj (q ▸ hi)) o1 (by rcases h with h | h <;> rw [h] <;> rfl) o2 ea
  · refine .inl ⟨?_, by rw [sg_wipe, if_neg hi]⟩
    rw [wipeT_at, if_neg fun z => hi ((hv i).mpr z), lock_at, if_pos e]
    rcases h with h | h <;> rw [h] <;> rfl
/-- what is walked stands through the loop -/
theorem loop_rv (s : Strt K σ Z H ρ0 l σ1 ρ1) {x : Opd} (hx : x ∈ l) (h : LoopOk K σ Z H ρ0 x d v) (n : Nx K σ1 Z H ρ1 σ2 Z2 H2 ρ2) : RV K Z2 H2 d v := by
  have apart : ∀ a, v = .ref a → Ow K Z H a d → ¬ Od σ1 ρ1 a → RV K Z2 H2 d v := fun a e w no => by
    obtain ⟨u, eu, nt⟩ := w.there
    exact .inr (.inl ⟨a, e, w.keep n.sp.up (n.zk s.st) (by rw [eu]; exact n.sp.kp a u eu nt no)⟩)
  rcases h with (h | h | ⟨a, e, w, nz, no, _⟩) | ⟨i, ex, hs, hl, hr⟩
  · exact .inl (n.fz s.st h)
  · exact .inr (.inr (ct_keep n.sp.up (n.zk s.st) h))
  · exact apart a e w fun z => no (s.od a z)
  · have hi : l.any (isRef i) = true := List.any_eq_true.mpr ⟨x, hx, by rw [ex]; simp [isRef]⟩
    rcases s.ow i hi d hl with ⟨h1, h2⟩ | h1
    · have q := n.st.sl i
      rw [(n.lk i d h1).1, (n.lk i d h1).2, h2, hs] at q
      obtain ⟨b, eb, _, w⟩ := q
      exact .inr (.inl ⟨b, Option.some.inj eb, w⟩)
    · rcases hr with h | ⟨a, e, w⟩ | h
      · exact .inl (n.fz s.st h)
      · exact apart a e w (h1 a (by rw [hs, e]))
      · exact .inr (.inr (ct_keep n.sp.up (n.zk s.st) h))
theorem loop_all (s : Strt K σ Z H ρ0 l σ1 ρ1) (n : Nx K σ1 Z H ρ1 σ2 Z2 H2 ρ2) : ∀ {m : List Opd} {q : List (D × V)}, (∀ x ∈ m, x ∈ l) → LoopOks K σ Z H ρ0 m q → AllRV K Z2 H2 q
  | [], q, _, h => by
    have e : q = [] := h
    subst e
    intro z hz
    cases hz
  | x :: m, q, hm, h => by
    obtain ⟨d, v, r, e, h1, h2⟩ := h
    subst e
    intro z hz
    rcases List.mem_cons.mp hz with rfl | hz
    · exact loop_rv s (hm x List.mem_cons_self) h1 n
    · exact loop_all s n (fun y hy => hm y (List.mem_cons_of_mem _ hy)) h2 z hz
/-- an object in hand changes -/
theorem nx_upd {p : Ad} {ob : HO} (n : Nx K σ Z H ρ σ1 Z1 H1 ρ1) (hp : H p = none) (nz : ¬ Z1 p) (no : ¬ Od σ1 ρ1 p) (nt : ¬ isTbl ob) (nc : NoCT H1 p) : Nx K σ Z H ρ σ1 Z1 (upd H1 p ob) ρ1 := by
  have ne : ∀ {a u}, H a = some u → a ≠ p := fun {a u} e z => by
    rw [z, hp] at e
    cases e
  have zk : ∀ a, Z1 a → upd H1 p ob a = H1 a := fun a z => upd_ne fun q => nz (q ▸ z)
  have own : ∀ {i : Nat} {a : Ad} {d : D}, (slotAt ρ1 i).own = true → sg σ1 i = some (.ref a) → Ow K Z1 H1 a d → Ow K Z1 (upd H1 p ob) a d := fun {i a d} o e w =>
    w.keep (fun _ z => z) zk (upd_ne fun q => no (q ▸ ⟨i, o, e⟩))
  refine ⟨⟨n.sp.up, n.sp.dn, fun a u e nt' na => ?_, fun a u e => ?_, fun P q m t => tab_upd nc (n.sp.tb P q m t)⟩, ⟨n.st.len, fun i => ?_, n.st.inj, fun a z => ?_, fun q hq => tab_upd nc (n.st.tb q hq)⟩, n.ow, n.io, n.lk, n.ln⟩
  · rw [upd_ne (ne e)]
    exact n.sp.kp a u e nt' na
  · rw [upd_ne (ne e)]
    exact n.sp.th a u e
  · have q := n.st.sl i
    cases hs : slotAt ρ1 i with
    | no => trivial
    | fz d =>
      rw [hs] at q
      obtain ⟨v, e, f⟩ := q
      exact ⟨v, e, f.keep (fun _ z => z) zk⟩
    | ow d =>
      rw [hs] at q
      obtain ⟨a, e, nz, w⟩ := q
      exact ⟨a, e, nz, own (by rw [hs]; rfl) e w⟩
    | lk d =>
      rw [hs] at q
      obtain ⟨a, e, nz, w⟩ := q
      exact ⟨a, e, nz, own (by rw [hs]; rfl) e w⟩
    | io d =>
      rw [hs] at q
      obtain ⟨a, e, nz, w⟩ := q
      exact ⟨a, e, nz, own (by rw [hs]; rfl) e w⟩
  · rw [zk a z]
    exact n.st.zd a z
/-- a turn's end: the block's own names are not set -/
theorem nx_wipe (n : Nx K (wipe σ vs) Z H ρ σ1 Z1 H1 ρ1) (hv : ∀ i, i ∈ vs ↔ i ∈ tSlots t) (h0 : ∀ i ∈ tSlots t, slotAt ρ i = .no) (e : wipe σ1 vs = wipe σ vs) : Nx K (wipe σ vs) Z H ρ (wipe σ vs) Z1 H1 (wipeT t ρ1) := by
  obtain ⟨s1, od1⟩ := ss_wipe n.st hv
  rw [e] at s1 od1
  refine ⟨n.sp, s1, fun a z => n.ow a (od1 a z), fun i q => ?_, fun i c q => ?_, rfl⟩
  · have hi : i ∉ tSlots t := fun z => by
      rw [h0 i z] at q
      cases q
    rw [wipeT_at, if_neg hi]
    have := n.io i q
    rw [← e, sg_wipe, if_neg fun z => hi ((hv i).mp z)] at this
    exact ⟨this.1, rfl⟩
  · have hi : i ∉ tSlots t := fun z => by
      rw [h0 i z] at q
      cases q
    rw [wipeT_at, if_neg hi]
    have := n.lk i c q
    rw [← e, sg_wipe, if_neg fun z => hi ((hv i).mp z)] at this
    exact ⟨this.1, rfl⟩
def mixS (σ σ' : St) (vs : List Nat) : St := (List.range σ.length).map fun i => if vs.contains i then sg σ i else sg σ' i
theorem mixS_len : (mixS σ σ1 vs).length = σ.length := by unfold mixS; simp
theorem sg_mix (hl : σ1.length = σ.length) (i : Nat) : sg (mixS σ σ1 vs) i = if i ∈ vs then sg σ i else sg σ1 i := by
  have out : ∀ {τ : St}, τ.length = σ.length → ¬ i < σ.length → sg τ i = none := fun {τ} e h => by
    unfold sg
    rw [List.getElem?_eq_none (by omega)]
    rfl
  by_cases h : i < σ.length
  · show (((List.range σ.length).map fun i => if vs.contains i then sg σ i else sg σ1 i)[i]?).join = _
    rw [List.getElem?_map, List.getElem?_range h]
    by_cases e : i ∈ vs
    · simp [e]
    · simp [e]
  · rw [out mixS_len h, out rfl h, out hl h]
    split <;> rfl
theorem mix_wipe : mixS σ (wipe σ vs) vs = σ := by
  refine List.ext_getElem? fun i => ?_
  by_cases h : i < σ.length
  · have e1 : (mixS σ (wipe σ vs) vs)[i]? = some (sg (mixS σ (wipe σ vs) vs) i) := by
      unfold sg
      rw [List.getElem?_eq_getElem (by rw [mixS_len]; exact h)]
      rfl
    rw [e1, sg_mix (wipe_length ..), sg_wipe, List.getElem?_eq_getElem h]
    unfold sg
    rw [List.getElem?_eq_getElem h]
    split <;> rfl
  · rw [List.getElem?_eq_none (by rw [mixS_len]; omega), List.getElem?_eq_none (by omega)]
/-- behind a block: its own names are as they were -/
theorem comp_back (st : Ss K Z H σ ρ) (hv : ∀ i, i ∈ vs ↔ i ∈ tSlots t) (n : Nx K (wipe σ vs) Z H (wipeT t (l.foldl lockO ρ)) σ1 Z1 H1 ρ1) :
    Nx K σ Z H ρ (mixS σ σ1 vs) Z1 H1 (l.foldl (unlockO ρ) (backT ρ t ρ1)) ∧ ((∀ a, Od σ1 ρ1 a → Od (wipe σ vs) (wipeT t (l.foldl lockO ρ)) a) → ∀ a, Od (mixS σ σ1 vs) (l.foldl (unlockO ρ) (backT ρ t ρ1)) a → Od σ ρ a) := by
  have S := strt_wipe (l := l) st hv
  have hl1 : σ1.length = σ.length := by rw [n.ln, wipe_length]
  have hl2 : ρ.length ≤ ρ1.length := by
    rw [← st.len, ← hl1, n.st.len]
    exact Nat.le_refl _
  have at_ : ∀ i, (i ∈ vs ∧ slotAt (l.foldl (unlockO ρ) (backT ρ t ρ1)) i = slotAt ρ i ∧ sg (mixS σ σ1 vs) i = sg σ i) ∨
      (i ∉ vs ∧ slotAt (l.foldl (unlockO ρ) (backT ρ t ρ1)) i = (if l.any (isRef i) then unS (slotAt ρ i) (slotAt ρ1 i) else slotAt ρ1 i) ∧ sg (mixS σ σ1 vs) i = sg σ1 i) := fun i => by
    rw [unlock_at, backT_at ρ t ρ1 i hl2, sg_mix hl1]
    by_cases e : i ∈ vs
    · refine .inl ⟨e, ?_, if_pos e⟩
      rw [if_pos ((hv i).mp e)]
      split
      · cases slotAt ρ i <;> rfl
      · rfl
    · refine .inr ⟨e, ?_, if_neg e⟩
      rw [if_neg fun z => e ((hv i).mpr z)]
  have ow_ : ∀ {s : Slot} {i : Nat}, (if l.any (isRef i) then unS (slotAt ρ i) s else s).own = s.own := fun {s i} => by
    split
    · exact unS_own _ _
    · rfl
  -- an address of a name of the block's own is no one else's
  have mine : ∀ i a, i ∈ vs → (slotAt ρ i).own = true → sg σ i = some (.ref a) → ¬ Od (wipe σ vs) (wipeT t (l.foldl lockO ρ)) a := fun i a hi o e z => by
    obtain ⟨j, o1, o2⟩ := z
    have hj : j ∉ vs := fun q => by
      rw [wipeT_at, if_pos ((hv j).mp q)] at o1
      cases o1
    rw [sg_wipe, if_neg hj] at o2
    rw [wipeT_at, if_neg fun z => hj ((hv j).mpr z), lock_at] at o1
    have o1 : (slotAt ρ j).own = true := by
      split at o1
      · rw [lkS_own] at o1; exact o1
      · exact o1
    exact st.inj j i a (fun q => hj (q ▸ hi)) o1 o o2 e
  have there : ∀ i a, (slotAt ρ i).own = true → sg σ i = some (.ref a) → ∃ u, H a = some u ∧ ¬ isTbl u := fun i a o e => (st.od ⟨i, o, e⟩).2
  have notB : ∀ i a, i ∈ vs → (slotAt ρ i).own = true → sg σ i = some (.ref a) → ¬ Od σ1 ρ1 a := fun i a hi o e z => by
    rcases n.ow a z with z | z
    · exact mine i a hi o e z
    · obtain ⟨u, eu, _⟩ := there i a o e
      rw [eu] at z
      cases z
  refine ⟨⟨⟨n.sp.up, fun a z => ?_, fun a u e nt no => n.sp.kp a u e nt fun z => no (S.od a z), n.sp.th, n.sp.tb⟩, ⟨by rw [mixS_len, unlock_len, backT_len, ← n.st.len, hl1], fun i => ?_, fun i j a ne o1 o2 e1 e2 => ?_, n.st.zd, n.st.tb⟩, fun a ⟨i, o, e⟩ => ?_, fun i e => ?_, fun i c e => ?_, mixS_len⟩, fun hod a ⟨i, o, e⟩ => ?_⟩
  · rcases n.sp.dn a z with z | z | z
    · exact .inl z
    · exact .inr (.inl (S.od a z))
    · exact .inr (.inr z)
  · rcases at_ i with ⟨hi, q1, q2⟩ | ⟨hi, q1, q2⟩
    · rw [q1, q2]
      have s := st.sl i
      have own : ∀ {a : Ad} {d : D}, (slotAt ρ i).own = true → sg σ i = some (.ref a) → ¬ Z a → Ow K Z H a d → ¬ Z1 a ∧ Ow K Z1 H1 a d := fun {a d} o e nz w => by
        obtain ⟨u, eu, nt⟩ := w.there
        have no := mine i a hi o e
        refine ⟨fun z => ?_, w.keep n.sp.up (n.zk S.st) (by rw [eu]; exact n.sp.kp a u eu nt no)⟩
        rcases n.sp.dn a z with z | z | z
        · exact nz z
        · exact no z
        · exact w.nf z
      cases hs : slotAt ρ i with
      | no => trivial
      | fz d =>
        rw [hs] at s
        obtain ⟨v, e, f⟩ := s
        exact ⟨v, e, n.fz S.st f⟩
      | ow d =>
        rw [hs] at s
        obtain ⟨a, e, nz, w⟩ := s
        exact ⟨a, e, own (by rw [hs]; rfl) e nz w⟩
      | lk d =>
        rw [hs] at s
        obtain ⟨a, e, nz, w⟩ := s
        exact ⟨a, e, own (by rw [hs]; rfl) e nz w⟩
      | io d =>
        rw [hs] at s
        obtain ⟨a, e, nz, w⟩ := s
        exact ⟨a, e, own (by rw [hs]; rfl) e nz w⟩
    · rw [q1, q2]
      split
      · exact (n.st.sl i).unS
      · exact n.st.sl i
  · rcases at_ i with ⟨hi, p1, p2⟩ | ⟨hi, p1, p2⟩
    · rw [p1] at o1
      rw [p2] at e1
      rcases at_ j with ⟨hj, q1, q2⟩ | ⟨hj, q1, q2⟩
      · rw [q1] at o2
        rw [q2] at e2
        exact st.inj i j a ne o1 o2 e1 e2
      · rw [q1, ow_] at o2
        rw [q2] at e2
        exact notB i a hi o1 e1 ⟨j, o2, e2⟩
    · rw [p1, ow_] at o1
      rw [p2] at e1
      rcases at_ j with ⟨hj, q1, q2⟩ | ⟨hj, q1, q2⟩
      · rw [q1] at o2
        rw [q2] at e2
        exact notB j a hj o2 e2 ⟨i, o1, e1⟩
      · rw [q1, ow_] at o2
        rw [q2] at e2
        exact n.st.inj i j a ne o1 o2 e1 e2
  · rcases at_ i with ⟨hi, p1, p2⟩ | ⟨hi, p1, p2⟩
    · rw [p1] at o
      rw [p2] at e
      exact .inl ⟨i, o, e⟩
    · rw [p1, ow_] at o
      rw [p2] at e
      rcases n.ow a ⟨i, o, e⟩ with z | z
      · exact .inl (S.od a z)
      · exact .inr z
  · rcases at_ i with ⟨hi, p1, p2⟩ | ⟨hi, p1, p2⟩
    · rw [p1, p2]
      exact ⟨e, rfl⟩
    · have w : (slotAt (wipeT t (l.foldl lockO ρ)) i).isIo = true := by
        rw [wipeT_at, if_neg fun z => hi ((hv i).mpr z), lock_at]
        split
        · rw [lkS_io]; exact e
        · exact e
      obtain ⟨r1, r2⟩ := n.io i w
      rw [p1, p2, r2, sg_wipe, if_neg hi]
      refine ⟨?_, rfl⟩
      split
      · rw [unS_io]; exact r1
      · exact r1
  · rcases at_ i with ⟨hi, p1, p2⟩ | ⟨hi, p1, p2⟩
    · rw [p1, p2]
      exact ⟨e, rfl⟩
    · have w : slotAt (wipeT t (l.foldl lockO ρ)) i = .lk c := by
        rw [wipeT_at, if_neg fun z => hi ((hv i).mpr z), lock_at]
        split
        · rw [e]; rfl
        · exact e
      obtain ⟨r1, r2⟩ := n.lk i c w
      rw [p1, p2, r2, sg_wipe, if_neg hi, r1, e]
      refine ⟨?_, rfl⟩
      split <;> rfl
  · rcases at_ i with ⟨hi, p1, p2⟩ | ⟨hi, p1, p2⟩
    · rw [p1] at o
      rw [p2] at e
      exact ⟨i, o, e⟩
    · rw [p1, ow_] at o
      rw [p2] at e
      exact S.od a (hod a ⟨i, o, e⟩)
end
end MW
end
section
set_option Elab.async false
set_option linter.all false
set_option maxRecDepth 100000
set_option maxHeartbeats 2000000
/-! So12: comprehensions. -/
namespace MW
open PySem PySem.Spec
open PyProof.Rows hiding St
open L2 (V Hp HO St upd upd_same upd_ne SqL SqT Rd Vals RelV Key kV ne_of_none VK XK TE TT TA TS TG TGs TI Ends PE PT PW PA PS PSs PG PGs PI OpR CallR MtR IxR SlR Dp DpAll PSet Walk wipe wipe_length wipe_some wipe_out)
variable [Tbs]
theorem wipe_in {τ : St} {i : Nat} (hl : i < τ.length) : ∀ {vs : List Nat}, i ∈ vs → (wipe τ vs)[i]? = some none
  | [], h => nomatch h
  | v :: vs, h => by
    show ((wipe τ vs).set v none)[i]? = some none
    rw [List.getElem?_set]
    by_cases e : v = i
    · subst e
      rw [if_pos rfl, if_pos (by rw [wipe_length]; exact hl)]
    · rw [if_neg e]
      rcases List.mem_cons.mp h with z | z
      · exact absurd z.symm e
      · exact wipe_in hl z
theorem wipe_asg {σ σ2 : St} {ρ1 ρ2 : Env} {vs l : List Nat} {o : Bool} (h : AsgR l o (wipe σ vs) ρ1 σ2 ρ2) (hv : ∀ i, i ∈ vs ↔ i ∈ l) : wipe σ2 vs = wipe σ vs := by
  refine List.ext_getElem? fun i => ?_
  have hl : σ2.length = σ.length := by rw [h.len, wipe_length]
  by_cases e : i ∈ vs
  · by_cases l : i < σ.length
    · rw [wipe_in (by rw [hl]; exact l) e, wipe_in l e]
    · rw [List.getElem?_eq_none (by rw [wipe_length]; omega), List.getElem?_eq_none (by rw [wipe_length]; omega)]
  · rw [wipe_out e]
    exact (h.out i fun z => e ((hv i).mpr z)).1
section
variable {g : Ge} {E : XK} {σ σ1 : St} {Z Z1 : ZS} {H H1 : Hp} {ρ ρ1 : Env} {Q : VK} {c e : MW.E} {t : T} {it : MW.It} {vs : List Nat} {A B C : Type}
theorem Res.assoc (x : Res A) (f : A → Env → Res B) (k : B → Env → Res C) : (x.bind f).bind k = x.bind fun a r => (f a r).bind k := by
  cases x <;> rfl
/-- one turn's body -/
def turnE (X : Cx) (t : T) (c e : MW.E) : D → Env → Res (List D) := fun d r => (assignT t (false, d) r).bind fun _ r => (evT X c r).bind fun t' r =>
  if t' then (ev X e r).bind fun v r => .ok [v.2] (wipeT t r) else .ok [] (wipeT t r)
theorem od_asg {K : Fg} {l : List Nat} {σ2 : St} {ρ2 : Env} (h : AsgR l false σ1 ρ1 σ2 ρ2) (a : Ad) (z : Od σ2 ρ2 a) : Od σ1 ρ1 a := by
  obtain ⟨i, o, e⟩ := z
  by_cases q : i ∈ l
  · rw [h.nf rfl i q] at o
    cases o
  · obtain ⟨q1, q2⟩ := h.out i q
    rw [q2] at o
    unfold sg at e
    rw [q1] at e
    exact ⟨i, o, e⟩
/-- no exception leaves -/
def noX : XK := fun _ _ _ => False
/-- a comprehension's state at a turn: D the new list -/
structure LcSt (g : Ge) (σw : St) (Z1 : ZS) (H1 : Hp) (ρw : Env) (t : T) (p : Ad) (ds : List D) (i : Nat) (Z : ZS) (H : Hp) (ρ : Env) : Prop where
  nx : Nx g.K σw Z1 H1 ρw σw Z H ρ
  od : ∀ a, Od σw ρ a → Od σw ρw a
  lst : ∃ acc, H p = some (.lst acc) ∧ ¬ Z p ∧ FzL g.K Z H ds acc ∧ acc.length ≤ i
theorem re_comp (hv : ∀ i, i ∈ vs ↔ i ∈ tSlots t) (h : RE g E (.comp t it c e) σ H Q) : L2.tLc (RI g E it) (gT g.K t) (RT g noX c) (RE g noX e) vs σ H Q := by
  obtain ⟨Z, ρ, st, h⟩ := h
  simp only [ev] at h
  refine ⟨Z, ρ, st, h.bnd.imp fun p Z1 H1 ρ1 n1 h1 J wk p0 hp0 => ?_⟩
  obtain ⟨lv, G, Y, lo, walk, hG, hY⟩ := wk.ex
  split at h1
  · exact h1.elim
  rename_i hsz
  have hsz : p.1.length ≤ szLine := Nat.le_of_not_lt hsz
  have S := strt_wipe (l := p.2) n1.nx.st hv
  generalize hρw : wipeT t (p.2.foldl lockO ρ1) = ρw at S h1
  -- the turns, from the block's start
  have hL : OcS g noX (wipe σ vs) Z1 H1 ρw (loopE (turnE g.mw t c e) p.1 ρw) fun ds σ' Z' H' ρ' =>
      σ' = wipe σ vs → (∀ a, Od σ' ρ' a → Od (wipe σ vs) ρw a) → ∀ v, VR g.K Z' H' H true (.list ds) v → Q v H' := by
    subst hρw
    cases q : loopE (turnE g.mw t c e) p.1 (wipeT t (p.2.foldl lockO ρ1)) with
    | st n =>
      have h1 : Oc g E σ Z1 H1 ρ1 ((Res.mapN _ (loopE (turnE g.mw t c e) p.1 (wipeT t (p.2.foldl lockO ρ1)))).bind _) _ := h1
      rw [q] at h1
      exact h1
    | ex k as r =>
      have h1 : Oc g E σ Z1 H1 ρ1 ((Res.mapN _ (loopE (turnE g.mw t c e) p.1 (wipeT t (p.2.foldl lockO ρ1)))).bind _) _ := h1
      rw [q] at h1
      exact h1.elim
    | ok ds r =>
      have h1 : Oc g E σ Z1 H1 ρ1 ((Res.mapN _ (loopE (turnE g.mw t c e) p.1 (wipeT t (p.2.foldl lockO ρ1)))).bind _) _ := h1
      rw [q] at h1
      intro σ' Z' H' n e1 od v vr
      subst e1
      obtain ⟨b1, b2⟩ := comp_back (l := p.2) n1.nx.st hv n
      rw [mix_wipe] at b1 b2
      exact h1 Z' H' ⟨b1, b2 od⟩ v vr
  have h0w : ∀ i ∈ tSlots t, slotAt ρw i = .no := fun i hi => by rw [← hρw, wipeT_at, if_pos hi]
  clear h1 hρw
  refine L2.lc_it walk (fun i H' => ∃ Z' ρ' ds, LcSt g (wipe σ vs) Z1 H1 ρw t p0 ds i Z' H' ρ' ∧ OcS g noX (wipe σ vs) Z1 H1 ρw ((loopE (turnE g.mw t c e) (p.1.drop i) ρ').bind fun b r => .ok (ds ++ b) r) fun ds σ' Z' H' ρ' =>
      σ' = wipe σ vs → (∀ a, Od σ' ρ' a → Od (wipe σ vs) ρw a) → ∀ v, VR g.K Z' H' H true (.list ds) v → Q v H') ?_ ?_ ?_ ?_
  · have no : ¬ Od (wipe σ vs) ρw p0 := fun z => by
      obtain ⟨u, eu, _⟩ := (S.st.od z).2
      rw [hp0] at eu
      cases eu
    have nz : ¬ Z1 p0 := fun z => by
      obtain ⟨u, eu, _⟩ := n1.nx.st.zd p0 z
      rw [hp0] at eu
      cases eu
    refine ⟨Z1, ρw, [], ⟨nx_upd (Nx.refl S.st) hp0 nz no (fun z => z) (.none hp0), fun a z => z, [], upd_same, nz, rfl, Nat.le_refl _⟩, ?_⟩
    rw [List.drop_zero]
    cases q : loopE (turnE g.mw t c e) p.1 ρw with
    | st n => rw [q] at hL; exact hL
    | ex k as r => rw [q] at hL; exact hL
    | ok ds r => rw [q] at hL; exact hL
  · intro i H' hi ⟨Z', ρ', ds, s, _⟩
    exact hG Z' H' (loop_all S s.nx (fun x hx => hx) lo)
  · intro i x H' H2 hi ⟨Z', ρ', ds, s, o⟩ y
    obtain ⟨d, Z2, ed, sp2, zd2, fx⟩ := hY i Z' H' x H2 hi s.nx.st.zd (loop_all S s.nx (fun x hx => hx) lo) y
    obtain ⟨acc, ha, nz, fa, hl⟩ := s.lst
    have np2 := s.nx.st.pure sp2 zd2
    have n2 := s.nx.trans np2.nx
    have noD : ∀ {σ' : St} {ρ'' : Env}, (∀ a, Od σ' ρ'' a → Od (wipe σ vs) ρw a) → ¬ Od σ' ρ'' p0 := fun {σ' ρ''} k z => by
      obtain ⟨u, eu, _⟩ := (S.st.od (k p0 z)).2
      rw [hp0] at eu
      cases eu
    have acc2 : H2 p0 = some (.lst acc) := sp2.kp p0 _ ha (fun z => z) fun z => z
    have nz2 : ¬ Z2 p0 := fun z => by
      rcases sp2.dn p0 z with z | z | z
      · exact nz z
      · exact z
      · exact (z _ ha).elim
    have fa2 : FzL g.K Z2 H2 ds acc := np2.nx.fzl s.nx.st fa
    have hd : p.1.drop i = d :: p.1.drop (i + 1) := by
      obtain ⟨hi', e'⟩ := List.getElem?_eq_some_iff.mp ed
      rw [List.drop_eq_getElem_cons hi', e']
    rw [hd] at o
    simp only [loopE] at o
    rw [Res.assoc] at o
    unfold turnE at o
    rw [Res.assoc] at o
    refine asg_ok (w := (false, d)) o n2 fx fun σ3 ρ3 n3 a3 o3 => ⟨wipe_asg a3 hv, ?_⟩
    rw [Res.assoc] at o3
    have od3 : ∀ a, Od σ3 ρ3 a → Od (wipe σ vs) ρw a := fun a z => s.od a (od_asg (K := g.K) a3 a z)
    refine ⟨Z2, ρ3, n3.st, (o3.ev n3).imp fun b Z4 H4 ρ4 m4 ⟨n4, o4⟩ => ?_⟩
    have od4 : ∀ a, Od σ3 ρ4 a → Od (wipe σ vs) ρw a := fun a z => od3 a (m4.od a z)
    have nt : ¬ isTbl (.lst acc) := fun z => z
    have acc4 : H4 p0 = some (.lst acc) := m4.nx.sp.kp p0 _ acc2 nt (noD od3)
    have nz4 : ¬ Z4 p0 := fun z => by
      rcases m4.nx.sp.dn p0 z with z | z | z
      · exact nz2 z
      · exact noD od3 z
      · exact (z _ acc2).elim
    have fa4 := m4.nx.fzl n3.st fa2
    cases b with
    | false =>
      simp only [Bool.false_eq_true, if_false]
      refine ⟨Z4, wipeT t ρ4, ds, ⟨nx_wipe n4 hv h0w (wipe_asg a3 hv), fun a z => ?_, acc, acc4, nz4, fa4, Nat.le_succ_of_le hl⟩, ?_⟩
      · have := (ss_wipe n4.st hv).2 a
        rw [wipe_asg a3 hv] at this
        exact od4 a (this z)
      · have o4 : OcS g noX (wipe σ vs) Z1 H1 ρw (((loopE (turnE g.mw t c e) (p.1.drop (i + 1)) (wipeT t ρ4)).bind fun b r => .ok ([] ++ b) r).bind fun b r => .ok (ds ++ b) r) _ := o4
        rw [Res.assoc] at o4
        exact o4
    | true =>
      simp only [if_true]
      have o4 : OcS g noX (wipe σ vs) Z1 H1 ρw (((ev g.mw e ρ4).bind fun v r => .ok [v.2] (wipeT t r)).bind fun a r => ((loopE (turnE g.mw t c e) (p.1.drop (i + 1)) r).bind fun b r => .ok (a ++ b) r).bind fun b r => .ok (ds ++ b) r) _ := o4
      rw [Res.assoc] at o4
      refine ⟨Z4, ρ4, n4.st, ?_⟩
      have o5 := o4.ev n4
      cases q : ev g.mw e ρ4 with
      | st n => rw [q] at o5; exact o5
      | ex k as r => rw [q] at o5; exact o5
      | ok w ρ5 =>
        rw [q] at o5
        intro Z5 H5 m5 v vr
        obtain ⟨Z6, m6, fz⟩ := m5.freeze n4.st vr
        obtain ⟨n6, o6⟩ := o5 Z6 H5 m6
        have od6 : ∀ a, Od σ3 ρ5 a → Od (wipe σ vs) ρw a := fun a z => od4 a (m6.od a z)
        have acc6 : H5 p0 = some (.lst acc) := m6.nx.sp.kp p0 _ acc4 nt (noD od4)
        have nz6 : ¬ Z6 p0 := fun z => by
          rcases m6.nx.sp.dn p0 z with z | z | z
          · exact nz4 z
          · exact noD od4 z
          · exact (z _ acc4).elim
        have fa6 := m6.nx.fzl n4.st fa4
        have up := nx_upd (ob := .lst (acc ++ [v])) n6 hp0 nz6 (noD od6) (fun z => z) (.lst acc6)
        have kp : ∀ a, Z6 a → upd H5 p0 (.lst (acc ++ [v])) a = H5 a := fun a z => upd_ne fun q => nz6 (q ▸ z)
        refine ⟨acc, acc6, by rw [← szLine_eq]; omega, Z6, wipeT t ρ5, ds ++ [w.2], ⟨nx_wipe up hv h0w (wipe_asg a3 hv), fun a z => ?_, acc ++ [v], upd_same, nz6, ?_, by rw [List.length_append, List.length_singleton]; omega⟩, ?_⟩
        · have := (ss_wipe up.st hv).2 a
          rw [wipe_asg a3 hv] at this
          exact od6 a (this z)
        · exact FzL.app (fa6.keep (fun _ z => z) kp) ⟨v, [], rfl, fz.keep (fun _ z => z) kp, rfl⟩
        · have o6 : OcS g noX (wipe σ vs) Z1 H1 ρw (((loopE (turnE g.mw t c e) (p.1.drop (i + 1)) (wipeT t ρ5)).bind fun b r => .ok ([w.2] ++ b) r).bind fun b r => .ok (ds ++ b) r) _ := o6
          rw [Res.assoc] at o6
          show OcS g noX (wipe σ vs) Z1 H1 ρw ((loopE (turnE g.mw t c e) (p.1.drop (i + 1)) (wipeT t ρ5)).bind fun b r => .ok (ds ++ [w.2] ++ b) r) _
          have : (fun (b : List D) r => Res.ok (ds ++ [w.2] ++ b) r) = fun (b : List D) r => (Res.ok ([w.2] ++ b) r).bind fun b r => Res.ok (ds ++ b) r := by
            funext b r
            show Res.ok (ds ++ [w.2] ++ b) r = Res.ok (ds ++ ([w.2] ++ b)) r
            rw [List.append_assoc]
          rw [this]
          exact o6
  · intro H' ⟨Z', ρ', ds, s, o⟩
    obtain ⟨acc, ha, nz, fa, hl⟩ := s.lst
    rw [List.drop_length] at o
    have o : OcS g noX (wipe σ vs) Z1 H1 ρw (.ok (ds ++ []) ρ') _ := o
    refine o.now s.nx rfl s.od (.ref p0) ?_
    rw [List.append_nil]
    exact ⟨p0, rfl, nz, ⟨acc, ha, by omega, fa⟩, n1.nx.sp.none hp0⟩
end
end MW
end
section
set_option Elab.async false
set_option linter.all false
set_option maxRecDepth 100000
set_option maxHeartbeats 2000000
/-! So13: slices, methods, repr. -/
namespace MW
open PySem PySem.Spec
open PyProof.Rows hiding St
open L2 (V Hp HO St upd upd_same upd_ne SqL SqT Rd Vals RelV Key kV ne_of_none VK XK TE TT TA TS TG TGs TI TO Ends PE PT PW PA PS PSs PG PGs PI PO OpR CallR MtR MtM IxR SlR Dp DpAll PSet Walk)
variable [Tbs]
section
variable {g : Ge} {E : XK} {σ : St} {H : Hp} {Q : VK} {a b c : MW.E}
/-! slices -/
/-- a part of a slice -/
def RPt (g : Ge) (E : XK) (e : MW.E) : TO := fun σ H Q => ∃ Z ρ, Ss g.K Z H σ ρ ∧ Oc g E σ Z H ρ (partR (isNoneE e) (evO g.mw e ρ) ρ) fun l Z' H' ρ' => Q l H'
theorem rpt_none (h : isNoneE a = true) {QO : Option Int → Hp → Prop} (q : RPt g E a σ H QO) : L2.tNoPart σ H QO := by
  obtain ⟨Z, ρ, st, q⟩ := q
  rw [h] at q
  exact q.now st
theorem rpt_some (h : isNoneE a = false) {QO : Option Int → Hp → Prop} (q : RPt g E a σ H QO) : L2.tPart (RO g E a) σ H QO := by
  obtain ⟨Z, ρ, st, q⟩ := q
  rw [h] at q
  have q : Oc g E σ Z H ρ ((evO g.mw a ρ).bind fun y r => match opdD r y with
    | some (.int i) => .ok (some i) r
    | _ => .st 32) _ := q
  refine ⟨Z, ρ, st, q.bnd.imp fun x Z1 H1 ρ1 n1 h1 v hv => ?_⟩
  split at h1
  · rename_i i e
    exact ⟨i, (hv.rv n1.nx.st e).int, h1.now n1.nx.st⟩
  · exact h1.elim
theorem end_opt (l : Option Int) : endO (optD l) = some l := by cases l <;> rfl
theorem re_slice (h : RE g E (.slice a b c) σ H Q) : L2.tSl (rSlD g.K) (RO g E a) (RPt g E b) (RPt g E c) σ H Q := by
  obtain ⟨Z, ρ, st, h⟩ := h
  simp only [ev] at h
  refine ⟨Z, ρ, st, h.bnd.imp fun x Z1 H1 ρ1 n1 h1 v hv => ?_⟩
  refine ⟨Z1, ρ1, n1.nx.st, h1.bnd.imp fun l Z2 H2 ρ2 n2 h2 => ?_⟩
  refine ⟨Z2, ρ2, n2.nx.st, h2.bnd.imp fun u Z3 H3 ρ3 n3 h3 => ?_⟩
  split at h3
  · rename_i d e
    obtain ⟨o, d', es, f⟩ := fin_ov n3.nx.st ((n1.trans n2).trans n3).back h3
    exact ⟨Z3, d, optD l, optD u, o, d', n3.nx.st.zd, ((hv.nx n2).nx n3).rn n3.nx.st e, end_opt l, end_opt u, es, f⟩
  · exact h3.elim
theorem re_rev (h : RE g E (.rev a) σ H Q) : tRevB g.K (RO g E a) σ H Q := by
  obtain ⟨Z, ρ, st, h⟩ := h
  simp only [ev] at h
  refine ⟨Z, ρ, st, h.bnd.imp fun x Z1 H1 ρ1 n1 h1 v hv => ?_⟩
  split at h1
  · rename_i d e
    obtain ⟨o, d', es, f⟩ := fin_ov n1.nx.st n1.back h1
    cases d <;> simp only [revSem] at es <;> cases es
    · obtain ⟨p, xs, ep, r, l, fl⟩ := (hv.rn n1.nx.st e).rv.list
      exact ⟨false, p, xs, ep, .inl r, f.lst n1.nx.st.zd fl.rev (by rw [List.length_reverse]; exact l)⟩
    · obtain ⟨p, xs, ep, r, l, fl⟩ := (hv.rn n1.nx.st e).rv.tuple
      exact ⟨true, p, xs, ep, r, f.tup n1.nx.st.zd fl.rev (by rw [List.length_reverse]; exact l)⟩
  · exact h1.elim
/-! an owned list changes -/
theorem own_upd {K : Fg} {Z : ZS} {ρ : Env} {k : Nat} {p : Ad} {d0 d1 : D} {s1 : Slot} {ob : HO} (st : Ss K Z H σ ρ) (ha : sg σ k = some (.ref p)) (h0 : (slotAt ρ k = .ow d0 ∧ s1 = .ow d1) ∨ (slotAt ρ k = .io d0 ∧ s1 = .io d1)) (w : Ow K Z (upd H p ob) p d1) (nt : ¬ isTbl ob) :
    Nxe K σ Z H ρ Z (upd H p ob) (setSlot ρ k s1) := by
  have ho : (slotAt ρ k).own = true := by rcases h0 with ⟨e, _⟩ | ⟨e, _⟩ <;> rw [e] <;> rfl
  have hs : s1.own = true := by rcases h0 with ⟨_, e⟩ | ⟨_, e⟩ <;> rw [e] <;> rfl
  have hod : Od σ ρ p := ⟨k, ho, ha⟩
  have nz : ¬ Z p := (st.od hod).1
  have zk : ∀ a, Z a → upd H p ob a = H a := fun a z => upd_ne fun q => nz (q ▸ z)
  have sr : SlotR K Z (upd H p ob) s1 (sg σ k) := by rcases h0 with ⟨_, e⟩ | ⟨_, e⟩ <;> rw [e, ha] <;> exact ⟨p, rfl, nz, w⟩
  have others : ∀ i, i ≠ k → SlotR K Z (upd H p ob) (slotAt ρ i) (sg σ i) := fun i ne => by
    have q := st.sl i
    have own : ∀ {a : Ad} {d : D}, (slotAt ρ i).own = true → sg σ i = some (.ref a) → Ow K Z H a d → Ow K Z (upd H p ob) a d := fun {a d} o e w =>
      w.keep (fun _ z => z) zk (upd_ne fun q => st.inj i k a ne o ho e (by rw [ha, q]))
    cases hq : slotAt ρ i with
    | no => trivial
    | fz d =>
      rw [hq] at q
      obtain ⟨v, e, f⟩ := q
      exact ⟨v, e, f.keep (fun _ z => z) zk⟩
    | ow d =>
      rw [hq] at q
      obtain ⟨a, e, nz, w⟩ := q
      exact ⟨a, e, nz, own (by rw [hq]; rfl) e w⟩
    | lk d =>
      rw [hq] at q
      obtain ⟨a, e, nz, w⟩ := q
      exact ⟨a, e, nz, own (by rw [hq]; rfl) e w⟩
    | io d =>
      rw [hq] at q
      obtain ⟨a, e, nz, w⟩ := q
      exact ⟨a, e, nz, own (by rw [hq]; rfl) e w⟩
  have nct : NoCT H p := by
    obtain ⟨p', d', e1, _, _, wo⟩ := (st.sl k).own ho
    rw [ha] at e1
    cases e1
    exact wo.nc
  have zd : Zd Z (upd H p ob) := fun a z => by
    rw [zk a z]
    exact st.zd a z
  refine ⟨⟨⟨fun _ z => z, fun _ z => .inl z, fun a u e _ no => ?_, fun a u e => ?_, fun P q _ t => tab_upd nct t⟩, ss_set st ho hs sr others zd (fun q hq => tab_upd nct (st.tb q hq)), fun a z => .inl ((od_set ho hs a).mp z), fun i e => ⟨?_, rfl⟩, fun i d e => ⟨?_, rfl⟩, rfl⟩, fun a z => (od_set ho hs a).mp z⟩
  · rw [upd_ne fun (q : a = p) => no (by rw [q]; exact hod)]
    exact e
  · by_cases q : a = p
    · subst q
      exact ⟨ob, upd_same⟩
    · exact ⟨u, by rw [upd_ne q]; exact e⟩
  · rw [slot_at_set (own_ne ho)]
    split
    · rename_i ei
      rw [ei] at e
      rcases h0 with ⟨e1, e2⟩ | ⟨e1, e2⟩
      · rw [e1] at e; cases e
      · rw [e2]; rfl
    · exact e
  · rw [slot_at_set (own_ne ho)]
    split
    · rename_i ei
      rw [ei] at e
      rcases h0 with ⟨e1, e2⟩ | ⟨e1, e2⟩ <;> (rw [e1] at e; cases e)
    · exact e
theorem own_lst {K : Fg} {Z : ZS} {ρ : Env} {k : Nat} {ds : List D} (st : Ss K Z H σ ρ) (h : slotAt ρ k = .ow (.list ds) ∨ slotAt ρ k = .io (.list ds)) : ∃ p xs, sg σ k = some (.ref p) ∧ ¬ Z p ∧ H p = some (.lst xs) ∧ xs.length ≤ szLine ∧ FzL K Z H ds xs := by
  have q := st.sl k
  rcases h with e | e <;> (rw [e] at q; obtain ⟨p, e1, nz, xs, r, l, f⟩ := q; exact ⟨p, xs, e1, nz, r, l, f⟩)
theorem zk_own {K : Fg} {Z : ZS} {ρ : Env} {k : Nat} {p : Ad} {ob : HO} (nz : ¬ Z p) : ∀ a, Z a → upd H p ob a = H a := fun a z => upd_ne fun q => nz (q ▸ z)
/-! methods -/
theorem ownL_of {s : Slot} (h : ownL s = true) : ∃ ds, s = .ow (.list ds) ∨ s = .io (.list ds) := by
  unfold ownL at h
  split at h
  · exact ⟨_, .inl rfl⟩
  · exact ⟨_, .inr rfl⟩
  · cases h
theorem re_append {i : Nat} (h : RE g E (.append i a) σ H Q) : L2.tBM g.K "list" L2.rAppend (L2.tVar i) (L2.tCons (RE g E a) L2.tNil) σ H Q := by
  obtain ⟨Z, ρ, st, h⟩ := h
  simp only [ev] at h
  split at h
  · rename_i ol
    obtain ⟨ds0, e0⟩ := ownL_of ol
    obtain ⟨p0, xs0, ep0, _, r0, _⟩ := own_lst st e0
    refine ⟨_, sg_some.mp ep0, .inl ⟨rfl, xs0, .inl (.inl r0)⟩, ?_⟩
    have h0 := h.bnd
    refine ⟨Z, ρ, st, ?_⟩
    cases ea : ev g.mw a ρ with
    | st n => rw [ea] at h0; exact h0
    | ex k as ρ1 => rw [ea] at h0; exact h0
    | ok w ρ1 =>
      rw [ea] at h0
      intro Z1 H1 n1 v vr
      obtain ⟨Z2, n2, fz⟩ := n1.freeze st vr
      have h2 := h0 Z2 H1 n2
      have fin : ∀ {ds : List D} {s1 : Slot}, ((slotAt ρ1 i = .ow (.list ds) ∧ s1 = .ow (.list (ds ++ [w.2]))) ∨ (slotAt ρ1 i = .io (.list ds) ∧ s1 = .io (.list (ds ++ [w.2])))) → ds.length < szLine →
          Oc g E σ Z2 H1 ρ1 (.ok (false, PyData.none) (setSlot ρ1 i s1)) (fun r Z' H' ρ' => ∀ v, VR g.K Z' H' H r.1 r.2 v → Q v H') → L2.rAppend (.ref p0) [v] H1 Q := fun {ds s1} hs hl ho => by
        obtain ⟨p, xs, ep, nz, r, l, f⟩ := own_lst n2.nx.st (hs.imp And.left And.left)
        rw [ep0] at ep
        cases ep
        have kp := zk_own (H := H1) (K := g.K) (ρ := ρ1) (k := i) (ob := .lst (xs ++ [v])) nz
        have n3 := own_upd (ob := .lst (xs ++ [v])) n2.nx.st ep0 hs ⟨xs ++ [v], upd_same, by rw [List.length_append, List.length_singleton, f.len]; omega, FzL.app (f.keep (fun _ z => z) kp) ⟨v, [], rfl, fz.keep (fun _ z => z) kp, rfl⟩⟩ (fun z => z)
        exact ⟨p0, xs, v, rfl, rfl, r, by rw [← szLine_eq, f.len]; exact hl, ho Z2 _ n3 .non rfl⟩
      simp only at h2
      split at h2
      · rename_i ds es
        split at h2
        · rename_i hl
          exact fin (.inl ⟨es, rfl⟩) hl h2
        · exact h2.elim
      · rename_i ds es
        split at h2
        · rename_i hl
          exact fin (.inr ⟨es, rfl⟩) hl h2
        · exact h2.elim
      · exact h2.elim
  · exact h.elim
theorem re_pop {i : Nat} (h : RE g E (.pop i) σ H Q) : L2.tBM0 g.K "list" L2.rPop (L2.tVar i) σ H Q := by
  obtain ⟨Z, ρ, st, h⟩ := h
  simp only [ev] at h
  have fin : ∀ {ds : List D} {d : D} {s1 : Slot}, ((slotAt ρ i = .ow (.list ds) ∧ s1 = .ow (.list ds.dropLast)) ∨ (slotAt ρ i = .io (.list ds) ∧ s1 = .io (.list ds.dropLast))) → ds.getLast? = some d →
      Oc g E σ Z H ρ (.ok (false, d) (setSlot ρ i s1)) (fun r Z' H' ρ' => ∀ v, VR g.K Z' H' H r.1 r.2 v → Q v H') → L2.tBM0 g.K "list" L2.rPop (L2.tVar i) σ H Q := fun {ds d s1} hs hl ho => by
    obtain ⟨p, xs, ep, nz, r, l, f⟩ := own_lst st (hs.imp And.left And.left)
    rw [List.getLast?_eq_getElem?] at hl
    obtain ⟨y, ey, fy⟩ := f.get (n := ds.length - 1) (by rw [getAt_eq]; exact hl)
    have kp := zk_own (H := H) (K := g.K) (ρ := ρ) (k := i) (ob := .lst xs.dropLast) nz
    have n3 := own_upd (ob := .lst xs.dropLast) st ep hs ⟨xs.dropLast, upd_same, by rw [List.length_dropLast]; omega, (f.keep (fun _ z => z) kp).dropLast⟩ (fun z => z)
    refine ⟨_, sg_some.mp ep, .inl ⟨rfl, xs, .inl (.inl r)⟩, p, xs, y, rfl, rfl, r, by rw [f.len]; exact ey, ho Z _ n3 y (fy.keep (fun _ z => z) kp)⟩
  split at h
  · rename_i ds es
    split at h
    · rename_i d ed
      exact fin (.inl ⟨es, rfl⟩) ed h
    · exact h.elim
  · rename_i ds es
    split at h
    · rename_i d ed
      exact fin (.inr ⟨es, rfl⟩) ed h
    · exact h.elim
  · exact h.elim
end
end MW
end
section
set_option Elab.async false
set_option linter.all false
set_option maxRecDepth 100000
set_option maxHeartbeats 2000000
/-! So14: places of items, repr. -/
namespace MW
open PySem PySem.Spec
open PyProof.Rows hiding St
open L2 (V Hp HO St upd upd_same upd_ne SqL SqT Rd Vals RelV Key kV ne_of_none VK XK TE TT TA TS TG TGs TI TO Ends PE PT PW PA PS PSs PG PGs PI PO OpR CallR MtR MtM IxR SlR Dp DpAll PSet Walk)
variable [Tbs]
section
variable {X : L2.Cx}
/-- t.index(x): the first place of an equal one, t a tuple -/
def rIndexT (K : Fg) : V → List V → Hp → VK → Prop := fun x xs H Q => ∃ (a : Addr) (y : V) (d : PyData) (ds : List PyData) (zs : List V) (j : Nat) (z : PyData), x = V.ref a ∧ xs = [y] ∧ SqT K H a zs ∧ DpAll K H zs ds ∧ Dp K H y d ∧
  PyData.canLayAll0 ds = true ∧ SeqAt.shaped d = true ∧ ds[j]? = some z ∧ PyData.eqv z d = true ∧ (∀ (m : Nat) (z' : PyData), m < j → ds[m]? = some z' → PyData.eqv z' d = false) ∧ Q (.int (j : Nat)) H
theorem mt_indexT (hu : X.A.units + 65 < cLine) : MtR X "tuple.index" (rIndexT X.K) := by
  intro pins s σ H x xs v us Q I rx rxs h
  obtain ⟨a, y, d, ds, zs, j, z, e1, e2, hs, ha, hy, hlay, sd, hz, hzj, hno, q⟩ := h
  subst e1
  subst e2
  obtain rfl : v = Value.ref a := rx
  obtain ⟨uy, eu, ry⟩ := L2.vals1 rxs
  subst eu
  obtain ⟨bs, r1⟩ := Dp.reads I d y uy hy ry
  have hroom : X.A.units + 1 + min (PyData.depthAll ds) d.depth < cLine := PyProof.Rows.room_in_shaped sd hu
  obtain ⟨its, rv, ⟨⟨cls, dd, data, sls⟩, ho, hc, n, hdt⟩, hlen⟩ := I.tuple hs
  simp only at hc hdt
  subst hc hdt
  obtain ⟨as, h4⟩ := Dp.readsAll I ds _ its ha rv
  have hn : its.length = ds.length := SeqAt.ReadsAll.length ds its as h4
  have hmap : its.map (SeqAt.readOf s.heap) = ds := SeqAt.readsAll_map ds its as hlay h4
  obtain ⟨hjd, _⟩ := List.getElem?_eq_some_iff.mp hz
  have hj : j < its.toArray.size := by
    rw [List.size_toArray]
    omega
  have at_ : ∀ (m : Nat) (hm : m < its.toArray.size) (z' : PyData), ds[m]? = some z' → SeqAt.readOf s.heap its.toArray[m] = z' := fun m hm z' hz' => by
    have hml : m < its.length := by simpa using hm
    rw [← hmap, List.getElem?_map, List.getElem?_eq_getElem hml] at hz'
    have e1 : SeqAt.readOf s.heap its[m] = z' := Option.some.inj (show some (SeqAt.readOf s.heap its[m]) = some z' from hz')
    simpa using e1
  refine call_meets PySem.F.slot_tuple_index ⟨_, ho, rfl⟩ PySem.F.entry_tuple_index (PySem.F.args_tuple_index_2 _ _) (TI.tuple_indexAt a its.toArray n dd sls uy (fun u => PyData.eqv (SeqAt.readOf s.heap u) d) j hj ?_ fun m hm hmj => ?_)
    ⟨ho, SeqAt.items_eqAt (vs := its.toArray) (show ReadsAll s.heap its.toArray.toList ds as from h4) r1 hlay (SeqAt.canLay_of_shaped sd) hroom, ⟨.int (j : Nat), H, I.tok _, ⟨_, rfl⟩, q⟩⟩
  · show PyData.eqv (SeqAt.readOf s.heap its.toArray[j]) d = true
    rw [at_ j hj z hz]
    exact hzj
  · have hmd : m < ds.length := by omega
    have hz' : ds[m]? = some ds[m] := List.getElem?_eq_getElem hmd
    show PyData.eqv (SeqAt.readOf s.heap its.toArray[m]) d = false
    rw [at_ m hm _ hz']
    exact hno m _ hmj hz'
/-- o.index(x): of a list, of a tuple whose object is known -/
def tIdx (K : Fg) (to : TE) (t : TA) : TE := fun σ H Q => to σ H fun x H1 => (∃ p xs, x = .ref p ∧ SqL K H1 p xs ∧ t σ H1 fun vs H2 => L2.rIndexD K x vs H2 Q) ∨
  ∃ p xs o, x = .ref p ∧ H1 p = some (.frz o (.tup xs)) ∧ o.cls = .type "tuple" ∧ o.dict = none ∧ t σ H1 fun vs H2 => rIndexT K x vs H2 Q
theorem pe_index {o e : Expr} {to : TE} {t : TA} {apos cpos : Pos} (hu : X.A.units + 65 < cLine) (ho : PE X o to) (ha : PA X [e] t)
    (hbase : attributeBase o "index" X.env (eval o X.env) = eval o X.env)
    (hfew : ((backTo cpos (starEach [e] X.env)).all (fun x => !x.1) && (backToKw cpos (keywordEach [] X.env)).all (fun x => x.1.isSome)
      && decide ([e].length + ([] : List Keyword).length + (if ([] : List Keyword).isEmpty then 0 else 1) < 30)) = true)
    (hline : (apos.endLine == cpos.line) = true) (hs : starEach [e] X.env = (false, eval e X.env) :: starEach [] X.env) (hplain : (backTo cpos (starEach [] X.env)).any (·.1) = false) :
    PE X (.Call (.Attribute o "index" apos) [e] [] cpos) (tIdx X.K to t) := by
  refine ⟨fun pins s σ H Q I h => ?_⟩
  refine wpAny_Call_method_late hbase hfew hline rfl (L2.thn (ho.run pins s σ H _ I h) fun v s1 ⟨x, H1, I1, r1, q1⟩ => ?_)
  have hA := fun R q => ha.run cpos pins s1 σ H1 R I1 q
  rw [hs] at hA ⊢
  have pl : (((false, eval e X.env) :: backTo cpos (starEach [] X.env)).any (·.1)) = false := by
    show (false || (backTo cpos (starEach [] X.env)).any (·.1)) = false
    rw [hplain]
    rfl
  rcases q1 with ⟨p, xs, ex, sq, q⟩ | ⟨p, xs, ob, ex, hp, oc, od, q⟩
  · obtain ⟨h1, h2⟩ := L2.tyV_is (T := "list") I1 r1 (by rw [ex]; exact .inl ⟨rfl, xs, sq⟩)
    refine ⟨"list", "list.index", F.plainAttrs_list, F.slot_list_index, F.type_list_index, h1, h2, ?_⟩
    refine Calls.callWith_builtin pl (Calls.evalArgs_plain ?_)
    exact L2.thn (hA _ q) fun us s2 ⟨vs, H2, I2, r2, q2⟩ => L2.mt_indexD hu pins s2 σ H2 x vs v us Q I2 r1 r2 q2
  · subst ex
    obtain rfl : v = Value.ref p := r1
    obtain ⟨ho', _⟩ : s1.heap.get? p = some ob ∧ L2.ObjOk X.prog X.w H1 s1.heap p (.tup xs) := I1.hok p _ hp
    refine ⟨"tuple", "tuple.index", F.plainAttrs_tuple, F.slot_tuple_index, F.type_tuple_index, ⟨ob, ho', oc⟩, fun a e => ?_, ?_⟩
    · cases e
      exact ⟨ob, ho', od⟩
    refine Calls.callWith_builtin pl (Calls.evalArgs_plain ?_)
    exact L2.thn (hA _ q) fun us s2 ⟨vs, H2, I2, r2, q2⟩ => mt_indexT hu pins s2 σ H2 (V.ref p) vs (Value.ref p) us Q I2 (show RelV (V.ref p) (Value.ref p) from rfl) r2 q2
/-! repr -/
mutual
theorem shown_len : ∀ (d : D) (n : Nat), shp n d = true → d.shown.length ≤ wt d
  | .none, _, _ => by
    rw [PyData.shown, wt]
    decide
  | .bool b, _, _ => by
    have e : (PyData.shown (.bool b)).length ≤ 5 := by cases b <;> decide
    rw [wt]
    exact e
  | .int i, _, _ => by
    have e := int_text_length_le (a := i) (k := i.natAbs.log2 + 1) (Nat.succ_pos _) (Nat.lt_succ_self _)
    rw [wt, wtI, PyData.shown]
    rw [show ((toString i : String) : Str).length = (toString i).length from PySem.ofString_length _]
    omega
  | .str x, n, h => by
    have h : PyData.strOk x = true := by
      cases n <;> simpa [shp] using h
    have hx : ∀ c ∈ x.cps.toList, c < 16 ^ 8 := fun c hc => by
      unfold PyData.strOk at h
      rw [Array.all_eq_true'] at h
      have := h c (by simpa using hc)
      have := of_decide_eq_true this
      omega
    have e := StrLaws.reprText_len x hx
    rw [PyData.shown, wt]
    omega
  | .list xs, n, h => by
    cases n with
    | zero => simp [shp] at h
    | succ n =>
      have h1 := shownA_len xs n (by simpa [shp] using h)
      have h2 := listText_len_le (PyData.shownAll xs)
      rw [PyData.shown, wt]
      omega
  | .tuple xs, n, h => by
    cases n with
    | zero => simp [shp] at h
    | succ n =>
      have h1 := shownA_len xs n (by simpa [shp] using h)
      have h2 := tupleText_len_le (PyData.shownAll xs)
      rw [PyData.shown, wt]
      omega
  | .dict _, n, h => by cases n <;> simp [shp] at h
theorem shownA_len : ∀ (ds : List D) (n : Nat), shpA n ds = true → ((PyData.shownAll ds).map (·.length)).sum + 2 * (PyData.shownAll ds).length ≤ wtA ds
  | [], _, _ => by
    rw [PyData.shownAll, wtA]
    decide
  | d :: ds, n, h => by
    rw [shpA, Bool.and_eq_true] at h
    have h1 := shown_len d n h.1
    have h2 := shownA_len ds n h.2
    rw [PyData.shownAll, wtA, List.map_cons, List.sum_cons, List.length_cons]
    omega
end
section
variable {K : Fg} {Z : ZS} {H : Hp}
mutual
theorem Fz.dpN : ∀ (d : D) (v : V), Fz K Z H d v → (∀ n, shp n (nrm d) = true → Dp K H v (nrm d))
  | .none, v, h, n, s => by
    have e : v = .non := h
    rw [e, nrm]
    exact .non
  | .bool b, v, h, _, _ => by
    have e : v = .bl b := h
    rw [e, nrm]
    exact .bl b
  | .int b, v, h, _, _ => by
    have e : v = .int b := h
    rw [e, nrm]
    exact .int b
  | .str b, v, h, _, _ => by
    rw [h.1, nrm]
    exact .str b
  | .list ds, v, h, n, s => by
    obtain ⟨a, xs, e, r, f⟩ := h
    rw [nrm] at s ⊢
    cases n with
    | zero => simp [shp] at s
    | succ n =>
      rw [e]
      exact .lst (.inl r.1.2) (FzL.dpN ds xs f n (by simpa [shp] using s))
  | .tuple ds, v, h, n, s => by
    obtain ⟨a, xs, e, r, f⟩ := h
    rw [nrm] at s ⊢
    cases n with
    | zero => simp [shp] at s
    | succ n =>
      rw [e]
      exact .tup r.sq (FzL.dpN ds xs f n (by simpa [shp] using s))
  | .dict kvs, v, h, n, s => by
    rw [nrm] at s ⊢
    cases q : rowL kvs with
    | none =>
      rw [q] at s
      cases n <;> simp [shp] at s
    | some ds =>
      rw [q] at s
      obtain ⟨a, xs, o, e, _, r, _, _, _, f⟩ := RV.row (.inl h) q
      cases n with
      | zero => simp [shp] at s
      | succ n =>
        rw [e]
        exact .tup (.inl (.inr ⟨o, r⟩)) (FzL.dp ds xs f n (by simpa [shp] using s))
theorem FzL.dpN : ∀ (ds : List D) (xs : List V), FzL K Z H ds xs → (∀ n, shpA n (nrmA ds) = true → DpAll K H xs (nrmA ds))
  | [], xs, h, _, _ => by
    have e : xs = [] := h
    rw [e, nrmA]
    exact .nil
  | d :: ds, xs, h, n, s => by
    obtain ⟨x, r, e, f, g⟩ := h
    rw [nrmA] at s ⊢
    rw [shpA, Bool.and_eq_true] at s
    rw [e]
    exact .cons (Fz.dpN d x f n s.1) (FzL.dpN ds r g n s.2)
end
theorem RN.dpN {d : D} {v : V} (h : RN K Z H d v) {n : Nat} (s : shp n (nrm d) = true) : Dp K H v (nrm d) := by
  rcases h with h | ⟨a, e, w⟩
  · exact h.dpN d v n s
  · cases d with
    | list ds =>
      obtain ⟨xs, r, l, f⟩ := w
      rw [nrm] at s ⊢
      cases n with
      | zero => simp [shp] at s
      | succ n =>
        rw [e]
        exact .lst (.inl (.inl r)) (f.dpN ds xs n (by simpa [shp] using s))
    | dict kvs =>
      rw [nrm] at s
      cases q : rowL kvs with
      | none =>
        rw [q] at s
        cases n <;> simp [shp] at s
      | some ds =>
        rcases w with ⟨ys, _, f⟩ | ⟨ys, _, f⟩
        · exact (f.norow q).elim
        · exact (f.norow q).elim
    | _ => exact w.elim
end
def rRepr (K : Fg) : List V → Hp → VK → Prop := fun xs H Q => ∃ x d, xs = [x] ∧ Dp K H x d ∧ d.showable = true ∧ SeqAt.shaped d = true ∧ d.shown.length ≤ sizeLine ∧ Q (.str d.shown) H
theorem cr_repr (hg : X.A.guards = some []) (hu : X.A.units + 65 < cLine) : CallR X (.builtin "repr") (rRepr X.K) := by
  intro pins s σ H xs us Q I rx h
  obtain ⟨x, d, e, dp, sh, sd, hz, q⟩ := h
  subst e
  obtain ⟨u, eu, ru⟩ := L2.vals1 rx
  subst eu
  obtain ⟨as, r⟩ := Dp.reads I d x u dp ru
  have hnd : d.hasDict = false := PyData.hasDict_of_canLay d (SeqAt.canLay_of_shaped sd)
  have hdep := SeqAt.depth_of_shaped sd
  have fin : ∀ (h' : Heap) (t : Tok) (tk : Nat), (∀ b o, s.heap.get? b = some o → h'.get? b = some o) → L2.EP X pins σ Q (.str d.shown t) { s with heap := h', toks := tk } := fun h' t tk hk =>
    ⟨.str d.shown, H, I.kept (t' := tk) hk, ⟨t, rfl⟩, q⟩
  cases d with
  | none => cases r; exact PySem.P.repr_of_none (fin s.heap _ _ fun _ _ e => e)
  | bool b => cases r; exact PySem.P.repr_of_bool (fin s.heap _ _ fun _ _ e => e)
  | int i => cases r; exact PySem.P.repr_of_int (by simpa [PyData.showable] using sh) (fin s.heap _ _ fun _ _ e => e)
  | str z => cases r; exact PySem.P.repr_of_str (fin s.heap _ _ fun _ _ e => e) (by simpa [PyData.shown] using hz)
  | list ds =>
    cases dp
    obtain rfl : u = _ := ru
    exact repr_of_reads' r sh (fun z => by rw [hnd] at z; cases z) hg (by omega) (fun _ _ e => e) (fun h' t tk hk => fin h' t tk hk) hz
  | tuple ds =>
    cases dp
    obtain rfl : u = _ := ru
    exact repr_of_reads' r sh (fun z => by rw [hnd] at z; cases z) hg (by omega) (fun _ _ e => e) (fun h' t tk hk => fin h' t tk hk) hz
  | dict ds => rw [PyData.hasDict] at hnd; cases hnd
end
section
variable {g : Ge} {E : XK} {σ : St} {H : Hp} {Q : VK} {a b c : MW.E}
theorem indexOf_spec (x : D) : ∀ (xs : List D) (n j : Nat), indexOf x xs n = some j → ∃ i z, j = n + i ∧ xs[i]? = some z ∧ PyData.eqv z x = true ∧ ∀ m z', m < i → xs[m]? = some z' → PyData.eqv z' x = false
  | [], n, j, h => by cases h
  | y :: r, n, j, h => by
    rw [indexOf] at h
    cases q : PyData.eqv y x with
    | true =>
      rw [q] at h
      cases h
      exact ⟨0, y, rfl, rfl, q, fun m z' hm => absurd hm (Nat.not_lt_zero _)⟩
    | false =>
      rw [q] at h
      obtain ⟨i, z, e1, e2, e3, e4⟩ := indexOf_spec x r (n + 1) j h
      refine ⟨i + 1, z, by omega, by simpa using e2, e3, fun m z' hm hz => ?_⟩
      cases m with
      | zero =>
        simp at hz
        rw [← hz]
        exact q
      | succ m => exact e4 m z' (by omega) (by simpa using hz)
theorem kind_list {d0 : D} {ds : List D} (h : kindD d0 = kindD (.list ds)) : ∃ es, d0 = .list es := by
  cases d0 <;> simp only [kindD] at h <;> try (cases h)
  · exact ⟨_, rfl⟩
  · split at h <;> cases h
theorem kind_row {d0 : D} {kvs : List (D × D)} {ds : List D} (e : rowL kvs = some ds) (h : kindD d0 = kindD (.dict kvs)) : ∃ es, d0 = .dict [(.none, .tuple es)] := by
  have h : kindD d0 = 3 := by
    rw [h]
    simp [kindD, e]
  cases d0 <;> simp only [kindD] at h <;> try (cases h)
  rename_i ks _
  cases q : rowL ks with
  | none => rw [q] at h; cases h
  | some es => exact ⟨es, by rw [row_eq q]⟩
theorem re_index (h : RE g E (.meth .index a (.cons b .nil)) σ H Q) : tIdx g.K (RO g E a) (L2.tCons (RO g E b) L2.tNil) σ H Q := by
  obtain ⟨Z, ρ, st, h⟩ := h
  simp only [ev] at h
  refine ⟨Z, ρ, st, h.bnd.imp fun x Z1 H1 ρ1 n1 h1 v hv => ?_⟩
  split at h1
  rotate_left
  · exact h1.elim
  rename_i d0 e0
  split at h1
  rotate_left
  · exact h1.elim
  rename_i mo
  simp only [evOs] at h1
  -- what comes behind the argument
  have arg : ∀ {R : List V → Hp → Prop}, (∀ Z2 H2 ρ2 y w, Nxe g.K σ Z1 H1 ρ1 Z2 H2 ρ2 → Held g.K σ Z2 H2 ρ2 y w →
      Oc g E σ Z2 H2 ρ2 (match opdD ρ2 x, opdsD ρ2 [y] with
        | some d, some ds => if kindD d0 = kindD d then ofOV 26 (methSem .index d ds) ρ2 else .st 26
        | _, _ => .st 27) (fun r Z' H' ρ' => ∀ v, VR g.K Z' H' H r.1 r.2 v → Q v H') → R [w] H2) → L2.tCons (RO g E b) L2.tNil σ H1 R := fun {R} k => by
    refine ⟨Z1, ρ1, n1.nx.st, h1.bnd.bnd.imp fun y Z2 H2 ρ2 n2 h2 w hw => ?_⟩
    exact k Z2 H2 ρ2 y w n2 hw ((h2.bnd.now n2.nx.st).now n2.nx.st)
  -- the kind is known ahead of the argument
  have core : ∀ {Z2 : ZS} {H2 : Hp} {ρ2 : Env} {y : Opd} {w : V} {R : Prop}, Nxe g.K σ Z1 H1 ρ1 Z2 H2 ρ2 → Held g.K σ Z2 H2 ρ2 y w →
      Oc g E σ Z2 H2 ρ2 (match opdD ρ2 x, opdsD ρ2 [y] with
        | some d, some ds => if kindD d0 = kindD d then ofOV 26 (methSem .index d ds) ρ2 else .st 26
        | _, _ => .st 27) (fun r Z' H' ρ' => ∀ v, VR g.K Z' H' H r.1 r.2 v → Q v H') →
      (∀ d dy ds j, RV g.K Z2 H2 d v → kindD d0 = kindD d → RN g.K Z2 H2 dy w → (d = .list ds ∨ (∃ kvs, d = .dict kvs ∧ rowL kvs = some ds)) → shp 60 dy = true → shpA 60 ds = true → indexOf dy ds 0 = some j → Q (.int (j : Nat)) H2 → R) → R := fun {Z2 H2 ρ2 y w R} n2 hw h2 k => by
    split at h2
    rotate_left
    · exact h2.elim
    rename_i d ds1 e1 e2
    split at h2
    rotate_left
    · exact h2.elim
    rename_i ek
    rw [opdsD] at e2
    cases q : opdV ρ2 y with
    | none => rw [q] at e2; cases e2
    | some dy =>
      rw [q] at e2
      cases e2
      obtain ⟨o, d', es, f⟩ := fin_ov n2.nx.st (n1.trans n2).back h2
      have rv := (hv.nx n2).rv n2.nx.st e1
      have rw_ := hw.rn n2.nx.st q
      cases d <;> simp only [methSem] at es <;> try (cases es)
      · rename_i ds
        split at es
        rotate_left
        · cases es
        rename_i hs
        rw [Bool.and_eq_true] at hs
        cases qi : indexOf dy ds 0 with
        | none => rw [qi] at es; cases es
        | some j =>
          rw [qi] at es
          cases es
          exact k _ dy ds j rv ek rw_ (.inl rfl) hs.1 hs.2 qi (f.int n2.nx.st.zd)
      · rename_i kvs
        split at es
        rotate_left
        · cases es
        rename_i ds er
        split at es
        rotate_left
        · cases es
        rename_i hs
        rw [Bool.and_eq_true] at hs
        cases qi : indexOf dy ds 0 with
        | none => rw [qi] at es; cases es
        | some j =>
          rw [qi] at es
          cases es
          exact k _ dy ds j rv ek rw_ (.inr ⟨kvs, rfl, er⟩) hs.1 hs.2 qi (f.int n2.nx.st.zd)
  by_cases kl : kindD d0 = 1
  · obtain ⟨es, e⟩ := kind_list (d0 := d0) (ds := []) (by rw [kl]; rfl)
    subst e
    obtain ⟨p, xs, ep, r, _⟩ := (hv.rv n1.nx.st e0).list
    refine .inl ⟨p, xs, ep, .inl r, arg fun Z2 H2 ρ2 y w n2 hw h2 => core n2 hw h2 fun d dy ds j rv ek rw_ hd s1 s2 hi fq => ?_⟩
    rcases hd with hd | ⟨kvs, hd, er⟩
    · subst hd
      obtain ⟨i, z, ej, hz, he, hno⟩ := indexOf_spec dy ds 0 j hi
      rw [Nat.zero_add] at ej
      subst ej
      exact ⟨p, w, dy, ds, j, z, ep, rfl, ep ▸ rv.dpL s2, rw_.rv.dp s1, shpL_ok s2, shp_ok s1, hz, he, hno, fq⟩
    · subst hd
      simp [kindD, er] at ek
  · refine .inr ?_
    have kr : kindD d0 = 3 := by
      have mo : (kindD d0 == 1 || kindD d0 == 3) = true := mo
      rw [Bool.or_eq_true, beq_iff_eq, beq_iff_eq] at mo
      exact mo.resolve_left kl
    obtain ⟨es, e⟩ := kind_row (d0 := d0) (kvs := [(.none, .tuple [])]) (ds := []) rfl (by rw [kr]; rfl)
    subst e
    obtain ⟨p, xs, o, ep, _, r, oc, od, _⟩ := (hv.rv n1.nx.st e0).row (ds := es) rfl
    refine ⟨p, xs, o, ep, r, oc, od, arg fun Z2 H2 ρ2 y w n2 hw h2 => core n2 hw h2 fun d dy ds j rv ek rw_ hd s1 s2 hi fq => ?_⟩
    rcases hd with hd | ⟨kvs, hd, er⟩
    · subst hd
      rw [kr] at ek
      cases ek
    · subst hd
      obtain ⟨p2, xs2, o2, ep2, _, r2, _, _, _, fl2⟩ := rv.row er
      obtain ⟨i, z, ej, hz, he, hno⟩ := indexOf_spec dy ds 0 j hi
      rw [Nat.zero_add] at ej
      subst ej
      have lay : PyData.canLayAll0 ds = true := (shpA_shaped ds 60 s2).1
      exact ⟨p2, w, dy, ds, xs2, j, z, ep2, rfl, .inl (.inr ⟨o2, r2⟩), FzL.dp ds xs2 fl2 60 s2, rw_.rv.dp s1, lay, shp_ok s1, hz, he, hno, fq⟩
/-- two texts -/
def rEqS : L2.R2 := fun x y H Q => ∃ i j : Str, x = .str i ∧ y = .str j ∧ Q (.bl (decide (i = j))) H
theorem op_eqS {X : L2.Cx} : OpR X (compareOp .Eq) rEqS := by
  intro pins s σ H x y v u Q I rx ry h
  obtain ⟨i, j, e1, e2, q⟩ := h
  subst e1 e2
  refine L2.op_eq pins s σ H _ _ v u Q I rx ry ⟨rfl, ?_⟩
  have : decide (V.str i = V.str j) = decide (i = j) := by
    by_cases e : i = j
    · simp [e]
    · have : ¬ V.str i = V.str j := fun z => e (V.str.inj z)
      simp [e, this]
  rw [this]
  exact q
theorem shw_of {o : Option D} {r r' : Env} {d : D} (h : shwR o r = .ok d r') : ∃ c, o = some c ∧ d = nrm c ∧ shwOk (nrm c) = true := by
  unfold shwR at h
  split at h
  · split at h
    · rename_i c hs
      cases h
      exact ⟨c, rfl, rfl, hs⟩
    · cases h
  · cases h
theorem shw_ex {o : Option D} {r r' : Env} {k : Nat} {as : List D} (h : shwR o r = .ex k as r') : False := by
  unfold shwR at h
  split at h
  · split at h <;> cases h
  · cases h
theorem shw_rd {K : Fg} {d : D} {v : V} {Z : ZS} {R : V → Hp → Prop} (r : RN K Z H d v) (h : shwOk (nrm d) = true) (q : R (.str (nrm d).shown) H) : rRepr K [v] H R := by
  unfold shwOk at h
  rw [Bool.and_eq_true, Bool.and_eq_true, decide_eq_true_eq] at h
  refine ⟨v, nrm d, rfl, r.dpN h.1.1, h.1.2, shp_ok h.1.1, ?_, q⟩
  rw [← szLine_eq]
  exact Nat.le_trans (shown_len _ 60 h.1.1) h.2
mutual
theorem same_is : ∀ (a b : D), PySem.Spec.same a b = true → a = b
  | .none, b, h => by cases b <;> simp [PySem.Spec.same] at h; rfl
  | .bool _, b, h => by cases b <;> simp [PySem.Spec.same] at h; rw [h]
  | .int _, b, h => by cases b <;> simp [PySem.Spec.same] at h; rw [h]
  | .str _, b, h => by cases b <;> simp [PySem.Spec.same] at h; rw [h]
  | .list xs, b, h => by
    cases b <;> simp [PySem.Spec.same] at h
    rw [sameA_is xs _ h]
  | .tuple xs, b, h => by
    cases b <;> simp [PySem.Spec.same] at h
    rw [sameA_is xs _ h]
  | .dict xs, b, h => by
    cases b <;> simp [PySem.Spec.same] at h
    rw [sameP_is xs _ h]
theorem sameA_is : ∀ (a b : List D), PySem.Spec.sameAll a b = true → a = b
  | [], b, h => by cases b <;> simp [PySem.Spec.sameAll] at h; rfl
  | x :: r, b, h => by
    cases b with
    | nil => simp [PySem.Spec.sameAll] at h
    | cons y t =>
      simp [PySem.Spec.sameAll] at h
      rw [same_is x y h.1, sameA_is r t h.2]
theorem sameP_is : ∀ (a b : List (D × D)), PySem.Spec.samePairs a b = true → a = b
  | [], b, h => by cases b <;> simp [PySem.Spec.samePairs] at h; rfl
  | (x, w) :: r, b, h => by
    cases b with
    | nil => simp [PySem.Spec.samePairs] at h
    | cons y t =>
      obtain ⟨y1, y2⟩ := y
      simp [PySem.Spec.samePairs] at h
      rw [same_is x y1 h.1.1, same_is w y2 h.1.2, sameP_is r t h.2]
end
theorem shwEq_is (a b : D) : shwEq a b = decide (a.shown = b.shown) := by
  unfold shwEq
  split
  · rename_i h
    rw [same_is a b h]
    simp
  · rfl
theorem re_same (h : RE g E (.same a b) σ H Q) : L2.tOp rEqS (L2.tCB (rRepr g.K) (L2.tCons (RO g E a) L2.tNil)) (L2.tCB (rRepr g.K) (L2.tCons (RO g E b) L2.tNil)) σ H Q := by
  obtain ⟨Z, ρ, st, h⟩ := h
  simp only [ev] at h
  refine ⟨Z, ρ, st, h.bnd.imp fun x Z1 H1 ρ1 n1 h1 v hv => ?_⟩
  have h1 := h1.bnd
  cases q1 : shwR (opdV ρ1 x) ρ1 with
  | st n => rw [q1] at h1; exact h1.elim
  | ex k as r => exact (shw_ex q1).elim
  | ok d1 r1 =>
    obtain ⟨c1, e1, e2, s1⟩ := shw_of q1
    have er : r1 = ρ1 := by
      unfold shwR at q1
      rw [e1] at q1
      simp only [s1, if_true] at q1
      cases q1
      rfl
    subst er e2
    rw [q1] at h1
    refine (shw_rd (R := fun x H1 => L2.tCB (rRepr g.K) (L2.tCons (RO g E b) L2.tNil) σ H1 fun y H2 => rEqS x y H2 Q) (hv.rn n1.nx.st e1) s1 ?_ : rRepr g.K [v] H1 _)
    have h2 := h1.now n1.nx.st
    refine ⟨Z1, r1, n1.nx.st, h2.bnd.imp fun y Z3 H3 ρ3 n3 h3 w hw => ?_⟩
    have h3 := h3.bnd
    cases q3 : shwR (opdV ρ3 y) ρ3 with
    | st n => rw [q3] at h3; exact h3.elim
    | ex k as r => exact (shw_ex q3).elim
    | ok d3 r3 =>
      obtain ⟨c3, e3, e4, s3⟩ := shw_of q3
      have er : r3 = ρ3 := by
        unfold shwR at q3
        rw [e3] at q3
        simp only [s3, if_true] at q3
        cases q3
        rfl
      subst er e4
      rw [q3] at h3
      refine (shw_rd (R := fun y H2 => rEqS (V.str (nrm c1).shown) y H2 Q) (hw.rn n3.nx.st e3) s3 ?_ : rRepr g.K [w] H3 _)
      refine ⟨_, _, rfl, rfl, ?_⟩
      have h4 := h3.now n3.nx.st
      rw [shwEq_is] at h4
      exact h4.now n3.nx.st _ rfl
end
end MW
end
section
set_option Elab.async false
set_option linter.all false
set_option maxRecDepth 100000
set_option maxHeartbeats 2000000
/-! So15: statements. -/
namespace MW
open PySem PySem.Spec
open PyProof.Rows hiding St
open L2 (V Hp HO St upd upd_same upd_ne SqL SqT Rd Vals RelV Key kV ne_of_none VK XK TE TT TA TS TG TGs TI TO TIp TSet Ends PE PT PW PA PS PSs PG PGs PI PO PIp OpR CallR MtR MtM IxR SlR Dp DpAll PSet Walk)
variable [Tbs]
/-- where a block goes -/
def FQ (K : Fg) (D : Ends) (σ : St) (H : Hp) (ρ : Env) : Flow → St → ZS → Hp → Env → Prop
  | .next, σ', _, H', _ => D.nx σ' H'
  | .cont, σ', _, H', _ => D.ct σ' H'
  | .brk, σ', _, H', _ => D.bk σ' H'
  | .ret o d, σ', Z', H', ρ' => ∀ v, VS K σ H ρ σ' Z' H' ρ' o d v → D.rt v H'
def RS (g : Ge) (E : XK) (s : MW.S) : TS := fun D σ H => ∃ Z ρ, Ss g.K Z H σ ρ ∧ OcS g E σ Z H ρ (ex g.mw s ρ) (FQ g.K D σ H ρ)
section
variable {K : Fg} {Z Z1 Z2 : ZS} {H H1 H2 : Hp} {σ σ1 σ2 : St} {ρ ρ1 ρ2 : Env} {o : Bool} {d : D} {v : V}
theorem VS.from (n : Nx K σ Z H ρ σ1 Z1 H1 ρ1) (h : VS K σ1 H1 ρ1 σ2 Z2 H2 ρ2 o d v) : VS K σ H ρ σ2 Z2 H2 ρ2 o d v := by
  unfold VS at h ⊢
  cases o with
  | false => exact h
  | true =>
    obtain ⟨a, e, nz, w, no, q⟩ := h
    refine ⟨a, e, nz, w, no, ?_⟩
    rcases q with q | q
    · exact n.ow a q
    · exact .inr (n.sp.none q)
theorem FQ.from {D : Ends} {fl : Flow} (n : Nx K σ Z H ρ σ1 Z1 H1 ρ1) (h : FQ K D σ H ρ fl σ2 Z2 H2 ρ2) : FQ K D σ1 H1 ρ1 fl σ2 Z2 H2 ρ2 := by
  cases fl with
  | ret o d => exact fun v q => h v (q.from n)
  | _ => exact h
end
section
variable {g : Ge} {E : XK} {σ : St} {H : Hp} {D : Ends} {a b c e : MW.E} {s u : MW.S} {Z : ZS} {ρ : Env}
/-- from a later state -/
theorem rs_from {Z1 : ZS} {H1 : Hp} {σ1 : St} {ρ1 : Env} (n : Nx g.K σ Z H ρ σ1 Z1 H1 ρ1) (h : OcS g E σ Z H ρ (ex g.mw s ρ1) (FQ g.K D σ H ρ)) : RS g E s D σ1 H1 :=
  ⟨Z1, ρ1, n.st, (h.from n).imp fun fl σ' Z' H' ρ' _ q => q.from n⟩
theorem rs_skip (h : RS g E .skip D σ H) : L2.tNext D σ H := by
  obtain ⟨Z, ρ, st, h⟩ := h
  simp only [ex] at h
  exact h.now (Nx.refl st)
theorem rs_brk (h : RS g E .brk D σ H) : L2.tBreak D σ H := by
  obtain ⟨Z, ρ, st, h⟩ := h
  simp only [ex] at h
  exact h.now (Nx.refl st)
theorem rs_cont (h : RS g E .cont D σ H) : L2.tCont D σ H := by
  obtain ⟨Z, ρ, st, h⟩ := h
  simp only [ex] at h
  exact h.now (Nx.refl st)
theorem rs_seq (h : RS g E (.seq s u) D σ H) : L2.tSeq (RS g E s) (RS g E u) D σ H := by
  obtain ⟨Z, ρ, st, h⟩ := h
  simp only [ex] at h
  refine ⟨Z, ρ, st, (h.run (Nx.refl st)).imp fun fl σ1 Z1 H1 ρ1 n ⟨_, q⟩ => ?_⟩
  cases fl with
  | next => exact rs_from n q
  | ret o d => exact q.now n
  | cont => exact q.now n
  | brk => exact q.now n
theorem rs_ite (h : RS g E (.ite c s u) D σ H) : L2.tIfS (RT g E c) (RS g E s) (RS g E u) D σ H := by
  obtain ⟨Z, ρ, st, h⟩ := h
  simp only [ex] at h
  refine ⟨Z, ρ, st, (h.ev (Nx.refl st)).imp fun t Z1 H1 ρ1 n ⟨_, q⟩ => ?_⟩
  cases t with
  | true => exact rs_from n.nx q
  | false => exact rs_from n.nx q
theorem rs_expr (h : RS g E (.expr e) D σ H) : L2.tDrop (RE g E e) D σ H := by
  obtain ⟨Z, ρ, st, h⟩ := h
  simp only [ex] at h
  exact ⟨Z, ρ, st, (h.ev (Nx.refl st)).imp fun w Z1 H1 ρ1 n ⟨_, q⟩ v _ => q.now n.nx⟩
theorem rs_asg {t : T} (h : RS g E (.asg t e) D σ H) : L2.tAsg (RE g E e) (gT g.K t) D σ H := by
  obtain ⟨Z, ρ, st, h⟩ := h
  simp only [ex] at h
  exact ⟨Z, ρ, st, (h.ev (Nx.refl st)).imp fun w Z1 H1 ρ1 n ⟨n1, q⟩ v vr => asg_ok q n1 (vr.vs (Nx.refl st) n) fun σ2 ρ2 n2 _ q2 => q2.now n2⟩
theorem rs_retN (h : RS g E .retn D σ H) : L2.tRetN D σ H := by
  obtain ⟨Z, ρ, st, h⟩ := h
  simp only [ex] at h
  exact h.now (Nx.refl st) .non rfl
def isVar : MW.E → Bool
  | .var _ => true
  | _ => false
theorem rs_ret (he : isVar e = false) (h : RS g E (.ret e) D σ H) : L2.tRet (RE g E e) D σ H := by
  obtain ⟨Z, ρ, st, h⟩ := h
  have eq : ex g.mw (.ret e) ρ = (ev g.mw e ρ).bind fun v r => .ok (.ret v.1 v.2) r := by
    cases e <;> first | (simp only [ex]; done) | cases he
  rw [eq] at h
  exact ⟨Z, ρ, st, (h.ev (Nx.refl st)).imp fun w Z1 H1 ρ1 n ⟨n1, q⟩ v vr => q.now n1 v (vr.vs (Nx.refl st) n)⟩
/-- a place that is given up -/
theorem slot_drop {K : Fg} {i : Nat} {d : MW.D} (st : Ss K Z H σ ρ) (hs : slotAt ρ i = .ow d) : Nx K σ Z H ρ σ Z H (setSlot ρ i .no) ∧ ∀ a, sg σ i = some (.ref a) → ¬ Od σ (setSlot ρ i .no) a := by
  have at_ := slot_at_set (ρ := ρ) (k := i) (s := .no) (by rw [hs]; exact fun z => nomatch z)
  have on : ∀ j, (slotAt (setSlot ρ i .no) j).own = true → j ≠ i ∧ (slotAt ρ j).own = true := fun j o => by
    rw [at_] at o
    split at o
    · cases o
    · rename_i ne
      exact ⟨ne, o⟩
  refine ⟨⟨Step.refl, ⟨by rw [set_len, st.len], fun j => ?_, fun j k a ne o1 o2 => st.inj j k a ne (on j o1).2 (on k o2).2, st.zd, st.tb⟩, fun a ⟨j, o, e⟩ => .inl ⟨j, (on j o).2, e⟩, fun j e => ⟨?_, rfl⟩, fun j c e => ⟨?_, rfl⟩, rfl⟩, fun a ea ⟨j, o, e⟩ => ?_⟩
  · rw [at_]
    split
    · trivial
    · exact st.sl j
  · rw [at_, if_neg fun z => by rw [z, hs] at e; cases e]
    exact e
  · rw [at_, if_neg fun z => by rw [z, hs] at e; cases e]
    exact e
  · obtain ⟨ne, o'⟩ := on j o
    exact st.inj j i a ne o' (by rw [hs]; rfl) e ea
theorem use_fz {K : Fg} {i : Nat} {w : Bool × MW.D} {ρ1 : Env} (h : useVar i ρ = .ok w ρ1) : w.1 = false := by
  unfold useVar at h
  split at h <;> cases h <;> rfl
/-- a name is used: its object is frozen from here on -/
theorem use_ok {K : Fg} {i : Nat} {w : Bool × MW.D} {ρ1 : Env} (st : Ss K Z H σ ρ) (h : useVar i ρ = .ok w ρ1) : ∃ v Z1, sg σ i = some v ∧ Nxe K σ Z H ρ Z1 H ρ1 ∧ Fz K Z1 H w.2 v := by
  have q := st.sl i
  unfold useVar at h
  split at h
  · rename_i d e
    cases h
    rw [e] at q
    obtain ⟨v, ev, f⟩ := q
    exact ⟨v, Z, ev, Nxe.refl st, f⟩
  · rename_i d e
    cases h
    rw [e] at q
    obtain ⟨a, ea, nz, wo⟩ := q
    have at_ := slot_at_set (ρ := ρ) (k := i) (s := .fz d) (by rw [e]; exact fun z => nomatch z)
    have on : ∀ j, (slotAt (setSlot ρ i (.fz d)) j).own = true → j ≠ i ∧ (slotAt ρ j).own = true := fun j o => by
      rw [at_] at o
      split at o
      · cases o
      · rename_i ne
        exact ⟨ne, o⟩
    have hz : ∀ b, Z b → Z b ∨ b = a := fun _ z => .inl z
    have hi : (slotAt ρ i).own = true := by rw [e]; rfl
    refine ⟨.ref a, fun b => Z b ∨ b = a, ea, ⟨⟨⟨hz, fun b z => ?_, fun _ _ e _ _ => e, fun _ u e => ⟨u, e⟩, fun _ _ _ t => t⟩, ⟨by rw [set_len, st.len], fun j => ?_, fun j k b ne o1 o2 => st.inj j k b ne (on j o1).2 (on k o2).2, fun b z => ?_, st.tb⟩, fun b ⟨j, o, eb⟩ => .inl ⟨j, (on j o).2, eb⟩, fun j ej => ⟨?_, rfl⟩, fun j c ej => ⟨?_, rfl⟩, rfl⟩, fun b ⟨j, o, eb⟩ => ⟨j, (on j o).2, eb⟩⟩, wo.frz⟩
    · rcases z with z | z
      · exact .inl z
      · exact .inr (.inl (z ▸ ⟨i, hi, ea⟩))
    · rw [at_]
      split
      · rename_i ej
        rw [ej]
        exact ⟨.ref a, ea, wo.frz⟩
      · rename_i ne
        have s := st.sl j
        have own : ∀ {b : Ad} {d : MW.D}, (slotAt ρ j).own = true → sg σ j = some (.ref b) → ¬ Z b → Ow K Z H b d → ¬ (Z b ∨ b = a) ∧ Ow K (fun c => Z c ∨ c = a) H b d := fun {b d} ho hb nb wb =>
          ⟨fun z => z.elim nb fun q => st.inj j i b ne ho hi hb (by rw [ea, q]), wb.keep hz (fun _ _ => rfl) rfl⟩
        cases hs : slotAt ρ j with
        | no => trivial
        | fz d =>
          rw [hs] at s
          obtain ⟨v, e, f⟩ := s
          exact ⟨v, e, f.keep hz fun _ _ => rfl⟩
        | ow d =>
          rw [hs] at s
          obtain ⟨b, e, n, w⟩ := s
          exact ⟨b, e, own (by rw [hs]; rfl) e n w⟩
        | lk d =>
          rw [hs] at s
          obtain ⟨b, e, n, w⟩ := s
          exact ⟨b, e, own (by rw [hs]; rfl) e n w⟩
        | io d =>
          rw [hs] at s
          obtain ⟨b, e, n, w⟩ := s
          exact ⟨b, e, own (by rw [hs]; rfl) e n w⟩
    · rcases z with z | z
      · exact st.zd b z
      · subst z
        exact wo.there
    · rw [at_, if_neg fun z => by rw [z, e] at ej; cases ej]
      exact ej
    · rw [at_, if_neg fun z => by rw [z, e] at ej; cases ej]
      exact ej
  · cases h
  · cases h
  · cases h
theorem re_var {i : Nat} {Q : VK} (h : RE g E (.var i) σ H Q) : L2.tVar i σ H Q := by
  obtain ⟨Z, ρ, st, h⟩ := h
  simp only [ev] at h
  cases q : useVar i ρ with
  | st n => rw [q] at h; exact h.elim
  | ex k as r => unfold useVar at q; split at q <;> cases q
  | ok w ρ1 =>
    rw [q] at h
    obtain ⟨v, Z1, ev, n, f⟩ := use_ok st q
    have e : w.1 = false := use_fz (K := g.K) q
    refine ⟨v, sg_some.mp ev, h Z1 H n v ?_⟩
    rw [e]
    exact f
theorem rs_retV {i : Nat} (h : RS g E (.ret (.var i)) D σ H) : L2.tRet (L2.tVar i) D σ H := by
  obtain ⟨Z, ρ, st, h⟩ := h
  simp only [ex] at h
  split at h
  · rename_i d hs
    have q := st.sl i
    rw [hs] at q
    obtain ⟨a, ea, nz, w⟩ := q
    obtain ⟨n, no⟩ := slot_drop st hs
    exact ⟨.ref a, sg_some.mp ea, h.now n (.ref a) ⟨a, rfl, nz, w, no a ea, .inl ⟨i, by rw [hs]; rfl, ea⟩⟩⟩
  · cases q : useVar i ρ with
    | st n => rw [q] at h; exact h.elim
    | ex k as r => unfold useVar at q; split at q <;> cases q
    | ok w ρ1 =>
      rw [q] at h
      obtain ⟨v, Z1, ev, n, f⟩ := use_ok st q
      have e : w.1 = false := use_fz (K := g.K) q
      have h : OcS g E σ Z H ρ (.ok (MW.Flow.ret w.1 w.2) ρ1) (FQ g.K D σ H ρ) := h
      refine ⟨v, sg_some.mp ev, h.now n.nx v ?_⟩
      rw [e]
      exact f
/-! loops -/
theorem rs_while {b : MW.S} (h : RS g E (.while_ c b) D σ H) : L2.tWhile (RT g E c) (RS g E b) D σ H := by
  obtain ⟨Z, ρ, st, h⟩ := h
  simp only [ex] at h
  refine ⟨fun m σ1 H1 => ∃ Z1 ρ1, Nx g.K σ Z H ρ σ1 Z1 H1 ρ1 ∧ OcS g E σ Z H ρ (loopW (evT g.mw c) (ex g.mw b) m ρ1) (FQ g.K D σ H ρ), ⟨g.mw.wf, Z, ρ, Nx.refl st, h⟩, fun m σ1 H1 ⟨Z1, ρ1, n, o⟩ => ?_⟩
  cases m with
  | zero =>
    simp only [loopW] at o
    exact o.elim
  | succ m =>
    simp only [loopW] at o
    refine ⟨Z1, ρ1, n.st, (o.ev n).imp fun t Z2 H2 ρ2 n2 ⟨n3, q⟩ => ?_⟩
    cases t with
    | true =>
      simp only [if_true] at q ⊢
      refine ⟨fun σ4 H4 => ∃ Z4 ρ4, Nx g.K σ Z H ρ σ4 Z4 H4 ρ4 ∧ OcS g E σ Z H ρ (loopW (evT g.mw c) (ex g.mw b) m ρ4) (FQ g.K D σ H ρ), fun σ' H' ⟨Z4, ρ4, n4, o4⟩ => ⟨m, Nat.lt_succ_self m, Z4, ρ4, n4, o4⟩, ?_⟩
      refine ⟨Z2, ρ2, n3.st, (q.run n3).imp fun fl σ5 Z5 H5 ρ5 n5 ⟨n6, q6⟩ => ?_⟩
      cases fl with
      | next => exact ⟨Z5, ρ5, n6, q6⟩
      | cont => exact ⟨Z5, ρ5, n6, q6⟩
      | brk => exact q6.now n6
      | ret o d => exact fun v vs => q6.now n6 v (vs.from n3)
    | false =>
      simp only [Bool.false_eq_true, if_false] at q ⊢
      exact q.now n3
theorem rs_for {t : T} {it : MW.It} {b : MW.S} (h : RS g E (.for_ t it b) D σ H) : L2.tFor (RI g E it) (gT g.K t) (RS g E b) D σ H := by
  obtain ⟨Z, ρ, st, h⟩ := h
  simp only [ex] at h
  refine ⟨Z, ρ, st, (h.ev (Nx.refl st)).imp fun p Z1 H1 ρ1 n1 ⟨n1', h1⟩ J wk => ?_⟩
  obtain ⟨lv, G, Y, lo, walk, hG, hY⟩ := wk.ex
  have S := strt_lock (l := p.2) n1.nx.st
  -- the turns, from where the loop starts
  have hL : OcS g E σ Z1 H1 (p.2.foldl lockO ρ1) (loopS (fun d r => (assignT t (false, d) r).bind fun _ r => ex g.mw b r) p.1 (p.2.foldl lockO ρ1)) fun fl σ' Z' H' ρ' =>
      FQ g.K D σ H ρ fl σ' Z' H' (p.2.foldl (unlockO ρ1) ρ') := by
    have un : ∀ {σ' : St} {Z' : ZS} {H' : Hp} {r : Env}, Nx g.K σ Z1 H1 (p.2.foldl lockO ρ1) σ' Z' H' r → Nx g.K σ Z H ρ σ' Z' H' (p.2.foldl (unlockO ρ1) r) := fun {σ' Z' H' r} n =>
      nx_unlock n1' ((n1'.trans (nx_lock (l := p.2) n1.nx.st).nx).trans n)
    cases q : loopS (fun d r => (assignT t (false, d) r).bind fun _ r => ex g.mw b r) p.1 (p.2.foldl lockO ρ1) with
    | st n => rw [q] at h1; exact h1
    | ex k as r =>
      rw [q] at h1
      exact fun σ' Z' H' n => h1 σ' Z' H' (un n)
    | ok fl r =>
      rw [q] at h1
      exact fun σ' Z' H' n => h1 σ' Z' H' (un n)
  clear h1
  generalize hs0 : p.2.foldl lockO ρ1 = ρs at S hL
  refine L2.for_it walk (fun i σ2 H2 => ∃ Z2 ρ2, Nx g.K σ Z1 H1 ρs σ2 Z2 H2 ρ2 ∧ OcS g E σ Z1 H1 ρs (loopS (fun d r => (assignT t (false, d) r).bind fun _ r => ex g.mw b r) (p.1.drop i) ρ2) fun fl σ' Z' H' ρ' =>
      FQ g.K D σ H ρ fl σ' Z' H' (p.2.foldl (unlockO ρ1) ρ')) ?_ ?_ ?_ ?_
  · exact ⟨Z1, ρs, Nx.refl S.st, by rw [List.drop_zero]; exact hL⟩
  · intro i σ2 H2 hi ⟨Z2, ρ2, n2, _⟩
    exact hG Z2 H2 (loop_all S n2 (fun x hx => hx) lo)
  · intro i x σ2 H2 H3 hi ⟨Z2, ρ2, n2, o⟩ y
    obtain ⟨d, Z3, ed, sp3, zd3, fx⟩ := hY i Z2 H2 x H3 hi n2.st.zd (loop_all S n2 (fun x hx => hx) lo) y
    have n3 := n2.trans (n2.st.pure sp3 zd3).nx
    have hd : p.1.drop i = d :: p.1.drop (i + 1) := by
      obtain ⟨hi', e'⟩ := List.getElem?_eq_some_iff.mp ed
      rw [List.drop_eq_getElem_cons hi', e']
    rw [hd] at o
    simp only [loopS] at o
    rw [Res.assoc] at o
    refine asg_ok (w := (false, d)) o n3 fx fun σ4 ρ4 n4 _ o4 => ⟨Z3, ρ4, n4.st, (o4.run n4).imp fun fl σ5 Z5 H5 ρ5 n5 ⟨n6, q6⟩ => ?_⟩
    cases fl with
    | next => exact ⟨Z5, ρ5, n6, q6⟩
    | cont => exact ⟨Z5, ρ5, n6, q6⟩
    | brk => exact q6.now n6
    | ret ow dd =>
      intro v vs
      have q6 := q6.now n6 v
      refine q6 ?_
      have vs := vs.from n4
      have ls := (nx_lock (l := p.2) n1.nx.st).nx
      rw [hs0] at ls
      have vs := vs.from (n1'.trans ls)
      unfold VS at vs ⊢
      cases ow with
      | false => exact vs
      | true =>
        obtain ⟨a, e, nz, w, no, k⟩ := vs
        refine ⟨a, e, nz, w, fun z => no ?_, k⟩
        obtain ⟨j, o1, o2⟩ := z
        rw [unlock_at] at o1
        refine ⟨j, ?_, o2⟩
        split at o1
        · rw [unS_own] at o1; exact o1
        · exact o1
  · intro σ2 H2 ⟨Z2, ρ2, n2, o⟩
    rw [List.drop_length] at o
    simp only [loopS] at o
    exact o.now n2
end
end MW
end
section
set_option Elab.async false
set_option linter.all false
set_option maxRecDepth 100000
set_option maxHeartbeats 2000000
/-! So16: constants, places of a module, two stores at once, op=, items. -/
namespace MW
open PySem PySem.Spec
open PyProof.Rows hiding St
open L2 (V Hp HO St upd upd_same upd_ne SqL SqT Rd Vals RelV Key kV ne_of_none VK XK TE TT TA TS TG TGs TI TO TIp TSet Ends PE PT PW PA PS PSs PG PGs PI PO PIp OpR CallR MtR MtM IxR SlR Dp DpAll PSet Walk)
variable [Tbs]
section
variable {g : Ge} {E : XK} {σ : St} {H : Hp} {D : Ends} {a b c e : MW.E} {s u : MW.S} {Z : ZS} {ρ : Env} {Q : VK}
/-- a written value -/
def scalV : MW.D → Option V
  | .none => some .non
  | .bool b => some (.bl b)
  | .int i => some (.int i)
  | .str s => if s.length ≤ szLine then some (.str s) else none
  | _ => none
theorem scal_fz {K : Fg} {d : MW.D} {v : V} (h : scalV d = some v) : Fz K Z H d v := by
  cases d <;> simp only [scalV] at h
  · cases h; rfl
  · cases h; rfl
  · cases h; rfl
  · split at h
    · rename_i l
      cases h
      exact ⟨rfl, l⟩
    · cases h
  · cases h
  · cases h
  · cases h
theorem re_const {d : MW.D} {v : V} (hv : scalV d = some v) (h : RE g E (.const d) σ H Q) : L2.tC v σ H Q := by
  obtain ⟨Z, ρ, st, h⟩ := h
  simp only [ev] at h
  exact h.now st v (scal_fz hv)
/-- a name of the module's -/
def GlobOk (K : Fg) (d : MW.D) (v : V) : Prop := ∀ Z H, (CT K Z H d v ∨ Fz K Z H d v) ∧ (isScal d = true → Fz K Z H d v)
theorem re_glob {i : Nat} {v : V} (hv : GlobOk g.K (g.mw.glob i) v) (h : RE g E (.glob i) σ H Q) : L2.tC v σ H Q := by
  obtain ⟨Z, ρ, st, h⟩ := h
  simp only [ev] at h
  split at h
  · rename_i hs
    exact h.now st v ((hv Z H).2 hs)
  · exact h.elim
theorem ro_glob {i : Nat} {v : V} (hv : GlobOk g.K (g.mw.glob i) v) (h : RO g E (.glob i) σ H Q) : L2.tC v σ H Q := by
  obtain ⟨Z, ρ, st, h⟩ := h
  simp only [evO] at h
  exact h.now st v (held_cst st (hv Z H).1 (hv Z H).2)

/-! two stores at once -/
theorem rs_par2 {i j : Nat} (h : RS g E (.par2 i j a b) D σ H) : L2.tPar i j (L2.tCons (RE g E a) (L2.tCons (RE g E b) L2.tNil)) D σ H := by
  obtain ⟨Z, ρ, st, h⟩ := h
  simp only [ex] at h
  refine ⟨Z, ρ, st, (h.ev (Nx.refl st)).imp fun w1 Z1 H1 ρ1 n1 ⟨n1', q1⟩ v vr => ?_⟩
  refine ⟨Z1, ρ1, n1.nx.st, (q1.ev n1').imp fun w2 Z2 H2 ρ2 n2 ⟨n2', q2⟩ u ur => ?_⟩
  -- the first value still stands
  have vr2 : VR g.K Z2 H2 H w1.1 w1.2 v := vr.nx n1.nx.st (fun a z => let ⟨_, u, e, _⟩ := st.od (n1.od a z); ⟨u, e⟩) n2.nx
  have vs1 : VS g.K σ H ρ σ Z2 H2 ρ2 w1.1 w1.2 v := vr2.vs (Nx.refl st) (n1.trans n2)
  have vs2 : VS g.K σ H ρ σ Z2 H2 ρ2 w2.1 w2.2 u := ur.vs n1' n2
  refine ⟨v, u, rfl, ?_⟩
  cases s1 : store i w1 ρ2 with
  | st n => rw [s1] at q2; exact q2.elim
  | ex k as r => unfold store at s1; split at s1 <;> cases s1
  | ok x ρ3 =>
    rw [s1] at q2
    obtain ⟨a1, a2, a3⟩ := store_ok s1
    have n3 := store_nx n2' a1 a2 vs1
    rw [← a3] at n3
    have q2 : OcS g E σ Z H ρ ((store j w2 ρ3).bind fun _ r => .ok .next r) (FQ g.K D σ H ρ) := q2
    cases s2 : store j w2 ρ3 with
    | st n => rw [s2] at q2; exact q2.elim
    | ex k as r => unfold store at s2; split at s2 <;> cases s2
    | ok x ρ4 =>
      rw [s2] at q2
      obtain ⟨b1, b2, b3⟩ := store_ok s2
      -- the second object is not the first
      have vs3 : VS g.K σ H ρ (σ.set i (some v)) Z2 H2 ρ3 w2.1 w2.2 u := by
        unfold VS at vs2 ⊢
        cases hw : w2.1 with
        | false => rw [hw] at vs2; exact vs2
        | true =>
          rw [hw] at vs2
          obtain ⟨p, e, nz, wo, no, k⟩ := vs2
          refine ⟨p, e, nz, wo, fun ⟨l, o1, o2⟩ => ?_, k⟩
          rw [a3, slot_set] at o1
          rw [sg_set] at o2
          have len : σ.length = ρ2.length := n2'.st.len
          rw [← len] at o1
          by_cases q : l = i ∧ i < σ.length
          · rw [if_pos q.1, if_pos q.2] at o1
            rw [if_pos q] at o2
            have ev := Option.some.inj o2
            cases h1 : w1.1 with
            | false => rw [h1] at o1; cases o1
            | true =>
              unfold VR at vr ur
              rw [h1] at vr
              rw [hw] at ur
              obtain ⟨p1, e1, _, w1', _⟩ := vr
              obtain ⟨p2, e2, _, _, f2⟩ := ur
              obtain ⟨ob, eo, _⟩ := w1'.there
              rw [e1] at ev
              rw [e] at e2
              cases ev
              cases e2
              rw [eo] at f2
              cases f2
          · rw [if_neg q] at o2
            refine no ⟨l, ?_, o2⟩
            by_cases ql : l = i
            · rw [if_pos ql] at o1
              split at o1
              · rename_i lt
                exact absurd ⟨ql, lt⟩ q
              · cases o1
            · rw [if_neg ql] at o1
              exact o1
      have n4 := store_nx n3 b1 b2 vs3
      rw [← b3] at n4
      have q2 : OcS g E σ Z H ρ (.ok .next ρ4) (FQ g.K D σ H ρ) := q2
      exact q2.now n4
/-! name op= e -/
def rIp (o : Op) : TIp := fun x y H Q => ∃ i j d, x = .int i ∧ y = .int j ∧ opSem o (.int i) (.int j) = some (false, d) ∧ ∀ k, d = .int k → Q (.int k) H
theorem ip_ok {X : L2.Cx} (o : Op) : PIp X (opA o) (rIp o) := by
  intro pins s σ H x y v u Q I r1 r2 h
  obtain ⟨i, j, d, e1, e2, es, q⟩ := h
  cases o <;> simp only [opSem] at es
  · cases es
    exact L2.iop_add pins s σ H x y v u Q I r1 r2 ⟨i, j, e1, e2, q _ rfl⟩
  · cases es
    exact L2.iop_sub pins s σ H x y v u Q I r1 r2 ⟨i, j, e1, e2, q _ rfl⟩
  · split at es
    · rename_i hm
      cases es
      unfold mulOk at hm
      rw [Bool.or_eq_true, decide_eq_true_eq, decide_eq_true_eq] at hm
      exact L2.iop_mul pins s σ H x y v u Q I r1 r2 ⟨i, j, e1, e2, (by unfold big64 at hm; unfold L2.CMul; omega), q _ rfl⟩
    · cases es
  · split at es
    · rename_i hm
      cases es
      exact L2.iop_fdiv pins s σ H x y v u Q I r1 r2 ⟨i, j, e1, e2, hm, q _ rfl⟩
    · cases es
  · split at es
    · rename_i hm
      cases es
      exact L2.iop_mod pins s σ H x y v u Q I r1 r2 ⟨i, j, e1, e2, hm, q _ rfl⟩
    · cases es
theorem op_int {o : Op} {i j : Int} {w : Bool} {d : MW.D} (h : opSem o (.int i) (.int j) = some (w, d)) : w = false ∧ ∃ k, d = .int k := by
  cases o <;> simp only [opSem] at h
  · cases h; exact ⟨rfl, _, rfl⟩
  · cases h; exact ⟨rfl, _, rfl⟩
  · split at h
    · cases h; exact ⟨rfl, _, rfl⟩
    · cases h
  · split at h
    · cases h; exact ⟨rfl, _, rfl⟩
    · cases h
  · split at h
    · cases h; exact ⟨rfl, _, rfl⟩
    · cases h
/-! o[i] = v -/
def rSetA (K : Fg) : TSet := fun o i v H Q => (∃ p xs k j, o = .ref p ∧ i = .int k ∧ H p = some (.lst xs) ∧ L2.ixN xs.length k = some j ∧ Q (upd H p (.lst (xs.set j v)))) ∨
  ∃ Z p kvs k d, o = .ref p ∧ DicAt K Z H p kvs ∧ RN K Z H k i ∧ kindOk k kvs = true ∧ kvs.length < szLine ∧ Fz K Z H d v ∧ ¬ Z p ∧ ∀ ob, DicAt K Z (upd H p ob) p (dPut k d kvs) → ¬ isTbl ob → Q (upd H p ob)
theorem upd_twice {H : Hp} {p : Ad} {x y : HO} : upd (upd H p x) p y = upd H p y := by
  funext b
  by_cases e : b = p
  · subst e
    rw [upd_same, upd_same]
  · rw [upd_ne e, upd_ne e, upd_ne e]
section
variable {K : Fg}
theorem FzK.any : ∀ {kvs : List (MW.D × MW.D)} {ys : List (Key × V)} (q : Key), FzK K Z H kvs ys → hasKey (kD q) kvs = ys.any fun kv => decide (kv.1 = q)
  | [], ys, q, h => by
    have e : ys = [] := h
    subst e
    rfl
  | (k, d0) :: r, ys, q, h => by
    obtain ⟨q0, x, t, e, ek, f, g⟩ := h
    subst e ek
    have ih := FzK.any q g
    unfold hasKey at ih ⊢
    rw [List.any_cons, List.any_cons, ih, eqv_kD]
theorem FzT.any : ∀ {kvs : List (MW.D × MW.D)} {ys : List (List Key × V)} (q : List Key), FzT K Z H kvs ys → hasKey (.tuple (q.map kD)) kvs = ys.any fun kv => decide (kv.1 = q)
  | [], ys, q, h => by
    have e : ys = [] := h
    subst e
    rfl
  | (k, d0) :: r, ys, q, h => by
    obtain ⟨q0, x, t, e, ek, f, g⟩ := h
    subst e ek
    have ih := FzT.any q g
    unfold hasKey at ih ⊢
    rw [List.any_cons, List.any_cons, ih, PyData.eqv, eqv_kDs]
theorem FzK.repl {d : MW.D} {v : V} (q : Key) (hv : Fz K Z H d v) : ∀ {kvs : List (MW.D × MW.D)} {ys : List (Key × V)}, FzK K Z H kvs ys → FzK K Z H (kvs.map fun p => if PyData.eqv p.1 (kD q) then (p.1, d) else p) (ys.map fun kv => if kv.1 = q then (kv.1, v) else kv)
  | [], ys, h => by
    have e : ys = [] := h
    subst e
    exact rfl
  | (k, d0) :: r, ys, h => by
    obtain ⟨q0, x, t, e, ek, f, g⟩ := h
    subst e ek
    rw [List.map_cons, List.map_cons]
    simp only [eqv_kD]
    by_cases hq : q0 = q
    · simp only [hq, decide_true, if_true]
      exact ⟨q, v, _, rfl, rfl, hv, FzK.repl q hv g⟩
    · simp only [hq, decide_false, Bool.false_eq_true, if_false]
      exact ⟨q0, x, _, rfl, rfl, f, FzK.repl q hv g⟩
theorem FzT.repl {d : MW.D} {v : V} (q : List Key) (hv : Fz K Z H d v) : ∀ {kvs : List (MW.D × MW.D)} {ys : List (List Key × V)}, FzT K Z H kvs ys → FzT K Z H (kvs.map fun p => if PyData.eqv p.1 (.tuple (q.map kD)) then (p.1, d) else p) (ys.map fun kv => if kv.1 = q then (kv.1, v) else kv)
  | [], ys, h => by
    have e : ys = [] := h
    subst e
    exact rfl
  | (k, d0) :: r, ys, h => by
    obtain ⟨q0, x, t, e, ek, f, g⟩ := h
    subst e ek
    rw [List.map_cons, List.map_cons]
    simp only [PyData.eqv, eqv_kDs]
    by_cases hq : q0 = q
    · simp only [hq, decide_true, if_true]
      exact ⟨q, v, _, rfl, rfl, hv, FzT.repl q hv g⟩
    · simp only [hq, decide_false, Bool.false_eq_true, if_false]
      exact ⟨q0, x, _, rfl, rfl, f, FzT.repl q hv g⟩
theorem FzK.snoc {d : MW.D} {v : V} (q : Key) (hv : Fz K Z H d v) : ∀ {kvs : List (MW.D × MW.D)} {ys : List (Key × V)}, FzK K Z H kvs ys → FzK K Z H (kvs ++ [(kD q, d)]) (ys ++ [(q, v)])
  | [], ys, h => by
    have e : ys = [] := h
    subst e
    exact ⟨q, v, [], rfl, rfl, hv, rfl⟩
  | (k, d0) :: r, ys, h => by
    obtain ⟨q0, x, t, e, ek, f, g⟩ := h
    subst e
    exact ⟨q0, x, _, rfl, ek, f, FzK.snoc q hv g⟩
theorem FzT.snoc {d : MW.D} {v : V} (q : List Key) (hv : Fz K Z H d v) : ∀ {kvs : List (MW.D × MW.D)} {ys : List (List Key × V)}, FzT K Z H kvs ys → FzT K Z H (kvs ++ [(.tuple (q.map kD), d)]) (ys ++ [(q, v)])
  | [], ys, h => by
    have e : ys = [] := h
    subst e
    exact ⟨q, v, [], rfl, rfl, hv, rfl⟩
  | (k, d0) :: r, ys, h => by
    obtain ⟨q0, x, t, e, ek, f, g⟩ := h
    subst e
    exact ⟨q0, x, _, rfl, ek, f, FzT.snoc q hv g⟩
theorem FzK.put {d : MW.D} {v : V} (q : Key) (hv : Fz K Z H d v) {kvs : List (MW.D × MW.D)} {ys : List (Key × V)} (h : FzK K Z H kvs ys) : FzK K Z H (dPut (kD q) d kvs) (L2.putK ys q v) := by
  unfold dPut L2.putK
  rw [h.any q]
  split
  · exact h.repl q hv
  · exact h.snoc q hv
theorem FzT.put {d : MW.D} {v : V} (q : List Key) (hv : Fz K Z H d v) {kvs : List (MW.D × MW.D)} {ys : List (List Key × V)} (h : FzT K Z H kvs ys) : FzT K Z H (dPut (.tuple (q.map kD)) d kvs) (L2.putK ys q v) := by
  unfold dPut L2.putK
  rw [h.any q]
  split
  · exact h.repl q hv
  · exact h.snoc q hv
end
theorem set_ok {X : L2.Cx} (hu : X.A.units + 65 < cLine) : PSet X (rSetA X.K) := by
  intro pins s σ H o i v ov iv u Q I ro ri rv h
  rcases h with h | ⟨Z, p, kvs, k, d, eo, hd, hk, ko, hl, fz, nz, q⟩
  · exact L2.set_list pins s σ H o i v ov iv u Q I ro ri rv h
  subst eo
  have kr := key_of hk (kind_key ko)
  have hz : ∀ {ob : HO} (a : Ad), Z a → upd H p ob a = H a := fun {ob} a z => upd_ne fun e => nz (e ▸ z)
  have lenK : ∀ {ys : List (Key × V)}, FzK X.K Z H kvs ys → ys.length < sizeLine := fun f => by rw [fzk_len f, ← szLine_eq]; exact hl
  have lenT : ∀ {ys : List (List Key × V)}, FzT X.K Z H kvs ys → ys.length < sizeLine := fun f => by rw [fzt_len f, ← szLine_eq]; exact hl
  obtain rfl : ov = Value.ref p := ro
  rcases hd with ⟨ys, ha, f⟩ | ⟨ys, ha, f⟩
  · cases kr with
    | k q0 => exact L2.d_setItem (by omega) I (L2.DPut.k ha (lenK f)) ri rv fun s' I' => ⟨_, I', q _ (.inl ⟨_, upd_same, (f.put q0 fz).keep (fun _ z => z) hz⟩) fun z => z⟩
    | t q0 b hb =>
      cases kvs with
      | cons p r =>
        obtain ⟨p1, p2⟩ := p
        obtain ⟨q1, x0, t0, e0, ek, _⟩ := f
        subst ek
        cases q1 <;> simp [kD, kindOk] at ko
      | nil =>
        have e : ys = [] := f
        subst e
        have hb' : upd H p (.dT []) b = some (.tup (q0.map kV)) := by
          rw [upd_ne (fun z => by rw [z, ha] at hb; cases hb)]
          exact hb
        have I2 := toT I ha
        refine L2.d_setItem (by omega) I2 (L2.DPut.t upd_same hb' (by rw [sizeLine_eq]; decide)) ri rv fun s' I' => ?_
        rw [upd_twice] at I'
        exact ⟨_, I', q _ (.inr ⟨_, upd_same, (FzT.put (kvs := []) (ys := []) q0 fz rfl).keep (fun _ z => z) hz⟩) fun z => z⟩
  · cases kr with
    | t q0 b hb => exact L2.d_setItem (by omega) I (L2.DPut.t ha hb (lenT f)) ri rv fun s' I' => ⟨_, I', q _ (.inr ⟨_, upd_same, (f.put q0 fz).keep (fun _ z => z) hz⟩) fun z => z⟩
    | k q0 =>
      cases kvs with
      | cons p r =>
        obtain ⟨p1, p2⟩ := p
        obtain ⟨q1, x0, t0, e0, ek, _⟩ := f
        subst ek
        cases q0 <;> simp [kD, kindOk] at ko
      | nil =>
        have e : ys = [] := f
        subst e
        have I2 := toK I ha
        refine L2.d_setItem (by omega) I2 (L2.DPut.k (k := q0) upd_same (by rw [sizeLine_eq]; decide)) ri rv fun s' I' => ?_
        rw [upd_twice] at I'
        exact ⟨_, I', q _ (.inl ⟨_, upd_same, (FzK.put (kvs := []) (ys := []) q0 fz rfl).keep (fun _ z => z) hz⟩) fun z => z⟩
theorem idx_lt {n : Nat} {i : Int} {j : Nat} (h : idxNat n i = some j) : j < n := by
  unfold idxNat at h
  split at h
  · split at h
    · cases h; omega
    · cases h
  · split at h
    · cases h; omega
    · cases h
theorem len_setAt : ∀ (ds : List MW.D) (j : Nat) (d : MW.D), (setAt ds j d).length = ds.length
  | [], _, _ => rfl
  | _ :: _, 0, _ => rfl
  | _ :: r, j + 1, d => by
    show (setAt r j d).length + 1 = r.length + 1
    rw [len_setAt r j d]
theorem rs_set {i : Nat} {ix : MW.E} (h : RS g E (.set i ix e) D σ H) : L2.tAsg (RE g E e) (L2.gSub (L2.tVar i) (RO g E ix) (rSetA g.K)) D σ H := by
  obtain ⟨Z, ρ, st, h⟩ := h
  simp only [ex] at h
  have h0 := h.ev (Nx.refl st)
  refine ⟨Z, ρ, st, ?_⟩
  cases ea : ev g.mw e ρ with
  | st n => rw [ea] at h0; exact h0
  | ex k as ρ1 => rw [ea] at h0; exact h0
  | ok w ρ1 =>
    rw [ea] at h0
    intro Z1 H1 n1 v vr
    obtain ⟨Z2, n2, fz⟩ := n1.freeze st vr
    obtain ⟨n2', q2⟩ := h0 Z2 H1 n2
    split at q2
    rotate_left
    · exact q2.elim
    rename_i hown
    obtain ⟨p, d0, ep, _, _, _⟩ := (n2.nx.st.sl i).own hown
    refine ⟨_, sg_some.mp ep, Z2, ρ1, n2.nx.st, (q2.ev n2').imp fun k Z3 H3 ρ3 n3 ⟨n3', q3⟩ kv hk => ?_⟩
    have fz3 := n3.nx.fz n2.nx.st fz
    split at q3
    rotate_left
    · exact q3.elim
    rename_i kd ek
    have rk := hk.rn n3.nx.st ek
    cases es : setItemS ρ3 i kd w.2 with
    | st n => rw [es] at q3; exact q3.elim
    | ex k as r =>
      unfold setItemS at es
      split at es <;> (first | (split at es <;> cases es) | cases es)
    | ok z ρ4 =>
      rw [es] at q3
      have q3 : OcS g E σ Z H ρ (.ok .next ρ4) (FQ g.K D σ H ρ) := q3
      -- a list
      have lst : ∀ {ds : List MW.D} {n : Int} {j : Nat} {s1 : Slot}, kd = .int n → ((slotAt ρ3 i = .ow (.list ds) ∧ s1 = .ow (.list (setAt ds j w.2))) ∨ (slotAt ρ3 i = .io (.list ds) ∧ s1 = .io (.list (setAt ds j w.2)))) → idxNat ds.length n = some j → ρ4 = setSlot ρ3 i s1 →
          rSetA g.K (.ref p) kv v H3 fun H4 => D.nx σ H4 := fun {ds n j s1} e1 hs hj e4 => by
        subst e1 e4
        obtain ⟨p', xs, ep', nz, r, l, f⟩ := own_lst n3.nx.st (hs.imp And.left And.left)
        rw [ep] at ep'
        cases ep'
        have kp := zk_own (H := H3) (K := g.K) (ρ := ρ3) (k := i) (ob := .lst (xs.set j v)) nz
        have n4 := own_upd (ob := .lst (xs.set j v)) n3.nx.st ep hs ⟨xs.set j v, upd_same, by rw [List.length_set]; exact l, FzL.set j (f.keep (fun _ z => z) kp) (fz3.keep (fun _ z => z) kp)⟩ (fun z => z)
        exact .inl ⟨p, xs, n, j, rfl, rk.rv.int, r, by rw [f.len, ← idxNat_eq]; exact hj, q3.now (n3'.trans n4.nx)⟩
      have dic : ∀ {kvs : List (MW.D × MW.D)} {s1 : Slot}, ((slotAt ρ3 i = .ow (.dict kvs) ∧ s1 = .ow (.dict (dPut kd w.2 kvs))) ∨ (slotAt ρ3 i = .io (.dict kvs) ∧ s1 = .io (.dict (dPut kd w.2 kvs)))) → (kindOk kd kvs && decide (kvs.length < szLine)) = true → ρ4 = setSlot ρ3 i s1 →
          rSetA g.K (.ref p) kv v H3 fun H4 => D.nx σ H4 := fun {kvs s1} hs hk2 e4 => by
        subst e4
        rw [Bool.and_eq_true, decide_eq_true_eq] at hk2
        have q : ¬ Z3 p ∧ DicAt g.K Z3 H3 p kvs := by
          have s := n3.nx.st.sl i
          rcases hs with ⟨e, _⟩ | ⟨e, _⟩ <;> (rw [e, ep] at s; obtain ⟨p', e1, nz, wo⟩ := s; cases e1; exact ⟨nz, wo⟩)
        exact .inr ⟨Z3, p, kvs, kd, w.2, rfl, q.2, rk, hk2.1, hk2.2, fz3, q.1, fun ob hd nt => q3.now (n3'.trans (own_upd (ob := ob) n3.nx.st ep hs hd nt).nx)⟩
      unfold setItemS at es
      split at es
      · rename_i e1
        split at es
        · rename_i ej
          cases es
          exact lst rfl (.inl ⟨e1, rfl⟩) ej rfl
        · cases es
      · rename_i e1
        split at es
        · rename_i ej
          cases es
          exact lst rfl (.inr ⟨e1, rfl⟩) ej rfl
        · cases es
      · rename_i e1
        split at es
        · rename_i hk2
          cases es
          exact dic (.inl ⟨e1, rfl⟩) hk2 rfl
        · cases es
      · rename_i e1
        split at es
        · rename_i hk2
          cases es
          exact dic (.inr ⟨e1, rfl⟩) hk2 rfl
        · cases es
      · cases es
end
end MW
end
section
set_option Elab.async false
set_option linter.all false
set_option maxRecDepth 100000
set_option maxHeartbeats 2000000
/-! So33: dict displays. -/
namespace MW
open PySem PySem.Spec
open PyProof.Rows hiding St
open L2 (V Hp HO St upd upd_same upd_ne SqL SqT Rd Vals RelV Key kV VK XK TE TT TA TS PE PA)
variable [Tbs]
def prs (g : Ge) (E : XK) : Es → List (TE × TE)
  | .cons (.tup (.cons k (.cons v .nil))) es => (RE g E k, RE g E v) :: prs g E es
  | _ => []
inductive PrsOk : Es → Prop where
  | nil : PrsOk .nil
  | cons (k v : MW.E) (es : Es) : PrsOk es → PrsOk (.cons (.tup (.cons k (.cons v .nil))) es)
def PsR (K : Fg) (Z : ZS) (H : Hp) : List D → List (V × V) → Prop
  | [], ps => ps = []
  | d :: r, ps => ∃ k e x y t, d = .tuple [k, e] ∧ ps = (x, y) :: t ∧ Fz K Z H k x ∧ Fz K Z H e y ∧ PsR K Z H r t
section
variable {g : Ge} {E : XK} {σ : St} {H : Hp} {Q : VK}
theorem PsR.nx {K : Fg} {Z Z1 : ZS} {H1 : Hp} {ρ ρ1 : Env} (st : Ss K Z H σ ρ) (n : Nxe K σ Z H ρ Z1 H1 ρ1) : ∀ {ds : List D} {ps : List (V × V)}, PsR K Z H ds ps → PsR K Z1 H1 ds ps
  | [], _, h => h
  | d :: r, _, h => by
    obtain ⟨k, e, x, y, t, e1, e2, f1, f2, g⟩ := h
    exact ⟨k, e, x, y, t, e1, e2, n.nx.fz st f1, n.nx.fz st f2, PsR.nx st n g⟩
theorem pairs_ok {p : Ad} {ob : HO} (nt : ¬ isTbl ob) (nw : ¬ NotOw ob) : ∀ {es : Es}, PrsOk es → ∀ {Z : ZS} {ρ : Env} {H : Hp} {K : List D → ZS → Hp → Env → Prop} {QP : List (V × V) → Hp → Prop}, Ss g.K Z H σ ρ → H p = some ob → ¬ Z p → ¬ Od σ ρ p → Oc g E σ Z H ρ (evs g.mw es ρ) K →
    (∀ ds Z2 H2 ρ2 ps, Nxe g.K σ Z H ρ Z2 H2 ρ2 → H2 p = some ob → ¬ Z2 p → ¬ Od σ ρ2 p → PsR g.K Z2 H2 ds ps → K ds Z2 H2 ρ2 → QP ps H2) → L2.tPairs (prs g E es) σ H QP := by
  intro es ok
  induction ok with
  | nil =>
    intro Z ρ H K QP st hp nz no h q
    simp only [evs] at h
    exact q [] Z H ρ [] (Nxe.refl st) hp nz no rfl (h.now st)
  | cons k v es ok ih =>
    intro Z ρ H K QP st hp nz no h q
    have eq : evs g.mw (.cons (.tup (.cons k (.cons v .nil))) es) ρ = (ev g.mw k ρ).bind fun x r1 => (ev g.mw v r1).bind fun y r2 => (evs g.mw es r2).bind fun xs r3 => .ok (.tuple [x.2, y.2] :: xs) r3 := by
      simp only [evs, ev, Res.assoc]
      rfl
    rw [eq] at h
    have step : ∀ {Z Z1 : ZS} {H H1 : Hp} {ρ ρ1 : Env}, Ss g.K Z H σ ρ → Nxe g.K σ Z H ρ Z1 H1 ρ1 → H p = some ob → ¬ Z p → ¬ Od σ ρ p → H1 p = some ob ∧ ¬ Z1 p ∧ ¬ Od σ ρ1 p := fun {Z Z1 H H1 ρ ρ1} st n hp nz no => by
      refine ⟨n.nx.sp.kp p _ hp nt no, fun z => ?_, fun z => no (n.od p z)⟩
      rcases n.nx.sp.dn p z with z | z | z
      · exact nz z
      · exact no z
      · exact nw (z _ hp)
    have h0 := h.bnd
    refine ⟨Z, ρ, st, ?_⟩
    cases ea : ev g.mw k ρ with
    | st n => rw [ea] at h0; exact h0
    | ex k as ρ1 => rw [ea] at h0; exact h0
    | ok r ρ1 =>
      rw [ea] at h0
      intro Z1 H1 n1 x xr
      obtain ⟨Z1', n1', fx⟩ := n1.freeze st xr
      have h1 := (h0 Z1' H1 n1').bnd
      obtain ⟨hp1, nz1, no1⟩ := step st n1' hp nz no
      refine ⟨Z1', ρ1, n1'.nx.st, ?_⟩
      cases eb : ev g.mw v ρ1 with
      | st n => rw [eb] at h1; exact h1
      | ex k as ρ2 => rw [eb] at h1; exact h1
      | ok w ρ2 =>
        rw [eb] at h1
        intro Z2 H2 n2 y yr
        obtain ⟨Z2', n2', fy⟩ := n2.freeze n1'.nx.st yr
        have h2 := (h1 Z2' H2 n2').bnd
        obtain ⟨hp2, nz2, no2⟩ := step n1'.nx.st n2' hp1 nz1 no1
        refine ih n2'.nx.st hp2 nz2 no2 h2 fun ds Z3 H3 ρ3 ps n3 hp3 nz3 no3 pr k3 => ?_
        have k4 := k3.now n3.nx.st
        refine q (.tuple [r.2, w.2] :: ds) Z3 H3 ρ3 ((x, y) :: ps) ((n1'.trans n2').trans n3) hp3 nz3 no3 ⟨_, _, x, y, ps, rfl, rfl, ?_, ?_, pr⟩ k4
        · exact n3.nx.fz n2'.nx.st (n2'.nx.fz n1'.nx.st fx)
        · exact n3.nx.fz n2'.nx.st fy
theorem psr_len {K : Fg} {Z : ZS} : ∀ {ds : List D} {ps : List (V × V)}, PsR K Z H ds ps → ps.length = ds.length
  | [], ps, h => by
    have e : ps = [] := h
    rw [e]
    rfl
  | d :: r, ps, h => by
    obtain ⟨_, _, _, _, t, _, e, _, _, g⟩ := h
    rw [e, List.length_cons, List.length_cons, psr_len g]
theorem pairs_fz {K : Fg} {Z : ZS} : ∀ {ds : List D} {ps : List (V × V)} {acc kvs : List (D × D)} {ys : List (Key × V)}, PsR K Z H ds ps → pairsK ds acc = some kvs → FzK K Z H acc ys →
    ∃ qs : List (Key × V), ps = qs.map (fun kv => (kV kv.1, kv.2)) ∧ FzK K Z H kvs (L2.mergeK ys qs)
  | [], ps, acc, kvs, ys, h, e, f => by
    have e1 : ps = [] := h
    cases e
    exact ⟨[], e1, f⟩
  | d :: r, ps, acc, kvs, ys, h, e, f => by
    obtain ⟨k, c, x, y, t, e1, e2, f1, f2, g⟩ := h
    subst e1
    cases k <;> simp only [pairsK] at e <;> try cases e
    · rename_i i
      have ex : x = V.int i := f1
      obtain ⟨qs, e3, f3⟩ := pairs_fz g e (FzK.put (.inl i) f2 f)
      exact ⟨(.inl i, y) :: qs, by rw [e2, e3, ex]; rfl, f3⟩
    · rename_i i
      have ex : x = V.str i := f1.1
      obtain ⟨qs, e3, f3⟩ := pairs_fz g e (FzK.put (.inr i) f2 f)
      exact ⟨(.inr i, y) :: qs, by rw [e2, e3, ex]; rfl, f3⟩
theorem re_disp {t : Bool} {es : Es} (hl : esLen es ≤ 15) (ok : PrsOk es) (h : RE g E (.dic t es) σ H Q) : L2.tDisp (prs g E es) σ H Q := by
  obtain ⟨Z, ρ, st, h⟩ := h
  simp only [ev] at h
  intro p hp
  have no : ¬ Od σ ρ p := fun z => by
    obtain ⟨u, eu, _⟩ := (st.od z).2
    rw [hp] at eu
    cases eu
  have nz : ¬ Z p := fun z => by
    obtain ⟨u, eu, _⟩ := st.zd p z
    rw [hp] at eu
    cases eu
  have n0 : Nxe g.K σ Z H ρ Z (upd H p (.dK [])) ρ := ⟨nx_upd (Nx.refl st) hp nz no (fun z => z) (.none hp), fun a z => z⟩
  have h0 := h.bnd
  have h1 : Oc g E σ Z (upd H p (.dK [])) ρ (evs g.mw es ρ) fun ds Z1 H1 ρ1 => Nxe g.K σ Z H ρ Z1 H1 ρ1 ∧ evs g.mw es ρ = .ok ds ρ1 := by
    cases e : evs g.mw es ρ with
    | st n => rw [e] at h0; exact h0
    | ex k as r => rw [e] at h0; exact fun Z1 H1 n => h0 Z1 H1 (n0.trans n)
    | ok ds r => exact fun Z1 H1 n => ⟨n0.trans n, rfl⟩
  refine pairs_ok (ob := .dK []) (fun z => z) (fun z => z) ok n0.nx.st upd_same nz no h1 fun ds Z2 H2 ρ2 ps n2 hp2 nz2 no2 pr ⟨n3, he⟩ => ⟨hp2, ?_⟩
  have hd := evs_len he
  rw [he] at h
  have o : Oc g E σ Z H ρ (match pairsK ds [] with
      | some kvs => .ok (true, .dict kvs) ρ2
      | none => .st 28) fun r Z' H' ρ' => ∀ v, VR g.K Z' H' H r.1 r.2 v → Q v H' := h
  cases q : pairsK ds [] with
  | none => rw [q] at o; exact o.elim
  | some kvs =>
    rw [q] at o
    obtain ⟨qs, e3, f3⟩ := pairs_fz pr q (show FzK g.K Z2 H2 [] [] from rfl)
    refine ⟨qs, e3, ?_, ?_⟩
    · have := psr_len pr
      rw [e3, List.length_map, hd] at this
      omega
    · have n5 := nx_upd (ob := .dK (L2.mergeK [] qs)) n3.nx hp nz2 no2 (fun z => z) (.dK hp2)
      have kp : ∀ a, Z2 a → upd H2 p (.dK (L2.mergeK [] qs)) a = H2 a := fun a z => upd_ne fun q => nz2 (q ▸ z)
      exact o Z2 _ ⟨n5, n3.od⟩ (.ref p) ⟨p, rfl, nz2, .inl ⟨_, upd_same, FzK.keep (fun _ z => z) kp _ _ f3⟩, hp⟩
end
end MW
end
section
set_option Elab.async false
set_option linter.all false
set_option maxRecDepth 100000
set_option maxHeartbeats 2000000
/-! So34: o[i] op= e, ints. -/
namespace MW
open PySem PySem.Spec
open PyProof.Rows hiding St
open L2 (V Hp HO St upd upd_same upd_ne SqL SqT Rd Vals RelV Key kV ne_of_none VK XK TE TT TA TS TG TGs TI TO TIp TSet Ends PE PT PW PA PS PSs PG PGs PI PO PIp OpR CallR MtR MtM IxR SlR Dp DpAll PSet Walk)
variable [Tbs]
/-- o[i] is an int -/
def rGetI (K : Fg) : V → V → Hp → VK → Prop := fun o i H Q => ∃ n, Q (.int n) H ∧ ((∃ p xs k, o = .ref p ∧ i = .int k ∧ Rd H p (.lst xs) ∧ L2.atI xs k = some (.int n)) ∨
  (∃ p xs k, o = .ref p ∧ i = .int k ∧ SqT K H p xs ∧ L2.atI xs k = some (.int n)) ∨
  ∃ Z p kvs k, o = .ref p ∧ DicAt K Z H p kvs ∧ RN K Z H k i ∧ kindOk k kvs = true ∧ dGet k kvs = some (.int n))
theorem get_ok {X : L2.Cx} (hu : X.A.units + 65 < cLine) : L2.PGet X (rGetI X.K) := by
  intro pins s σ H o i ov iv Q I ro ri h
  obtain ⟨n, q, h⟩ := h
  rcases h with ⟨p, xs, k, rfl, rfl, hq, he⟩ | ⟨p, xs, k, rfl, rfl, hq, he⟩ | ⟨Z, p, kvs, k, rfl, hd, hk, ko, hg⟩
  · obtain rfl : ov = Value.ref p := ro
    obtain ⟨t, rfl⟩ := ri
    obtain ⟨its, r, pl, hz⟩ := I.list (rd_sq hq)
    obtain ⟨j, h1, h2, h3, h4, h5⟩ := L2.atI_get he
    obtain ⟨w, ew, rw'⟩ := r.get h2
    have hl := r.length
    have hn := L2.line63
    have fin : L2.EP X pins σ Q w s := ⟨.int n, H, I, rw', q⟩
    by_cases h0 : 0 ≤ k
    · have hj : k.toNat = j := by
        rw [seqIndex_of h0 h5] at h1
        exact Option.some.inj h1
      exact wpAny_getItem_list pl.isList h0 (by omega) (by rw [hj]; simpa using ew) fin
    · have hj : (k + (its.toArray.size : Int)).toNat = j := by
        rw [seqIndex_neg (by omega) h4] at h1
        rw [List.size_toArray, ← hl]
        exact Option.some.inj h1
      exact wpAny_getItem_list_neg pl.isList (by omega) (by rw [List.size_toArray] <;> omega) (by omega) (by rw [hj]; simpa using ew) fin
  · obtain rfl : ov = Value.ref p := ro
    obtain ⟨t, rfl⟩ := ri
    obtain ⟨its, r, pl, hz⟩ := I.tuple hq
    obtain ⟨j, h1, h2, h3, h4, h5⟩ := L2.atI_get he
    obtain ⟨w, ew, rw'⟩ := r.get h2
    have hl := r.length
    have hn := L2.line63
    have fin : L2.EP X pins σ Q w s := ⟨.int n, H, I, rw', q⟩
    exact getItem_tuple (j := j) pl (by omega) (by omega) (by rw [List.size_toArray, ← hl]; exact h1) (by simpa using ew) fin
  · obtain rfl : ov = Value.ref p := ro
    obtain ⟨H2, o, I2, back, g, h1, h2⟩ := dic_get I hd hk ko
    obtain ⟨w, ew, fw⟩ := h1 _ hg
    subst ew
    have fw' : w = V.int n := fw
    subst fw'
    exact L2.d_getItem (by omega) I2 g ri fun w' s' I' rw' => ⟨.int n, H, back s' I', rw', q⟩
theorem key_fz {K : Fg} {Z : ZS} {H : Hp} {d : MW.D} {v : V} (h : RN K Z H d v) (ko : keyOk d = true) : Fz K Z H d v := by
  rcases h with h | ⟨a, _, w⟩
  · exact h
  · cases d <;> first | exact w.elim | cases ko
section
variable {g : Ge} {E : XK} {σ : St} {H : Hp} {D : Ends} {a b c e : MW.E} {s u : MW.S} {Z : ZS} {ρ : Env} {Q : VK}
/-- the last of a store into an item -/
theorem set_tail {i : Nat} {p : Ad} {kd d : MW.D} {kv v : V} {Z3 : ZS} {H3 : Hp} {ρ3 : Env} (n3' : Nx g.K σ Z H ρ σ Z3 H3 ρ3) (ep : sg σ i = some (.ref p)) (rk : RN g.K Z3 H3 kd kv) (fz3 : Fz g.K Z3 H3 d v)
    (q3 : OcS g E σ Z H ρ ((setItemS ρ3 i kd d).bind fun _ r => .ok .next r) (FQ g.K D σ H ρ)) : rSetA g.K (.ref p) kv v H3 fun H4 => D.nx σ H4 := by
  have st3 := n3'.st
  cases es : setItemS ρ3 i kd d with
  | st n => rw [es] at q3; exact q3.elim
  | ex k as r =>
    unfold setItemS at es
    split at es <;> (first | (split at es <;> cases es) | cases es)
  | ok z ρ4 =>
    rw [es] at q3
    have q3 : OcS g E σ Z H ρ (.ok .next ρ4) (FQ g.K D σ H ρ) := q3
    have lst : ∀ {ds : List MW.D} {n : Int} {j : Nat} {s1 : Slot}, kd = .int n → ((slotAt ρ3 i = .ow (.list ds) ∧ s1 = .ow (.list (setAt ds j d))) ∨ (slotAt ρ3 i = .io (.list ds) ∧ s1 = .io (.list (setAt ds j d)))) → idxNat ds.length n = some j → ρ4 = setSlot ρ3 i s1 →
        rSetA g.K (.ref p) kv v H3 fun H4 => D.nx σ H4 := fun {ds n j s1} e1 hs hj e4 => by
      subst e1 e4
      obtain ⟨p', xs, ep', nz, r, l, f⟩ := own_lst st3 (hs.imp And.left And.left)
      rw [ep] at ep'
      cases ep'
      have kp := zk_own (H := H3) (K := g.K) (ρ := ρ3) (k := i) (ob := .lst (xs.set j v)) nz
      have n4 := own_upd (ob := .lst (xs.set j v)) st3 ep hs ⟨xs.set j v, upd_same, by rw [List.length_set]; exact l, FzL.set j (f.keep (fun _ z => z) kp) (fz3.keep (fun _ z => z) kp)⟩ (fun z => z)
      exact .inl ⟨p, xs, n, j, rfl, rk.rv.int, r, by rw [f.len, ← idxNat_eq]; exact hj, q3.now (n3'.trans n4.nx)⟩
    have dic : ∀ {kvs : List (MW.D × MW.D)} {s1 : Slot}, ((slotAt ρ3 i = .ow (.dict kvs) ∧ s1 = .ow (.dict (dPut kd d kvs))) ∨ (slotAt ρ3 i = .io (.dict kvs) ∧ s1 = .io (.dict (dPut kd d kvs)))) → (kindOk kd kvs && decide (kvs.length < szLine)) = true → ρ4 = setSlot ρ3 i s1 →
        rSetA g.K (.ref p) kv v H3 fun H4 => D.nx σ H4 := fun {kvs s1} hs hk2 e4 => by
      subst e4
      rw [Bool.and_eq_true, decide_eq_true_eq] at hk2
      have q : ¬ Z3 p ∧ DicAt g.K Z3 H3 p kvs := by
        have s := st3.sl i
        rcases hs with ⟨e, _⟩ | ⟨e, _⟩ <;> (rw [e, ep] at s; obtain ⟨p', e1, nz, wo⟩ := s; cases e1; exact ⟨nz, wo⟩)
      exact .inr ⟨Z3, p, kvs, kd, d, rfl, q.2, rk, hk2.1, hk2.2, fz3, q.1, fun ob hd nt => q3.now (n3'.trans (own_upd (ob := ob) st3 ep hs hd nt).nx)⟩
    unfold setItemS at es
    split at es
    · rename_i e1
      split at es
      · rename_i ej
        cases es
        exact lst rfl (.inl ⟨e1, rfl⟩) ej rfl
      · cases es
    · rename_i e1
      split at es
      · rename_i ej
        cases es
        exact lst rfl (.inr ⟨e1, rfl⟩) ej rfl
      · cases es
    · rename_i e1
      split at es
      · rename_i hk2
        cases es
        exact dic (.inl ⟨e1, rfl⟩) hk2 rfl
      · cases es
    · rename_i e1
      split at es
      · rename_i hk2
        cases es
        exact dic (.inr ⟨e1, rfl⟩) hk2 rfl
      · cases es
    · cases es
theorem rs_augset {i : Nat} {ix : MW.E} {o : Op} (h : RS g E (.augset i ix o e) D σ H) : L2.tAugS (L2.tVar i) (RO g E ix) (RO g E e) (rGetI g.K) (rIp o) (rSetA g.K) D σ H := by
  obtain ⟨Z, ρ, st, h⟩ := h
  simp only [ex] at h
  split at h
  rotate_left
  · exact h.elim
  rename_i hset
  obtain ⟨v, hv⟩ := set_sg st hset
  refine ⟨v, sg_some.mp hv, Z, ρ, st, (h.ev (Nx.refl st)).imp fun k Z1 H1 ρ1 n1 ⟨n1', q1⟩ kv hk => ?_⟩
  split at q1
  rotate_left
  · exact q1.elim
  rename_i x kd e1 e2
  have hx : Held g.K σ Z1 H1 ρ1 (.ref i) v := held_ref hv
  have rx := hx.rn n1.nx.st e1
  have rk := hk.rn n1.nx.st e2
  split at q1
  rotate_left
  · exact q1.elim
  rename_i old ei ko
  have go : ∀ {p : Ad}, v = .ref p → RO g E e σ H1 fun y H4 => rIp o (.int old) y H4 fun z H5 => rSetA g.K v kv z H5 fun H6 => D.nx σ H6 := fun {p} ep => by
    refine ⟨Z1, ρ1, n1.nx.st, (q1.ev n1').imp fun y Z3 H3 ρ3 n3 ⟨n3', q3⟩ yv hy => ?_⟩
    split at q3
    rotate_left
    · exact q3.elim
    rename_i y' ey
    have ew := (hy.rn n3.nx.st ey).rv.int
    cases es : opSem o (.int old) (.int y') with
    | none => rw [es] at q3; exact q3.elim
    | some pr =>
      obtain ⟨ow, d⟩ := pr
      obtain ⟨w1, k', w2⟩ := op_int es
      subst w1 w2
      rw [es] at q3
      refine ⟨old, y', .int k', rfl, ew, es, fun k2 e' => ?_⟩
      cases e'
      rw [ep] at hv ⊢
      exact set_tail n3' hv (.inl (n3.nx.fz n1.nx.st (key_fz rk ko))) (show Fz g.K Z3 H3 (.int k') (V.int k') from rfl) q3
  cases x with
  | list ds =>
    cases kd <;> simp only [idxSem] at ei <;> try cases ei
    obtain ⟨p, xs, ep, r, l, fl⟩ := rx.rv.list
    obtain ⟨w, h1, h2⟩ := fl.at_ ei
    have hw : w = V.int old := h2
    subst hw
    exact ⟨old, go ep, .inl ⟨p, xs, _, ep, rk.rv.int, r, h1⟩⟩
  | tuple ds =>
    cases kd <;> simp only [idxSem] at ei <;> try cases ei
    obtain ⟨p, xs, ep, r, l, fl⟩ := rx.rv.tuple
    obtain ⟨w, h1, h2⟩ := fl.at_ ei
    have hw : w = V.int old := h2
    subst hw
    exact ⟨old, go ep, .inr (.inl ⟨p, xs, _, ep, rk.rv.int, r, h1⟩)⟩
  | str z =>
    cases kd <;> simp only [idxSem] at ei <;> try cases ei
    rename_i n
    cases hn : idxNat z.cps.size n with
    | none => rw [hn] at ei; cases ei
    | some m =>
      rw [hn] at ei
      simp only [Option.bind_some] at ei
      cases hc : z.cps[m]? with
      | none => rw [hc] at ei; cases ei
      | some c => rw [hc] at ei; cases ei
  | dict kvs =>
    simp only [idxSem] at ei
    split at ei
    · rename_i ds0 er
      cases kd <;> simp only at ei <;> try cases ei
      obtain ⟨p, xs, ob, ep, _, r, _, _, l, fl⟩ := rx.rv.row er
      obtain ⟨w, h1, h2⟩ := fl.at_ ei
      have hw : w = V.int old := h2
      subst hw
      exact ⟨old, go ep, .inr (.inl ⟨p, xs, _, ep, rk.rv.int, .inl (.inr ⟨ob, r⟩), h1⟩)⟩
    · split at ei
      · rename_i ko2
        obtain ⟨p, ep, hp⟩ := rx.rv.dict (row_no ko2)
        exact ⟨old, go ep, .inr (.inr ⟨Z1, p, kvs, kd, ep, hp, rk, ko2, ei⟩)⟩
      · cases ei
  | _ => cases kd <;> simp only [idxSem] at ei <;> cases ei
end
end MW
end
section
set_option Elab.async false
set_option linter.all false
set_option maxRecDepth 100000
set_option maxHeartbeats 2000000
/-! So35: name += list. -/
namespace MW
open PySem PySem.Spec
open PyProof.Rows hiding St
open L2 (V Hp HO St upd upd_same upd_ne SqL SqT Rd Vals RelV VK XK TE TT TA TS TIp Ends PIp OpR EP)
variable [Tbs]
/-- l += b of lists, b frozen or not -/
def rExtR : L2.R2 := fun x y H Q => ∃ l b xs zs, x = .ref l ∧ y = .ref b ∧ H l = some (.lst xs) ∧ Rd H b (.lst zs) ∧ xs.length + zs.length ≤ szLine ∧ Q (.ref l) (upd H l (.lst (xs ++ zs)))
theorem iop_extR {X : L2.Cx} : OpR X (inplaceOp .Add) rExtR := by
  intro pins s σ H x y v u Q I rx ry h
  obtain ⟨l, b, xs, zs, rfl, rfl, hH, hB, hz, q⟩ := h
  obtain rfl : v = Value.ref l := rx
  obtain rfl : u = Value.ref b := ry
  obtain ⟨_, its, n, r, hl, e⟩ := I.lstM hH
  obtain ⟨_, its2, n2, r2, hl2, e2⟩ := rd_lst I hB
  rw [szLine_eq] at hz
  have z1 : its.toArray.size + its2.toArray.size ≤ sizeLine := by
    rw [List.size_toArray, List.size_toArray]
    omega
  have z2 : ¬ (!its.toArray.isEmpty && Builtin.List.listTooLong (its.toArray.size + its2.toArray.size)) = true := by
    rw [L2.notLongL z1]
    simp
  have z3 := z1
  rw [List.size_toArray, List.size_toArray] at z3
  refine L2.iadd_road ⟨_, e, rfl⟩ ⟨_, e2, rfl⟩ (call_meets PySem.F.slot_list_iadd ⟨_, e, rfl⟩ PySem.F.entry_list_iadd (PySem.F.args_list_iadd_2 _ _)
    (AutoSeq1.list___iadd___list_list_0 l its.toArray n b its2.toArray n2 z2 (Nat.le_trans (Nat.le_add_right _ _) z1) (Nat.le_succ_of_le z1)) ⟨e, e2, ?_⟩)
  exact ⟨.ref l, _, I.lset (its' := its ++ its2) (t' := s.toks) hH e (by simp) (r.append r2) (by rw [List.length_append]; omega), rfl, q⟩
def rIpE (o : Op) : TIp := fun x y H Q => rIp o x y H Q ∨ (o = .add ∧ rExtR x y H Q)
theorem ip_okE {X : L2.Cx} (o : Op) : PIp X (opA o) (rIpE o) := by
  intro pins s σ H x y v u Q I r1 r2 h
  rcases h with h | ⟨e, h⟩
  · exact ip_ok o pins s σ H x y v u Q I r1 r2 h
  · subst e
    exact iop_extR pins s σ H x y v u Q I r1 r2 h
theorem sg_self {σ : St} {i : Nat} {v : V} (h : sg σ i = some v) : σ.set i (some v) = σ := by
  have h := sg_some.mp h
  refine List.ext_getElem? fun j => ?_
  rw [List.getElem?_set]
  by_cases e : i = j
  · subst e
    obtain ⟨l, e2⟩ := List.getElem?_eq_some_iff.mp h
    rw [if_pos rfl, if_pos l, h]
  · rw [if_neg e]
section
variable {g : Ge} {E : XK} {σ : St} {H : Hp} {D : Ends} {e : MW.E}
theorem rs_augE {i : Nat} {o : Op} (h : RS g E (.aug i o e) D σ H) : L2.tAug i (RO g E e) (rIpE o) D σ H := by
  obtain ⟨Z, ρ, st, h⟩ := h
  simp only [ex] at h
  split at h
  rotate_left
  · exact h.elim
  rename_i hset
  obtain ⟨v, hv⟩ := set_sg st hset
  refine ⟨v, sg_some.mp hv, Z, ρ, st, (h.ev (Nx.refl st)).imp fun y Z1 H1 ρ1 n1 ⟨n1', q1⟩ w hw => ?_⟩
  have hx : Held g.K σ Z1 H1 ρ1 (.ref i) v := held_ref hv
  split at q1
  · rename_i x y' e1 e2
    refine .inl ?_
    have ev := (hx.rn n1.nx.st e1).rv.int
    have ew := (hw.rn n1.nx.st e2).rv.int
    cases es : opSem o (.int x) (.int y') with
    | none => rw [es] at q1; exact q1.elim
    | some p =>
      obtain ⟨ow, d⟩ := p
      obtain ⟨h1, k, h2⟩ := op_int es
      subst h1 h2
      rw [es] at q1
      have q1 : OcS g E σ Z H ρ ((store i (false, .int k) ρ1).bind fun _ r => .ok .next r) (FQ g.K D σ H ρ) := q1
      refine ⟨x, y', .int k, ev, ew, es, fun k' e' => ?_⟩
      cases e'
      cases s1 : store i (false, .int k) ρ1 with
      | st n => rw [s1] at q1; exact q1.elim
      | ex k as r => unfold store at s1; split at s1 <;> cases s1
      | ok z ρ3 =>
        rw [s1] at q1
        obtain ⟨a1, a2, a3⟩ := store_ok s1
        have n3 := store_nx (o := false) (d := .int k) (v := .int k) n1' a1 a2 rfl
        rw [a3] at q1
        exact q1.now n3
  · rename_i xs ys e1 e2
    unfold augL at q1
    split at q1
    rotate_left
    · exact q1.elim
    rename_i hc
    obtain ⟨ho, hl⟩ := hc
    obtain ⟨b, zs, ew, rw', lw, fw⟩ := (hw.rn n1.nx.st e2).rv.list
    have go : ∀ {s1 : Slot}, ((slotAt ρ1 i = .ow (.list xs) ∧ s1 = .ow (.list (xs ++ ys))) ∨ (slotAt ρ1 i = .io (.list xs) ∧ s1 = .io (.list (xs ++ ys)))) → OcS g E σ Z H ρ (.ok .next (setSlot ρ1 i s1)) (FQ g.K D σ H ρ) → rIpE o v w H1 fun z H2 => D.nx (σ.set i (some z)) H2 := fun {s1} hs q => by
      obtain ⟨p, us, ep, nz, r, l, f⟩ := own_lst n1.nx.st (hs.imp And.left And.left)
      rw [hv] at ep
      have ev : v = .ref p := Option.some.inj ep
      have hl2 : us.length + zs.length ≤ szLine := by rw [f.len, fw.len]; exact hl
      have kp := zk_own (H := H1) (K := g.K) (ρ := ρ1) (k := i) (ob := .lst (us ++ zs)) nz
      have n4 := own_upd (ob := .lst (us ++ zs)) n1.nx.st (hv.trans ep) hs ⟨us ++ zs, upd_same, by rw [List.length_append]; exact hl2, FzL.app (f.keep (fun _ z => z) kp) (fw.keep (fun _ z => z) kp)⟩ (fun z => z)
      have fin := q.now (n1'.trans n4.nx)
      refine .inr ⟨ho, p, b, us, zs, ev, ew, r, rw', hl2, ?_⟩
      show D.nx (σ.set i (some (V.ref p))) _
      rw [sg_self (hv.trans ep)]
      exact fin
    have sl : opdD ρ1 (.ref i) = some (.list xs) := e1
    cases hs : slotAt ρ1 i with
    | no => rw [hs] at q1; exact q1.elim
    | fz d => rw [hs] at q1; exact q1.elim
    | lk d => rw [hs] at q1; exact q1.elim
    | ow d =>
      simp only [opdD, hs, Option.some.injEq] at sl
      subst sl
      rw [hs] at q1
      exact go (.inl ⟨hs, rfl⟩) q1
    | io d =>
      simp only [opdD, hs, Option.some.injEq] at sl
      subst sl
      rw [hs] at q1
      exact go (.inr ⟨hs, rfl⟩) q1
  · exact q1.elim
end
end MW
end
section
set_option Elab.async false
set_option linter.all false
set_option maxRecDepth 100000
set_option maxHeartbeats 2000000
/-! So36: towards comprehensions of two loops (leaned on by So37). -/
namespace MW
open PySem PySem.Spec
open PyProof.Rows hiding St
open L2 (V Hp HO St wipe wipe_length wipe_some wipe_out)
variable [Tbs]
section
variable {K : Fg} {σ σ1 σ2 : St} {Z Z1 : ZS} {H H1 : Hp} {ρ ρ1 ρ2 : Env} {vs l : List Nat} {t : T} {o : Bool}
/-- a target that is a part of what the block sets -/
theorem wipe_part (h : AsgR l o (wipe σ vs) ρ1 σ2 ρ2) (hs : ∀ i, i ∈ l → i ∈ vs) : wipe σ2 vs = wipe σ vs := by
  refine List.ext_getElem? fun i => ?_
  have hl : σ2.length = σ.length := by rw [h.len, wipe_length]
  by_cases e : i ∈ vs
  · by_cases l : i < σ.length
    · rw [wipe_in (by rw [hl]; exact l) e, wipe_in l e]
    · rw [List.getElem?_eq_none (by rw [wipe_length]; omega), List.getElem?_eq_none (by rw [wipe_length]; omega)]
  · rw [wipe_out e]
    exact (h.out i fun z => e (hs i z)).1
/-- some of the block's places are wiped -/
theorem nx_wipeP (n : Nx K σ Z H ρ σ1 Z1 H1 ρ1) (hv : ∀ i, i ∈ vs ↔ i ∈ tSlots t) (h0 : ∀ i ∈ tSlots t, slotAt ρ i = .no) : Nx K σ Z H ρ (wipe σ1 vs) Z1 H1 (wipeT t ρ1) := by
  obtain ⟨s1, od1⟩ := ss_wipe n.st hv
  have far : ∀ i, slotAt ρ i ≠ .no → i ∉ tSlots t := fun i q z => q (h0 i z)
  refine ⟨n.sp, s1, fun a z => n.ow a (od1 a z), fun i q => ?_, fun i c q => ?_, by rw [wipe_length]; exact n.ln⟩
  · have hi : i ∉ tSlots t := far i fun z => by rw [z] at q; cases q
    rw [wipeT_at, if_neg hi, sg_wipe, if_neg fun z => hi ((hv i).mp z)]
    exact n.io i q
  · have hi : i ∉ tSlots t := far i fun z => by rw [z] at q; cases q
    rw [wipeT_at, if_neg hi, sg_wipe, if_neg fun z => hi ((hv i).mp z)]
    exact n.lk i c q
/-- wiping again what is wiped -/
theorem wipe_wipe {vs1 : List Nat} (hs : ∀ i, i ∈ vs1 → i ∈ vs) : wipe (wipe σ vs1) vs = wipe σ vs := by
  refine List.ext_getElem? fun i => ?_
  by_cases e : i ∈ vs
  · by_cases l : i < σ.length
    · rw [wipe_in (by rw [wipe_length]; exact l) e, wipe_in l e]
    · rw [List.getElem?_eq_none (by rw [wipe_length, wipe_length]; omega), List.getElem?_eq_none (by rw [wipe_length]; omega)]
  · rw [wipe_out e, wipe_out e, wipe_out fun z => e (hs i z)]
end
end MW
end
section
set_option Elab.async false
set_option linter.all false
set_option maxRecDepth 100000
set_option maxHeartbeats 2000000
/-! So37: comprehensions of two loops. -/
namespace MW
open PySem PySem.Spec
open PyProof.Rows hiding St
open L2 (V Hp HO St upd upd_same upd_ne SqL SqT Rd Vals RelV Key kV ne_of_none VK XK TE TT TA TS TG TGs TI Ends PE PT PW PA PS PSs PG PGs PI OpR CallR MtR IxR SlR Dp DpAll PSet Walk wipe wipe_length wipe_some wipe_out)
variable [Tbs]
section
variable {K : Fg} {σ σ1 σ2 : St} {Z Z1 Z2 : ZS} {H H1 H2 : Hp} {ρ ρ1 ρ2 : Env} {vs l : List Nat} {t : T} {o : Bool}
/-- the heap without one object -/
def del (H : Hp) (p : Ad) : Hp := fun a => if a = p then none else H a
theorem del_same {p : Ad} : del H p p = none := if_pos rfl
theorem del_ne {p a : Ad} (h : a ≠ p) : del H p a = H a := if_neg h
theorem tab_del {p P : Ad} {q : Str} (n : NoCT H p) (t : LamX.TabS H P q) : LamX.TabS (del H p) P q := by
  obtain ⟨ps, h1, h2, h3⟩ := t
  have ne : P ≠ p := fun e => n.2 ps (e ▸ h1)
  refine ⟨ps, by rw [del_ne ne]; exact h1, h2, fun pos cv hc => ?_⟩
  obtain ⟨c, e1, e2⟩ := h3 pos cv hc
  have nc : c ≠ p := fun e => n.1 q (e ▸ e2)
  exact ⟨c, e1, by rw [del_ne nc]; exact e2⟩
/-- an object in hand is left out -/
theorem nx_del {p : Ad} (n : Nx K σ Z H ρ σ1 Z1 H1 ρ1) (hp : H p = none) (nz : ¬ Z1 p) (no : ¬ Od σ1 ρ1 p) (nc : NoCT H1 p) : Nx K σ Z H ρ σ1 Z1 (del H1 p) ρ1 := by
  have ne : ∀ {a u}, H a = some u → a ≠ p := fun {a u} e z => by
    rw [z, hp] at e
    cases e
  have zk : ∀ a, Z1 a → del H1 p a = H1 a := fun a z => del_ne fun q => nz (q ▸ z)
  have own : ∀ {i : Nat} {a : Ad} {d : D}, (slotAt ρ1 i).own = true → sg σ1 i = some (.ref a) → Ow K Z1 H1 a d → Ow K Z1 (del H1 p) a d := fun {i a d} o e w =>
    w.keep (fun _ z => z) zk (del_ne fun q => no (q ▸ ⟨i, o, e⟩))
  refine ⟨⟨n.sp.up, n.sp.dn, fun a u e nt' na => ?_, fun a u e => ?_, fun P q m t => tab_del nc (n.sp.tb P q m t)⟩, ⟨n.st.len, fun i => ?_, n.st.inj, fun a z => ?_, fun q hq => tab_del nc (n.st.tb q hq)⟩, n.ow, n.io, n.lk, n.ln⟩
  · rw [del_ne (ne e)]
    exact n.sp.kp a u e nt' na
  · rw [del_ne (ne e)]
    exact n.sp.th a u e
  · have q := n.st.sl i
    cases hs : slotAt ρ1 i with
    | no => trivial
    | fz d =>
      rw [hs] at q
      obtain ⟨v, e, f⟩ := q
      exact ⟨v, e, f.keep (fun _ z => z) zk⟩
    | ow d =>
      rw [hs] at q
      obtain ⟨a, e, nz, w⟩ := q
      exact ⟨a, e, nz, own (by rw [hs]; rfl) e w⟩
    | lk d =>
      rw [hs] at q
      obtain ⟨a, e, nz, w⟩ := q
      exact ⟨a, e, nz, own (by rw [hs]; rfl) e w⟩
    | io d =>
      rw [hs] at q
      obtain ⟨a, e, nz, w⟩ := q
      exact ⟨a, e, nz, own (by rw [hs]; rfl) e w⟩
  · rw [zk a z]
    exact n.st.zd a z
/-- what is walked, no value of one's own in hand, stands there, too -/
theorem loop_del {p : Ad} {x : Opd} {d : D} {v : V} (h : LoopOk K σ Z H ρ x d v) (nt : isTmp x = false) (nz : ¬ Z p) (no : ¬ Od σ ρ p) : LoopOk K σ Z (del H p) ρ x d v := by
  have zk : ∀ a, Z a → del H p a = H a := fun a z => del_ne fun q => nz (q ▸ z)
  rcases h with (h | h | ⟨a, e, w, nz, no, t⟩) | ⟨i, ex, hs, hl, hr⟩
  · exact .inl (.inl (h.keep (fun _ z => z) zk))
  · exact .inl (.inr (.inl (ct_keep (fun _ z => z) zk h)))
  · rw [nt] at t
    cases t
  · refine .inr ⟨i, ex, hs, hl, ?_⟩
    rcases hr with h | ⟨a, e, w⟩ | h
    · exact .inl (h.keep (fun _ z => z) zk)
    · exact .inr (.inl ⟨a, e, w.keep (fun _ z => z) zk (del_ne fun q => no (q ▸ ⟨i, by rcases hl with h | h <;> rw [h] <;> rfl, by rw [hs, e]⟩))⟩)
    · exact .inr (.inr (ct_keep (fun _ z => z) zk h))
theorem loops_del {p : Ad} (nz : ¬ Z p) (no : ¬ Od σ ρ p) : ∀ {xs : List Opd} {l : List (D × V)}, LoopOks K σ Z H ρ xs l → xs.any isTmp = false → LoopOks K σ Z (del H p) ρ xs l
  | [], _, h, _ => h
  | x :: xs, _, h, t => by
    obtain ⟨d, v, r, e, h1, h2⟩ := h
    rw [List.any_cons, Bool.or_eq_false_iff] at t
    exact ⟨d, v, r, e, loop_del h1 t.1 nz no, loops_del nz no h2 t.2⟩
end
section
variable {g : Ge} {E : XK} {σ σ1 : St} {Z Z1 : ZS} {H H1 B : Hp} {ρ ρ1 ρw : Env} {Q : VK} {c e : MW.E} {t t2 : T} {it it2 : MW.It} {vs vs1 : List Nat}
/-- the turns of a comprehension's last loop; B: the heap without the list -/
theorem lc_turns {l : List Opd} {lv : List (D × V)} {items : List D} {J : L2.It} {G : Hp → Prop} {Y : Nat → Hp → V → Hp → Prop} {N : Nat} {ds0 : List D} {p0 : Ad} {H4 : Hp} {P : Hp → Prop}
    (S : Strt g.K σ Z1 B ρ1 l (wipe σ vs) ρw) (hp0 : B p0 = none) (hv : ∀ i, i ∈ vs ↔ i ∈ tSlots t) (h0w : ∀ i ∈ tSlots t, slotAt ρw i = .no) (lo : LoopOks g.K σ Z1 B ρ1 l lv) (walk : Walk J items.length G Y) (hG : ∀ Z1 H1, AllRV g.K Z1 H1 lv → G H1)
    (hY : ∀ i Z1 H1 x H2, i < items.length → Zd Z1 H1 → AllRV g.K Z1 H1 lv → Y i H1 x H2 → ∃ d Z2, items[i]? = some d ∧ Step (fun _ => False) Z1 H1 Z2 H2 ∧ Zd Z2 H2 ∧ Fz g.K Z2 H2 d x)
    (hN : N + items.length ≤ szLine) (s0 : LcSt g (wipe σ vs) Z1 B ρw t p0 ds0 N Z1 H4 ρw)
    (hL : OcS g noX (wipe σ vs) Z1 B ρw (loopE (turnE g.mw t c e) items ρw) fun ds σ' Z' H' ρ' => σ' = wipe σ vs → LcSt g (wipe σ vs) Z1 B ρw t p0 (ds0 ++ ds) (N + items.length) Z' H' ρ' → P H') :
    ∃ W : Nat → Nat → Hp → Prop, (∃ m, W 0 m H4) ∧ ∀ j k H, W j k H → (J.stop j H ∧ P H) ∨ (J.go j H ∧ ∃ Nx1 : Hp → Prop, (∀ H', Nx1 H' → ∃ k', k' < k ∧ W (j + 1) k' H') ∧ ∀ x H', J.yld j H x H' → gT g.K t x (wipe σ vs) H' fun σ3 H5 => wipe σ3 vs = wipe σ vs ∧ RT g noX c σ3 H5 fun b H6 =>
      if b = true then RE g noX e σ3 H6 fun y H7 => ∃ acc, H7 p0 = some (.lst acc) ∧ acc.length < sizeLine ∧ Nx1 (upd H7 p0 (.lst (acc ++ [y]))) else Nx1 H6) := by
  refine ⟨fun j k H => k = items.length - j ∧ j ≤ items.length ∧ ∃ Z' ρ' ds, LcSt g (wipe σ vs) Z1 B ρw t p0 (ds0 ++ ds) (N + j) Z' H ρ' ∧ OcS g noX (wipe σ vs) Z1 B ρw ((loopE (turnE g.mw t c e) (items.drop j) ρ').bind fun b r => .ok (ds ++ b) r) fun ds σ' Z' H' ρ' =>
      σ' = wipe σ vs → LcSt g (wipe σ vs) Z1 B ρw t p0 (ds0 ++ ds) (N + items.length) Z' H' ρ' → P H', ⟨items.length, by simp, Nat.zero_le _, Z1, ρw, [], ?_, ?_⟩, ?_⟩
  · rw [List.append_nil]
    exact s0
  · rw [List.drop_zero]
    cases q : loopE (turnE g.mw t c e) items ρw with
    | st n => rw [q] at hL; exact hL
    | ex k as r => rw [q] at hL; exact hL
    | ok ds r => rw [q] at hL; exact hL
  rintro i m H' ⟨rfl, hi, Z', ρ', ds, s, o⟩
  have q := hG Z' H' (loop_all S s.nx (fun x hx => hx) lo)
  by_cases hlt : i < items.length
  · refine .inr ⟨walk.goes i H' hlt q, _, fun H'' p' => ⟨items.length - (i + 1), by omega, rfl, hlt, p'⟩, fun x H2 y => ?_⟩
    have y := walk.yields i H' x H2 hlt q y
    obtain ⟨d, Z2, ed, sp2, zd2, fx⟩ := hY i Z' H' x H2 hlt s.nx.st.zd (loop_all S s.nx (fun x hx => hx) lo) y
    obtain ⟨acc, ha, nz, fa, hl⟩ := s.lst
    have np2 := s.nx.st.pure sp2 zd2
    have n2 := s.nx.trans np2.nx
    have noD : ∀ {σ' : St} {ρ'' : Env}, (∀ a, Od σ' ρ'' a → Od (wipe σ vs) ρw a) → ¬ Od σ' ρ'' p0 := fun {σ' ρ''} k z => by
      obtain ⟨u, eu, _⟩ := (S.st.od (k p0 z)).2
      rw [hp0] at eu
      cases eu
    have acc2 : H2 p0 = some (.lst acc) := sp2.kp p0 _ ha (fun z => z) fun z => z
    have nz2 : ¬ Z2 p0 := fun z => by
      rcases sp2.dn p0 z with z | z | z
      · exact nz z
      · exact z
      · exact (z _ ha).elim
    have fa2 : FzL g.K Z2 H2 (ds0 ++ ds) acc := np2.nx.fzl s.nx.st fa
    have hd : items.drop i = d :: items.drop (i + 1) := by
      obtain ⟨hi', e'⟩ := List.getElem?_eq_some_iff.mp ed
      rw [List.drop_eq_getElem_cons hi', e']
    rw [hd] at o
    simp only [loopE] at o
    rw [Res.assoc] at o
    unfold turnE at o
    rw [Res.assoc] at o
    refine asg_ok (w := (false, d)) o n2 fx fun σ3 ρ3 n3 a3 o3 => ⟨wipe_asg a3 hv, ?_⟩
    rw [Res.assoc] at o3
    have od3 : ∀ a, Od σ3 ρ3 a → Od (wipe σ vs) ρw a := fun a z => s.od a (od_asg (K := g.K) a3 a z)
    refine ⟨Z2, ρ3, n3.st, (o3.ev n3).imp fun b Z4 H4 ρ4 m4 ⟨n4, o4⟩ => ?_⟩
    have od4 : ∀ a, Od σ3 ρ4 a → Od (wipe σ vs) ρw a := fun a z => od3 a (m4.od a z)
    have nt : ¬ isTbl (.lst acc) := fun z => z
    have acc4 : H4 p0 = some (.lst acc) := m4.nx.sp.kp p0 _ acc2 nt (noD od3)
    have nz4 : ¬ Z4 p0 := fun z => by
      rcases m4.nx.sp.dn p0 z with z | z | z
      · exact nz2 z
      · exact noD od3 z
      · exact (z _ acc2).elim
    have fa4 := m4.nx.fzl n3.st fa2
    cases b with
    | false =>
      simp only [Bool.false_eq_true, if_false]
      refine ⟨Z4, wipeT t ρ4, ds, ⟨nx_wipe n4 hv h0w (wipe_asg a3 hv), fun a z => ?_, acc, acc4, nz4, fa4, by omega⟩, ?_⟩
      · have := (ss_wipe n4.st hv).2 a
        rw [wipe_asg a3 hv] at this
        exact od4 a (this z)
      · have o4 : OcS g noX (wipe σ vs) Z1 B ρw (((loopE (turnE g.mw t c e) (items.drop (i + 1)) (wipeT t ρ4)).bind fun b r => .ok ([] ++ b) r).bind fun b r => .ok (ds ++ b) r) _ := o4
        rw [Res.assoc] at o4
        exact o4
    | true =>
      simp only [if_true]
      have o4 : OcS g noX (wipe σ vs) Z1 B ρw (((ev g.mw e ρ4).bind fun v r => .ok [v.2] (wipeT t r)).bind fun a r => ((loopE (turnE g.mw t c e) (items.drop (i + 1)) r).bind fun b r => .ok (a ++ b) r).bind fun b r => .ok (ds ++ b) r) _ := o4
      rw [Res.assoc] at o4
      refine ⟨Z4, ρ4, n4.st, ?_⟩
      have o5 := o4.ev n4
      cases q : ev g.mw e ρ4 with
      | st n => rw [q] at o5; exact o5
      | ex k as r => rw [q] at o5; exact o5
      | ok w ρ5 =>
        rw [q] at o5
        intro Z5 H5 m5 v vr
        obtain ⟨Z6, m6, fz⟩ := m5.freeze n4.st vr
        obtain ⟨n6, o6⟩ := o5 Z6 H5 m6
        have od6 : ∀ a, Od σ3 ρ5 a → Od (wipe σ vs) ρw a := fun a z => od4 a (m6.od a z)
        have acc6 : H5 p0 = some (.lst acc) := m6.nx.sp.kp p0 _ acc4 nt (noD od4)
        have nz6 : ¬ Z6 p0 := fun z => by
          rcases m6.nx.sp.dn p0 z with z | z | z
          · exact nz4 z
          · exact noD od4 z
          · exact (z _ acc4).elim
        have fa6 := m6.nx.fzl n4.st fa4
        have up := nx_upd (ob := .lst (acc ++ [v])) n6 hp0 nz6 (noD od6) (fun z => z) (.lst acc6)
        have kp : ∀ a, Z6 a → upd H5 p0 (.lst (acc ++ [v])) a = H5 a := fun a z => upd_ne fun q => nz6 (q ▸ z)
        refine ⟨acc, acc6, by rw [← szLine_eq]; omega, Z6, wipeT t ρ5, ds ++ [w.2], ⟨nx_wipe up hv h0w (wipe_asg a3 hv), fun a z => ?_, acc ++ [v], upd_same, nz6, ?_, by rw [List.length_append, List.length_singleton]; omega⟩, ?_⟩
        · have := (ss_wipe up.st hv).2 a
          rw [wipe_asg a3 hv] at this
          exact od6 a (this z)
        · rw [← List.append_assoc]
          exact FzL.app (fa6.keep (fun _ z => z) kp) ⟨v, [], rfl, fz.keep (fun _ z => z) kp, rfl⟩
        · have o6 : OcS g noX (wipe σ vs) Z1 B ρw (((loopE (turnE g.mw t c e) (items.drop (i + 1)) (wipeT t ρ5)).bind fun b r => .ok ([w.2] ++ b) r).bind fun b r => .ok (ds ++ b) r) _ := o6
          rw [Res.assoc] at o6
          show OcS g noX (wipe σ vs) Z1 B ρw ((loopE (turnE g.mw t c e) (items.drop (i + 1)) (wipeT t ρ5)).bind fun b r => .ok (ds ++ [w.2] ++ b) r) _
          have : (fun (b : List D) r => Res.ok (ds ++ [w.2] ++ b) r) = fun (b : List D) r => (Res.ok ([w.2] ++ b) r).bind fun b r => Res.ok (ds ++ b) r := by
            funext b r
            show Res.ok (ds ++ [w.2] ++ b) r = Res.ok (ds ++ ([w.2] ++ b)) r
            rw [List.append_assoc]
          rw [this]
          exact o6
  · have ei : i = items.length := by omega
    subst ei
    refine .inl ⟨walk.stops H' q, ?_⟩
    rw [List.drop_length] at o
    have o : OcS g noX (wipe σ vs) Z1 B ρw (.ok (ds ++ []) ρ') _ := o
    rw [List.append_nil] at o
    exact o.now s.nx rfl s
/-- an outer turn's body -/
def turn2E (X : Cx) (t : T) (it2 : MW.It) (t2 : T) (c e : MW.E) : D → Env → Res (List D) := fun d r => (assignT t (false, d) r).bind fun _ r => (evIt X it2 r).bind fun q r₁ => if q.2.any isTmp || decide (4096 < q.1.length) then .st 73 else
  ((loopE (turnE X t2 c e) q.1 (wipeT t2 (q.2.foldl lockO r₁))).mapN fun r => q.2.foldl (unlockO r₁) (backT r₁ t2 r)).bind fun ds r => .ok ds (wipeT (.two t t2) r)
theorem re_comp2 (hv : ∀ i, i ∈ vs ↔ i ∈ tSlots (.two t t2)) (hv1 : ∀ i, i ∈ vs1 ↔ i ∈ tSlots t2) (h : RE g E (.comp2 t it t2 it2 c e) σ H Q) :
    L2.tLc2 (RI g E it) (gT g.K t) (RT g noX (.const (.bool true))) (RI g noX it2) (gT g.K t2) (RT g noX c) (RE g noX e) vs vs1 σ H Q := by
  obtain ⟨Z, ρ, st, h⟩ := h
  simp only [ev] at h
  refine ⟨Z, ρ, st, h.bnd.imp fun p Z1 H1 ρ1 n1 h1 J wk p0 hp0 => ?_⟩
  obtain ⟨lv, G, Y, lo, walk, hG, hY⟩ := wk.ex
  split at h1
  · exact h1.elim
  rename_i hsz
  have hsz : p.1.length ≤ 4096 := Nat.le_of_not_lt hsz
  have S := strt_wipe (l := p.2) n1.nx.st hv
  generalize hρw : wipeT (.two t t2) (p.2.foldl lockO ρ1) = ρw at S h1
  have hL : OcS g noX (wipe σ vs) Z1 H1 ρw (loopE (turn2E g.mw t it2 t2 c e) p.1 ρw) fun ds σ' Z' H' ρ' =>
      σ' = wipe σ vs → (∀ a, Od σ' ρ' a → Od (wipe σ vs) ρw a) → ∀ v, VR g.K Z' H' H true (.list ds) v → Q v H' := by
    subst hρw
    cases q : loopE (turn2E g.mw t it2 t2 c e) p.1 (wipeT (.two t t2) (p.2.foldl lockO ρ1)) with
    | st n =>
      have h1 : Oc g E σ Z1 H1 ρ1 ((Res.mapN _ (loopE (turn2E g.mw t it2 t2 c e) p.1 (wipeT (.two t t2) (p.2.foldl lockO ρ1)))).bind _) _ := h1
      rw [q] at h1
      exact h1
    | ex k as r =>
      have h1 : Oc g E σ Z1 H1 ρ1 ((Res.mapN _ (loopE (turn2E g.mw t it2 t2 c e) p.1 (wipeT (.two t t2) (p.2.foldl lockO ρ1)))).bind _) _ := h1
      rw [q] at h1
      exact h1.elim
    | ok ds r =>
      have h1 : Oc g E σ Z1 H1 ρ1 ((Res.mapN _ (loopE (turn2E g.mw t it2 t2 c e) p.1 (wipeT (.two t t2) (p.2.foldl lockO ρ1)))).bind _) _ := h1
      rw [q] at h1
      intro σ' Z' H' n e1 od v vr
      subst e1
      obtain ⟨b1, b2⟩ := comp_back (l := p.2) n1.nx.st hv n
      rw [mix_wipe] at b1 b2
      exact h1 Z' H' ⟨b1, b2 od⟩ v vr
  have h0w : ∀ i ∈ tSlots (.two t t2), slotAt ρw i = .no := fun i hi => by rw [← hρw, wipeT_at, if_pos hi]
  have ht1 : ∀ i, i ∈ tSlots t → i ∈ vs := fun i hi => (hv i).mpr (List.mem_append_left _ hi)
  clear h1 hρw
  refine ⟨fun i m H' => m = p.1.length - i ∧ i ≤ p.1.length ∧ ∃ Z' ρ' ds, LcSt g (wipe σ vs) Z1 H1 ρw (.two t t2) p0 ds (4096 * i) Z' H' ρ' ∧ OcS g noX (wipe σ vs) Z1 H1 ρw ((loopE (turn2E g.mw t it2 t2 c e) (p.1.drop i) ρ').bind fun b r => .ok (ds ++ b) r) fun ds σ' Z' H' ρ' =>
      σ' = wipe σ vs → (∀ a, Od σ' ρ' a → Od (wipe σ vs) ρw a) → ∀ v, VR g.K Z' H' H true (.list ds) v → Q v H', ⟨p.1.length, by simp, Nat.zero_le _, ?_⟩, ?_⟩
  · have no : ¬ Od (wipe σ vs) ρw p0 := fun z => by
      obtain ⟨u, eu, _⟩ := (S.st.od z).2
      rw [hp0] at eu
      cases eu
    have nz : ¬ Z1 p0 := fun z => by
      obtain ⟨u, eu, _⟩ := n1.nx.st.zd p0 z
      rw [hp0] at eu
      cases eu
    refine ⟨Z1, ρw, [], ⟨nx_upd (Nx.refl S.st) hp0 nz no (fun z => z) (.none hp0), fun a z => z, [], upd_same, nz, rfl, Nat.zero_le _⟩, ?_⟩
    rw [List.drop_zero]
    cases q : loopE (turn2E g.mw t it2 t2 c e) p.1 ρw with
    | st n => rw [q] at hL; exact hL
    | ex k as r => rw [q] at hL; exact hL
    | ok ds r => rw [q] at hL; exact hL
  rintro i m H' ⟨rfl, hi, Z', ρ', ds, s, o⟩
  have hg := hG Z' H' (loop_all S s.nx (fun x hx => hx) lo)
  by_cases hlt : i < p.1.length
  · refine .inr ⟨walk.goes i H' hlt hg, _, fun H'' p' => ⟨p.1.length - (i + 1), by omega, rfl, hlt, p'⟩, fun x H2 y => ?_⟩
    have y := walk.yields i H' x H2 hlt hg y
    obtain ⟨d, Z2, ed, sp2, zd2, fx⟩ := hY i Z' H' x H2 hlt s.nx.st.zd (loop_all S s.nx (fun x hx => hx) lo) y
    obtain ⟨acc, ha, nz, fa, hl⟩ := s.lst
    have np2 := s.nx.st.pure sp2 zd2
    have n2 := s.nx.trans np2.nx
    have noD : ∀ {σ' : St} {ρ'' : Env}, (∀ a, Od σ' ρ'' a → Od (wipe σ vs) ρw a) → ¬ Od σ' ρ'' p0 := fun {σ' ρ''} k z => by
      obtain ⟨u, eu, _⟩ := (S.st.od (k p0 z)).2
      rw [hp0] at eu
      cases eu
    have nt : ¬ isTbl (.lst acc) := fun z => z
    have acc2 : H2 p0 = some (.lst acc) := sp2.kp p0 _ ha (fun z => z) fun z => z
    have nz2 : ¬ Z2 p0 := fun z => by
      rcases sp2.dn p0 z with z | z | z
      · exact nz z
      · exact z
      · exact (z _ ha).elim
    have fa2 : FzL g.K Z2 H2 ds acc := np2.nx.fzl s.nx.st fa
    have hd : p.1.drop i = d :: p.1.drop (i + 1) := by
      obtain ⟨hi', e'⟩ := List.getElem?_eq_some_iff.mp ed
      rw [List.drop_eq_getElem_cons hi', e']
    rw [hd] at o
    simp only [loopE] at o
    rw [Res.assoc] at o
    unfold turn2E at o
    rw [Res.assoc] at o
    refine asg_ok (w := (false, d)) o n2 fx fun σ3 ρ3 n3 a3 o3 => ⟨wipe_part a3 ht1, ?_⟩
    rw [Res.assoc] at o3
    have od3 : ∀ a, Od σ3 ρ3 a → Od (wipe σ vs) ρw a := fun a z => s.od a (od_asg (K := g.K) a3 a z)
    refine ⟨Z2, ρ3, n3.st, ?_⟩
    rw [show evT g.mw (.const (.bool true)) ρ3 = .ok true ρ3 by simp only [evT, evO, ev, Res.bind, opdV, opdD, Option.bind_some, tru, truth]]
    intro Z4 H4 m4
    simp only [if_true]
    have n4 := n3.trans m4.nx
    refine ⟨Z4, ρ3, n4.st, (o3.ev n4).imp fun q Z5 H5 ρ5 m5 ⟨n5, o5⟩ J1 wk1 => ?_⟩
    obtain ⟨lv1, G1, Y1, lo1, walk1, hG1, hY1⟩ := wk1.ex
    have od5 : ∀ a, Od σ3 ρ5 a → Od (wipe σ vs) ρw a := fun a z => od3 a (m5.od a z)
    have acc4 : H4 p0 = some (.lst acc) := m4.nx.sp.kp p0 _ acc2 nt (noD od3)
    have acc5 : H5 p0 = some (.lst acc) := m5.nx.sp.kp p0 _ acc4 nt (noD od3)
    have nz4 : ¬ Z4 p0 := fun z => by
      rcases m4.nx.sp.dn p0 z with z | z | z
      · exact nz2 z
      · exact noD od3 z
      · exact (z _ acc2).elim
    have nz5 : ¬ Z5 p0 := fun z => by
      rcases m5.nx.sp.dn p0 z with z | z | z
      · exact nz4 z
      · exact noD od3 z
      · exact (z _ acc4).elim
    have fa5 : FzL g.K Z5 H5 ds acc := m5.nx.fzl n4.st (m4.nx.fzl n3.st fa2)
    split at o5
    · exact o5.elim
    rename_i hq
    have hq : (q.2.any isTmp || decide (4096 < q.1.length)) = false := Bool.not_eq_true _ ▸ hq
    rw [Bool.or_eq_false_iff, decide_eq_false_iff_not, Nat.not_lt] at hq
    have nB := nx_del n5 hp0 nz5 (noD od5) (.lst acc5)
    have S2 := strt_wipe (l := q.2) nB.st hv1
    have h0w2 : ∀ i ∈ tSlots t2, slotAt (wipeT t2 (q.2.foldl lockO ρ5)) i = .no := fun i hi => by rw [wipeT_at, if_pos hi]
    have hB : upd (del H5 p0) p0 (.lst acc) = H5 := by
      funext a
      by_cases ea : a = p0
      · rw [ea, upd_same, acc5]
      · rw [upd_ne ea, del_ne ea]
    have no2 : ¬ Od (wipe σ3 vs1) (wipeT t2 (q.2.foldl lockO ρ5)) p0 := fun z => noD od5 (S2.od p0 z)
    have s0 : LcSt g (wipe σ3 vs1) Z5 (del H5 p0) (wipeT t2 (q.2.foldl lockO ρ5)) t2 p0 ds (4096 * i) Z5 H5 (wipeT t2 (q.2.foldl lockO ρ5)) := by
      refine ⟨?_, fun a z => z, acc, acc5, nz5, fa5, hl⟩
      have := nx_upd (ob := .lst acc) (Nx.refl S2.st) del_same nz5 no2 (fun z => z) (.none del_same)
      rw [hB] at this
      exact this
    refine lc_turns S2 del_same hv1 h0w2 (loops_del nz5 (noD od5) lo1 hq.1) walk1 hG1 hY1 (N := 4096 * i) (ds0 := ds) (by have := hq.2; unfold szLine; omega) s0 ?_
    cases ql : loopE (turnE g.mw t2 c e) q.1 (wipeT t2 (q.2.foldl lockO ρ5)) with
    | st n =>
      rw [ql] at o5
      exact o5
    | ex k as r =>
      rw [ql] at o5
      exact o5.elim
    | ok ds' r =>
      rw [ql] at o5
      intro σ' Z' H' n e1 s'
      subst e1
      obtain ⟨b1, b2⟩ := comp_back (l := q.2) nB.st hv1 n
      rw [mix_wipe] at b1 b2
      have n6 := nB.trans b1
      obtain ⟨acc', ha', nz', fa', hl'⟩ := s'.lst
      refine ⟨Z', wipeT (.two t t2) (q.2.foldl (unlockO ρ5) (backT ρ5 t2 r)), ds ++ ds', ⟨nx_wipe n6 hv h0w (wipe_part a3 ht1), fun a z => ?_, acc', ha', nz', fa', by have := hq.2; omega⟩, ?_⟩
      · have := (ss_wipe n6.st hv).2 a
        rw [wipe_part a3 ht1] at this
        exact od5 a (b2 s'.od a (this z))
      · have o5 : OcS g noX (wipe σ vs) Z1 H1 ρw (((loopE (turn2E g.mw t it2 t2 c e) (p.1.drop (i + 1)) (wipeT (.two t t2) (q.2.foldl (unlockO ρ5) (backT ρ5 t2 r)))).bind fun b r => .ok (ds' ++ b) r).bind fun b r => .ok (ds ++ b) r) _ := o5
        rw [Res.assoc] at o5
        have : (fun (b : List D) r => Res.ok (ds ++ ds' ++ b) r) = fun (b : List D) r => (Res.ok (ds' ++ b) r).bind fun b r => Res.ok (ds ++ b) r := by
          funext b r
          show Res.ok (ds ++ ds' ++ b) r = Res.ok (ds ++ (ds' ++ b)) r
          rw [List.append_assoc]
        rw [this]
        exact o5
  · have ei : i = p.1.length := by omega
    subst ei
    refine .inl ⟨walk.stops H' hg, ?_⟩
    obtain ⟨acc, ha, nz, fa, hl⟩ := s.lst
    rw [List.drop_length] at o
    have o : OcS g noX (wipe σ vs) Z1 H1 ρw (.ok (ds ++ []) ρ') _ := o
    refine o.now s.nx rfl s.od (.ref p0) ?_
    rw [List.append_nil]
    exact ⟨p0, rfl, nz, ⟨acc, ha, by unfold szLine; omega, fa⟩, n1.nx.sp.none hp0⟩
end
end MW
end
section
set_option Elab.async false
set_option linter.all false
set_option maxRecDepth 100000
set_option maxHeartbeats 2000000
/-! So17: defs. -/
namespace MW
open PySem PySem.Spec
open PyProof.Rows hiding St
open L2 (V Hp HO St upd upd_same upd_ne SqL SqT Rd Vals RelV Key kV ne_of_none VK XK TE TT TA TS TG TGs TI TO TIp TSet Sp CXT Room Env0 CR CE Binds FnScope Passes Gl Ends PE PT PW PA PS PSs PG PGs PI PO PIp OpR CallR MtR MtM IxR SlR Dp DpAll PSet Walk cxOf inv_start tCall thn)
variable [Tbs]
/-- a def's promise, where no repr is under way -/
structure FnG (P : Program) (w : World) (K : Fg) (mg : Str → Option Value) (base : Heap) (CX : CXT) (k : Nat) (f : Addr) (fd : FuncData) (ps : List Str) (sp : Sp) : Prop where
  len : ∀ vs H Q E, sp vs H Q E → vs.length = ps.length
  go : ∀ (A : Around) (outer : List PySem.Env) (s : Shared) (H : Hp) (args : Args) (us : List Value) (vs : List V) (Q : VK) (E : XK), Room k A → A.guards = some [] → Env0 P w K mg base A outer s H → BindsTo s fd args (ps.zip us) → Vals vs us → sp vs H Q E →
    codeAny (model P w) A (.call (.ref f) args) (CR CX outer P w H s Q E) s
theorem FnG.none {P : Program} {w : World} {K : Fg} {mg : Str → Option Value} {base : Heap} {CX : CXT} {k : Nat} {f : Addr} {fd : FuncData} {ps : List Str} {sp : Sp} (h : ∀ vs H Q E, ¬ sp vs H Q E) : FnG P w K mg base CX k f fd ps sp :=
  ⟨fun vs H Q E q => (h _ _ _ _ q).elim, fun _ _ _ _ _ _ _ _ _ _ _ _ _ _ q => (h _ _ _ _ q).elim⟩
section
variable {X : L2.Cx} {CX : CXT} {k : Nat} {f : Addr} {fd : FuncData} {ps : List Str} {sp : Sp} {E : XK} {x : Str} {p pos : Pos} {e : Expr} {es : List Expr} {t : TA}
theorem run_g {pins : List (Addr × Obj)} {σ : St} {H : Hp} {s : Shared} {Q : VK} {us : List Value} {vs : List V} (F : FnG X.prog X.w X.K X.mg X.base CX k f fd ps sp) (hr : Room k X.A) (hg : X.A.guards = some []) (hb : Binds X.K fd ps []) (hx : Passes CX X E)
    (I : L2.Inv X pins σ H s) (r : Vals vs us) (h : sp vs H Q E) : wpAny (model X.prog X.w) X.A (call (.ref f) us) (L2.EP X pins σ Q) X.xe s := by
  have hl : us.length = ps.length := by
    rw [← r.length]
    exact F.len _ _ _ _ h
  have bi : BindsTo s fd ⟨us, []⟩ (ps.zip us) := by
    have := hb s us I.kIn (by rw [List.append_nil]; exact hl)
    rw [List.append_nil] at this
    exact this
  refine wpAny_call (codeAny_mono (F.go X.A X.stack s H ⟨us, []⟩ us vs Q E hr hg I.env0 bi r h) ?_)
  rintro (er | fl) s' hq
  · exact hx pins σ H s er s' I hq
  · cases fl with
    | ret u => exact I.after hq
    | next => exact hq.elim
    | brk => exact hq.elim
    | cont => exact hq.elim
theorem pe_fn (F : FnG X.prog X.w X.K X.mg X.base CX k f fd ps sp) (hr : Room k X.A) (hg : X.A.guards = some []) (gl : Gl X x) (hm : X.mg x = some (.ref f)) (hk : PySem.W.keepIn X.K (.ref f) = true) (hb : Binds X.K fd ps []) (hx : Passes CX X E)
    (ha : PA X (e :: es) t) (hdb : (x == ("__debug__" : Str)) = false) (he : starEach (e :: es) X.env = (false, eval e X.env) :: starEach es X.env) (hpl : (backTo pos (starEach es X.env)).any (·.1) = false) :
    PE X (.Call (.Name x p) (e :: es) [] pos) (tCall sp [] E t) := by
  constructor
  intro pins s σ H Q I h
  refine wpAny_Call_Name_kw (L2.ld_glob I gl hm ?_ hdb)
  refine PySem.W.callWith_K (h₀ := X.base) I.ok.mod.kin hk (thn (ha.run pos pins s σ H _ I h) ?_) he hpl
  intro us s1 hq
  obtain ⟨vs, H1, I1, r, q⟩ := hq
  have q : sp (vs ++ []) H1 Q E := q
  rw [List.append_nil] at q
  exact ⟨I1.kIn, run_g F hr hg hb hx I1 r q⟩
theorem pe_fn0 (F : FnG X.prog X.w X.K X.mg X.base CX k f fd ps sp) (hr : Room k X.A) (hg : X.A.guards = some []) (gl : Gl X x) (hm : X.mg x = some (.ref f)) (hk : PySem.W.keepIn X.K (.ref f) = true) (hb : Binds X.K fd ps []) (hx : Passes CX X E)
    (hdb : (x == ("__debug__" : Str)) = false) : PE X (.Call (.Name x p) [] [] pos) (tCall sp [] E L2.tNil) := by
  constructor
  intro pins s σ H Q I h
  refine wpAny_Call_Name_kw (L2.ld_glob I gl hm ?_ hdb)
  exact PySem.W.callWith_K0 I.kIn hk (run_g (us := []) F hr hg hb hx I .nil h)
end
/-- a def of the text, by its body -/
theorem fn_g {CX : CXT} {P : Program} {w : World} {K : Fg} {mg : Str → Option Value} {base : Heap} {k : Nat} {f : Addr} {name qual : Str} {params : Arguments} {body : List Stmt} {scope : Scope} {dV kV doc pm cdv ct oc : Value} {an od : Option Addr}
    {osl : Array (Option Value)} {N ps : List Str} {sp : Sp} (lk : K.lookup f = some ⟨oc, od, .func (PySem.W.fnOf name qual params body scope dV kV doc pm an cdv ct), osl⟩) (hcd : PySem.W.codeIn K cdv qual = true) (S : FnScope N ps scope)
    (len : ∀ vs H Q E, sp vs H Q E → vs.length = ps.length)
    (hbody : ∀ (A : Around) (outer : List PySem.Env) (s : Shared) (H : Hp) (vs : List V) (Q : VK) (E : XK), Room k (A.deeper (envOfC qual scope s.heap.objs.size f cdv)) → A.guards = some [] → sp vs H Q E →
      ∃ t, PSs (cxOf CX P w K mg base N qual scope f cdv A outer s H E) body t ∧ t { nx := fun _ H' => Q .non H', rt := Q } (L2.start N vs) H) :
    FnG P w K mg base CX (k + 1) f (PySem.W.fnOf name qual params body scope dV kV doc pm an cdv ct) ps sp := by
  refine ⟨len, ?_⟩
  intro A outer s H args us vs Q E hr hg e0 hb r hsp
  have KX : K.In s.heap := e0.mod.kin.keeps fun b o e => (e0.bs b o e).1
  have lim : s.heap.NoLimit := e0.mod.nolimit.keeps fun b o e => (e0.bs b o e).1
  have hkind : ∀ y ∈ ps.zip us, scope.names.lookup y.1 = some .local ∨ (scope.names.lookup y.1 = some .cell ∧ ((cellsFrom (s.heap.objs.size + 1) scope.names []).lookup y.1).isSome = true) := by
    intro y hy
    have hm : y.1 ∈ ps := (List.of_mem_zip (show (y.1, y.2) ∈ ps.zip us from hy)).1
    rcases S.par y.1 hm with q | q
    · exact Or.inl q
    · exact Or.inr ⟨q, PySem.W.cellsFrom_some _ _ _ (.inl q)⟩
  refine codeAny_call_function hr.depth (KX _ _ lk) rfl S.co S.gen rfl (PySem.W.codeRec_of KX hcd) (hb _ _ _ _ ?_)
  refine wpAny_newFunctionEnv_cells S.kind hkind ?_
  intro env he s1 x
  subst he
  refine ⟨lim.keeps x.toInCall.keep, codeAny_func ?_⟩
  obtain ⟨t, ht, hq⟩ := hbody A outer s H vs Q E (hr.deeper _) hg hsp
  have I := inv_start (CX := CX) (E := E) (f := f) (cd := cdv) (qual := qual) S hr.hd e0 (len _ _ _ _ hsp) r x
  refine wpAny_mono (ht.run [] s1 (L2.start N vs) H _ I hq) ?_ fun e s' hs => hs
  intro fl s' hs
  cases fl with
  | next =>
    obtain ⟨σ', H', J, q⟩ := hs
    exact ⟨V.non, H', J.os, J.bare, J.base, J.hok, rfl, q⟩
  | ret u =>
    obtain ⟨v, σ', H', J, rv, q⟩ := hs
    exact ⟨v, H', J.os, J.bare, J.base, J.hok, rv, q⟩
  | brk => exact hs.elim fun _ h => h.elim fun _ h => h.2.elim
  | cont => exact hs.elim fun _ h => h.elim fun _ h => h.2.elim
/-! the evaluator's call -/
section
variable {K : Fg} {Z : ZS} {H : Hp} {N : List Str} {vs : List V} {ss : List Slot}
theorem slot_app_no : ∀ (ss : List Slot) (m i : Nat), slotAt (ss ++ noSlots m) i = slotAt ss i
  | [], 0, _ => rfl
  | [], m + 1, 0 => rfl
  | [], m + 1, i + 1 => slot_app_no [] m i
  | _ :: _, _, 0 => rfl
  | _ :: r, m, i + 1 => slot_app_no r m i
theorem no_len : ∀ m : Nat, (noSlots m).length = m
  | 0 => rfl
  | m + 1 => by
    show (noSlots m).length + 1 = m + 1
    rw [no_len m]
theorem sg_start (i : Nat) : sg (L2.start N vs) i = sg (vs.map some) i := by
  unfold sg L2.start
  by_cases h : i < vs.length
  · rw [List.getElem?_append_left (by simpa using h)]
  · rw [List.getElem?_append_right (by simpa using h), List.getElem?_eq_none (l := vs.map some) (by simpa using h), List.getElem?_replicate]
    split <;> rfl
/-- at a def's entry -/
theorem ss_start (st : Ss K Z H (vs.map some) ss) (hl : N.length = vs.length + m) : Ss K Z H (L2.start N vs) (ss ++ noSlots m) ∧ ∀ a, Od (L2.start N vs) (ss ++ noSlots m) a ↔ Od (vs.map some) ss a := by
  have len := st.len
  rw [List.length_map] at len
  refine ⟨⟨?_, fun i => ?_, fun i j a ne o1 o2 e1 e2 => ?_, st.zd, st.tb⟩, fun a => ⟨fun ⟨i, o, e⟩ => ⟨i, ?_, ?_⟩, fun ⟨i, o, e⟩ => ⟨i, ?_, ?_⟩⟩⟩
  · unfold L2.start
    rw [List.length_append, List.length_append, List.length_map, List.length_replicate, no_len]
    omega
  · rw [slot_app_no, sg_start]
    exact st.sl i
  · rw [slot_app_no] at o1 o2
    rw [sg_start] at e1 e2
    exact st.inj i j a ne o1 o2 e1 e2
  · rw [slot_app_no] at o; exact o
  · rw [sg_start] at e; exact e
  · rw [slot_app_no]; exact o
  · rw [sg_start]; exact e
end
/-- what a def's body owes -/
theorem body_of {g g1 : Ge} {f : Nat} {fn : Fn} {N : List Str} {vs : List V} {H : Hp} {Q : VK} {E : XK} (hK : g1.K = g.K) (hc : g1.ck = g.ck) (hf : g1.fl = g.fl) (hcall : ∀ ss, g1.mw.call f ss = runFn g.mw fn ss) (hN : N.length = fn.np + fn.more)
    (h : SpF g1 fn.np f vs H Q E) : RS g E fn.body { nx := fun _ H' => Q .non H', rt := Q } (L2.start N vs) H := by
  obtain ⟨Z, ss, hl, st, io, h⟩ := h
  rw [hcall, hK] at h
  rw [hK] at st
  have sl : ss.length = fn.np := by
    have := st.len
    rw [List.length_map] at this
    omega
  unfold runFn at h
  rw [if_pos sl] at h
  obtain ⟨s1, od1⟩ := ss_start (N := N) (m := fn.more) st (by rw [hN, hl])
  -- what a call's end asks for, from the body's end
  have fin : ∀ {σ' : St} {Z' : ZS} {H' : Hp} {r : Env}, Nx g.K (L2.start N vs) Z H (ss ++ noSlots fn.more) σ' Z' H' r → Step (Od (vs.map some) ss) Z H Z' H' ∧ Zd Z' H' ∧ ∀ i, (slotAt ss i).isIo = true → (slotAt r i).isIo = true ∧ SlotR g.K Z' H' (slotAt r i) (sg (vs.map some) i) := fun {σ' Z' H' r} n => by
    refine ⟨⟨n.sp.up, fun a z => ?_, fun a u e nt no => n.sp.kp a u e nt fun z => no ((od1 a).mp z), n.sp.th, n.sp.tb⟩, n.st.zd, fun i hi => ?_⟩
    · rcases n.sp.dn a z with z | z | z
      · exact .inl z
      · exact .inr (.inl ((od1 a).mp z))
      · exact .inr (.inr z)
    · obtain ⟨e1, e2⟩ := n.io i (by rw [slot_app_no]; exact hi)
      refine ⟨e1, ?_⟩
      have := n.st.sl i
      rw [e2, sg_start] at this
      exact this
  refine ⟨Z, ss ++ noSlots fn.more, s1, ?_⟩
  cases q : ex g.mw fn.body (ss ++ noSlots fn.more) with
  | st n => rw [q] at h; exact h
  | ex k as r =>
    rw [q] at h
    intro σ' Z' H' n
    obtain ⟨a1, a2, a3⟩ := fin n
    have := h Z' H' a1 a2 a3
    unfold ExW at this ⊢
    rw [hK, hc, hf] at this
    exact this
  | ok fl r =>
    rw [q] at h
    intro σ' Z' H' n
    obtain ⟨a1, a2, a3⟩ := fin n
    cases fl with
    | next => exact h Z' H' .non a1 a2 a3 rfl
    | cont => exact h.elim
    | brk => exact h.elim
    | ret o d =>
      intro v vs'
      refine h Z' H' v a1 a2 a3 ?_
      unfold VS at vs'
      show VR g.K Z' H' H o d v
      unfold VR
      cases o with
      | false => exact vs'
      | true =>
        obtain ⟨a, e, nz, w, no, k⟩ := vs'
        refine ⟨a, e, nz, w, ?_⟩
        rcases k with ⟨i, o1, o2⟩ | k
        · rw [slot_app_no] at o1
          obtain ⟨e1, e2⟩ := n.io i (by rw [slot_app_no]; exact io i o1)
          refine absurd ⟨i, ?_, by rw [e2]; exact o2⟩ no
          cases hs : slotAt r i with
          | io d => rfl
          | _ => rw [hs] at e1; cases e1
        · exact k
end MW
end
section
set_option Elab.async false
set_option linter.all false
set_option maxRecDepth 100000
set_option maxHeartbeats 4000000
/-! So18: an IR text beside the program's own: a check, and what it gives. -/
namespace MW
open PySem PySem.Spec
open PyProof.Rows hiding St
open L2 (V Hp HO St upd upd_same upd_ne SqL SqT Rd Vals RelV Key kV ne_of_none VK XK TE TT TA TS TG TGs TI TO TIp TSet Sp CXT Room Env0 CR CE Binds FnScope Passes Gl Vis Loc Ends PE PT PW PA PS PSs PG PGs PI PO PIp OpR CallR MtR MtM IxR SlR Dp DpAll PSet Walk cxOf inv_start tCall thn BlkOk blkC blkOk_by PlainIx)
variable [Tbs]
/-- what is written once for a module (defs: name, number of parameters; constants' names) and once for a def (its names) -/
structure Ct where
  N : List Str
  fns : List (Str × Nat)
  globs : List Str
  tl : Nat → MW.E → Expr → Bool
  rs : Nat → Es → Stmt → Bool
def noTl : Nat → MW.E → Expr → Bool := fun _ _ _ => false
def noRs : Nat → Es → Stmt → Bool := fun _ _ _ => false
/-- within a block no thunk is handed to a def, nothing is raised -/
def Ct.noT (c : Ct) : Ct := ⟨c.N, c.fns, c.globs, noTl, noRs⟩
def notDbg (x : Str) : Bool := !(x == ("__debug__" : Str)) && !(x == ("__classdict__" : Str)) && !(x == ("__name__" : Str))
def locN (c : Ct) (sc : Scope) (i : Nat) (x : Str) : Bool := decide (c.N[i]? = some x) && (decide (sc.names.lookup x = some .local) || decide (sc.names.lookup x = some .cell)) && notDbg x
def visN (c : Ct) (sc : Scope) (i : Nat) (x : Str) : Bool := decide (c.N[i]? = some x) && (decide (sc.names.lookup x = some .local) || decide (sc.names.lookup x = some .cell) || decide (sc.names.lookup x = some .free)) && notDbg x
def gloN (sc : Scope) (x : Str) : Bool := decide (sc.names.lookup x = some .globalImplicit) && notDbg x
def notStar : Expr → Bool
  | .Starred _ _ => false
  | _ => true
/-- a subscript of the plain kind -/
def plainSl : Expr → Bool
  | .Name _ _ | .Constant _ _ _ | .BinOp _ _ _ _ | .UnaryOp _ _ _ | .Call _ _ _ _ | .Subscript _ _ _ => true
  | _ => false
/-- a test by its value -/
def plainTs : Expr → Bool
  | .UnaryOp .Not _ _ | .BoolOp _ _ _ | .IfExp _ _ _ _ | .Compare _ _ _ _ => false
  | _ => true
def notSuper : Expr → Bool
  | .Call _ _ _ _ => false
  | _ => true
def notSet : Expr → Bool
  | .Set _ _ _ => false
  | _ => true
def constD : Const → MW.D → Bool
  | .none, .none => true
  | .bool a, .bool b => a == b
  | .int a, .int b => a == b
  | .str a, .str b => decide (a = b) && decide (b.length ≤ szLine)
  | _, _ => false
/-- targets -/
def ckT1 (c : Ct) (sc : Scope) : T → Expr → Bool
  | .name i, x => (match x with | .Name n _ => locN c sc i n | _ => false)
  | .two a b, x => (match x with | .Tuple [y, z] _ _ => ckT1 c sc a y && ckT1 c sc b z && notStar y && notStar z | _ => false)
  | .three a b d, x => (match x with | .Tuple [y, z, w] _ _ => ckT1 c sc a y && ckT1 c sc b z && ckT1 c sc d w && notStar y && notStar z && notStar w | _ => false)
  | .four a b d e, x => (match x with | .Tuple [y, z, w, v] _ _ => ckT1 c sc a y && ckT1 c sc b z && ckT1 c sc d w && ckT1 c sc e v && notStar y && notStar z && notStar w && notStar v | _ => false)
/-- a block's own names, from its targets -/
def tOwn : T → Expr → List (Str × Nat)
  | .name i, x => (match x with | .Name n _ => [(n, i)] | _ => [])
  | .two a b, x => (match x with | .Tuple [y, z] _ _ => tOwn a y ++ tOwn b z | _ => [])
  | .three a b d, x => (match x with | .Tuple [y, z, w] _ _ => tOwn a y ++ (tOwn b z ++ tOwn d w) | _ => [])
  | .four a b d e, x => (match x with | .Tuple [y, z, w, v] _ _ => tOwn a y ++ (tOwn b z ++ (tOwn d w ++ tOwn e v)) | _ => [])
def isTupT : Expr → Bool
  | .Tuple _ _ _ => true
  | _ => false
mutual
/-- ts: at a test's place -/
def ckE (c : Ct) (sc : Scope) (ts : Bool) : MW.E → Expr → Bool
  | .var i, x => (!ts || plainTs x) && (match x with | .Name n _ => visN c sc i n | _ => false)
  | .const d, x => (!ts || plainTs x) && (match x with | .Constant k _ _ => constD k d | _ => false)
  | .glob g, x => (!ts || plainTs x) && (match x with | .Name n _ => decide (c.globs[g]? = some n) && gloN sc n | _ => false)
  | .bin o a b, x => (!ts || plainTs x) && (match x with | .BinOp l op r _ => decide (op = opA o) && ckE c sc false a l && ckE c sc false b r | _ => false)
  | .neg a, x => (!ts || plainTs x) && (match x with | .UnaryOp .USub v _ => ckE c sc false a v | _ => false)
  | .not a, x => (match x with | .UnaryOp .Not v _ => ckE c sc ts a v | _ => false)
  | .and a b, x => (match x with
    | .BoolOp .And (v :: w :: []) _ => ckE c sc ts a v && ckE c sc ts b w
    | .BoolOp .And (v :: w :: u :: r) p => ckE c sc ts a v && ckE c sc ts b (.BoolOp .And (w :: u :: r) p)
    | _ => false)
  | .or a b, x => (match x with
    | .BoolOp .Or (v :: w :: []) _ => ckE c sc ts a v && ckE c sc ts b w
    | .BoolOp .Or (v :: w :: u :: r) p => ckE c sc ts a v && ckE c sc ts b (.BoolOp .Or (w :: u :: r) p)
    | _ => false)
  | .cmp o a b, x => (match x with | .Compare l [op] [r] _ => decide (op = cmpA o) && ckE c sc false a l && ckE c sc false b r && !behindInMarks op r | _ => false)
  | .chain o p a b d, x => (match x with | .Compare l [op, op'] [r, s] _ => decide (op = cmpA o) && decide (op' = cmpA p) && ckE c sc false a l && ckE c sc false b r && ckE c sc false d s && !lastMarks [op, op'] [r, s] | _ => false)
  | .ite t a b, x => !ts && (match x with | .IfExp u v w _ => ckE c sc true t u && ckE c sc false a v && ckE c sc false b w | _ => false)
  | .call f as, x => (!ts || plainTs x) && (match x with | .Call (.Name n _) es [] _ => decide (c.fns[f]? = some (n, esLen as)) && gloN sc n && ckEs c sc as es | _ => false)
  | .prim p as, x => (!ts || plainTs x) && (match x with
    | .Call (.Name n _) es [] _ => gloN sc n && (match isaA p with
      | some T => (match as with
        | .cons a .nil => (match es with | [v, .Name t _] => decide (n = "isinstance") && decide (t = Str.ofString T) && gloN sc t && ckE c sc false a v && notStar v | _ => false)
        | _ => false)
      | none => decide ((priA p).map (·.1) = some n) && ckEs c sc as es && !es.isEmpty)
    | _ => false)
  | .meth m a as, x => (!ts || plainTs x) && (match m, as with
    | .index, .cons b .nil => (match x with | .Call (.Attribute o n ap) [v] [] cp => decide (n = "index") && ckE c sc false a o && ckE c sc false b v && notStar v && notSuper o && (ap.endLine == cp.line) | _ => false)
    | _, _ => false)
  | .tup as, x => (!ts || plainTs x) && (match x with | .Tuple es _ _ => ckEs c sc as es && decide (esLen as ≤ 1000) | _ => false)
  | .lst as, x => (!ts || plainTs x) && (match x with | .List es _ => ckEs c sc as es && decide (esLen as ≤ 1000) | _ => false)
  | .dic _ as, x => (!ts || plainTs x) && (match x with | .Dict ks vs _ => ckPs c sc as ks vs && decide (ks.length ≤ 15) | _ => false)
  | .idx a i, x => (!ts || plainTs x) && (match x with | .Subscript v s _ => ckE c sc false a v && ckE c sc false i s && plainSl s | _ => false)
  | .slice a lo hi, x => (!ts || plainTs x) && (match x with
    | .Subscript v (.Slice l u none _) _ => ckE c sc false a v && (match l with | none => isNoneE lo | some l => !isNoneE lo && ckE c sc false lo l) && (match u with | none => isNoneE hi | some u => !isNoneE hi && ckE c sc false hi u)
    | _ => false)
  | .rev a, x => (!ts || plainTs x) && (match x with | .Subscript v (.Slice none none (some (.UnaryOp .USub (.Constant (.int 1) _ _) _)) _) _ => ckE c sc false a v | _ => false)
  | .comp t it d e, x => (!ts || plainTs x) && (match x with
    | .ListComp elt [⟨tg, iter, ifs, 0⟩] scope _ => ckIt c sc (isTupT tg) it iter && ckT1 c.noT scope t tg && blkC c.N sc scope (tOwn t tg) && notSet iter && ckE c.noT scope false e elt && (match ifs with
      | [] => (match d with | .const (.bool true) => true | _ => false)
      | [f] => ckE c.noT scope true d f
      | _ => false)
    | _ => false)
  | .comp2 t it t2 it2 d e, x => (!ts || plainTs x) && (match x with
    | .ListComp elt [⟨tg, iter, [], 0⟩, ⟨tg2, iter2, ifs, 0⟩] scope _ => ckIt c sc (isTupT tg) it iter && ckT1 c.noT scope t tg && blkC c.N sc scope (tOwn t tg ++ tOwn t2 tg2) && notSet iter && ckE c.noT scope false e elt && ckT1 c.noT scope t2 tg2 && notSet iter2 && ckIt c.noT scope (isTupT tg2) it2 iter2 && (match ifs with
      | [] => (match d with | .const (.bool true) => true | _ => false)
      | [f] => ckE c.noT scope true d f
      | _ => false)
    | _ => false)
  | .same a b, x => (match x with
    | .Compare (.Call (.Name n _) [v] [] _) [.Eq] [.Call (.Name m _) [w] [] _] _ => decide (n = "repr") && decide (m = "repr") && gloN sc "repr" && ckE c sc false a v && ckE c sc false b w && notStar v && notStar w
    | _ => false)
  | .append i e, x => (!ts || plainTs x) && (match x with | .Call (.Attribute (.Name n _) m ap) [v] [] cp => decide (m = "append") && visN c sc i n && ckE c sc false e v && notStar v && (ap.endLine == cp.line) | _ => false)
  | .pop i, x => (!ts || plainTs x) && (match x with | .Call (.Attribute (.Name n _) m ap) [] [] cp => decide (m = "pop") && visN c sc i n && (ap.endLine == cp.line) | _ => false)
  | .told f e, x => (!ts || plainTs x) && (match x with | .Call _ _ _ _ => c.tl f e x | _ => false)
  | _, _ => false
def ckEs (c : Ct) (sc : Scope) : Es → List Expr → Bool
  | .nil, xs => xs.isEmpty
  | .cons e es, xs => (match xs with | x :: xs => ckE c sc false e x && notStar x && ckEs c sc es xs | [] => false)
/-- the pairs of a dict display -/
def ckPs (c : Ct) (sc : Scope) : Es → List (Option Expr) → List Expr → Bool
  | .nil, ks, vs => ks.isEmpty && vs.isEmpty
  | .cons (.tup (.cons k (.cons v .nil))) es, ks, vs => (match ks, vs with | some x :: ks, y :: vs => ckE c sc false k x && ckE c sc false v y && ckPs c sc es ks vs | _, _ => false)
  | .cons _ _, _, _ => false
/-- what is walked; tu: the target is a tuple -/
def ckIt (c : Ct) (sc : Scope) (tu : Bool) : MW.It → Expr → Bool
  | .seq e, x => ckE c sc false e x
  | .range1 a, x => (match x with | .Call (.Name n _) [v] [] _ => decide (n = "range") && gloN sc n && ckE c sc false a v && notStar v | _ => false)
  | .range2 a b, x => (match x with | .Call (.Name n _) [v, w] [] _ => decide (n = "range") && gloN sc n && ckE c sc false a v && ckE c sc false b w && notStar v && notStar w | _ => false)
  | .range3 a b d, x => (match x with | .Call (.Name n _) [v, w, u] [] _ => decide (n = "range") && gloN sc n && ckE c sc false a v && ckE c sc false b w && ckE c sc false d u && notStar v && notStar w && notStar u | _ => false)
  | .enum a, x => (match x with | .Call (.Name n _) [v] [] _ => decide (n = "enumerate") && gloN sc n && ckE c sc false a v && notStar v && tu | _ => false)
  | .zip2 a b, x => (match x with | .Call (.Name n _) [v, w] [] _ => decide (n = "zip") && gloN sc n && ckE c sc false a v && ckE c sc false b w && notStar v && notStar w && tu | _ => false)
  | .zip3 _ _ _, _ => false
end
/-- what is raised: a class's name by its number, how many arguments -/
def rsOf (N : List Str) (fns : List (Str × Nat)) (globs : List Str) (exs : List (Str × Nat)) (sc : Scope) : Nat → Es → Stmt → Bool := fun k as x => match x with
  | .Raise (some (.Call (.Name n _) (y :: ys) [] _)) none _ => decide (exs[k]? = some (n, 1)) && decide (MW.esLen as = 1) && gloN sc n && ckEs ⟨N, fns, globs, noTl, noRs⟩ sc as (y :: ys)
  | _ => false
end MW
end
section
set_option Elab.async false
set_option linter.all false
set_option maxRecDepth 100000
set_option maxHeartbeats 4000000
/-! So19: what a context must have; small facts of texts. -/
namespace MW
open PySem PySem.Spec
open PyProof.Rows hiding St
open L2 (V Hp HO St upd upd_same upd_ne SqL SqT Rd Vals RelV Key kV ne_of_none VK XK TE TT TA TS TG TGs TI TO TIp TSet Sp CXT Room Env0 CR CE Binds FnScope Passes Gl Vis Loc Ends PE PT PW PA PS PSs PG PGs PI PO PIp OpR CallR MtR MtM IxR SlR Dp DpAll PSet Walk cxOf inv_start tCall thn BlkOk blkC blkOk_by PlainIx)
variable [Tbs]
/-- the names that a text uses stand in the context so -/
structure ScOk (X : L2.Cx) (sc : Scope) : Prop where
  loc : ∀ x, sc.names.lookup x = some .local → X.env.scope.names.lookup x = some .local
  cel : ∀ x, sc.names.lookup x = some .cell → X.env.scope.names.lookup x = some .cell
  fre : ∀ x, sc.names.lookup x = some .free → X.env.scope.names.lookup x = some .cell ∨ X.env.scope.names.lookup x = some .free
  glo : ∀ x, sc.names.lookup x = some .globalImplicit → X.env.scope.names.lookup x = some .globalImplicit
  fn : ∀ x, sc.names.lookup x = some .cell → X.fn x = true
def bltNames : List Str := ["len", "sorted", "list", "tuple", "sum", "min", "max", "any", "all", "abs", "int", "isinstance", "repr", "range", "enumerate", "zip", "bool", "str"]
structure GX (c : Ct) (g : Ge) (E : XK) (X : L2.Cx) : Prop where
  nn : X.N = c.N
  hK : X.K = g.K
  calm : X.calm = true
  nd : X.N.Nodup
  hg : X.A.guards = some []
  hu : X.A.units + 65 < cLine
  blt : ∀ x, x ∈ bltNames → X.mg x = none
  glo : ∀ (i : Nat) x, c.globs[i]? = some x → ∃ v u, X.mg x = some u ∧ RelV v u ∧ GlobOk g.K (g.mw.glob i) v
  fns : ∀ (i : Nat) x np, c.fns[i]? = some (x, np) → ∃ a fd ps k, FnG X.prog X.w X.K X.mg X.base (L2.CX X.prog X.w) k a fd ps (SpF g np i) ∧ Room k X.A ∧ X.mg x = some (.ref a) ∧ PySem.W.keepIn X.K (.ref a) = true ∧ Binds X.K fd ps []
  pas : Passes (L2.CX X.prog X.w) X E
  told : ∀ (f : Nat) (e : MW.E) (x : Expr), c.tl f e x = true → PE X x (RE g E (.told f e))
  raised : ∀ (k : Nat) (as : Es) (x : Stmt), c.rs k as x = true → PS X x (RS g E (.raise k as))
theorem lookup_map {f : Str × NameKind → Str × NameKind} (hf : ∀ p, (f p).1 = p.1) : ∀ (l : List (Str × NameKind)) (x : Str) (k : NameKind), l.lookup x = some k → (l.map f).lookup x = some (f (x, k)).2
  | [], _, _, h => by cases h
  | (n, q) :: l, x, k, h => by
    rw [List.map_cons, List.lookup_cons]
    rw [List.lookup_cons] at h
    have e1 : (f (n, q)).1 = n := hf _
    rw [e1]
    cases e : (x == n) with
    | true =>
      rw [e] at h
      cases h
      have : x = n := by simpa using e
      rw [this]
    | false =>
      rw [e] at h
      exact lookup_map hf l x k h
theorem sc_blk {X : L2.Cx} {scope : Scope} {cl : List (Str × Addr)} {C : Addr} {s : Shared} {H : Hp} {fp : List Addr} : ScOk (X.blk s H scope (compEnvC scope cl C X.env) fp) scope := by
  have lk : ∀ x k, scope.names.lookup x = some k → (relabel scope X.env).names.lookup x = some (if (k == NameKind.free && X.env.scope.kind == .function && X.env.kindOf x == some .cell) then NameKind.cell else k) := fun x k h => by
    unfold relabel
    have := lookup_map (f := fun (n, k) => if (k == NameKind.free && X.env.scope.kind == .function && X.env.kindOf n == some .cell) then (n, NameKind.cell) else (n, k)) (fun p => by dsimp only; split <;> rfl) scope.names x k h
    rw [this]
    dsimp only
    split <;> rfl
  refine ⟨fun x h => ?_, fun x h => ?_, fun x h => ?_, fun x h => ?_, fun x h => by show (scope.names.lookup x == some .cell) = true; rw [h]; rfl⟩
  · show (relabel scope X.env).names.lookup x = _
    rw [lk x _ h]
    rfl
  · show (relabel scope X.env).names.lookup x = _
    rw [lk x _ h]
    rfl
  · show (relabel scope X.env).names.lookup x = _ ∨ (relabel scope X.env).names.lookup x = _
    rw [lk x _ h]
    split
    · exact .inl rfl
    · exact .inr rfl
  · show (relabel scope X.env).names.lookup x = _
    rw [lk x _ h]
    rfl
theorem GX.blk {c : Ct} {g : Ge} {E : XK} {X : L2.Cx} (G : GX c g E X) {scope : Scope} {cl : List (Str × Addr)} {C : Addr} {s : Shared} {H : Hp} {fp : List Addr} :
    GX c.noT g noX (X.blk s H scope (compEnvC scope cl C X.env) fp) :=
  ⟨G.nn, G.hK, G.calm, G.nd, G.hg, G.hu, G.blt, G.glo, G.fns, fun _ _ _ _ _ _ _ h => by obtain ⟨_, _, _, _, _, _, _, _, _, _, _, _, hE⟩ := h; exact hE, (fun _ _ _ h => by cases h), (fun _ _ _ h => by cases h)⟩
section
variable {X : L2.Cx} {c : Ct} {sc : Scope} {g : Ge} {E : XK}
theorem dbg_of {x : Str} (h : notDbg x = true) : (x == ("__debug__" : Str)) = false ∧ (x == ("__classdict__" : Str)) = false ∧ x ≠ "__name__" := by
  unfold notDbg at h
  simp only [Bool.and_eq_true, Bool.not_eq_true'] at h
  exact ⟨h.1.1, h.1.2, fun e => by rw [e] at h; simp at h⟩
theorem vis_of (S : ScOk X sc) {i : Nat} {x : Str} (G : GX c g E X) (h : visN c sc i x = true) : X.N[i]? = some x ∧ Vis X.env.scope x ∧ (x == ("__debug__" : Str)) = false ∧ (x == ("__classdict__" : Str)) = false := by
  unfold visN at h
  simp only [Bool.and_eq_true, Bool.or_eq_true, decide_eq_true_eq] at h
  obtain ⟨⟨h1, h2⟩, h3⟩ := h
  refine ⟨by rw [G.nn]; exact h1, ?_, (dbg_of h3).1, (dbg_of h3).2.1⟩
  rcases h2 with (h | h) | h
  · exact .inl (S.loc x h)
  · exact .inr (.inl (S.cel x h))
  · exact .inr (S.fre x h)
theorem loc_of (S : ScOk X sc) {i : Nat} {x : Str} (G : GX c g E X) (h : locN c sc i x = true) : X.N[i]? = some x ∧ Loc X.env.scope x ∧ (X.fn x = true ∨ X.env.scope.names.lookup x = some .local) := by
  unfold locN at h
  simp only [Bool.and_eq_true, Bool.or_eq_true, decide_eq_true_eq] at h
  obtain ⟨⟨h1, h2⟩, h3⟩ := h
  refine ⟨by rw [G.nn]; exact h1, ?_⟩
  rcases h2 with h | h
  · exact ⟨.inl (S.loc x h), .inr (S.loc x h)⟩
  · exact ⟨.inr (S.cel x h), .inl (S.fn x h)⟩
theorem glo_of (S : ScOk X sc) {x : Str} (h : gloN sc x = true) : Gl X x ∧ (x == ("__debug__" : Str)) = false ∧ x ≠ "__name__" := by
  unfold gloN at h
  simp only [Bool.and_eq_true, decide_eq_true_eq] at h
  exact ⟨S.glo x h.1, (dbg_of h.2).1, (dbg_of h.2).2.2⟩
theorem star_cons {x : Expr} {xs : List Expr} {env : PySem.Env} (h : notStar x = true) : starEach (x :: xs) env = (false, eval x env) :: starEach xs env := by
  cases x <;> first | rfl | cases h
theorem star_none {pos : Pos} {env : PySem.Env} : ∀ {xs : List Expr}, (∀ x ∈ xs, notStar x = true) → (backTo pos (starEach xs env)).any (·.1) = false
  | [], _ => rfl
  | x :: xs, h => by
    rw [star_cons (h x List.mem_cons_self)]
    show (false || (backTo pos (starEach xs env)).any (·.1)) = false
    rw [star_none fun y hy => h y (List.mem_cons_of_mem _ hy)]
    rfl
theorem es_star : ∀ {es : Es} {xs : List Expr}, ckEs c sc es xs = true → ∀ x ∈ xs, notStar x = true
  | .nil, xs, h => by
    unfold ckEs at h
    rw [List.isEmpty_iff] at h
    subst h
    intro x hx
    cases hx
  | .cons e es, xs, h => by
    unfold ckEs at h
    cases xs with
    | nil => cases h
    | cons x xs =>
      simp only [Bool.and_eq_true] at h
      intro y hy
      rcases List.mem_cons.mp hy with rfl | hy
      · exact h.1.2
      · exact es_star h.2 y hy
theorem sl_plain {b : Expr} (h : plainSl b = true) : PlainIx b := by
  cases b <;> first | exact fun _ _ => rfl | cases h
theorem ts_plain {x : Expr} {env : PySem.Env} (h : plainTs x = true) (whole : Sem Value) : isTrue x env whole = (do let v ← whole; standAt x.pos; holding [v] (truthy v)) := by
  cases x <;> first | rfl | cases h | (rename_i op _ _; cases op <;> first | rfl | cases h)
theorem set_plain {x : Expr} {env : PySem.Env} (h : notSet x = true) (v : Value) : foldedSetIterable x env v = pure v := by
  cases x <;> first | rfl | cases h
theorem base_plain {o : Expr} {n : Str} {env : PySem.Env} (h : notSuper o = true) : attributeBase o n env (eval o env) = eval o env := by
  cases o <;> first | rfl | cases h
end
/-- every expression but a name's is an operand by its value -/
def notVG : MW.E → Bool
  | .var _ => false
  | .glob _ => false
  | _ => true
theorem evo_val {mw : Cx} {e : MW.E} (h : notVG e = true) (r : Env) : evO mw e r = (ev mw e r).bind fun v r => .ok (.val v.1 v.2) r := by
  cases e <;> first | (simp only [evO]; done) | cases h
end MW
end
section
set_option Elab.async false
set_option linter.all false
set_option maxRecDepth 100000
set_option maxHeartbeats 8000000
/-! So20: a checked expression reads as its IR text says. -/
namespace MW
open PySem PySem.Spec
open PyProof.Rows hiding St
open L2 (V Hp HO St upd upd_same upd_ne SqL SqT Rd Vals RelV Key kV ne_of_none VK XK TE TT TA TS TG TGs TI TO TIp TSet Sp CXT Room Env0 CR CE Binds FnScope Passes Gl Vis Loc Ends PE PT PW PA PS PSs PG PGs PI PO PIp OpR CallR MtR MtM IxR SlR Dp DpAll PSet Walk cxOf inv_start tCall thn BlkOk blkC blkOk_by PlainIx)
variable [Tbs]
section
variable {X : L2.Cx} {x : Expr} {ts : List Expr}
theorem pi_imp {tg : Expr} {t t' : TI} (h : PI X tg x t) (i : ∀ σ H Q, t' σ H Q → t σ H Q) : PI X tg x t' := ⟨fun pins s σ H Q I q => h.run pins s σ H Q I (i σ H Q q)⟩
theorem po_imp' {e : Option Expr} {t t' : TO} (h : PO X e t) (i : ∀ σ H Q, t' σ H Q → t σ H Q) : PO X e t' := ⟨fun pins s σ H Q I q => h.run pins s σ H Q I (i σ H Q q)⟩
/-- a list or a tuple is walked -/
theorem pi_seq {tg l : Expr} {tl : TE} (hl : PE X l tl) : PI X tg l (iSeq X.K tl) := by
  refine ⟨fun pins s σ H R I h => ?_⟩
  refine thn (hl.run pins s σ H _ I h) fun v s1 ⟨x, H1, I1, r1, q1⟩ => ?_
  have nw : ∀ (b : Ad), b ∈ [s1.heap.objs.size] → L2.FpOk X pins H1 b := fun b hb => by
    rw [List.mem_singleton.mp hb]
    exact I1.fpOk (Nat.le_refl _) (I1.hok.fresh (Nat.le_refl _))
  rcases q1 with ⟨a, xs, e, hq, q⟩ | ⟨a, xs, e, hq, q⟩
  · subst e
    obtain rfl : v = Value.ref a := r1
    obtain ⟨its, rv, p, hz⟩ := I1.list hq
    refine wpAny_pyIter_list p.isList ?_
    exact ⟨_, [_], _, _, H1, rfl, I1.kept (t' := s1.toks) fun b o e => Heap.get?_push_of_some _ e, L2.turn_list a _, ⟨_, Heap.get?_push_size _ rfl, rfl, rfl⟩, nw, q⟩
  · subst e
    obtain rfl : v = Value.ref a := r1
    obtain ⟨its, rv, p, hz⟩ := I1.tuple hq
    refine wpAny_pyIter_tuple (show s1.heap.IsTuple a its.toArray from p) ?_
    exact ⟨_, [_], _, _, H1, rfl, I1.kept (t' := s1.toks) fun b o e => Heap.get?_push_of_some _ e, L2.turn_tuple a _, ⟨_, Heap.get?_push_size _ rfl, rfl, rfl⟩, nw, q⟩
end
theorem asg_cons {x : Expr} {xs : List Expr} {env : PySem.Env} (h : notStar x = true) : assignEach (x :: xs) env = (false, assign x env) :: assignEach xs env := by
  cases x <;> first | rfl | cases h
theorem pgs_c {X : L2.Cx} {x : Expr} {xs : List Expr} {t : TG} {u : TGs} (h : notStar x = true) (h1 : PG X x t) (h2 : PGs X xs u) : PGs X (x :: xs) (L2.gCons t u) :=
  L2.pgs_cons h1 h2 (by rw [asg_cons h]; rfl)
/-- targets -/
theorem pg_ck {c : Ct} {g : Ge} {E : XK} {X : L2.Cx} {sc : Scope} (G : GX c g E X) (S : ScOk X sc) : ∀ (t : T) (x : Expr), ckT1 c sc t x = true → PG X x (gT g.K t)
  | .name i, x, h => by
    unfold ckT1 at h
    split at h
    · rename_i n p
      obtain ⟨h1, h2, h3⟩ := loc_of S G h
      exact L2.pg_name G.nd h1 h2 h3
    · cases h
  | .two a b, x, h => by
    unfold ckT1 at h
    split at h
    · simp only [Bool.and_eq_true] at h
      rename_i y z k p
      obtain ⟨⟨⟨h1, h2⟩, n1⟩, n2⟩ := h
      have q := L2.pg_tup (k := k) (pos := p) (n := 2) G.calm (pgs_c n1 (pg_ck G S a _ h1) (pgs_c n2 (pg_ck G S b _ h2) L2.pgs_nil)) (by rw [asg_cons n1, asg_cons n2]; rfl) (by rw [asg_cons n1, asg_cons n2]; rfl)
      rw [G.hK] at q
      exact q
    · cases h
  | .three a b d, x, h => by
    unfold ckT1 at h
    split at h
    · simp only [Bool.and_eq_true] at h
      rename_i y z w k p
      obtain ⟨⟨⟨⟨⟨h1, h2⟩, h3⟩, n1⟩, n2⟩, n3⟩ := h
      have q := L2.pg_tup (k := k) (pos := p) (n := 3) G.calm (pgs_c n1 (pg_ck G S a _ h1) (pgs_c n2 (pg_ck G S b _ h2) (pgs_c n3 (pg_ck G S d _ h3) L2.pgs_nil))) (by rw [asg_cons n1, asg_cons n2, asg_cons n3]; rfl) (by rw [asg_cons n1, asg_cons n2, asg_cons n3]; rfl)
      rw [G.hK] at q
      exact q
    · cases h
  | .four a b d e, x, h => by
    unfold ckT1 at h
    split at h
    · simp only [Bool.and_eq_true] at h
      rename_i y z w v k p
      obtain ⟨⟨⟨⟨⟨⟨⟨h1, h2⟩, h3⟩, h4⟩, n1⟩, n2⟩, n3⟩, n4⟩ := h
      have q := L2.pg_tup (k := k) (pos := p) (n := 4) G.calm (pgs_c n1 (pg_ck G S a _ h1) (pgs_c n2 (pg_ck G S b _ h2) (pgs_c n3 (pg_ck G S d _ h3) (pgs_c n4 (pg_ck G S e _ h4) L2.pgs_nil)))) (by rw [asg_cons n1, asg_cons n2, asg_cons n3, asg_cons n4]; rfl) (by rw [asg_cons n1, asg_cons n2, asg_cons n3, asg_cons n4]; rfl)
      rw [G.hK] at q
      exact q
    · cases h
theorem own_slots {c : Ct} {sc : Scope} : ∀ (t : T) (x : Expr), ckT1 c sc t x = true → (tOwn t x).map (·.2) = tSlots t
  | .name i, x, h => by
    unfold ckT1 at h
    split at h
    · rfl
    · cases h
  | .two a b, x, h => by
    unfold ckT1 at h
    split at h
    · simp only [Bool.and_eq_true] at h
      obtain ⟨⟨⟨h1, h2⟩, n1⟩, n2⟩ := h
      simp only [tOwn, List.map_append, own_slots a _ h1, own_slots b _ h2, tSlots]
    · cases h
  | .three a b d, x, h => by
    unfold ckT1 at h
    split at h
    · simp only [Bool.and_eq_true] at h
      obtain ⟨⟨⟨⟨⟨h1, h2⟩, h3⟩, n1⟩, n2⟩, n3⟩ := h
      simp only [tOwn, List.map_append, own_slots a _ h1, own_slots b _ h2, own_slots d _ h3, tSlots]
    · cases h
  | .four a b d e, x, h => by
    unfold ckT1 at h
    split at h
    · simp only [Bool.and_eq_true] at h
      obtain ⟨⟨⟨⟨⟨⟨⟨h1, h2⟩, h3⟩, h4⟩, n1⟩, n2⟩, n3⟩, n4⟩ := h
      simp only [tOwn, List.map_append, own_slots a _ h1, own_slots b _ h2, own_slots d _ h3, own_slots e _ h4, tSlots]
    · cases h
section
variable {c : Ct} {g : Ge} {E : XK} {X : L2.Cx} {sc : Scope}
/-- an operand, from a value -/
theorem po_of (G : GX c g E X) (S : ScOk X sc) {ts : Bool} {e : MW.E} {x : Expr} (h : ckE c sc ts e x = true) (hp : notVG e = true → PE X x (RE g E e)) : PE X x (RO g E e) := by
  cases q : notVG e with
  | true => exact pe_imp (hp q) (ro_of_val (evo_val q))
  | false =>
    cases e <;> first | cases q | skip
    · rename_i i
      simp only [ckE, Bool.and_eq_true] at h
      replace h := h.2
      split at h
      · rename_i n p
        obtain ⟨h1, h2, h3, h4⟩ := vis_of S G h
        exact pe_imp (L2.pe_var h1 h2 h3 h4) fun σ H Q q => ro_var σ H Q q
      · cases h
    · rename_i i
      simp only [ckE, Bool.and_eq_true] at h
      replace h := h.2
      split at h
      · rename_i n p
        simp only [Bool.and_eq_true, decide_eq_true_eq] at h
        obtain ⟨v, u, hm, r, ok⟩ := G.glo i n h.1
        obtain ⟨h1, h2, h3⟩ := glo_of S h.2
        exact pe_imp (L2.pe_glob h1 hm r h2) fun σ H Q q => ro_glob ok q
      · cases h
theorem blt_in {n : Str} (G : GX c g E X) (h : n ∈ bltNames) : X.mg n = none := G.blt n h
theorem pri_name {p : P} {n : Str} (h : (priA p).map (·.1) = some n) : ∃ f, priA p = some (n, f) ∧ n ∈ bltNames ∧ bootBuiltins n = some f ∧ ((∃ id, f = .builtin id) ∨ ∃ T, f = .type T) := by
  cases p <;> simp only [priA, Option.map_some, Option.map_none] at h <;> cases h <;> refine ⟨_, rfl, by decide, by decide +kernel, ?_⟩ <;> first | exact .inl ⟨_, rfl⟩ | exact .inr ⟨_, rfl⟩
theorem pe_bltTy {T : String} {n : Str} {p : Pos} (G : GX c g E X) (S : ScOk X sc) (hn : gloN sc n = true) (hm : n ∈ bltNames) (hv : bootBuiltins n = some (.type T)) : PE X (.Name n p) (L2.tC (.ty T)) := by
  obtain ⟨h1, h2, h3⟩ := glo_of S hn
  exact ⟨fun pins s σ H Q I h => L2.ld_blt I h1 (blt_in G hm) hv ⟨V.ty T, H, I, rfl, h⟩ h3 h2⟩
theorem isa_name {p : P} {T : String} (h : isaA p = some T) : Str.ofString T ∈ bltNames ∧ bootBuiltins (Str.ofString T) = some (.type T) := by
  cases p <;> simp only [isaA] at h <;> cases h <;> exact ⟨by decide, by decide +kernel⟩
/-- a call of a built-in function of plain values -/
theorem pe_pri {n : Str} {f : Value} {y : Expr} {ys : List Expr} {p pos : Pos} {r : List V → Hp → VK → Prop} {t : TA} (G : GX c g E X) (S : ScOk X sc) (hn : gloN sc n = true) (hm : n ∈ bltNames) (hv : bootBuiltins n = some f) (hf : (∃ id, f = .builtin id) ∨ ∃ T, f = .type T) (hc : CallR X f r) (ha : PA X (y :: ys) t) (hs : ∀ z ∈ y :: ys, notStar z = true) :
    PE X (.Call (.Name n p) (y :: ys) [] pos) (L2.tCB r t) := by
  obtain ⟨h1, h2, h3⟩ := glo_of S hn
  have s1 := star_cons (xs := ys) (env := X.env) (hs y List.mem_cons_self)
  have s2 := star_none (pos := pos) (env := X.env) (xs := ys) fun z hz => hs z (List.mem_cons_of_mem _ hz)
  rcases hf with ⟨id, e⟩ | ⟨T, e⟩
  · subst e
    exact L2.pe_callB hc h1 (blt_in G hm) hv ha h3 h2 s1 s2
  · subst e
    exact L2.pe_callTy hc h1 (blt_in G hm) hv ha h3 h2 s1 s2
theorem rt_true {σ : St} {H : Hp} {Q : Bool → Hp → Prop} (h : RT g E (.const (.bool true)) σ H Q) : L2.tYes σ H Q := by
  obtain ⟨Z, ρ, st, o⟩ := h
  simp only [evT, evO, ev, Res.bind, opdV, opdD, Option.bind_some, tru, truth] at o
  exact o.now st
theorem blk_ok {N : List Str} {scope : Scope} {own : List (Str × Nat)} (S : ScOk X sc) (hN : X.N = N) (h : blkC N sc scope own = true) : BlkOk X.N X.env.scope scope own := by
  have b := blkOk_by h
  rw [hN]
  refine ⟨b.kind, b.uniq, b.ix, fun y hy e => ?_, b.own⟩
  rcases b.free y hy e with q | q
  · exact .inl (S.cel _ q)
  · exact S.fre _ q
theorem fewA {x : Expr} {cpos : Pos} {env : PySem.Env} (h : notStar x = true) : ((backTo cpos (starEach [x] env)).all (fun x => !x.1) && (backToKw cpos (keywordEach [] env)).all (fun x => x.1.isSome)
      && decide ([x].length + ([] : List Keyword).length + (if ([] : List Keyword).isEmpty then 0 else 1) < 30)) = true := by
  rw [star_cons h]
  rfl
end
def isTestE : MW.E → Bool
  | .not _ | .and _ _ | .or _ _ | .cmp _ _ _ | .chain _ _ _ _ _ | .same _ _ | .ite _ _ _ => true
  | _ => false
theorem ck_plain {c : Ct} {sc : Scope} {e : MW.E} {x : Expr} (hn : isTestE e = false) (h : ckE c sc true e x = true) : plainTs x = true ∧ ckE c sc false e x = true := by
  cases e <;> first
    | cases hn; done
    | (simp [ckE] at h; done)
    | (unfold ckE at h ⊢
       rw [Bool.and_eq_true] at h ⊢
       exact ⟨by simpa using h.1, by simp, h.2⟩)
theorem evt_plain {mw : Cx} {e : MW.E} (hn : isTestE e = false) (r : Env) : evT mw e r = (evO mw e r).bind fun x r => match (opdV r x).bind tru with | some t => .ok t r | none => .st 64 := by
  cases e <;> first | (unfold evT; rfl) | cases hn
theorem pw_of {X : L2.Cx} {op : BoolOp} {vs : List Expr} {pos : Pos} {t : TT} (h : PT X (.BoolOp op vs pos) t) : PW X (.BoolOp op vs pos) t := ⟨fun _ pins s σ H Q I q => h.run pins s σ H Q I q⟩
theorem pt_plain {c : Ct} {g : Ge} {E : XK} {X : L2.Cx} {sc : Scope} {e : MW.E} {x : Expr} (G : GX c g E X) (S : ScOk X sc) (hn : isTestE e = false) (h : ckE c sc true e x = true) (hp : ckE c sc false e x = true → PE X x (RE g E e)) : PT X x (RT g E e) := by
  obtain ⟨h1, h2⟩ := ck_plain hn h
  refine pt_imp (L2.pt_truth (po_of G S h2 fun _ => hp h2) (ts_plain h1)) fun σ H Q q => ?_
  rw [G.hK]
  exact rt_val (evt_plain hn) q
theorem same_bl {mw : Cx} {a b : MW.E} {r r' : Env} {v : Bool × D} (h : ev mw (.same a b) r = .ok v r') : ∃ t, v = (false, .bool t) := by
  simp only [ev] at h
  obtain ⟨x, r1, _, h⟩ := bind_ok h
  obtain ⟨y, r2, _, h⟩ := bind_ok h
  obtain ⟨z, r3, _, h⟩ := bind_ok h
  obtain ⟨w, r4, _, h⟩ := bind_ok h
  cases h
  exact ⟨_, rfl⟩
theorem ckPs_keys {c : Ct} {sc : Scope} : ∀ (es : Es) (ks : List (Option Expr)) (vs : List Expr), ckPs c sc es ks vs = true → ks.all (·.isSome) = true ∧ ks.length = vs.length ∧ (ks = [] → es = .nil ∧ vs = []) ∧ esLen es = ks.length ∧ PrsOk es
  | .nil, ks, vs, h => by
    unfold ckPs at h
    simp only [Bool.and_eq_true, List.isEmpty_iff] at h
    obtain ⟨e1, e2⟩ := h
    subst e1 e2
    exact ⟨rfl, rfl, fun _ => ⟨rfl, rfl⟩, rfl, .nil⟩
  | .cons e es, ks, vs, h => by
    cases e <;> try (simp [ckPs] at h; done)
    rename_i as
    cases as with
    | nil => simp [ckPs] at h
    | cons k as =>
      cases as with
      | nil => simp [ckPs] at h
      | cons v as =>
        cases as with
        | cons _ _ => simp [ckPs] at h
        | nil =>
          simp only [ckPs] at h
          split at h
          · simp only [Bool.and_eq_true] at h
            obtain ⟨⟨h1, h2⟩, h3⟩ := h
            obtain ⟨n1, n2, n3, n4, n5⟩ := ckPs_keys es _ _ h3
            refine ⟨by rw [List.all_cons, n1]; rfl, by rw [List.length_cons, List.length_cons, n2], fun e => (by cases e), by rw [List.length_cons, ← n4]; rfl, .cons k v es n5⟩
          · cases h
mutual
theorem pe_ck : ∀ (e : MW.E) {c : Ct} {g : Ge} {E : XK} {X : L2.Cx} {sc : Scope} (ts : Bool) (x : Expr), ckE c sc ts e x = true → GX c g E X → ScOk X sc → PE X x (RE g E e)
  | .var i, c, g, E, X, sc, ts, x, h, G, S => by
    simp only [ckE, Bool.and_eq_true] at h
    replace h := h.2
    split at h
    · rename_i n p
      obtain ⟨h1, h2, h3, h4⟩ := vis_of S G h
      exact pe_imp (L2.pe_var h1 h2 h3 h4) fun σ H Q q => re_var q
    · cases h
  | .const d, c, g, E, X, sc, ts, x, h, G, S => by
    simp only [ckE, Bool.and_eq_true] at h
    replace h := h.2
    split at h
    · rename_i k _ p
      cases k <;> cases d <;> simp only [constD] at h <;> try (cases h)
      · exact pe_imp L2.pe_non fun σ H Q q => re_const (v := .non) rfl q
      · have e := eq_of_beq h
        subst e
        exact pe_imp L2.pe_bl fun σ H Q q => re_const (v := .bl _) rfl q
      · have e := eq_of_beq h
        subst e
        exact pe_imp L2.pe_int fun σ H Q q => re_const (v := .int _) rfl q
      · simp only [Bool.and_eq_true, decide_eq_true_eq] at h
        obtain ⟨e, l⟩ := h
        subst e
        exact pe_imp L2.pe_str fun σ H Q q => re_const (v := .str _) (by simp [scalV, l]) q
    · cases h
  | .glob i, c, g, E, X, sc, ts, x, h, G, S => by
    simp only [ckE, Bool.and_eq_true] at h
    replace h := h.2
    split at h
    · rename_i n p
      simp only [Bool.and_eq_true, decide_eq_true_eq] at h
      obtain ⟨v, u, hm, r, ok⟩ := G.glo i n h.1
      obtain ⟨h1, h2, h3⟩ := glo_of S h.2
      exact pe_imp (L2.pe_glob h1 hm r h2) fun σ H Q q => re_glob ok q
    · cases h
  | .bin o a b, c, g, E, X, sc, ts, x, h, G, S => by
    simp only [ckE, Bool.and_eq_true] at h
    replace h := h.2
    split at h
    · simp only [Bool.and_eq_true, decide_eq_true_eq] at h
      obtain ⟨⟨h1, h2⟩, h3⟩ := h
      subst h1
      refine pe_imp (L2.pe_op (op_ok o) (po_of G S h2 fun _ => pe_ck a false _ h2 G S) (po_of G S h3 fun _ => pe_ck b false _ h3 G S)) fun σ H Q q => ?_
      rw [G.hK]
      exact re_bin q
    · cases h
  | .neg a, c, g, E, X, sc, ts, x, h, G, S => by
    simp only [ckE, Bool.and_eq_true] at h
    replace h := h.2
    split at h
    · exact pe_imp (L2.pe_un L2.un_neg (po_of G S h fun _ => pe_ck a false _ h G S)) fun σ H Q q => re_neg q
    · cases h
  | .not a, c, g, E, X, sc, ts, x, h, G, S => by
    simp only [ckE] at h
    split at h
    · refine pe_imp (L2.pe_notT (po_of G S h fun _ => pe_ck a ts _ h G S)) fun σ H Q q => ?_
      rw [G.hK]
      exact re_not q
    · cases h
  | .and a b, c, g, E, X, sc, ts, x, h, G, S => by
    simp only [ckE] at h
    split at h
    · simp only [Bool.and_eq_true] at h
      refine pe_imp (L2.pe_andT (pe_ck a ts _ h.1 G S) (L2.pe_one (pe_ck b ts _ h.2 G S))) fun σ H Q q => ?_
      rw [G.hK]
      exact re_and q
    · simp only [Bool.and_eq_true] at h
      refine pe_imp (L2.pe_andT (pe_ck a ts _ h.1 G S) (pe_ck b ts _ h.2 G S)) fun σ H Q q => ?_
      rw [G.hK]
      exact re_and q
    · cases h
  | .or a b, c, g, E, X, sc, ts, x, h, G, S => by
    simp only [ckE] at h
    split at h
    · simp only [Bool.and_eq_true] at h
      refine pe_imp (L2.pe_orT (pe_ck a ts _ h.1 G S) (L2.pe_one (pe_ck b ts _ h.2 G S))) fun σ H Q q => ?_
      rw [G.hK]
      exact re_or q
    · simp only [Bool.and_eq_true] at h
      refine pe_imp (L2.pe_orT (pe_ck a ts _ h.1 G S) (pe_ck b ts _ h.2 G S)) fun σ H Q q => ?_
      rw [G.hK]
      exact re_or q
    · cases h
  | .cmp o a b, c, g, E, X, sc, ts, x, h, G, S => by
    simp only [ckE] at h
    split at h
    · simp only [Bool.and_eq_true, decide_eq_true_eq, Bool.not_eq_true'] at h
      obtain ⟨⟨⟨h1, h2⟩, h3⟩, h4⟩ := h
      subst h1
      refine pe_imp (L2.pe_cmpR (cmp_ok o G.hu) (po_of G S h2 fun _ => pe_ck a false _ h2 G S) (po_of G S h3 fun _ => pe_ck b false _ h3 G S) h4) fun σ H Q q => ?_
      rw [G.hK]
      exact re_cmp q
    · cases h
  | .chain o p a b d, c, g, E, X, sc, ts, x, h, G, S => by
    simp only [ckE] at h
    split at h
    · simp only [Bool.and_eq_true, decide_eq_true_eq, Bool.not_eq_true'] at h
      obtain ⟨⟨⟨⟨⟨h1, h2⟩, h3⟩, h4⟩, h5⟩, h6⟩ := h
      subst h1 h2
      refine pe_imp (L2.pe_chain (cmp_ok o G.hu) (cmp_ok p G.hu) (po_of G S h3 fun _ => pe_ck a false _ h3 G S) (po_of G S h4 fun _ => pe_ck b false _ h4 G S) (po_of G S h5 fun _ => pe_ck d false _ h5 G S) h6) fun σ H Q q => ?_
      rw [G.hK]
      exact re_chain q
    · cases h
  | .ite t a b, c, g, E, X, sc, ts, x, h, G, S => by
    simp only [ckE, Bool.and_eq_true] at h
    replace h := h.2
    split at h
    · simp only [Bool.and_eq_true] at h
      exact pe_imp (L2.pe_ifExp (pt_ck t _ h.1.1 G S) (pe_ck a false _ h.1.2 G S) (pe_ck b false _ h.2 G S)) fun σ H Q q => re_ite q
    · cases h
  | .call f as, c, g, E, X, sc, ts, x, h, G, S => by
    simp only [ckE, Bool.and_eq_true] at h
    replace h := h.2
    split at h
    · rename_i n p es pos
      simp only [Bool.and_eq_true, decide_eq_true_eq] at h
      obtain ⟨⟨h1, h2⟩, h3⟩ := h
      obtain ⟨a, fd, ps, k, F, hr, hm, hk, hb⟩ := G.fns f n _ h1
      obtain ⟨gl, d1, d2⟩ := glo_of S h2
      have st := es_star h3
      cases es with
      | nil =>
        refine pe_imp (pe_fn0 F hr G.hg gl hm hk hb G.pas d1) fun σ H Q q => ?_
        have e : as = .nil := by
          cases as with
          | nil => rfl
          | cons _ _ => simp only [ckEs] at h3; cases h3
        subst e
        obtain ⟨Z, ρ, s0, o⟩ := re_call rfl q
        simp only [evArgs] at o
        exact o.now s0 [] rfl
      | cons y ys =>
        exact pe_imp (pe_fn F hr G.hg gl hm hk hb G.pas (pg_args as h3 G S (g.mw.io f)) d1 (star_cons (st y List.mem_cons_self)) (star_none fun z hz => st z (List.mem_cons_of_mem _ hz))) fun σ H Q q => re_call rfl q
    · cases h
  | .prim p as, c, g, E, X, sc, ts, x, h, G, S => by
    unfold ckE at h
    rw [Bool.and_eq_true] at h
    replace h := h.2
    split at h
    rotate_left
    · cases h
    rename_i n np es cp
    simp only [Bool.and_eq_true] at h
    obtain ⟨h1, h2⟩ := h
    split at h2
    · rename_i T hi
      split at h2
      rotate_left
      · cases h2
      rename_i a
      split at h2
      rotate_left
      · cases h2
      simp only [Bool.and_eq_true, decide_eq_true_eq] at h2
      obtain ⟨⟨⟨⟨e1, e2⟩, h3⟩, h4⟩, h5⟩ := h2
      subst e1 e2
      obtain ⟨m1, m2⟩ := isa_name hi
      refine pe_imp (pe_pri G S h1 (by decide) PyProof.Rows.boot_isinstance (.inl ⟨_, rfl⟩) (isa_ok hi) (L2.pa_cons (po_of G S h4 fun _ => pe_ck a false _ h4 G S) (L2.pa_cons (pe_bltTy G S h3 m1 m2) L2.pa_nil rfl) (star_cons h5)) fun z hz => ?_) fun σ H Q q => ?_
      · rcases List.mem_cons.mp hz with rfl | hz
        · exact h5
        · rw [List.mem_singleton.mp hz]; rfl
      · rw [G.hK]
        exact re_isa q
    · simp only [Bool.and_eq_true, decide_eq_true_eq, Bool.not_eq_true'] at h2
      obtain ⟨⟨e1, h3⟩, h4⟩ := h2
      obtain ⟨f, e2, m1, m2, hf⟩ := pri_name e1
      have st := es_star h3
      cases es with
      | nil => cases h4
      | cons y ys =>
        refine pe_imp (pe_pri G S h1 m1 m2 hf (pri_ok e2 G.calm) (pl_ck as _ h3 G S) st) fun σ H Q q => ?_
        rw [G.hK]
        exact re_prim q
  | .meth m as bs, c, g, E, X, sc, ts, x, h, G, S => by
    unfold ckE at h
    rw [Bool.and_eq_true] at h
    replace h := h.2
    split at h
    rotate_left
    · cases h
    rename_i b
    split at h
    rotate_left
    · cases h
    simp only [Bool.and_eq_true, decide_eq_true_eq] at h
    obtain ⟨⟨⟨⟨⟨e1, h1⟩, h2⟩, h3⟩, h4⟩, h5⟩ := h
    subst e1
    refine pe_imp (pe_index G.hu (po_of G S h1 fun _ => pe_ck as false _ h1 G S) (L2.pa_cons (po_of G S h2 fun _ => pe_ck b false _ h2 G S) L2.pa_nil (star_cons h3)) (base_plain h4) (fewA h3) h5 (star_cons h3) rfl) fun σ H Q q => ?_
    rw [G.hK]
    exact re_index q
  | .tup as, c, g, E, X, sc, ts, x, h, G, S => by
    simp only [ckE, Bool.and_eq_true] at h
    replace h := h.2
    split at h
    · simp only [Bool.and_eq_true, decide_eq_true_eq] at h
      exact pe_imp (L2.pe_tup (pv_ck as _ h.1 G S)) fun σ H Q q => re_tup h.2 q
    · cases h
  | .lst as, c, g, E, X, sc, ts, x, h, G, S => by
    simp only [ckE, Bool.and_eq_true] at h
    replace h := h.2
    split at h
    · simp only [Bool.and_eq_true, decide_eq_true_eq] at h
      exact pe_imp (L2.pe_lst (pv_ck as _ h.1 G S)) fun σ H Q q => re_lst h.2 q
    · cases h
  | .dic t as, c, g, E, X, sc, ts, x, h, G, S => by
    simp only [ckE, Bool.and_eq_true] at h
    replace h := h.2
    split at h
    · rename_i ks vs pos
      simp only [Bool.and_eq_true, decide_eq_true_eq] at h
      obtain ⟨h1, h2⟩ := h
      obtain ⟨n1, n2, n3, n4, n5⟩ := ckPs_keys as ks vs h1
      by_cases e : ks = []
      · subst e
        obtain ⟨e1, e2⟩ := n3 rfl
        subst e1 e2
        exact pe_imp L2.pe_dnewK fun σ H Q q => re_dic q
      · exact pe_imp (L2.pe_disp (pd_ck as ks vs h1 G S pos) n1 n2 e h2) fun σ H Q q => re_disp (by rw [n4]; exact h2) n5 q
    · cases h
  | .idx a i, c, g, E, X, sc, ts, x, h, G, S => by
    simp only [ckE, Bool.and_eq_true] at h
    replace h := h.2
    split at h
    · simp only [Bool.and_eq_true] at h
      refine pe_imp (L2.pe_ix (ix_ok G.hu) (po_of G S h.1.1 fun _ => pe_ck a false _ h.1.1 G S) (po_of G S h.1.2 fun _ => pe_ck i false _ h.1.2 G S) (sl_plain h.2)) fun σ H Q q => ?_
      rw [G.hK]
      exact re_idx q
    · cases h
  | .slice a lo hi, c, g, E, X, sc, ts, x, h, G, S => by
    unfold ckE at h
    rw [Bool.and_eq_true] at h
    replace h := h.2
    split at h
    rotate_left
    · cases h
    rename_i l u _ _
    simp only [Bool.and_eq_true] at h
    obtain ⟨⟨h1, h2⟩, h3⟩ := h
    have p1 : PO X l (RPt g E lo) := by
      cases l with
      | none => exact po_imp' L2.po_none fun σ H Q q => rpt_none h2 q
      | some l =>
        simp only [Bool.and_eq_true, Bool.not_eq_true'] at h2
        exact po_imp' (L2.po_some (po_of G S h2.2 fun _ => pe_ck lo false _ h2.2 G S)) fun σ H Q q => rpt_some h2.1 q
    have p2 : PO X u (RPt g E hi) := by
      cases u with
      | none => exact po_imp' L2.po_none fun σ H Q q => rpt_none h3 q
      | some l =>
        simp only [Bool.and_eq_true, Bool.not_eq_true'] at h3
        exact po_imp' (L2.po_some (po_of G S h3.2 fun _ => pe_ck hi false _ h3.2 G S)) fun σ H Q q => rpt_some h3.1 q
    refine pe_imp (L2.pe_slice sl_ok (po_of G S h1 fun _ => pe_ck a false _ h1 G S) p1 p2) fun σ H Q q => ?_
    rw [G.hK]
    exact re_slice q
  | .rev a, c, g, E, X, sc, ts, x, h, G, S => by
    simp only [ckE, Bool.and_eq_true] at h
    replace h := h.2
    split at h
    · refine pe_imp (pe_revB (po_of G S h fun _ => pe_ck a false _ h G S)) fun σ H Q q => ?_
      rw [G.hK]
      exact re_rev q
    · cases h
  | .comp t it d e, c, g, E, X, sc, ts, x, h, G, S => by
    unfold ckE at h
    rw [Bool.and_eq_true] at h
    replace h := h.2
    split at h
    rotate_left
    · cases h
    rename_i tg iter ifs scope _
    simp only [Bool.and_eq_true] at h
    obtain ⟨⟨⟨⟨⟨h1, h2⟩, h3⟩, h4⟩, h5⟩, h6⟩ := h
    have own := own_slots t tg h2
    refine pe_imp (L2.pe_lc (own := tOwn t tg) G.calm G.nd (pi_ck it tg iter h1 G S) (blk_ok S G.nn h3) (fun s H C cl fp => pg_ck (G.blk (s := s) (H := H) (fp := fp)) sc_blk t tg h2) (tt := RT g noX d) (fun s H C cl fp => ?_) (fun s H C cl fp => pe_ck e false _ h5 (G.blk (s := s) (H := H) (fp := fp)) sc_blk) (set_plain h4)) fun σ H Q q => re_comp (fun i => by rw [own]) q
    split at h6
    · split at h6
      · exact ⟨fun pins s σ H Q I q => L2.pts_nil.run pins s σ H Q I (rt_true q)⟩
      · cases h6
    · exact L2.pts_one (pt_ck d _ h6 (G.blk (s := s) (H := H) (fp := fp)) sc_blk)
    · cases h6
  | .comp2 t it t2 it2 d e, c, g, E, X, sc, ts, x, h, G, S => by
    unfold ckE at h
    rw [Bool.and_eq_true] at h
    replace h := h.2
    split at h
    rotate_left
    · cases h
    rename_i tg iter tg2 iter2 ifs scope _
    simp only [Bool.and_eq_true] at h
    obtain ⟨⟨⟨⟨⟨⟨⟨⟨h1, h2⟩, h3⟩, h4⟩, h5⟩, h7⟩, h8⟩, h9⟩, h6⟩ := h
    have own := own_slots t tg h2
    have own2 := own_slots t2 tg2 h7
    refine pe_imp (L2.pe_lc2 (own := tOwn t tg ++ tOwn t2 tg2) (vs1 := (tOwn t2 tg2).map (·.2)) G.calm G.nd (pi_ck it tg iter h1 G S) (blk_ok S G.nn h3) (fun i hi => by rw [List.map_append]; exact List.mem_append_right _ hi) (fun s H C cl fp => pg_ck (G.blk (s := s) (H := H) (fp := fp)) sc_blk t tg h2) (fun s H C cl fp => ⟨fun pins s σ H Q I q => L2.pts_nil.run pins s σ H Q I (rt_true q)⟩)
      (fun s H C cl fp => pi_ck it2 tg2 iter2 h9 (G.blk (s := s) (H := H) (fp := fp)) sc_blk) (fun s H C cl fp => pg_ck (G.blk (s := s) (H := H) (fp := fp)) sc_blk t2 tg2 h7) (tt1 := RT g noX d) (fun s H C cl fp => ?_) (fun s H C cl fp => pe_ck e false _ h5 (G.blk (s := s) (H := H) (fp := fp)) sc_blk) (set_plain h4) (fun _ => set_plain h8)) fun σ H Q q => re_comp2 (fun i => by rw [List.map_append, own, own2]; exact Iff.rfl) (fun i => by rw [own2]) q
    split at h6
    · split at h6
      · exact ⟨fun pins s σ H Q I q => L2.pts_nil.run pins s σ H Q I (rt_true q)⟩
      · cases h6
    · exact L2.pts_one (pt_ck d _ h6 (G.blk (s := s) (H := H) (fp := fp)) sc_blk)
    · cases h6
  | .same a b, c, g, E, X, sc, ts, x, h, G, S => by
    simp only [ckE] at h
    split at h
    rotate_left
    · cases h
    simp only [Bool.and_eq_true, decide_eq_true_eq] at h
    obtain ⟨⟨⟨⟨⟨⟨e1, e2⟩, h1⟩, h2⟩, h3⟩, h4⟩, h5⟩ := h
    subst e1 e2
    have one : ∀ {a : MW.E} {v : Expr} {p q : Pos}, PE X v (RO g E a) → notStar v = true → PE X (.Call (.Name "repr" p) [v] [] q) (L2.tCB (rRepr X.K) (L2.tCons (RO g E a) L2.tNil)) := fun {a v p q} hp hs =>
      pe_pri G S h1 (by decide) PyProof.Rows.boot_repr (.inl ⟨_, rfl⟩) (cr_repr G.hg G.hu) (L2.pa_cons hp L2.pa_nil (star_cons hs)) fun z hz => by rw [List.mem_singleton.mp hz]; exact hs
    refine pe_imp (L2.pe_cmpR op_eqS (one (po_of G S h2 fun _ => pe_ck a false _ h2 G S) h4) (one (po_of G S h3 fun _ => pe_ck b false _ h3 G S) h5) rfl) fun σ H Q q => ?_
    rw [G.hK]
    exact re_same q
  | .append i e, c, g, E, X, sc, ts, x, h, G, S => by
    unfold ckE at h
    rw [Bool.and_eq_true] at h
    replace h := h.2
    split at h
    rotate_left
    · cases h
    simp only [Bool.and_eq_true, decide_eq_true_eq] at h
    obtain ⟨⟨⟨⟨e1, h1⟩, h2⟩, h3⟩, h4⟩ := h
    subst e1
    obtain ⟨a1, a2, a3, a4⟩ := vis_of S G h1
    refine pe_imp (L2.pe_bm PySem.F.plainAttrs_list PySem.F.slot_list_append PySem.F.type_list_append L2.mt_append (L2.pe_var a1 a2 a3 a4) (L2.pa_cons (pe_ck e false _ h2 G S) L2.pa_nil (star_cons h3)) rfl (fewA h3) h4 (star_cons h3) rfl) fun σ H Q q => ?_
    rw [G.hK]
    exact re_append q
  | .pop i, c, g, E, X, sc, ts, x, h, G, S => by
    unfold ckE at h
    rw [Bool.and_eq_true] at h
    replace h := h.2
    split at h
    rotate_left
    · cases h
    simp only [Bool.and_eq_true, decide_eq_true_eq] at h
    obtain ⟨⟨e1, h1⟩, h4⟩ := h
    subst e1
    obtain ⟨a1, a2, a3, a4⟩ := vis_of S G h1
    refine pe_imp (L2.pe_bm0 PySem.F.plainAttrs_list PySem.F.slot_list_pop PySem.F.type_list_pop L2.mt_pop (L2.pe_var a1 a2 a3 a4) rfl h4) fun σ H Q q => ?_
    rw [G.hK]
    exact re_pop q
  | .coll _ _, c, g, E, X, sc, ts, x, h, G, S => by simp [ckE] at h
  | .popat _ _, c, g, E, X, sc, ts, x, h, G, S => by simp [ckE] at h
  | .remove _ _, c, g, E, X, sc, ts, x, h, G, S => by simp [ckE] at h
  | .told f e, c, g, E, X, sc, ts, x, h, G, S => by
    unfold ckE at h
    rw [Bool.and_eq_true] at h
    replace h := h.2
    split at h
    · exact G.told f e _ h
    · cases h
  | .sortkey _ _ _, c, g, E, X, sc, ts, x, h, G, S => by simp [ckE] at h
  | .bad _, c, g, E, X, sc, ts, x, h, G, S => by simp [ckE] at h
theorem pt_ck : ∀ (e : MW.E) {c : Ct} {g : Ge} {E : XK} {X : L2.Cx} {sc : Scope} (x : Expr), ckE c sc true e x = true → GX c g E X → ScOk X sc → PT X x (RT g E e)
  | .not a, c, g, E, X, sc, x, h, G, S => by
    unfold ckE at h
    split at h
    · exact pt_imp (L2.pt_not (pt_ck a _ h G S)) fun σ H Q q => rt_not q
    · cases h
  | .and a b, c, g, E, X, sc, x, h, G, S => by
    unfold ckE at h
    split at h
    · simp only [Bool.and_eq_true] at h
      exact pt_imp (L2.pw_and (pt_ck a _ h.1 G S) (L2.pw_and1 (pt_ck b _ h.2 G S))).pt fun σ H Q q => rt_and q
    · simp only [Bool.and_eq_true] at h
      exact pt_imp (L2.pw_and (pt_ck a _ h.1 G S) (pw_of (pt_ck b _ h.2 G S))).pt fun σ H Q q => rt_and q
    · cases h
  | .or a b, c, g, E, X, sc, x, h, G, S => by
    unfold ckE at h
    split at h
    · simp only [Bool.and_eq_true] at h
      exact pt_imp (L2.pw_or (pt_ck a _ h.1 G S) (L2.pw_or1 (pt_ck b _ h.2 G S))).pt fun σ H Q q => rt_or q
    · simp only [Bool.and_eq_true] at h
      exact pt_imp (L2.pw_or (pt_ck a _ h.1 G S) (pw_of (pt_ck b _ h.2 G S))).pt fun σ H Q q => rt_or q
    · cases h
  | .cmp o a b, c, g, E, X, sc, x, h, G, S => by
    unfold ckE at h
    split at h
    · simp only [Bool.and_eq_true, decide_eq_true_eq, Bool.not_eq_true'] at h
      obtain ⟨⟨⟨h1, h2⟩, h3⟩, h4⟩ := h
      subst h1
      refine pt_imp (L2.pt_cmpR (cmp_ok o G.hu) (po_of G S h2 fun _ => pe_ck a false _ h2 G S) (po_of G S h3 fun _ => pe_ck b false _ h3 G S) h4) fun σ H Q q => ?_
      rw [G.hK]
      exact re_cmp (rt_bl (fun r => by simp only [evO]) (fun r => by unfold evT; rfl) (fun r r' v hv => cmp_bl hv) q)
    · cases h
  | .chain o p a b d, c, g, E, X, sc, x, h, G, S => by
    unfold ckE at h
    split at h
    · simp only [Bool.and_eq_true, decide_eq_true_eq, Bool.not_eq_true'] at h
      obtain ⟨⟨⟨⟨⟨h1, h2⟩, h3⟩, h4⟩, h5⟩, h6⟩ := h
      subst h1 h2
      refine pt_imp (L2.pt_chain (cmp_ok o G.hu) (cmp_ok p G.hu) (po_of G S h3 fun _ => pe_ck a false _ h3 G S) (po_of G S h4 fun _ => pe_ck b false _ h4 G S) (po_of G S h5 fun _ => pe_ck d false _ h5 G S) h6) fun σ H Q q => ?_
      rw [G.hK]
      exact re_chain (rt_bl (fun r => by simp only [evO]) (fun r => by unfold evT; rfl) (fun r r' v hv => chain_bl hv) q)
    · cases h
  | .same a b, c, g, E, X, sc, x, h, G, S => by
    unfold ckE at h
    split at h
    rotate_left
    · cases h
    simp only [Bool.and_eq_true, decide_eq_true_eq] at h
    obtain ⟨⟨⟨⟨⟨⟨e1, e2⟩, h1⟩, h2⟩, h3⟩, h4⟩, h5⟩ := h
    subst e1 e2
    have one : ∀ {a : MW.E} {v : Expr} {p q : Pos}, PE X v (RO g E a) → notStar v = true → PE X (.Call (.Name "repr" p) [v] [] q) (L2.tCB (rRepr X.K) (L2.tCons (RO g E a) L2.tNil)) := fun {a v p q} hp hs =>
      pe_pri G S h1 (by decide) PyProof.Rows.boot_repr (.inl ⟨_, rfl⟩) (cr_repr G.hg G.hu) (L2.pa_cons hp L2.pa_nil (star_cons hs)) fun z hz => by rw [List.mem_singleton.mp hz]; exact hs
    refine pt_imp (L2.pt_cmpR op_eqS (one (po_of G S h2 fun _ => pe_ck a false _ h2 G S) h4) (one (po_of G S h3 fun _ => pe_ck b false _ h3 G S) h5) rfl) fun σ H Q q => ?_
    rw [G.hK]
    exact re_same (rt_bl (fun r => by simp only [evO]) (fun r => by unfold evT; rfl) (fun r r' v hv => same_bl hv) q)
  | .ite t a b, c, g, E, X, sc, x, h, G, S => by simp [ckE] at h
  | .var i, c, g, E, X, sc, x, h, G, S => pt_plain G S rfl h fun h2 => pe_ck (.var i) false _ h2 G S
  | .const d, c, g, E, X, sc, x, h, G, S => pt_plain G S rfl h fun h2 => pe_ck (.const d) false _ h2 G S
  | .glob i, c, g, E, X, sc, x, h, G, S => pt_plain G S rfl h fun h2 => pe_ck (.glob i) false _ h2 G S
  | .bin o a b, c, g, E, X, sc, x, h, G, S => pt_plain G S rfl h fun h2 => pe_ck (.bin o a b) false _ h2 G S
  | .neg a, c, g, E, X, sc, x, h, G, S => pt_plain G S rfl h fun h2 => pe_ck (.neg a) false _ h2 G S
  | .call f as, c, g, E, X, sc, x, h, G, S => pt_plain G S rfl h fun h2 => pe_ck (.call f as) false _ h2 G S
  | .prim p as, c, g, E, X, sc, x, h, G, S => pt_plain G S rfl h fun h2 => pe_ck (.prim p as) false _ h2 G S
  | .meth m a as, c, g, E, X, sc, x, h, G, S => pt_plain G S rfl h fun h2 => pe_ck (.meth m a as) false _ h2 G S
  | .tup as, c, g, E, X, sc, x, h, G, S => pt_plain G S rfl h fun h2 => pe_ck (.tup as) false _ h2 G S
  | .lst as, c, g, E, X, sc, x, h, G, S => pt_plain G S rfl h fun h2 => pe_ck (.lst as) false _ h2 G S
  | .dic t as, c, g, E, X, sc, x, h, G, S => pt_plain G S rfl h fun h2 => pe_ck (.dic t as) false _ h2 G S
  | .idx a i, c, g, E, X, sc, x, h, G, S => pt_plain G S rfl h fun h2 => pe_ck (.idx a i) false _ h2 G S
  | .slice a lo hi, c, g, E, X, sc, x, h, G, S => pt_plain G S rfl h fun h2 => pe_ck (.slice a lo hi) false _ h2 G S
  | .rev a, c, g, E, X, sc, x, h, G, S => pt_plain G S rfl h fun h2 => pe_ck (.rev a) false _ h2 G S
  | .comp t it d e, c, g, E, X, sc, x, h, G, S => pt_plain G S rfl h fun h2 => pe_ck (.comp t it d e) false _ h2 G S
  | .append i e, c, g, E, X, sc, x, h, G, S => pt_plain G S rfl h fun h2 => pe_ck (.append i e) false _ h2 G S
  | .pop i, c, g, E, X, sc, x, h, G, S => pt_plain G S rfl h fun h2 => pe_ck (.pop i) false _ h2 G S
  | .comp2 t it t2 it2 d e, c, g, E, X, sc, x, h, G, S => pt_plain G S rfl h fun h2 => pe_ck (.comp2 t it t2 it2 d e) false _ h2 G S
  | .coll _ _, c, g, E, X, sc, x, h, G, S => by simp [ckE] at h
  | .popat _ _, c, g, E, X, sc, x, h, G, S => by simp [ckE] at h
  | .remove _ _, c, g, E, X, sc, x, h, G, S => by simp [ckE] at h
  | .told f e, c, g, E, X, sc, x, h, G, S => pt_plain G S rfl h fun h2 => pe_ck (.told f e) false _ h2 G S
  | .sortkey _ _ _, c, g, E, X, sc, x, h, G, S => by simp [ckE] at h
  | .bad _, c, g, E, X, sc, x, h, G, S => by simp [ckE] at h
theorem pd_ck : ∀ (es : Es) {c : Ct} {g : Ge} {E : XK} {X : L2.Cx} {sc : Scope} (ks : List (Option Expr)) (vs : List Expr), ckPs c sc es ks vs = true → GX c g E X → ScOk X sc → ∀ pos : Pos, L2.PPs X pos ks vs (prs g E es)
  | .nil, c, g, E, X, sc, ks, vs, h, G, S, pos => by
    unfold ckPs at h
    simp only [Bool.and_eq_true, List.isEmpty_iff] at h
    obtain ⟨e1, e2⟩ := h
    subst e1 e2
    exact L2.pps_nil
  | .cons (.tup (.cons k (.cons v .nil))) es, c, g, E, X, sc, ks, vs, h, G, S, pos => by
    simp only [ckPs] at h
    split at h
    · simp only [Bool.and_eq_true] at h
      obtain ⟨⟨h1, h2⟩, h3⟩ := h
      exact L2.pps_cons (pe_ck k false _ h1 G S) (pe_ck v false _ h2 G S) (pd_ck es _ _ h3 G S pos)
    · cases h
  | .cons (.var _) _, c, g, E, X, sc, ks, vs, h, G, S, pos => by simp [ckPs] at h
  | .cons (.const _) _, c, g, E, X, sc, ks, vs, h, G, S, pos => by simp [ckPs] at h
  | .cons (.glob _) _, c, g, E, X, sc, ks, vs, h, G, S, pos => by simp [ckPs] at h
  | .cons (.bin _ _ _) _, c, g, E, X, sc, ks, vs, h, G, S, pos => by simp [ckPs] at h
  | .cons (.neg _) _, c, g, E, X, sc, ks, vs, h, G, S, pos => by simp [ckPs] at h
  | .cons (.cmp _ _ _) _, c, g, E, X, sc, ks, vs, h, G, S, pos => by simp [ckPs] at h
  | .cons (.chain _ _ _ _ _) _, c, g, E, X, sc, ks, vs, h, G, S, pos => by simp [ckPs] at h
  | .cons (.ite _ _ _) _, c, g, E, X, sc, ks, vs, h, G, S, pos => by simp [ckPs] at h
  | .cons (.call _ _) _, c, g, E, X, sc, ks, vs, h, G, S, pos => by simp [ckPs] at h
  | .cons (.prim _ _) _, c, g, E, X, sc, ks, vs, h, G, S, pos => by simp [ckPs] at h
  | .cons (.meth _ _ _) _, c, g, E, X, sc, ks, vs, h, G, S, pos => by simp [ckPs] at h
  | .cons (.lst _) _, c, g, E, X, sc, ks, vs, h, G, S, pos => by simp [ckPs] at h
  | .cons (.dic _ _) _, c, g, E, X, sc, ks, vs, h, G, S, pos => by simp [ckPs] at h
  | .cons (.idx _ _) _, c, g, E, X, sc, ks, vs, h, G, S, pos => by simp [ckPs] at h
  | .cons (.slice _ _ _) _, c, g, E, X, sc, ks, vs, h, G, S, pos => by simp [ckPs] at h
  | .cons (.rev _) _, c, g, E, X, sc, ks, vs, h, G, S, pos => by simp [ckPs] at h
  | .cons (.comp _ _ _ _) _, c, g, E, X, sc, ks, vs, h, G, S, pos => by simp [ckPs] at h
  | .cons (.comp2 _ _ _ _ _ _) _, c, g, E, X, sc, ks, vs, h, G, S, pos => by simp [ckPs] at h
  | .cons (.coll _ _) _, c, g, E, X, sc, ks, vs, h, G, S, pos => by simp [ckPs] at h
  | .cons (.same _ _) _, c, g, E, X, sc, ks, vs, h, G, S, pos => by simp [ckPs] at h
  | .cons (.append _ _) _, c, g, E, X, sc, ks, vs, h, G, S, pos => by simp [ckPs] at h
  | .cons (.pop _) _, c, g, E, X, sc, ks, vs, h, G, S, pos => by simp [ckPs] at h
  | .cons (.popat _ _) _, c, g, E, X, sc, ks, vs, h, G, S, pos => by simp [ckPs] at h
  | .cons (.remove _ _) _, c, g, E, X, sc, ks, vs, h, G, S, pos => by simp [ckPs] at h
  | .cons (.told _ _) _, c, g, E, X, sc, ks, vs, h, G, S, pos => by simp [ckPs] at h
  | .cons (.sortkey _ _ _) _, c, g, E, X, sc, ks, vs, h, G, S, pos => by simp [ckPs] at h
  | .cons (.bad _) _, c, g, E, X, sc, ks, vs, h, G, S, pos => by simp [ckPs] at h
  | .cons (.not _) _, c, g, E, X, sc, ks, vs, h, G, S, pos => by simp [ckPs] at h
  | .cons (.and _ _) _, c, g, E, X, sc, ks, vs, h, G, S, pos => by simp [ckPs] at h
  | .cons (.or _ _) _, c, g, E, X, sc, ks, vs, h, G, S, pos => by simp [ckPs] at h
  | .cons (.tup .nil) _, c, g, E, X, sc, ks, vs, h, G, S, pos => by simp [ckPs] at h
  | .cons (.tup (.cons _ .nil)) _, c, g, E, X, sc, ks, vs, h, G, S, pos => by simp [ckPs] at h
  | .cons (.tup (.cons _ (.cons _ (.cons _ _)))) _, c, g, E, X, sc, ks, vs, h, G, S, pos => by simp [ckPs] at h
theorem pv_ck : ∀ (es : Es) {c : Ct} {g : Ge} {E : XK} {X : L2.Cx} {sc : Scope} (xs : List Expr), ckEs c sc es xs = true → GX c g E X → ScOk X sc → PA X xs (RV' g E es)
  | .nil, c, g, E, X, sc, xs, h, G, S => by
    unfold ckEs at h
    rw [List.isEmpty_iff] at h
    subst h
    exact pa_imp L2.pa_nil fun σ H Q q => rv_nil q
  | .cons e es, c, g, E, X, sc, xs, h, G, S => by
    unfold ckEs at h
    cases xs with
    | nil => cases h
    | cons x xs =>
      simp only [Bool.and_eq_true] at h
      exact pa_imp (L2.pa_cons (pe_ck e false _ h.1.1 G S) (pv_ck es _ h.2 G S) (star_cons h.1.2)) fun σ H Q q => rv_cons q
theorem pl_ck : ∀ (es : Es) {c : Ct} {g : Ge} {E : XK} {X : L2.Cx} {sc : Scope} (xs : List Expr), ckEs c sc es xs = true → GX c g E X → ScOk X sc → PA X xs (RL g E es)
  | .nil, c, g, E, X, sc, xs, h, G, S => by
    unfold ckEs at h
    rw [List.isEmpty_iff] at h
    subst h
    exact pa_imp L2.pa_nil fun σ H Q q => rl_nil q
  | .cons e es, c, g, E, X, sc, xs, h, G, S => by
    unfold ckEs at h
    cases xs with
    | nil => cases h
    | cons x xs =>
      simp only [Bool.and_eq_true] at h
      exact pa_imp (L2.pa_cons (po_of G S h.1.1 fun _ => pe_ck e false _ h.1.1 G S) (pl_ck es _ h.2 G S) (star_cons h.1.2)) fun σ H Q q => rl_cons q
theorem pg_args : ∀ (es : Es) {c : Ct} {g : Ge} {E : XK} {X : L2.Cx} {sc : Scope} {xs : List Expr}, ckEs c sc es xs = true → GX c g E X → ScOk X sc → ∀ bs, PA X xs (RG g E bs es)
  | .nil, c, g, E, X, sc, xs, h, G, S, bs => by
    unfold ckEs at h
    rw [List.isEmpty_iff] at h
    subst h
    exact pa_imp L2.pa_nil fun σ H Q q => rg_nil q
  | .cons e es, c, g, E, X, sc, xs, h, G, S, bs => by
    unfold ckEs at h
    cases xs with
    | nil => cases h
    | cons x xs =>
      simp only [Bool.and_eq_true] at h
      cases hb : headIo bs with
      | false => exact pa_imp (L2.pa_cons (pe_ck e false _ h.1.1 G S) (pg_args es h.2 G S bs.tail) (star_cons h.1.2)) fun σ H Q q => rg_val hb q
      | true =>
        by_cases hv : isVar e = true
        · cases e <;> try (cases hv)
          rename_i i
          refine pa_imp (L2.pa_cons (te := L2.tVar i) ?_ (pg_args es h.2 G S bs.tail) (star_cons h.1.2)) fun σ H Q q => rg_io hb q
          have h1 := h.1.1
          simp only [ckE, Bool.and_eq_true] at h1
          replace h1 := h1.2
          split at h1
          · rename_i n p
            obtain ⟨a1, a2, a3, a4⟩ := vis_of S G h1
            exact L2.pe_var a1 a2 a3 a4
          · cases h1
        · refine pa_imp (L2.pa_cons (pe_ck e false _ h.1.1 G S) (pg_args es h.2 G S bs.tail) (star_cons h.1.2)) fun σ H Q q => ?_
          obtain ⟨Z, ρ, st, o⟩ := q
          have : evArgs g.mw bs (.cons e es) ρ = .st 50 := by
            cases e <;> first | exact absurd rfl hv | simp [evArgs, hb]
          rw [this] at o
          exact o.elim
theorem pi_ck : ∀ (it : MW.It) {c : Ct} {g : Ge} {E : XK} {X : L2.Cx} {sc : Scope} (tg x : Expr), ckIt c sc (isTupT tg) it x = true → GX c g E X → ScOk X sc → PI X tg x (RI g E it)
  | .seq e, c, g, E, X, sc, tg, x, h, G, S => by
    unfold ckIt at h
    refine pi_imp (pi_seq (po_of G S h fun _ => pe_ck e false _ h G S)) fun σ H Q q => ?_
    rw [G.hK]
    exact ri_seq q
  | .range1 a, c, g, E, X, sc, tg, x, h, G, S => by
    unfold ckIt at h
    split at h
    rotate_left
    · cases h
    simp only [Bool.and_eq_true, decide_eq_true_eq] at h
    obtain ⟨⟨⟨e1, h1⟩, h2⟩, h3⟩ := h
    subst e1
    exact pi_imp (L2.pi_range1 (glo_of S h1).1 (blt_in G (by decide)) (L2.pa_cons (po_of G S h2 fun _ => pe_ck a false _ h2 G S) L2.pa_nil (star_cons h3)) (star_cons h3)) fun σ H Q q => ri_range1 q
  | .range2 a b, c, g, E, X, sc, tg, x, h, G, S => by
    unfold ckIt at h
    split at h
    rotate_left
    · cases h
    simp only [Bool.and_eq_true, decide_eq_true_eq] at h
    obtain ⟨⟨⟨⟨⟨e1, h1⟩, h2⟩, h3⟩, h4⟩, h5⟩ := h
    subst e1
    exact pi_imp (L2.pi_range2 (glo_of S h1).1 (blt_in G (by decide)) (L2.pa_cons (po_of G S h2 fun _ => pe_ck a false _ h2 G S) (L2.pa_cons (po_of G S h3 fun _ => pe_ck b false _ h3 G S) L2.pa_nil (star_cons h5)) (star_cons h4)) (by rw [star_cons h4, star_cons h5]; rfl) (star_cons h5)) fun σ H Q q => ri_range2 q
  | .range3 a b d, c, g, E, X, sc, tg, x, h, G, S => by
    unfold ckIt at h
    split at h
    rotate_left
    · cases h
    simp only [Bool.and_eq_true, decide_eq_true_eq] at h
    obtain ⟨⟨⟨⟨⟨⟨⟨e1, h1⟩, h2⟩, h3⟩, h4⟩, h5⟩, h6⟩, h7⟩ := h
    subst e1
    exact pi_imp (L2.pi_range3 (glo_of S h1).1 (blt_in G (by decide)) (L2.pa_cons (po_of G S h2 fun _ => pe_ck a false _ h2 G S) (L2.pa_cons (po_of G S h3 fun _ => pe_ck b false _ h3 G S) (L2.pa_cons (po_of G S h4 fun _ => pe_ck d false _ h4 G S) L2.pa_nil (star_cons h7)) (star_cons h6)) (star_cons h5)) (star_cons h5) (star_none fun z hz => by
      rcases List.mem_cons.mp hz with rfl | hz
      · exact h6
      · rw [List.mem_singleton.mp hz]; exact h7)) fun σ H Q q => ri_range3 q
  | .enum a, c, g, E, X, sc, tg, x, h, G, S => by
    unfold ckIt at h
    split at h
    rotate_left
    · cases h
    simp only [Bool.and_eq_true, decide_eq_true_eq] at h
    obtain ⟨⟨⟨⟨e1, h1⟩, h2⟩, h3⟩, h4⟩ := h
    subst e1
    cases tg <;> first | cases h4; done | skip
    refine pi_imp (pi_enumB (glo_of S h1).1 (blt_in G (by decide)) (L2.pa_cons (po_of G S h2 fun _ => pe_ck a false _ h2 G S) L2.pa_nil (star_cons h3)) (star_cons h3)) fun σ H Q q => ?_
    rw [G.hK]
    exact ri_enum q
  | .zip2 a b, c, g, E, X, sc, tg, x, h, G, S => by
    unfold ckIt at h
    split at h
    rotate_left
    · cases h
    simp only [Bool.and_eq_true, decide_eq_true_eq] at h
    obtain ⟨⟨⟨⟨⟨⟨e1, h1⟩, h2⟩, h3⟩, h4⟩, h5⟩, h6⟩ := h
    subst e1
    cases tg <;> first | cases h6; done | skip
    refine pi_imp (pi_zipB (glo_of S h1).1 (blt_in G (by decide)) (L2.pa_cons (po_of G S h2 fun _ => pe_ck a false _ h2 G S) (L2.pa_cons (po_of G S h3 fun _ => pe_ck b false _ h3 G S) L2.pa_nil (star_cons h5)) (star_cons h4)) (star_cons h4) (star_none fun z hz => by rw [List.mem_singleton.mp hz]; exact h5)) fun σ H Q q => ?_
    rw [G.hK]
    exact ri_zip q
  | .zip3 _ _ _, c, g, E, X, sc, tg, x, h, G, S => by simp [ckIt] at h
end
end MW
end
section
set_option Elab.async false
set_option linter.all false
set_option maxRecDepth 100000
set_option maxHeartbeats 8000000
/-! So21: checked statements. -/
namespace MW
open PySem PySem.Spec
open PyProof.Rows hiding St
open L2 (V Hp HO St upd upd_same upd_ne SqL SqT Rd Vals RelV Key kV ne_of_none VK XK TE TT TA TS TG TGs TI TO TIp TSet Sp CXT Room Env0 CR CE Binds FnScope Passes Gl Vis Loc Ends PE PT PW PA PS PSs PG PGs PI PO PIp OpR CallR MtR MtM IxR SlR Dp DpAll PSet Walk cxOf inv_start tCall thn BlkOk blkC blkOk_by PlainIx)
variable [Tbs]
def notComp : Expr → Bool
  | .ListComp _ _ _ _ | .SetComp _ _ _ _ | .DictComp _ _ _ _ _ => false
  | _ => true
def isSeqD : Expr → Bool
  | .Tuple _ _ _ | .List _ _ => true
  | _ => false
def isTupD : Expr → Bool
  | .Tuple _ _ _ => true
  | _ => false
/-- a list is made into the name itself -/
def swapB (sc : Scope) : Expr → Expr → Bool
  | .Name y py, .ListComp _ _ scope pos => decide (sc.names.lookup y = some .local) && (py.line == pos.line) && !(scope.names.any fun (n, k) => n == y && (k == .local || k == .cell))
  | _, _ => false
/-- it is not, and the name is a cell -/
def cellB (sc : Scope) : Expr → Expr → Bool
  | .Name y _, .ListComp _ _ _ _ => decide (sc.names.lookup y = some .cell)
  | _, _ => false
/-- a tuple of names, one of them a cell, = a tuple -/
def cellTup (sc : Scope) : Expr → Expr → Bool
  | .Tuple ts _ _, .Tuple vs _ _ => (ts.any fun t => match t with
    | .Name y _ => decide (sc.names.lookup y = some .cell)
    | _ => false) || vs.all (foldedForSure 8)
  | _, _ => false
mutual
def ckS (c : Ct) (sc : Scope) : MW.S → Stmt → Bool
  | .skip, x => (match x with | .Pass _ => true | _ => false)
  | .cont, x => (match x with | .Continue _ => true | _ => false)
  | .brk, x => (match x with | .Break _ => true | _ => false)
  | .asg t e, x => (match x with
    | .Assign [tg] v _ => ckT1 c sc t tg && ckE c sc false e v && ((notComp v && !(isSeqD tg && isTupD v)) || swapB sc tg v || cellB sc tg v || cellTup sc tg v)
    | _ => false)
  | .par2 i j a b, x => (match x with
    | .Assign [.Tuple [.Name y py, .Name z pz] _ _] (.Tuple [v, w] _ _) _ => locN c sc i y && locN c sc j z && decide (sc.names.lookup y = some .local) && decide (sc.names.lookup z = some .local) && decide (y ≠ z) && (pz.line == py.line) && ckE c sc false a v && ckE c sc false b w && notStar v && notStar w
        && !(foldedForSure 8 v && foldedForSure 8 w) && !(constantsAlone 8 v && constantsAlone 8 w)
    | _ => false)
  | .set i ix e, x => (match x with | .Assign [.Subscript (.Name n _) s _] v _ => visN c sc i n && ckE c sc false ix s && ckE c sc false e v && plainSl s && notComp v | _ => false)
  | .augset i ix o e, x => (match x with | .AugAssign (.Subscript (.Name n _) s _) op v _ => visN c sc i n && ckE c sc false ix s && decide (op = opA o) && ckE c sc false e v && plainSl s | _ => false)
  | .aug i o e, x => (match x with | .AugAssign (.Name n _) op v _ => locN c sc i n && decide (op = opA o) && ckE c sc false e v | _ => false)
  | .expr e, x => (match x with | .Expr v _ => ckE c sc false e v && notComp v | _ => false)
  | .ite t a b, x => (match x with | .If u v w _ => ckE c sc true t u && ckB c sc a v && ckB c sc b w | _ => false)
  | .for_ t it b, x => (match x with | .For tg iter body [] _ => ckT1 c sc t tg && ckIt c sc (isTupT tg) it iter && ckB c sc b body && notSet iter | _ => false)
  | .while_ t b, x => (match x with | .While u body [] _ => ckE c sc true t u && ckB c sc b body | _ => false)
  | .ret e, x => (match x with | .Return (some v) _ => ckE c sc false e v | _ => false)
  | .retn, x => (match x with | .Return none _ => true | _ => false)
  | .raise k as, x => c.rs k as x
  | _, _ => false
def ckB (c : Ct) (sc : Scope) : MW.S → List Stmt → Bool
  | .skip, xs => xs.isEmpty
  | .seq a b, xs => (match xs with | x :: xs => ckS c sc a x && ckB c sc b xs | [] => false)
  | _, _ => false
end
section
variable {X : L2.Cx} {x : Stmt} {xs : List Stmt}
theorem ps_imp {t t' : TS} (h : PS X x t) (i : ∀ D σ H, t' D σ H → t D σ H) : PS X x t' := ⟨fun pins s σ H D I q => h.run pins s σ H D I (i D σ H q)⟩
theorem pss_imp {t t' : TS} (h : PSs X xs t) (i : ∀ D σ H, t' D σ H → t D σ H) : PSs X xs t' := ⟨fun pins s σ H D I q => h.run pins s σ H D I (i D σ H q)⟩
theorem sw_no {v : Expr} {o : Option Expr} {l : Nat} {env : PySem.Env} (h : notComp v = true) : swapsWith v o l env = pure false := by
  cases v <;> first | rfl | cases h
theorem sole_of {tg v : Expr} {l : Nat} {env : PySem.Env} (h : swapsWith v (some tg) l env = pure false) : swapsWithSole [tg] v l env = pure false := h
theorem st_no {tg v : Expr} {env : PySem.Env} (h : (isSeqD tg && isTupD v) = false) : swappedStores [tg] v env = pure none := by
  cases tg <;> first | rfl | (cases v <;> first | rfl | cases h)
theorem blk_fn {env : PySem.Env} (h : env.scope.kind = .function) : env.blockKind = .function := by
  unfold Env.blockKind
  rw [h]
  rfl
theorem sw_cell {elt : Expr} {gs : List Comprehension} {scope : Scope} {pos py : Pos} {y : Str} {l : Nat} {env : PySem.Env} (hy : env.scope.names.lookup y = some .cell) : swapsWith (.ListComp elt gs scope pos) (some (.Name y py)) l env = pure false := by
  have ky : env.kindOf y = some .cell := hy
  unfold swapsWith
  simp only [ky]
  have e : (some NameKind.cell == some NameKind.local) = false := by decide
  rw [e, Bool.and_false, Bool.false_and, Bool.false_and]
theorem ns : ∀ e : Expr, (match e with | .Starred .. => true | _ => false) = !notStar e := by intro e; cases e <;> rfl
theorem st_two {y z : Str} {py pz pt pt2 : Pos} {kt k2 : Nat} {v w : Expr} {env : PySem.Env} (hk : env.scope.kind = .function) (hy : env.scope.names.lookup y = some .local) (hz : env.scope.names.lookup z = some .local) (ne : y ≠ z) (hl : (pz.line == py.line) = true)
    (n1 : notStar v = true) (n2 : notStar w = true) (f : (foldedForSure 8 v && foldedForSure 8 w) = false) (k : (constantsAlone 8 v && constantsAlone 8 w) = false) : swappedStores [.Tuple [.Name y py, .Name z pz] kt pt] (.Tuple [v, w] k2 pt2) env = pure (some [y, z]) := by
  have ky : env.kindOf y = some .local := hy
  have kz : env.kindOf z = some .local := hz
  have kb := blk_fn hk
  have e1 := ns v
  have e2 := ns w
  rw [n1] at e1
  rw [n2] at e2
  have hl' : pz.line = py.line := by simpa using hl
  unfold swappedStores
  have nd : (y == z) = false := by simpa using ne
  have nd2 : (z == y) = false := by simpa using fun h => ne h.symm
  have fm : ([Expr.Name y py, Expr.Name z pz].filterMap fun | .Name id pos => if env.kindOf id == some .local && pos.line == py.line then some id else none | _ => none) = [y, z] := by
    simp [ky, kz, hl', List.filterMap]
  have ed : ([y, z] : List Str).eraseDups.length = 2 := by simp [List.eraseDups, List.eraseDupsBy, List.eraseDupsBy.loop, nd, nd2]
  simp only [List.length_cons, List.length_nil, kb, List.any_cons, List.any_nil, e1, e2, List.head?_cons, Option.map_some, Option.getD_some, Expr.pos, fm, ed, List.all_cons, List.all_nil, Bool.and_true, f, k]
  generalize hL : List.filterMap _ [Expr.Name y py, Expr.Name z pz] = L
  have eL : L = [y, z] := hL.symm.trans fm
  subst eL
  rw [ed]
  refine (if_neg (by decide)).trans ?_
  refine (if_neg ?_).trans rfl
  intro hh
  rw [Bool.or_eq_true, Bool.or_eq_true] at hh
  rcases hh with hh | hh | hh
  · exact absurd (hh.symm.trans e1) (by decide)
  · exact absurd (hh.symm.trans e2) (by decide)
  · cases hh
theorem fm_lt {A B : Type} (f : A → Option B) : ∀ (l : List A), (∃ t ∈ l, f t = none) → (l.filterMap f).length < l.length
  | [], ⟨_, h, _⟩ => by cases h
  | a :: l, ⟨t, h, e⟩ => by
    rw [List.filterMap_cons]
    cases q : f a with
    | none =>
      simp only
      have := List.length_filterMap_le f l
      rw [List.length_cons]
      omega
    | some b =>
      simp only
      rcases List.mem_cons.mp h with rfl | h
      · rw [e] at q; cases q
      · have := fm_lt f l ⟨t, h, e⟩
        rw [List.length_cons, List.length_cons]
        omega
theorem st_cell {ts vs : List Expr} {k k2 : Nat} {p p2 : Pos} {env : PySem.Env} {y : Str} {py : Pos} (hm : Expr.Name y py ∈ ts) (hy : env.kindOf y = some .cell) : swappedStores [.Tuple ts k p] (.Tuple vs k2 p2) env = pure none := by
  unfold swappedStores
  simp only
  split
  · rfl
  split
  · rfl
  refine (if_pos ?_).trans rfl
  rw [Bool.or_eq_true]
  refine .inl ?_
  rw [bne_iff_ne]
  refine Nat.ne_of_lt (fm_lt _ ts ⟨_, hm, ?_⟩)
  simp only [hy]
  rfl
/-- .. = constants -/
theorem st_fold {ts vs : List Expr} {k k2 : Nat} {p p2 : Pos} {env : PySem.Env} (h : vs.all (foldedForSure 8) = true) : swappedStores [.Tuple ts k p] (.Tuple vs k2 p2) env = pure none := by
  unfold swappedStores
  simp only
  repeat' split
  all_goals first | rfl | exact absurd h (by assumption)
theorem as_one {tg : Expr} {env : PySem.Env} (h : notStar tg = true) : (assignEach [tg] env).map (·.2) = [assign tg env] := by
  rw [asg_cons h]
  rfl
theorem t1_star {c : Ct} {sc : Scope} {t : T} {tg : Expr} (h : ckT1 c sc t tg = true) : notStar tg = true := by
  cases t <;> (unfold ckT1 at h; split at h <;> first | rfl | cases h)
end
/-- name = [..], made into the name itself -/
theorem comp_set {c : Ct} {g : Ge} {E : XK} {X : L2.Cx} {sc : Scope} (e : MW.E) {elt : Expr} {gs : List Comprehension} {scope : Scope} {cp py spos : Pos} {y : Str} {i : Nat} (h : ckE c sc false e (.ListComp elt gs scope cp) = true) (G : GX c g E X) (S : ScOk X sc) (K : X.env.scope.kind = .function) (hy : X.N[i]? = some y) (hyl : X.env.scope.names.lookup y = some .local)
    (hl : (py.line == cp.line) = true) (ha : (scope.names.any fun (n, k) => n == y && (k == .local || k == .cell)) = false) : PS X (.Assign [.Name y py] (.ListComp elt gs scope cp) spos) (RS g E (.asg (.name i) e)) := by
  cases e <;> try (simp [ckE] at h; done)
  case meth => unfold ckE at h; rw [Bool.and_eq_true] at h; replace h := h.2; split at h <;> cases h
  case comp2 t it t2 it2 d e =>
    generalize hx : Expr.ListComp elt gs scope cp = x at h
    unfold ckE at h
    rw [Bool.and_eq_true] at h
    replace h := h.2
    split at h
    rotate_left
    · cases h
    cases hx
    rename_i tg iter tg2 iter2 ifs
    simp only [Bool.and_eq_true] at h
    obtain ⟨⟨⟨⟨⟨⟨⟨⟨h1, h2⟩, h3⟩, h4⟩, h5⟩, h7⟩, h8⟩, h9⟩, h6⟩ := h
    have own := own_slots t tg h2
    have own2 := own_slots t2 tg2 h7
    refine ps_imp (L2.ps_setLc2 (own := tOwn t tg ++ tOwn t2 tg2) (vs1 := (tOwn t2 tg2).map (·.2)) G.calm G.nd hy hyl (L2.sw_true K hyl hl ha) (pi_ck it tg iter h1 G S) (blk_ok S G.nn h3) (fun i hi => by rw [List.map_append]; exact List.mem_append_right _ hi) (fun s H C cl fp => pg_ck (G.blk (s := s) (H := H) (fp := fp)) sc_blk t tg h2) (fun s H C cl fp => ⟨fun pins s σ H Q I q => L2.pts_nil.run pins s σ H Q I (rt_true q)⟩)
      (fun s H C cl fp => pi_ck it2 tg2 iter2 h9 (G.blk (s := s) (H := H) (fp := fp)) sc_blk) (fun s H C cl fp => pg_ck (G.blk (s := s) (H := H) (fp := fp)) sc_blk t2 tg2 h7) (tt1 := RT g noX d) (fun s H C cl fp => ?_) (fun s H C cl fp => pe_ck e false _ h5 (G.blk (s := s) (H := H) (fp := fp)) sc_blk) (set_plain h4) (fun _ => set_plain h8)) fun D σ H q => re_comp2 (fun i => by rw [List.map_append, own, own2]; exact Iff.rfl) (fun i => by rw [own2]) (rs_asg q)
    split at h6
    · split at h6
      · exact ⟨fun pins s σ H Q I q => L2.pts_nil.run pins s σ H Q I (rt_true q)⟩
      · cases h6
    · exact L2.pts_one (pt_ck d _ h6 (G.blk (s := s) (H := H) (fp := fp)) sc_blk)
    · cases h6
  rename_i t it d e
  generalize hx : Expr.ListComp elt gs scope cp = x at h
  unfold ckE at h
  rw [Bool.and_eq_true] at h
  replace h := h.2
  split at h
  rotate_left
  · cases h
  cases hx
  rename_i tg iter ifs
  simp only [Bool.and_eq_true] at h
  obtain ⟨⟨⟨⟨⟨h1, h2⟩, h3⟩, h4⟩, h5⟩, h6⟩ := h
  have own := own_slots t tg h2
  refine ps_imp (L2.ps_setLc (own := tOwn t tg) G.calm G.nd hy hyl (L2.sw_true K hyl hl ha) (pi_ck it tg iter h1 G S) (blk_ok S G.nn h3) (fun s H C cl fp => pg_ck (G.blk (s := s) (H := H) (fp := fp)) sc_blk t tg h2) (tt := RT g noX d) (fun s H C cl fp => ?_) (fun s H C cl fp => pe_ck e false _ h5 (G.blk (s := s) (H := H) (fp := fp)) sc_blk) (set_plain h4)) fun D σ H q => re_comp (fun i => by rw [own]) (rs_asg q)
  split at h6
  · split at h6
    · exact ⟨fun pins s σ H Q I q => L2.pts_nil.run pins s σ H Q I (rt_true q)⟩
    · cases h6
  · exact L2.pts_one (pt_ck d _ h6 (G.blk (s := s) (H := H) (fp := fp)) sc_blk)
  · cases h6
mutual
theorem ps_ck : ∀ (s : MW.S) {c : Ct} {g : Ge} {E : XK} {X : L2.Cx} {sc : Scope} (x : Stmt), ckS c sc s x = true → GX c g E X → ScOk X sc → X.env.scope.kind = .function → PassesOwn (model X.prog X.w) X.A X.env X.xe → PS X x (RS g E s)
  | .skip, c, g, E, X, sc, x, h, G, S, K, P => by
    unfold ckS at h
    split at h
    · exact ps_imp L2.ps_pass fun D σ H q => rs_skip q
    · cases h
  | .cont, c, g, E, X, sc, x, h, G, S, K, P => by
    unfold ckS at h
    split at h
    · exact ps_imp L2.ps_continue fun D σ H q => rs_cont q
    · cases h
  | .brk, c, g, E, X, sc, x, h, G, S, K, P => by
    unfold ckS at h
    split at h
    · exact ps_imp L2.ps_break fun D σ H q => rs_brk q
    · cases h
  | .asg t e, c, g, E, X, sc, x, h, G, S, K, P => by
    unfold ckS at h
    split at h
    rotate_left
    · cases h
    rename_i tg v pos
    simp only [Bool.and_eq_true, Bool.or_eq_true, Bool.not_eq_true'] at h
    obtain ⟨⟨h1, h2⟩, h3⟩ := h
    have st := t1_star h1
    rcases h3 with ((⟨h3, h4⟩ | h3) | h3) | h3
    · exact ps_imp (L2.ps_asg (pe_ck e false _ h2 G S) (pg_ck G S t _ h1) (sw_no h3) (st_no h4) (as_one st)) fun D σ H q => rs_asg q
    · cases tg <;> simp only [swapB] at h3 <;> try (cases h3)
      rename_i y py
      cases v <;> simp only [swapB] at h3 <;> try (cases h3)
      rename_i elt gs scope cp
      simp only [Bool.and_eq_true, decide_eq_true_eq, Bool.not_eq_true'] at h3
      obtain ⟨⟨b1, b2⟩, b3⟩ := h3
      cases t <;> simp only [ckT1] at h1 <;> try (cases h1)
      rename_i i
      obtain ⟨l1, l2, l3⟩ := loc_of S G h1
      exact comp_set e h2 G S K l1 (S.loc y b1) b2 b3
    · cases tg <;> simp only [cellB] at h3 <;> try (cases h3)
      rename_i y py
      cases v <;> simp only [cellB] at h3 <;> try (cases h3)
      rename_i elt gs scope cp
      rw [decide_eq_true_eq] at h3
      exact ps_imp (L2.ps_asg (pe_ck e false _ h2 G S) (pg_ck G S t _ h1) (sole_of (sw_cell (S.cel y h3))) rfl (as_one st)) fun D σ H q => rs_asg q
    · cases tg <;> simp only [cellTup] at h3 <;> try (cases h3)
      cases v <;> simp only at h3 <;> try (cases h3)
      rw [Bool.or_eq_true] at h3
      rcases h3 with h3 | h3
      rotate_left
      · exact ps_imp (L2.ps_asg (pe_ck e false _ h2 G S) (pg_ck G S t _ h1) (sole_of (sw_no rfl)) (st_fold h3) (as_one st)) fun D σ H q => rs_asg q
      rw [List.any_eq_true] at h3
      obtain ⟨z, hz, h3⟩ := h3
      split at h3
      · rw [decide_eq_true_eq] at h3
        exact ps_imp (L2.ps_asg (pe_ck e false _ h2 G S) (pg_ck G S t _ h1) (sole_of (sw_no rfl)) (st_cell hz (S.cel _ h3)) (as_one st)) fun D σ H q => rs_asg q
      · cases h3
  | .par2 i j a b, c, g, E, X, sc, x, h, G, S, K, P => by
    unfold ckS at h
    split at h
    rotate_left
    · cases h
    simp only [Bool.and_eq_true, decide_eq_true_eq, Bool.not_eq_true'] at h
    obtain ⟨⟨⟨⟨⟨⟨⟨⟨⟨⟨⟨h1, h2⟩, h3⟩, h4⟩, h5⟩, h6⟩, h7⟩, h8⟩, h9⟩, h10⟩, h11⟩, h12⟩ := h
    obtain ⟨a1, a2, a3⟩ := loc_of S G h1
    obtain ⟨b1, b2, b3⟩ := loc_of S G h2
    refine ps_imp (L2.ps_par G.calm G.nd a1 b1 (fun e => ?_) (S.loc _ h3) (S.loc _ h4) (L2.pa_cons (pe_ck a false _ h7 G S) (L2.pa_cons (pe_ck b false _ h8 G S) L2.pa_nil (star_cons h10)) (star_cons h9)) (st_two K (S.loc _ h3) (S.loc _ h4) h5 h6 h9 h10 h11 h12) rfl) fun D σ H q => rs_par2 q
    rw [e, b1] at a1
    exact h5 (Option.some.inj a1).symm
  | .set i ix e, c, g, E, X, sc, x, h, G, S, K, P => by
    unfold ckS at h
    split at h
    rotate_left
    · cases h
    simp only [Bool.and_eq_true] at h
    obtain ⟨⟨⟨⟨h1, h2⟩, h3⟩, h4⟩, h5⟩ := h
    obtain ⟨a1, a2, a3, a4⟩ := vis_of S G h1
    rename_i n np s sp v vp
    refine ps_imp (L2.ps_asg (pe_ck e false _ h3 G S) (L2.pg_sub (L2.pe_var a1 a2 a3 a4) (po_of G S h2 fun _ => pe_ck ix false _ h2 G S) (set_ok G.hu) ?_) (sole_of (sw_no h5)) rfl rfl) fun D σ H q => ?_
    · cases s <;> first | (intro _; rfl) | cases h4
    · rw [G.hK]
      exact rs_set q
  | .aug i o e, c, g, E, X, sc, x, h, G, S, K, P => by
    unfold ckS at h
    split at h
    rotate_left
    · cases h
    simp only [Bool.and_eq_true, decide_eq_true_eq] at h
    obtain ⟨⟨h1, h2⟩, h3⟩ := h
    subst h2
    obtain ⟨a1, a2, a3⟩ := loc_of S G h1
    exact ps_imp (L2.ps_aug G.nd a1 a2 (po_of G S h3 fun _ => pe_ck e false _ h3 G S) (ip_okE o) a3) fun D σ H q => rs_augE q
  | .expr e, c, g, E, X, sc, x, h, G, S, K, P => by
    unfold ckS at h
    split at h
    rotate_left
    · cases h
    simp only [Bool.and_eq_true] at h
    exact ps_imp (L2.ps_expr (pe_ck e false _ h.1 G S) (sw_no h.2)) fun D σ H q => rs_expr q
  | .ite t a b, c, g, E, X, sc, x, h, G, S, K, P => by
    unfold ckS at h
    split at h
    rotate_left
    · cases h
    simp only [Bool.and_eq_true] at h
    exact ps_imp (L2.ps_if (pt_ck t _ h.1.1 G S) (pss_ck a _ h.1.2 G S K P) (pss_ck b _ h.2 G S K P)) fun D σ H q => rs_ite q
  | .for_ t it b, c, g, E, X, sc, x, h, G, S, K, P => by
    unfold ckS at h
    split at h
    rotate_left
    · cases h
    simp only [Bool.and_eq_true] at h
    obtain ⟨⟨⟨h1, h2⟩, h3⟩, h4⟩ := h
    exact ps_imp (L2.ps_for P G.calm (pi_ck it _ _ h2 G S) (pg_ck G S t _ h1) (pss_ck b _ h3 G S K P) (set_plain h4)) fun D σ H q => rs_for q
  | .while_ t b, c, g, E, X, sc, x, h, G, S, K, P => by
    unfold ckS at h
    split at h
    rotate_left
    · cases h
    simp only [Bool.and_eq_true] at h
    exact ps_imp (L2.ps_while P (pt_ck t _ h.1 G S) (pss_ck b _ h.2 G S K P)) fun D σ H q => rs_while q
  | .ret e, c, g, E, X, sc, x, h, G, S, K, P => by
    unfold ckS at h
    split at h
    rotate_left
    · cases h
    cases hv : isVar e with
    | false => exact ps_imp (L2.ps_ret (pe_ck e false _ h G S)) fun D σ H q => rs_ret hv q
    | true =>
      cases e <;> try (cases hv)
      simp only [ckE, Bool.and_eq_true] at h
      replace h := h.2
      split at h
      rotate_left
      · cases h
      obtain ⟨a1, a2, a3, a4⟩ := vis_of S G h
      exact ps_imp (L2.ps_ret (L2.pe_var a1 a2 a3 a4)) fun D σ H q => rs_retV q
  | .retn, c, g, E, X, sc, x, h, G, S, K, P => by
    unfold ckS at h
    split at h
    · exact ps_imp L2.ps_retN fun D σ H q => rs_retN q
    · cases h
  | .seq _ _, c, g, E, X, sc, x, h, G, S, K, P => by simp [ckS] at h
  | .par3 _ _ _ _ _ _, c, g, E, X, sc, x, h, G, S, K, P => by simp [ckS] at h
  | .swap _ _ _ _ _, c, g, E, X, sc, x, h, G, S, K, P => by simp [ckS] at h
  | .augset i ix o e, c, g, E, X, sc, x, h, G, S, K, P => by
    unfold ckS at h
    split at h
    rotate_left
    · cases h
    simp only [Bool.and_eq_true, decide_eq_true_eq] at h
    obtain ⟨⟨⟨⟨h1, h2⟩, h3⟩, h4⟩, h5⟩ := h
    subst h3
    obtain ⟨a1, a2, a3, a4⟩ := vis_of S G h1
    rename_i n np s sp v vp
    refine ps_imp (L2.ps_augS (L2.pe_var a1 a2 a3 a4) (po_of G S h2 fun _ => pe_ck ix false _ h2 G S) (get_ok G.hu) (po_of G S h4 fun _ => pe_ck e false _ h4 G S) (ip_ok o) (set_ok G.hu) ?_) fun D σ H q => ?_
    · cases s <;> first | (intros; rfl) | cases h5
    · rw [G.hK]
      exact rs_augset q
  | .raise k as, c, g, E, X, sc, x, h, G, S, K, P => by
    unfold ckS at h
    exact G.raised k as x h
  | .tryx _ _ _, c, g, E, X, sc, x, h, G, S, K, P => by simp [ckS] at h
  | .bad _, c, g, E, X, sc, x, h, G, S, K, P => by simp [ckS] at h
theorem pss_ck : ∀ (s : MW.S) {c : Ct} {g : Ge} {E : XK} {X : L2.Cx} {sc : Scope} (xs : List Stmt), ckB c sc s xs = true → GX c g E X → ScOk X sc → X.env.scope.kind = .function → PassesOwn (model X.prog X.w) X.A X.env X.xe → PSs X xs (RS g E s)
  | .skip, c, g, E, X, sc, xs, h, G, S, K, P => by
    unfold ckB at h
    rw [List.isEmpty_iff] at h
    subst h
    exact pss_imp L2.pss_nil fun D σ H q => rs_skip q
  | .seq a b, c, g, E, X, sc, xs, h, G, S, K, P => by
    unfold ckB at h
    cases xs with
    | nil => cases h
    | cons x xs =>
      simp only [Bool.and_eq_true] at h
      exact pss_imp (L2.pss_cons (ps_ck a _ h.1 G S K P) (pss_ck b _ h.2 G S K P)) fun D σ H q => rs_seq q
  | .asg _ _, c, g, E, X, sc, xs, h, G, S, K, P => by simp [ckB] at h
  | .par2 _ _ _ _, c, g, E, X, sc, xs, h, G, S, K, P => by simp [ckB] at h
  | .par3 _ _ _ _ _ _, c, g, E, X, sc, xs, h, G, S, K, P => by simp [ckB] at h
  | .set _ _ _, c, g, E, X, sc, xs, h, G, S, K, P => by simp [ckB] at h
  | .swap _ _ _ _ _, c, g, E, X, sc, xs, h, G, S, K, P => by simp [ckB] at h
  | .aug _ _ _, c, g, E, X, sc, xs, h, G, S, K, P => by simp [ckB] at h
  | .augset _ _ _ _, c, g, E, X, sc, xs, h, G, S, K, P => by simp [ckB] at h
  | .expr _, c, g, E, X, sc, xs, h, G, S, K, P => by simp [ckB] at h
  | .ite _ _ _, c, g, E, X, sc, xs, h, G, S, K, P => by simp [ckB] at h
  | .for_ _ _ _, c, g, E, X, sc, xs, h, G, S, K, P => by simp [ckB] at h
  | .while_ _ _, c, g, E, X, sc, xs, h, G, S, K, P => by simp [ckB] at h
  | .ret _, c, g, E, X, sc, xs, h, G, S, K, P => by simp [ckB] at h
  | .retn, c, g, E, X, sc, xs, h, G, S, K, P => by simp [ckB] at h
  | .raise _ _, c, g, E, X, sc, xs, h, G, S, K, P => by simp [ckB] at h
  | .cont, c, g, E, X, sc, xs, h, G, S, K, P => by simp [ckB] at h
  | .brk, c, g, E, X, sc, xs, h, G, S, K, P => by simp [ckB] at h
  | .tryx _ _ _, c, g, E, X, sc, xs, h, G, S, K, P => by simp [ckB] at h
  | .bad _, c, g, E, X, sc, xs, h, G, S, K, P => by simp [ckB] at h
end
end MW
end
section
set_option Elab.async false
set_option linter.all false
set_option maxRecDepth 100000
set_option maxHeartbeats 4000000
/-! Sx1: an own exception whose __init__ says super().__init__(x); self.f = x. -/
namespace MW
open PySem PySem.Spec
open PyProof.Rows hiding St
open PySem.W (ksEnv ksFn kxs_mw)
open L2 (V Hp HO upd upd_same upd_ne ne_of_none VK XK WX TE TS TA Sp CXT Ends Inv Takes Room Env0 FnOk FnScope Binds Gl Vis PE PT PA PS PSs CR CE RelV Vals cxOf OexC exo exd)
variable [Tbs]
/-- the text of such an __init__ -/
def initBody (sf r f : Str) (p0 p1 pa pr pc pe ps pf pv pas : Pos) : List Stmt :=
  [.Expr (.Call (.Attribute (.Call (.Name "super" p0) [] [] p1) "__init__" pa) [.Name r pr] [] pc) pe, .Assign [.Attribute (.Name sf ps) f pf] (.Name r pv) pas]
/-- what the written part holds of it: C the class, fI the def, cc the cell, cda the code -/
structure InitAt (P : Program) (K : Fg) (C fI cc cda : Ad) (name qual : Str) (params : Arguments) (body : List Stmt) (scope : Scope) (dV kV doc pm ct oc : Value) (an od : Option Ad) (osl : Array (Option Value)) (sf r : Str) : Prop where
  lk : K.lookup fI = some ⟨oc, od, .func (ksFn name qual params body scope dV kV doc pm an (.ref cda) ct cc), osl⟩
  code : PySem.W.codeIn K (.ref cda) qual = true
  file : ∃ ccl cdd vs ccs file tf, K.lookup cda = some ⟨ccl, cdd, .fields vs, ccs⟩ ∧ vs[2]? = some (.str file tf) ∧ ((P.main.file : Str) == file) = true
  cell : ∃ cl cld csl, K.lookup cc = some ⟨cl, cld, .cell (some (.ref C)), csl⟩
  kind : scope.kind = .function
  co : scope.isCoroutine = false
  gen : scope.isGenerator = false
  ncell : ∀ y ∈ scope.names, y.2 ≠ .cell
  fre : ∀ y, scope.names.lookup y = some .free → y = "__class__"
  par : ∃ ar, (params.posonlyargs ++ params.args).head? = some ar ∧ ar.arg = sf
  ks : scope.names.lookup ("super" : Str) = some .globalImplicit
  kc : scope.names.lookup ("__class__" : Str) = some .free
  ksf : scope.names.lookup sf = some .local
  kr : scope.names.lookup r = some .local
  ne : sf ≠ r
  dbg : notDbg sf = true ∧ notDbg r = true
  T : OexC K C
  sub : PySem.W.mroIn K C (.ref C) = some true
  sup : PySem.W.ks_superIn K C C "__init__" = some (some (.builtin "ValueError.__init__"))
  ve : PySem.W.subIn K (.ref C) (.type "ValueError") = some true
  tp : PySem.W.nsIn K cStatics "thirdparty.any" = some none
  htop : (P.main.scope.names.lookup ("super" : Str)).isSome = false
/-- the context of its body -/
def initCx (P : Program) (w : World) (K : Fg) (mg : Str → Option Value) (base : Heap) (N : List Str) (qual : Str) (scope : Scope) (f cda cc : Ad) (A : Around) (outer : List PySem.Env) (s : Shared) (H : Hp) (xe : Value → Shared → Prop) : L2.Cx where
  prog := P
  w := w
  K := K
  mg := mg
  base := base
  A := A.deeper (ksEnv qual scope s.heap.objs.size f (.ref cda) cc)
  N := N
  s_0 := s
  H_0 := H
  env := ksEnv qual scope s.heap.objs.size f (.ref cda) cc
  outer := outer
  stack := ksEnv qual scope s.heap.objs.size f (.ref cda) cc :: outer
  ex := []
  fn := fun _ => false
  calm := true
  pn := []
  xe := xe
/-- ValueError.__init__ bound to an exception, called -/
theorem call_bv {prog : Program} {w : World} {A : Around} {E : Value → Shared → Prop} {h : Heap} {g : Array GenState} {d : Drawn} {t : Nat} {os : OsState} {nm q : Str} {C N : Ad} {bs bm : List Value} {hdct : Bool} {sn : List Str} {sub : List Value} {ab : Bool} {col : Option Bool} {dd : Option Ad} {k0 k1 k2 k3 k5 : Option Value}
    {u e t0 : Ad} {rest : List Value} {Q : Value → Shared → Prop} (hT : ∀ X : String, bm.contains (.type X) = HandSPX.veTail.contains (.type X))
    (hC : h.get? C = some (excClassObj nm q C N bs bm hdct sn sub ab col dd k0 k1 k2 k3 k5 "ValueError.__new__")) (he : h.get? e = some (HandSPX.excO C t0)) (hu : h.get? u = some (kxs_mw "ValueError.__init__" e)) (hrest : rest.length ≤ sizeLine)
    (hq : ∀ h' t1, (∀ b o, b ≠ e → h.get? b = some o → h'.get? b = some o) → h'.get? e = some (HandSPX.excO C t1) → Q .none ⟨h', g, d, t, os⟩) :
    wpAny (model prog w) A (call (.ref u) rest) Q E ⟨h, g, d, t, os⟩ := by
  refine wpAny_call (codeAny_of_tree ?_)
  show wpAny _ A.in1 (callAny (.ref u) ⟨rest, []⟩) _ _ _
  simp only [callAny]
  refine wpAny_bind (wpAny_load hu ?_)
  simp only [kxs_mw, show (Value.type "method-wrapper" == Value.type "method" || Value.type "method-wrapper" == Value.type "builtin_function_or_method" || Value.type "method-wrapper" == Value.type "method-wrapper") = true by decide, if_true]
  refine W.KFB.if_so (by decide) ?_
  refine wpAny_bind (ESX.check_bound F.excBase_ValueError hC he rfl ?_)
  refine wpAny_bind (wpAny_pure (wpAny_pure ?_))
  refine ⟨Code.quiet_builtin _ (by decide +kernel), codeAny_builtin F.excBase_ValueError.initEntry ?_⟩
  rw [Around.under_plainId F.excBase_ValueError.init.plain _]
  wp_walk
  refine hq _ h.objs.size (fun b o hb ho => ?_) ?_
  · rw [Heap.get?_update_other _ _ (Ne.symm hb)]
    exact Heap.get?_push_of_some _ ho
  · rw [Heap.get?_update_self _ (Heap.get?_push_of_some _ he) rfl]
    rfl
theorem eval_sup {p0 p1 pa pr pc : Pos} {r : Str} {env : PySem.Env} (hl : (pa.endLine == pc.line) = true) : eval (.Call (.Attribute (.Call (.Name "super" p0) [] [] p1) "__init__" pa) [.Name r pr] [] pc) env = (do
      let ov ← attributeBase (.Call (.Name "super" p0) [] [] p1) "__init__" env (eval (.Call (.Name "super" p0) [] [] p1) env)
      standAt pa.atName
      let (f, first) ← holding [ov] (getMethod ov "__init__" (L2.plainOf (.Call (.Name "super" p0) [] [] p1) env))
      callWith pc f first (backTo pc (starEach [.Name r pr] env)) []) := by
  rw [arm_eval_Call]
  have hf : methodCallForm ([Expr.Name r pr].length + ([] : List Keyword).length) (backTo pc (starEach [.Name r pr] env)) (backToKw pc (keywordEach [] env)) = true := rfl
  have e := fun ov => L2.mcall_line (o := .Call (.Name "super" p0) [] [] p1) (m := "__init__") (apos := pa) (pos := pc) (env := env) (ov := ov) hf hl
  simp only [e]
  rfl
theorem boot_super : bootBuiltins (Str.ofString "super") = some (.type "super") := by kernel_rfl
section
variable {P : Program} {w : World} {K : Fg} {mg : Str → Option Value} {base : Heap} {C fI cc cda : Ad} {name qual : Str} {params : Arguments} {body : List Stmt} {scope : Scope} {dV kV doc pm ct oc : Value} {an od : Option Ad} {osl : Array (Option Value)} {sf r : Str}
theorem init_start {A : Around} {outer : List PySem.Env} {s : Shared} {H : Hp} {xe : Value → Shared → Prop} {h₁ : Heap} {tk : Nat} {v1 v2 : V} {u1 u2 : Value} (D : InitAt P K C fI cc cda name qual params body scope dV kV doc pm ct oc an od osl sf r) (e0 : Env0 P w K mg base A outer s H) (hd : A.handled = none)
    (hns : h₁.Ns s.heap.objs.size fun y => ([(sf, u1), (r, u2)] : List (Str × Value)).reverse.lookup y) (kp : ∀ b o, s.heap.get? b = some o → h₁.get? b = some o) (r1 : RelV v1 u1) (r2 : RelV v2 u2) :
    Inv (initCx P w K mg base [sf, r] qual scope fI cda cc A outer s H xe) [] [some v1, some v2] H { s with heap := h₁, toks := tk } := by
  obtain ⟨cl, cld, csl, hcell⟩ := D.cell
  have noA : ∀ b : Ad, b ∉ (initCx P w K mg base [sf, r] qual scope fI cda cc A outer s H xe).ex := fun b z => absurd (show b ∈ ([] : List Ad) from z) (by simp)
  have cells : ∀ {y : Str} {c : Ad}, (initCx P w K mg base [sf, r] qual scope fI cda cc A outer s H xe).env.cells.lookup y = some c → y = "__class__" ∧ c = cc := fun {y c} e => by
    have e : ([("__class__", cc)] : List (Str × Ad)).lookup y = some c := e
    rw [List.lookup_cons] at e
    cases q : (y == ("__class__" : Str)) with
    | true =>
      rw [q] at e
      exact ⟨by simpa using q, (Option.some.inj e).symm⟩
    | false =>
      rw [q] at e
      cases e
  have hb := e0.mod.kin cc _ hcell
  have hs := e0.bs cc _ hb
  refine ⟨⟨e0.mod, D.kind, rfl, rfl, Nat.le_refl _, fun y z c h1 h2 => ?_, fun y hy => ?_, fun y c z _ => ?_, fun _ => hd, Around.frames_deeper e0.frames, .inr ⟨rfl, rfl⟩, fun b z => absurd z (noA b), e0.bs, e0.bsz, fun b _ _ => noA b, fun b z => absurd z (noA b), e0.funs, e0.frf⟩,
    rfl, e0.bare, L2.Un.kept kp, ⟨_, hns, fun i y v h1 h2 h3 => ?_⟩, fun y c h => ?_, e0.hok.fresh (Nat.le_refl _), fun y c h => ?_, fun p hp => absurd (show p ∈ ([] : List (Ad × Obj)) from hp) (by simp), e0.hok.kept kp, rfl⟩
  · rw [(cells h1).1, (cells h2).1]
  · have hy : scope.names.lookup y = some .cell ∨ scope.names.lookup y = some .free := hy
    rcases hy with hy | hy
    · exact absurd rfl (D.ncell _ (PySem.mem_of_lookup hy))
    · rw [D.fre y hy]
      exact ⟨cc, rfl⟩
  · cases (show false = true from z)
  · have nrs : (sf == r) = false := by simpa using D.ne
    match i, h1, h2 with
    | 0, h1, h2 =>
      cases h1
      cases h2
      refine ⟨u1, r1, .inl ⟨D.ksf, ?_⟩⟩
      show ([(r, u2), (sf, u1)] : List (Str × Value)).lookup sf = some u1
      rw [List.lookup_cons, nrs]
      simp
    | 1, h1, h2 =>
      cases h1
      cases h2
      refine ⟨u2, r2, .inl ⟨D.kr, ?_⟩⟩
      show ([(r, u2), (sf, u1)] : List (Str × Value)).lookup r = some u2
      simp
    | n + 2, h1, h2 => cases h2
  · rw [(cells h).2]
    exact ⟨_, _, kp _ _ hs.1, rfl⟩
  · rw [(cells h).2]
    exact hs.2
/-- what it promises -/
def spI (K : Fg) (C : Ad) (f : Str) : Sp := fun vs H Q _ => ∃ a v, vs = [.ref a, v] ∧ H a = some (exo a C none) ∧ ∀ dx, H dx = none → dx ≠ a → Q .non (upd (upd H dx (exd dx [(f, v)])) a (exo a C (some dx)))
theorem init_fn {CX : CXT} {k : Nat} {f : Str} {p0 p1 pa pr pc pe ps pf pv pas : Pos} (D : InitAt P K C fI cc cda name qual params (initBody sf r f p0 p1 pa pr pc pe ps pf pv pas) scope dV kV doc pm ct oc an od osl sf r) (hline : (pa.endLine == pc.line) = true)
    (hsup : mg "super" = none) (hno : PySem.W.findIn K (.ref C) f = some none) :
    FnOk P w K mg base CX (k + 1) fI (ksFn name qual params (initBody sf r f p0 p1 pa pr pc pe ps pf pv pas) scope dV kV doc pm an (.ref cda) ct cc) [sf, r] (spI K C f) := by
  refine ⟨fun vs H Q E h => ?_, fun A outer s H args us vs Q E hr e0 hb rv hsp => ?_⟩
  · obtain ⟨a, v, e, _⟩ := h
    rw [e]; rfl
  obtain ⟨a, v, ev, ea, hq⟩ := hsp
  subst ev
  cases rv with
  | @cons _ u1 _ ur r1 rr =>
  cases rr with
  | @cons _ u2 _ ur r2 rr =>
  cases rr
  obtain rfl : u1 = Value.ref a := r1
  have KX : K.In s.heap := e0.mod.kin.keeps fun b o e => (e0.bs b o e).1
  have lim : s.heap.NoLimit := e0.mod.nolimit.keeps fun b o e => (e0.bs b o e).1
  refine PySem.ks_codeAny_call_defAt hr.depth (KX _ _ D.lk) rfl lim (PySem.W.codeRec_of KX D.code) rfl hb D.ncell ?_ ?_ D.co D.gen D.kind
  · intro y hy
    rcases List.mem_cons.mp hy with rfl | hy
    · exact D.ksf
    · rw [List.mem_singleton.mp hy]
      exact D.kr
  intro h₁ hns kp
  let X : L2.Cx := initCx P w K mg base [sf, r] qual scope fI cda cc A outer s H (fun e s' => wpAny (model P w) (A.deeper (ksEnv qual scope s.heap.objs.size fI (.ref cda) cc)) (leaving (ksEnv qual scope s.heap.objs.size fI (.ref cda) cc) e) (fun _ s'' => CR CX outer P w H s Q E (.error e) s'') (fun e' s'' => CR CX outer P w H s Q E (.error e') s'') s')
  have I : Inv X [] [some (.ref a), some v] H { s with heap := h₁, toks := s.toks + ([sf, r].zip [Value.ref a, u2]).length } := init_start D e0 hr.hd hns kp rfl r2
  obtain ⟨ar, hpar, har⟩ := D.par
  obtain ⟨ccl, cdd, cvs, ccs, file, tf, hcda, hvs, hfile⟩ := D.file
  obtain ⟨cl, cld, csl, hcell⟩ := D.cell
  obtain ⟨nm, q, N, bs, bm, sn, sub, ab, col, dd, k0, k1, k2, k3, k5, hC, hbm⟩ := D.T.cls
  have dsf := dbg_of D.dbg.1
  have dr := dbg_of D.dbg.2
  have lsf : ([("__class__", cc)] : List (Str × Ad)).lookup ("__class__" : Str) = some cc := rfl
  have ldR : ∀ {s' : Shared} {Q' : Value → Shared → Prop} {E' : Value → Shared → Prop} {p : Pos}, Inv X [] [some (.ref a), some v] H s' → (∀ u, RelV v u → Q' u s') → wpAny (model P w) X.A (eval (.Name r p) X.env) Q' E' s' := fun {s' Q' E' p} I' hq' => by
    obtain ⟨m, hn, hl⟩ := I'.loc
    obtain ⟨u, ru, lk⟩ := hl 1 r v rfl rfl (.inl D.kr)
    rcases lk with ⟨_, e⟩ | ⟨z, _⟩
    · exact wpAny_Name (wpAny_loadName_local D.kind D.kr hn e (hq' u ru)) dr.1
    · have z : scope.names.lookup r = some .cell ∨ scope.names.lookup r = some .free := z
      rw [D.kr] at z
      rcases z with z | z <;> cases z
  refine PySem.ks_wpAt_execs_cons (PySem.ks_wpAt_Expr_any (PySem.ks_wpAt_MethodCall ?_ (eval_sup hline)) (by unfold interactive; simp [callEnv, newEnv, D.kind]) rfl)
  have K1 := I.kIn
  refine PySem.ks_wpAt_super_base (env := X.env) D.ks D.kc (by decide) rfl (K1 _ _ D.lk) rfl hpar rfl (K1 _ _ hcda) rfl hvs hfile D.htop ?_
  obtain ⟨mb, hmb1, hmb2⟩ := I.mod.blt
  refine PySem.W.ks_loadName_global D.kind D.ks (Calls.loadGlobal_builtin (by rw [I.ok.glob]; exact I.mod.glob.keeps I.bk) hsup (by rw [I.ok.blt]; exact hmb1.keeps I.bk) ((hmb2 "super" (by decide)).trans boot_super) ⟨rfl, ?_⟩)
  refine wpAny_loadName_free D.kind D.kc rfl ⟨_, K1 _ _ hcell, rfl⟩ ?_
  obtain ⟨m, hn, hl⟩ := I.loc
  obtain ⟨u0, ru0, lk0⟩ := hl 0 sf (.ref a) rfl rfl (.inl D.ksf)
  obtain rfl : u0 = Value.ref a := ru0
  have lk0' : m sf = some (.ref a) := by
    rcases lk0 with ⟨_, e⟩ | ⟨z, _⟩
    · exact e
    · have z : scope.names.lookup sf = some .cell ∨ scope.names.lookup sf = some .free := z
      rw [D.ksf] at z
      rcases z with z | z <;> cases z
  rw [har]
  refine wpAny_loadName_local D.kind D.ksf hn lk0' ?_
  have hCK := K1 _ _ hC
  obtain ⟨t1, ho⟩ := L2.exo_at I.hok ea
  have hbmT : ∀ Y : String, bm.contains (.type Y) = HandSPX.veTail.contains (.type Y) := fun Y => HandSPX.refsVE_contains Y bm hbm
  obtain ⟨cdC, hcl⟩ : ∃ cdC, PySem.W.clsIn K C = some cdC := by
    unfold PySem.W.clsIn; rw [hC]; exact ⟨_, rfl⟩
  obtain ⟨oC, hoC, hdC⟩ : ∃ oC, h₁.get? C = some oC ∧ oC.data = .cls cdC := by
    unfold PySem.W.clsIn at hcl
    split at hcl
    · rename_i c d cd' sl hho
      cases hcl
      exact ⟨_, K1 _ _ hho, rfl⟩
    · cases hcl
  refine PySem.ks_wpAny_isType_cls hoC hdC ⟨rfl, ?_⟩
  refine PySem.ks_wpAny_call_super hoC hdC ho rfl (fun c z => by cases z) (PySem.W.looks_mroIn K1 D.sub) ?_
  intro h₂ hso k2
  have I2 : Inv X [] [some (.ref a), some v] H ⟨h₂, s.gens, s.drawn, s.toks + ([sf, r].zip [Value.ref a, u2]).length, s.os⟩ := I.kept k2
  have K2 := I2.kIn
  have ho2 := k2 _ _ ho
  have IA : PySem.W.InstAt h₂ a _ C none := ⟨ho2, rfl, rfl, trivial⟩
  have sup := D.sup
  unfold PySem.W.ks_superIn at sup
  rw [hcl] at sup
  refine PySem.W.kxs_getMethod PySem.W.kxs_ValueError hso (PySem.W.looks_opaque K2 D.tp) (l₀ := cdC.mro) ?_ rfl K2 sup (IA.type.andThen (PySem.W.looks_subIn K2 D.ve)) (PySem.W.ks_ne K2 IA hcl) (by decide) ?_
  · exact fun A Q E s k q => wpAny_bind ((PySem.W.looks_clsIn K2 hcl) A _ E s k (wpAny_pure q))
  have k3 : ∀ b o, h₂.get? b = some o → (h₂.push (kxs_mw "ValueError.__init__" a)).get? b = some o := fun b o e => Heap.get?_push_of_some _ e
  have I3 : Inv X [] [some (.ref a), some v] H ⟨h₂.push (kxs_mw "ValueError.__init__" a), s.gens, s.drawn, s.toks + ([sf, r].zip [Value.ref a, u2]).length + 1, s.os⟩ := I2.kept k3
  have hu : (h₂.push (kxs_mw "ValueError.__init__" a)).get? h₂.objs.size = some (kxs_mw "ValueError.__init__" a) := Heap.get?_push_at rfl rfl
  refine PySem.W.kxs_callWith (i := "ValueError.__init__") (x := a) (by rfl) (Calls.evalArgs_plain ?_)
  refine Calls.spliced_cons (ldR I3 fun u ru => Calls.spliced_nil ⟨hu, ?_⟩)
  refine call_bv hbmT (I3.kIn _ _ hC) (k3 _ _ ho2) hu (by rw [sizeLine_eq]; show 1 ≤ _; omega) ?_
  intro h₄ t4 k4 hx
  have J := I3.write (t' := s.toks + ([sf, r].zip [Value.ref a, u2]).length + 1) (x := a) (e := a) (o := exo a C none) (by rw [ea]; exact True.intro) (.inl rfl) k4 ⟨_, hx⟩ (L2.exo_ok hx)
  have eu : upd H a (exo a C none) = H := by
    funext b
    by_cases hb : b = a
    · rw [hb, upd_same, ea]
    · rw [upd_ne hb]
  rw [eu] at J
  refine wpAt_of_wpAny ?_
  have pvv : ∀ {i : Nat} {x : Str} {p : Pos}, X.N[i]? = some x → scope.names.lookup x = some .local → notDbg x = true → PE X (.Name x p) (L2.tVar i) := fun {i x p} e h d => L2.pe_var e (.inl h) (dbg_of d).1 (dbg_of d).2.1
  have st := (L2.pss_one (L2.ps_ost (X := X) (f := f) (p' := pf) (pos := pas) (pvv (i := 0) (p := ps) rfl D.ksf D.dbg.1) (pvv (i := 1) (p := pv) rfl D.kr D.dbg.2))).run [] _ _ H { nx := fun _ H' => Q .non H', rt := Q } J
    ⟨v, rfl, .ref a, rfl, a, C, rfl, D.T, hno, .inl ⟨ea, hq⟩⟩
  refine wpAny_mono st ?_ fun e s' hs => hs
  intro fl s' hs
  cases fl with
  | ret u =>
    obtain ⟨v, σ', H', J, rv, q⟩ := hs
    exact ⟨v, H', J.os, J.bare, J.base, J.hok, rv, q⟩
  | next =>
    obtain ⟨σ', H', J, q⟩ := hs
    exact ⟨V.non, H', J.os, J.bare, J.base, J.hok, rfl, q⟩
  | brk => exact hs.elim fun _ h => h.elim fun _ h => h.2.elim
  | cont => exact hs.elim fun _ h => h.elim fun _ h => h.2.elim
end
end MW
end
section
set_option Elab.async false
set_option linter.all false
set_option maxRecDepth 100000
set_option maxHeartbeats 4000000
/-! Sx2: raise C(x). -/
namespace MW
open PySem PySem.Spec
open PyProof.Rows hiding St
open PySem.W (ksEnv ksFn)
open L2 (V Hp HO upd upd_same upd_ne ne_of_none VK XK WX TE TS TA Sp CXT Ends Inv Takes Room Env0 FnOk FnScope Binds Gl Vis PE PT PA PS PSs CR CE RelV Vals cxOf OexC exo exd)
variable [Tbs]
section
variable {g : Ge} {E : XK} {D : Ends} {σ : L2.St} {H : Hp}
theorem rs_raise {k : Nat} {as : Es} {f : Str} (hf : g.fl k = [f]) (hl : MW.esLen as = 1) (h : RS g E (.raise k as) D σ H) : L2.tMkO (g.ck k) (spI g.K (g.ck k) f) [] (RV' g E as) σ H fun cls d H' => E cls d H' := by
  obtain ⟨Z, ρ, st, h⟩ := h
  simp only [ex] at h
  refine ⟨Z, ρ, st, (h.ev (Nx.refl st)).imp' fun ds Z1 H1 ρ1 e n1 ⟨n2, q⟩ vs hvs => ?_⟩
  have l1 := evs_len e
  have l2 := hvs.len
  rw [l1, hl] at l2
  match vs, l2 with
  | [v], _ =>
  refine ⟨by show 1 ≤ 1000; omega, fun a ha => ⟨a, v, rfl, upd_same, fun dx hdx hne => ⟨rfl, dx, [(f, v)], upd_same, ?_, ?_, ?_⟩⟩⟩
  · rw [upd_ne hne, upd_same]
  · rw [upd_ne hne] at hdx
    exact hdx
  · rw [upd_ne hne] at hdx
    have eq : upd (L2.del (upd (upd (upd H1 a (exo a (g.ck k) none)) dx (exd dx [(f, v)])) a (exo a (g.ck k) (some dx))) a) dx (.xd [(f, v)]) = upd H1 dx (.xd [(f, v)]) := by
      funext b
      by_cases hb : b = dx
      · rw [hb, upd_same, upd_same]
      · rw [upd_ne hb, upd_ne hb]
        by_cases hb2 : b = a
        · rw [hb2, L2.del_same, ha]
        · rw [L2.del_ne hb2, upd_ne hb2, upd_ne hb, upd_ne hb2]
    rw [eq]
    have zd := n2.st.zd
    have n3 := Ss.pure n2.st (step_new (o := .xd [(f, v)]) hdx (fun _ z => z) fun _ z => .inl z) (zd_new zd hdx (fun z => z) fun _ z => .inl z)
    exact q σ Z1 _ (n2.trans n3.nx) dx [v] (by rw [upd_same, hf]; rfl) (by rw [hf]; rfl) (hvs.keep (fun _ z => z) (keep_new zd hdx))
end
/-- a class that may be raised, as the written part holds it -/
structure RaiseAt (P : Program) (K : Fg) (mg : Str → Option Value) (n f : Str) (C fI cc cda : Ad) (name qual : Str) (params : Arguments) (scope : Scope) (dV kV doc pm ct oc : Value) (an od : Option Ad) (osl : Array (Option Value)) (sf r : Str) (p0 p1 pa pr pc pe ps pf pv pas : Pos) : Prop where
  I : InitAt P K C fI cc cda name qual params (initBody sf r f p0 p1 pa pr pc pe ps pf pv pas) scope dV kV doc pm ct oc an od osl sf r
  line : (pa.endLine == pc.line) = true
  sup : mg "super" = none
  no : PySem.W.findIn K (.ref C) f = some none
  iC : PySem.W.findIn K (.ref C) "__init__" = some (some (.ref fI))
  tI : PySem.W.typeIn K (.ref fI) = some (.type "function")
  mgn : mg n = some (.ref C)
  bind : Binds K (ksFn name qual params (initBody sf r f p0 p1 pa pr pc pe ps pf pv pas) scope dV kV doc pm an (.ref cda) ct cc) [sf, r] []
def RaiseOk (P : Program) (K : Fg) (mg : Str → Option Value) (ck : Nat → Ad) (fl : Nat → List Str) (k : Nat) (n : Str) : Prop :=
  ∃ f fI cc cda name qual params scope dV kV doc pm ct oc an od osl sf r p0 p1 pa pr pc pe ps pf pv pas, fl k = [f] ∧ RaiseAt P K mg n f (ck k) fI cc cda name qual params scope dV kV doc pm ct oc an od osl sf r p0 p1 pa pr pc pe ps pf pv pas
theorem raise_ck {N : List Str} {fns : List (Str × Nat)} {globs : List Str} {exs : List (Str × Nat)} {sc : Scope} {g : Ge} {E : XK} {X : L2.Cx} (G : GX ⟨N, fns, globs, noTl, noRs⟩ g E X) (S : ScOk X sc) (tk : Takes X (fun cls d _ H => E cls d H)) (hr : Room 2 X.A)
    (R : ∀ k n, exs[k]? = some (n, 1) → RaiseOk X.prog X.K X.mg g.ck g.fl k n) (k : Nat) (as : Es) (x : Stmt) (h : rsOf N fns globs exs sc k as x = true) : PS X x (RS g E (.raise k as)) := by
  unfold rsOf at h
  split at h
  rotate_left
  · cases h
  rename_i n p y ys pos sp
  simp only [Bool.and_eq_true, decide_eq_true_eq] at h
  obtain ⟨⟨⟨h1, em⟩, h2⟩, h3⟩ := h
  obtain ⟨f, fI, cc, cda, name, qual, params, scope, dV, kV, doc, pm, ct, oc, an, od, osl, sf, r, p0, p1, pa, pr, pc, pe, ps, pf, pv, pas, hf, D⟩ := R k n h1
  have F1 := init_fn (CX := L2.CX X.prog X.w) (w := X.w) (base := X.base) (mg := X.mg) (k := 0) D.I D.line D.sup D.no
  obtain ⟨gl, d1, d2⟩ := glo_of S h2
  have st := es_star h3
  have mk := L2.pmk_oex (X := X) (p := p) (pos := pos) D.I.T D.iC D.tI F1 hr D.bind .nil (L2.passes_call tk fun _ _ _ _ h => h.elim) gl D.mgn (pv_ck as _ h3 G S) d1 (star_cons (st y List.mem_cons_self)) (star_none fun z hz => st z (List.mem_cons_of_mem _ hz))
  refine ps_imp (L2.ps_raise G.calm tk mk) fun D' σ H q => ?_
  have q' := rs_raise hf em q
  rw [← G.hK] at q'
  exact q'
end MW
end
section
set_option Elab.async false
set_option linter.all false
set_option maxRecDepth 100000
set_option maxHeartbeats 4000000
/-! So22: all defs of a module, level by level. -/
namespace MW
open PySem PySem.Spec
open PyProof.Rows hiding St
open L2 (V Hp HO St upd upd_same upd_ne SqL SqT Rd Vals RelV Key kV ne_of_none VK XK TE TT TA TS TG TGs TI TO TIp TSet Sp CXT Room Env0 CR CE Binds FnScope Passes Gl Vis Loc Ends PE PT PW PA PS PSs PG PGs PI PO PIp OpR CallR MtR MtM IxR SlR Dp DpAll PSet Walk cxOf inv_start tCall thn BlkOk blkC blkOk_by PlainIx)
variable [Tbs]
/-- the evaluator's context at a level -/
def geAt (K : Fg) (p : Prog) (wf : Nat) (ck : Nat → Ad) (fl : Nat → List Str) (n : Nat) : Ge := ⟨K, p.cx wf (callN p wf n), ck, fl⟩
/-- a def of the text, as the written part holds it -/
structure DefAt (K : Fg) (mg : Str → Option Value) (x : Str) (ps : List Str) (a : Ad) (qual : Str) (params : Arguments) (body : List Stmt) (scope : Scope) (dV kV doc pm cdv ct oc : Value) (an od : Option Ad) (osl : Array (Option Value)) : Prop where
  lk : K.lookup a = some ⟨oc, od, .func (PySem.W.fnOf x qual params body scope dV kV doc pm an cdv ct), osl⟩
  code : PySem.W.codeIn K cdv qual = true
  mgx : mg x = some (.ref a)
  keep : PySem.W.keepIn K (.ref a) = true
  bind : Binds K (PySem.W.fnOf x qual params body scope dV kV doc pm an cdv ct) ps []
/-- .. with its IR text checked, or never run -/
def DefOk (K : Fg) (mg : Str → Option Value) (fns : List (Str × Nat)) (globs : List Str) (exs : List (Str × Nat)) (p : Prog) (i : Nat) (x : Str) (np : Nat) : Prop :=
  ∃ ps a qual params body scope dV kV doc pm cdv ct oc an od osl, DefAt K mg x ps a qual params body scope dV kV doc pm cdv ct oc an od osl ∧ ps.length = np ∧
    ((∃ fn N, fnAt p.fn i = some fn ∧ fn.np = np ∧ N.length = fn.np + fn.more ∧ FnScope N ps scope ∧ ckB ⟨N, fns, globs, noTl, rsOf N fns globs exs scope⟩ scope fn.body body = true) ∨ ∀ wf n ss, ∃ m, callN p wf n i ss = .st m)
/-- what a module gives to every context -/
structure ModOk (P : Program) (K : Fg) (mg : Str → Option Value) (fns : List (Str × Nat)) (globs : List Str) (exs : List (Str × Nat)) (p : Prog) (ck : Nat → Ad) (fl : Nat → List Str) : Prop where
  defs : ∀ i x np, fns[i]? = some (x, np) → DefOk K mg fns globs exs p i x np
  exs : ∀ k n, exs[k]? = some (n, 1) → RaiseOk P K mg ck fl k n
  blt : ∀ x, x ∈ bltNames → mg x = none
  glo : ∀ (i : Nat) x, globs[i]? = some x → ∃ v u, mg x = some u ∧ RelV v u ∧ GlobOk K ((getAt p.glob i).getD .none) v
theorem room_hu {k : Nat} {A : Around} (r : Room k A) : A.units + 65 < cLine := by
  have := r.un
  omega
section
variable {P : Program} {w : World} {K : Fg} {mg : Str → Option Value} {base : Heap} {fns : List (Str × Nat)} {globs : List Str} {exs : List (Str × Nat)} {p : Prog} {wf : Nat} {ck : Nat → Ad} {fl : Nat → List Str}
theorem sc_self {X : L2.Cx} (h : ∀ x, X.fn x = true) : ScOk X X.env.scope := ⟨fun _ h => h, fun _ h => h, fun _ h => .inr h, fun _ h => h, fun x _ => h x⟩
theorem callN_succ {n i : Nat} {fn : Fn} (h : fnAt p.fn i = some fn) (ss : List Slot) : callN p wf (n + 1) i ss = runFn (p.cx wf (callN p wf n)) fn ss := by
  show (match fnAt p.fn i with | some fn => runFn (p.cx wf (callN p wf n)) fn ss | none => .st 91) = _
  rw [h]
theorem spF_len {g : Ge} {np i : Nat} {vs : List V} {H : Hp} {Q : VK} {E : XK} (h : SpF g np i vs H Q E) : vs.length = np := by
  obtain ⟨Z, ss, hl, _⟩ := h
  exact hl
theorem spF_st {g : Ge} {np i : Nat} (h : ∀ ss, ∃ m, g.mw.call i ss = .st m) (vs : List V) (H : Hp) (Q : VK) (E : XK) : ¬ SpF g np i vs H Q E := fun ⟨Z, ss, hl, st, io, q⟩ => by
  obtain ⟨m, e⟩ := h ss
  rw [e] at q
  exact q
/-- every def keeps what the evaluator tells of it -/
theorem defs_ok (M : ModOk P K mg fns globs exs p ck fl) : ∀ (n i : Nat) (x : Str) (np : Nat), fns[i]? = some (x, np) → ∃ a fd ps, FnG P w K mg base (L2.CX P w) (2 * n + 1) a fd ps (SpF (geAt K p wf ck fl n) np i) ∧ mg x = some (.ref a) ∧ PySem.W.keepIn K (.ref a) = true ∧ Binds K fd ps [] := by
  intro n
  induction n with
  | zero =>
    intro i x np h
    obtain ⟨ps, a, qual, params, body, scope, dV, kV, doc, pm, cdv, ct, oc, an, od, osl, D, _, _⟩ := M.defs i x np h
    exact ⟨a, _, ps, FnG.none (spF_st fun ss => ⟨90, rfl⟩), D.mgx, D.keep, D.bind⟩
  | succ n ih =>
    intro i x np h
    obtain ⟨ps, a, qual, params, body, scope, dV, kV, doc, pm, cdv, ct, oc, an, od, osl, D, hl, ok⟩ := M.defs i x np h
    refine ⟨a, _, ps, ?_, D.mgx, D.keep, D.bind⟩
    rcases ok with ⟨fn, N, hf, hnp, hN, S, hc⟩ | ok
    rotate_left
    · exact FnG.none (spF_st fun ss => ok wf (n + 1) ss)
    refine fn_g (k := 2 * n + 2) D.lk D.code S (fun vs H Q E q => by rw [hl]; exact spF_len q) fun A outer s H vs Q E hr hg hsp => ?_
    let X : L2.Cx := cxOf (L2.CX P w) P w K mg base N qual scope a cdv A outer s H E
    have tk : L2.Takes X (fun cls d _ H => E cls d H) := L2.takes_of rfl rfl rfl rfl
    have G0 : GX ⟨N, fns, globs, noTl, noRs⟩ (geAt K p wf ck fl n) E X := {
      nn := rfl
      hK := rfl
      calm := rfl
      nd := S.nd
      hg := hg
      hu := room_hu hr
      blt := M.blt
      glo := fun j y e => M.glo j y e
      fns := fun j y m e => by
        obtain ⟨b, fd, qs, F, h1, h2, h3⟩ := ih j y m e
        exact ⟨b, fd, qs, 2 * n + 1, F, hr.mono (Nat.le_succ _), h1, h2, h3⟩
      pas := L2.passes_call tk fun _ _ _ _ h => h
      told := fun _ _ _ h => by cases h
      raised := fun _ _ _ h => by cases h }
    have G : GX ⟨N, fns, globs, noTl, rsOf N fns globs exs scope⟩ (geAt K p wf ck fl n) E X :=
      { G0 with raised := fun k as x h => raise_ck G0 (sc_self fun _ => rfl) tk (hr.mono (by omega)) (fun k n e => M.exs k n e) k as x h }
    refine ⟨RS (geAt K p wf ck fl n) E fn.body, pss_ck fn.body body hc G (sc_self fun _ => rfl) S.kind (L2.passes_of rfl), ?_⟩
    subst hnp
    exact body_of (g := geAt K p wf ck fl n) (g1 := geAt K p wf ck fl (n + 1)) rfl rfl rfl (fun ss => callN_succ hf ss) hN hsp
end
end MW
end
section
set_option Elab.async false
set_option linter.all false
set_option maxRecDepth 100000
set_option maxHeartbeats 4000000
/-! So23: a thunk that a def calls. -/
namespace MW
open PySem PySem.Spec
open PyProof.Rows hiding St
open L2 (V Hp HO St upd upd_same upd_ne SqL SqT Rd Vals RelV Key kV ne_of_none VK XK TE TT TA TS TG TGs TI TO TIp TSet Sp CXT Room Env0 CR CE Binds FnScope Passes Gl Vis Loc Ends PE PT PW PA PS PSs PG PGs PI PO PIp OpR CallR MtR MtM IxR SlR Dp DpAll PSet Walk cxOf inv_start tCall thn BlkOk blkC blkOk_by PlainIx Takes WX Inv)
variable [Tbs]
section
variable {X : L2.Cx} {pins : List (Addr × Obj)} {σ : L2.St} {H : Hp} {s : Shared}
/-- the thunk's object -/
abbrev thunkO (X : L2.Cx) (params : Arguments) (body : Expr) (scope : Scope) (pm : Value) (c' : Addr) (ctv : Value) : Obj :=
  PySem.W.kla_obj "<lambda>" (X.env.qual ++ "<lambda>") params body scope (L2.cloFrom X.env.cells scope.names []) pm c' ctv
/-- a() in the def that got the thunk; that def was entered at s from X -/
theorem thunk_run {CXg : CXT} {Eg : XK} {Ng : List Str} {qg : Str} {sg : Scope} {g f c' : Addr} {cdg pm ctv : Value} {params : Arguments} {body : Expr} {scope : Scope} {k i : Nat} {a : Str} {pn : List (Addr × Obj)} {xe : Value → Shared → Prop} {W : WX} {E : XK} {tb : TE} {p1 p2 : Pos}
    (I : Inv X pins σ H s) (L : LamX.LamS X.env.scope scope) (hf : s.heap.get? f = some (thunkO X params body scope pm c' ctv)) (hfn : H f = none) (hfr : f ∉ L2.frs X.stack)
    (hbind : bindArgs (PySem.W.kla_fn "<lambda>" (X.env.qual ++ "<lambda>") params body scope (L2.cloFrom X.env.cells scope.names []) pm (.ref c') ctv) ⟨[], []⟩ = pure [])
    (tk : Takes ((cxOf CXg X.prog X.w X.K X.mg X.base Ng qg sg g cdg X.A X.stack s H Eg).tr pn xe) W) (hW : ∀ cls d σ' H', E cls d H' → W cls d σ' H') (hr : Room (k + 1) (X.A.deeper (envOfC qg sg s.heap.objs.size g cdg)))
    (hbody : ∀ (s1 : Shared) (HZ : Hp), Room k ((X.A.deeper (envOfC qg sg s.heap.objs.size g cdg)).deeper (LamX.lamEnv X scope s1.heap.objs.size f c')) → PE (LamX.lamCx X (X.A.deeper (envOfC qg sg s.heap.objs.size g cdg)) (envOfC qg sg s.heap.objs.size g cdg :: X.stack) s1 HZ E scope f c') body tb)
    (hN : Ng[i]? = some a) (hv : Vis sg a) (hd : (a == ("__debug__" : Str)) = false) (hcd : (a == ("__classdict__" : Str)) = false) :
    PE ((cxOf CXg X.prog X.w X.K X.mg X.base Ng qg sg g cdg X.A X.stack s H Eg).tr pn xe) (.Call (.Name a p1) [] [] p2)
      (fun σZ HZ Q => σZ[i]? = some (some (.ref f)) ∧ HZ c' = some (LamX.CodeO c' (X.env.qual ++ "<lambda>")) ∧ tb σ HZ Q) := by
  constructor
  intro pinsZ sZ σZ HZ Q IZ h
  have look := (L2.pe_var (X := (cxOf CXg X.prog X.w X.K X.mg X.base Ng qg sg g cdg X.A X.stack s H Eg).tr pn xe) (pos := p1) hN hv hd hcd).run pinsZ sZ σZ HZ (fun v H1 => v = .ref f ∧ H1 = HZ) IZ ⟨.ref f, h.1, rfl, rfl⟩
  refine wpAny_Call_Name_kw (thn look ?_)
  rintro u s1 ⟨v, H1, I1, r1, rfl, rfl⟩
  obtain rfl : u = Value.ref f := r1
  have at1 : s1.heap.get? f = some (thunkO X params body scope pm c' ctv) := I1.base.keep f _ hf hfn hfr fun z => nomatch (show f ∈ ([] : List Addr) from z)
  have un : L2.Un (L2.frs X.stack) [] H H1 s.heap s1.heap := I1.base
  obtain ⟨⟨oc, vs, t, e1, e2, e3⟩, _, _⟩ := I1.hok c' _ h.2.1
  refine PySem.W.callWith_F0 ⟨_, _, _, _, at1⟩ ?_
  have rc : codeAny (model X.prog X.w) (X.A.deeper (envOfC qg sg s.heap.objs.size g cdg)) (.call (.ref f) ⟨[], []⟩) (CR (L2.CX X.prog X.w) (envOfC qg sg s.heap.objs.size g cdg :: X.stack) X.prog X.w H1 s1 Q E) s1 := by
    refine PySem.W.kla_callFunE hr.depth at1 rfl L.co L.gen rfl ⟨c', oc, vs, t, rfl, e1, e2, e3⟩ ?_
    rw [hbind]
    refine wpAny_pure (wpAny_newFunctionEnv (fun y hy => (L.own y hy).2) (fun y hy => absurd hy (by simp)) ?_ L.kind)
    intro h₁ hns hsb
    refine ⟨I1.nolimit.fresh _ hsb, ?_⟩
    have kp : ∀ b o, s1.heap.get? b = some o → h₁.get? b = some o := fun b o e => hsb.extBut b o (Nat.ne_of_lt (Heap.lt_size e)) (Heap.get?_push_of_some _ e)
    have J := LamX.lam_start2 (E := E) (f := f) (c' := c') (tk := s1.toks + ([] : List (Str × Value)).length) I L I1.env0 hr.hd un hns kp
    refine PySem.W.kla_codeExpr (wpAny_mono ((hbody s1 H1 (hr.deeper _)).run [] _ _ H1 Q J h.2.2) ?_ fun e s' hq => hq)
    rintro v s' ⟨w', H', J', rv, q⟩
    exact ⟨w', H', J'.os, J'.bare, J'.base, J'.hok, rv, q⟩
  have hx : Passes (L2.CX X.prog X.w) ((cxOf CXg X.prog X.w X.K X.mg X.base Ng qg sg g cdg X.A X.stack s H Eg).tr pn xe) E := L2.passes_call tk hW
  refine wpAny_call (codeAny_mono rc ?_)
  rintro (e | fl) s' hq
  · exact hx pinsZ σZ H1 s1 e s' I1 hq
  · cases fl with
    | ret u => exact I1.after hq
    | next => exact hq.elim
    | brk => exact hq.elim
    | cont => exact hq.elim
end
end MW
end
section
set_option Elab.async false
set_option linter.all false
set_option maxRecDepth 100000
set_option maxHeartbeats 4000000
/-! So24: several except clauses, each with a name. -/
namespace MW
open PySem PySem.Spec
open PyProof.Rows hiding St
open L2 (V Hp HO upd upd_same upd_ne VK XK TS Ends PS PSs Takes WX Inv Loc Names Zc SP)
abbrev HdT := Value × Nat × (Ad → Value → Option Ad → TS)
/-- an except clause's own end: its name goes -/
def endH (D : Ends) (i : Nat) : Ends := { nx := fun σ' H' => D.nx (σ'.set i none) H', rt := D.rt, bk := fun σ' H' => D.bk (σ'.set i none) H', ct := fun σ' H' => D.ct (σ'.set i none) H' }
/-- what the clauses wish of an exception, one after another -/
def wNamed (K : Fg) (Wout : WX) (D : Ends) : List HdT → WX
  | [] => Wout
  | (c, i, ts) :: r => fun cls d σ H => ∃ b, PySem.W.exmOne K cls c = some b ∧ (b = true → ∀ a, H a = none → ts a cls d (endH D i) (σ.set i (some (.ref a))) H) ∧ (b = false → wNamed K Wout D r cls d σ H)
inductive HdsN (X : L2.Cx) : List ExceptHandler → List HdT → Prop
  | nil : HdsN X [] []
  | cons {x n : Str} {c : Value} {i : Nat} {ts : Ad → Value → Option Ad → TS} {b₀ : Stmt} {suite : List Stmt} {np pos' : Pos} {hds : List ExceptHandler} {l : List HdT} (hc : Names X x c) (hi : X.N[i]? = some n) (hln : X.env.kindOf n = some .local)
      (hsu : ∀ (a : Ad) (oe : Obj) (cls : Value) (d : Option Ad) (pn : List (Ad × Obj)), Zc cls d oe → (∃ vs, oe.data = .fields vs) → PSs (X.suite a ((a, oe) :: pn)) (b₀ :: suite) (ts a cls d)) (r : HdsN X hds l) :
      HdsN X (.ExceptHandler (some (.Name x np)) (some n) (b₀ :: suite) pos' :: hds) ((c, i, ts) :: l)
section
variable {X : L2.Cx} {body : List Stmt} {h₀ : ExceptHandler} {hds : List ExceptHandler} {l : List HdT} {pos : Pos} {tb : WX → TS} {Wout : WX}
theorem ps_try_named (hs : X.stack = X.env :: X.outer) (hf : X.env.frame = some X.env.locals) (hN : X.N.Nodup) (tk : Takes X Wout)
    (hb : ∀ (W : WX) (pn : List (Ad × Obj)) (xe : Value → Shared → Prop), Takes (X.tr pn xe) W → PassesOwn (model X.prog X.w) X.A X.env xe → PSs (X.tr pn xe) body (tb W))
    (hh : HdsN X (h₀ :: hds) l) : PS X (.Try body (h₀ :: hds) [] [] pos) (fun D σ H => tb (wNamed X.K Wout D l) D σ H) := by
  constructor
  intro pins s σ H D I h
  have ok := I.ok
  have hfr : X.A.frames = some (X.env :: X.outer) := by rw [ok.frames, hs]
  refine wpAny_Try_except ?_
  refine wpAny_mono ((hb (wNamed X.K Wout D l) (X.pn ++ pins) (fun e s₁ => wpAny (model X.prog X.w) X.A (noteFrame e X.env) (fun _ s₂ => wpAny (model X.prog X.w) X.A (setFlight e none) (fun _ s₃ =>
    wpAny (model X.prog X.w) X.A (handleBy e X.env (h₀ :: hds)) (SP X pins D) X.xe s₃) X.xe s₂) X.xe s₁) ?_ PassesOwn.looking).run [] s σ H D (I.toTry _) h) ?_ (fun e s1 he => he)
  · intro u s' xx
    obtain ⟨a, B, sI, pins', σ', H', cls, d, eu, J', nb, up, sky, na, os, ag, w⟩ := xx
    subst eu
    have J : Inv X pins σ' H' sI := J'.ofTry ok
    rw [hs] at sky
    show wpAny (model X.prog X.w) X.A (noteFrame (.ref a) X.env) _ _ _
    refine L2.Sky.land Zc.steady hfr hf sky ?_
    intro h3 fl3 up3
    have J3 : Inv X pins σ' H' { s' with heap := h3 } := J.landed nb fl3.1 (up.trans up3) os ag
    obtain ⟨oe3, vs3, he3, hz3, hd3⟩ := fl3.there
    have nfr : a ∉ L2.frs (X.env :: X.outer) := fun hm => by
      obtain ⟨_, o', e', hnf⟩ := (show h3.FunFrames B (X.env :: X.outer) from fl3.2.2.1).mem hm
      rw [he3] at e'
      cases e'
      exact hnf _ hd3
    have nL : a ≠ X.env.locals := fun z => nfr (List.mem_filterMap.mpr ⟨X.env, List.mem_cons_self, by rw [hf, z]⟩)
    have nF : a ∉ X.fs := fun hm => by
      obtain ⟨e, he, q⟩ := List.mem_filterMap.mp hm
      exact nfr (List.mem_filterMap.mpr ⟨e, List.mem_cons_of_mem _ he, q⟩)
    have S3 := J3.suite he3 hd3 na nL nF
    have go : ∀ {hds' : List ExceptHandler} {l' : List HdT}, HdsN X hds' l' → wNamed X.K Wout D l' cls d σ' H' →
        wpAny (model X.prog X.w) X.A (handleBy (.ref a) X.env hds') (SP X pins D) X.xe { s' with heap := h3 } := by
      intro hds' l' hk
      induction hk with
      | nil =>
        intro w
        refine wpAny_handleBy_nil ?_
        obtain ⟨k1, k2, k3, oe, vs, T, oT, ts', he, hz, hd, h1, hr⟩ := id fl3
        unfold PySem.passOn
        refine wpAny_bind (wpAny_field he hd h1 ?_)
        rw [if_neg (show ¬ ((Value.ref T == Value.none) = true) from by simp)]
        have fin : wpAny (model X.prog X.w) X.A (setFlight (.ref a) X.env.frame) (fun _ s4 => wpAny (model X.prog X.w) X.A (throw (.ref a) : Sem PySem.Flow) (SP X pins D) X.xe s4) X.xe { s' with heap := h3 } := by
          rw [hf]
          refine HandSPX.setFlight_upZ fl3 ?_
          intro h4 hh4 up4
          refine wpAny_throw (tk _ _ ?_)
          exact ⟨a, B, sI, pins, σ', H', cls, d, rfl, J, nb, (up.trans up3).trans up4, .inr (.inr (by rw [hs]; exact hh4)), na, os, ag, w⟩
        first
          | exact wpAny_bind (wpAny_pure (wpAny_bind fin))
          | exact wpAny_bind fin
      | @cons x n c i ts b₀ suite np pos' hds2 l2 hc hi hln hsu r ih =>
        intro w
        obtain ⟨b, hb1, hyes, hno⟩ := w
        refine wpAny_handleBy_cons (codeAny_handlers_test ?_) (by intro q; cases q)
        have LT : PySem.W.Looks (model X.prog X.w) h3 (typeOf (.ref a)) cls := fun A Q E s k q => wpAny_typeOf_ref (k _ _ he3) (by rw [hz3.1]; exact q)
        have LM := PySem.W.exm_one (M := model X.prog X.w) (J3.kIn) LT hb1
        have test : ∀ {Q : Value → Shared → Prop} {E : Value → Shared → Prop}, Q c { s' with heap := h3 } → wpAny (model X.prog X.w) (X.A.mark (some (.ref a))) (eval (.Name x np) X.env) Q E { s' with heap := h3 } := fun {Q E} q => by
          obtain ⟨hg, hdbg, hm | ⟨hm, hv, hnn⟩⟩ := hc
          · exact L2.ld_glob (X := X.suite a ((a, oe3) :: (X.pn ++ pins))) S3 hg hm q hdbg
          · exact L2.ld_blt (X := X.suite a ((a, oe3) :: (X.pn ++ pins))) S3 hg hm hv q hnn hdbg
        refine test (LM.here ?_)
        cases b with
        | false => exact ih (hno rfl)
        | true =>
          refine codeAny_handlers_suite_as ?_
          refine HandSPX.lands_againZ fl3 ?_
          intro h4 fl4 up4
          have J4 : Inv X pins σ' H' { s' with heap := h4 } := J.landed nb fl4.1 ((up.trans up3).trans up4) os ag
          obtain ⟨oe4, vs4, he4, hz4, hd4⟩ := fl4.there
          have S4 := J4.suite he4 hd4 na nL nF
          refine L2.store_ok (X := X.suite a ((a, oe4) :: (X.pn ++ pins))) (v := .ref a) S4 hN hi (.inl hln) rfl ?_ (.inr hln)
          intro s5 S5
          refine wpAny_mono ((hsu a oe4 cls d (X.pn ++ pins) hz4 ⟨_, hd4⟩).run [] s5 _ H' _ S5 (hyes rfl a na)) ?_ (fun _ _ z => False.elim z)
          intro f s6 hsp
          have end_ : ∀ {σ6 : L2.St} {H6 : Hp} {Q : Shared → Prop}, Inv (X.suite a ((a, oe4) :: (X.pn ++ pins))) [] σ6 H6 s6 → (∀ s7, Inv X pins (σ6.set i none) H6 s7 → Q s7) →
              wpAny (model X.prog X.w) X.A (do bindName X.env n .none; unbindBehindTheSuite X.env n pos') (fun _ s7 => Q s7) X.xe s6 := fun {σ6 H6 Q} S6 hq => L2.gone_ok (S6.unsuite ok) hN hi hln hq
          cases f with
          | next =>
            obtain ⟨σ6, H6, S6, q6⟩ := hsp
            exact end_ S6 fun s7 J7 => ⟨_, _, J7, q6⟩
          | brk =>
            obtain ⟨σ6, H6, S6, q6⟩ := hsp
            exact end_ S6 fun s7 J7 => ⟨_, _, J7, q6⟩
          | cont =>
            obtain ⟨σ6, H6, S6, q6⟩ := hsp
            exact end_ S6 fun s7 J7 => ⟨_, _, J7, q6⟩
          | ret u =>
            obtain ⟨v6, σ6, H6, S6, r6, q6⟩ := hsp
            exact end_ S6 fun s7 J7 => ⟨_, _, _, J7, r6, q6⟩
    exact go hh w
  · intro f s1 hsp
    cases f with
    | next =>
      obtain ⟨σ', H', J', q⟩ := hsp
      exact wpAny_execs_nil ⟨σ', H', J'.ofTry ok, q⟩
    | brk =>
      obtain ⟨σ', H', J', q⟩ := hsp
      exact ⟨σ', H', J'.ofTry ok, q⟩
    | cont =>
      obtain ⟨σ', H', J', q⟩ := hsp
      exact ⟨σ', H', J'.ofTry ok, q⟩
    | ret u =>
      obtain ⟨v, σ', H', J', r, q⟩ := hsp
      exact ⟨v, σ', H', J'.ofTry ok, r, q⟩
end
end MW
end
section
set_option Elab.async false
set_option linter.all false
set_option maxRecDepth 100000
set_option maxHeartbeats 4000000
/-! So25: the clauses `except C as e: return [text, e.field]`. -/
namespace MW
open PySem PySem.Spec
open PyProof.Rows hiding St
open L2 (V Hp HO upd upd_same upd_ne VK XK TS Ends PE PA PS PSs Takes WX Inv Loc Vis Gl Names Zc SP)
/-- a clause: its class's name, its own name, the text, the field -/
abbrev Hnd := Str × Str × Str × Str
def hndOf : ExceptHandler → Option Hnd
  | .ExceptHandler (some (.Name x _)) (some n) [.Return (some (.List [.Constant (.str t) _ _, .Attribute (.Name m _) f _] _)) _] _ => if m = n then some (x, n, t, f) else none
  | _ => none
def hndsOf : List ExceptHandler → Option (List Hnd)
  | [] => some []
  | h :: r => match hndOf h, hndsOf r with
    | some a, some b => some (a :: b)
    | _, _ => none
/-- what a clause does -/
def tsH (C : Ad) (t f : Str) (i : Nat) : Ad → Value → Option Ad → TS := fun a cls d => L2.tRet (L2.tLst (L2.tCons (L2.tC (.str t)) (L2.tCons (L2.tXf a cls d C f (L2.tVar i)) L2.tNil)))
/-- the clause in a context: the class's address, the name's place -/
structure HndOk (X : L2.Cx) (h : Hnd) (C : Ad) (i : Nat) : Prop where
  nm : Names X h.1 (.ref C)
  ix : X.N[i]? = some h.2.1
  loc : X.env.kindOf h.2.1 = some .local
  dbg : (h.2.1 == ("__debug__" : Str)) = false ∧ (h.2.1 == ("__classdict__" : Str)) = false
  xf : L2.XfC X.K C
  no : PySem.W.findIn X.K (.ref C) h.2.2.2 = some none
inductive HndsOk (X : L2.Cx) : List Hnd → List HdT → Prop
  | nil : HndsOk X [] []
  | cons {h : Hnd} {C : Ad} {i : Nat} {r : List Hnd} {l : List HdT} (ok : HndOk X h C i) (t : HndsOk X r l) : HndsOk X (h :: r) ((.ref C, i, tsH C h.2.2.1 h.2.2.2 i) :: l)
theorem hds_n {X : L2.Cx} : ∀ {hs : List ExceptHandler} {r : List Hnd} {l : List HdT}, hndsOf hs = some r → HndsOk X r l → HdsN X hs l
  | [], r, l, e, h => by
    cases e
    cases h
    exact .nil
  | x :: hs, r, l, e, h => by
    unfold hndsOf at e
    split at e
    · rename_i a b e1 e2
      cases e
      cases h with
      | @cons _ C i _ l ok t =>
        unfold hndOf at e1
        split at e1
        · split at e1
          · rename_i em
            cases e1
            subst em
            refine .cons ok.nm ok.ix ok.loc (fun a oe cls d pn hz hf => ?_) (hds_n e2 t)
            exact L2.pss_one (L2.ps_ret (L2.pe_lst (L2.pa_cons L2.pe_str (L2.pa_cons (L2.pe_xf ok.xf ok.no hz hf (L2.pe_var (X := X.suite a ((a, oe) :: pn)) ok.ix (.inl ok.loc) ok.dbg.1 ok.dbg.2)) L2.pa_nil))))
          · cases e1
        · cases e1
    · cases e
end MW
end
section
set_option Elab.async false
set_option linter.all false
set_option maxRecDepth 100000
set_option maxHeartbeats 4000000
/-! So26: a thunk is made. -/
namespace MW
open PySem PySem.Spec
open PyProof.Rows hiding St
open L2 (V Hp HO upd upd_same upd_ne ne_of_none Inv)
open LamX (TabS Tabs CodeO ExtN TabB)
variable [Tbs]
/-- the heap behind the making of a thunk -/
structure MadeT (H H1 : Hp) : Prop where
  ext : ExtN H H1
  th : ∀ b o, H b = some o → ∃ o', H1 b = some o'
  tb : ∀ P q, (P, q) ∈ Tbs.T → TabS H P q → TabS H1 P q
theorem made_refl (H : Hp) : MadeT H H := ⟨ExtN.refl H, fun b o e => ⟨o, e⟩, fun _ _ _ t => t⟩
theorem made_new {H : Hp} {P c' : Ad} {q : Str} {ps : Array Value} {pos : Pos} (hP : H P = some (.tbl ps)) (ht : TriplesOk ps.toList) (nC : H c' = none) (hu : ∀ p ∈ Tbs.T, p.1 = P → p.2 = q) :
    MadeT H (upd (upd H P (.tbl (ps ++ #[rawInt pos.line, rawInt pos.col, .ref c']))) c' (CodeO c' q)) := by
  have nPc : P ≠ c' := ne_of_none hP nC
  have hE : ExtN H (upd (upd H P (.tbl (ps ++ #[rawInt pos.line, rawInt pos.col, .ref c']))) c' (CodeO c' q)) := fun b o e n => by
    rw [upd_ne (ne_of_none e nC), upd_ne (fun z => n ps (Option.some.inj (e.symm.trans (by rw [z]; exact hP))))]
    exact e
  have eL : (ps ++ #[rawInt pos.line, rawInt pos.col, .ref c']).toList = ps.toList ++ [rawInt pos.line, rawInt pos.col, .ref c'] := by simp
  refine ⟨hE, fun b o e => ?_, fun P2 q2 hm t => ?_⟩
  · by_cases hb : b = c'
    · rw [hb, upd_same]
      exact ⟨_, rfl⟩
    · by_cases h2 : b = P
      · rw [h2, upd_ne nPc, upd_same]
        exact ⟨_, rfl⟩
      · rw [upd_ne hb, upd_ne h2]
        exact ⟨o, e⟩
  · obtain ⟨ps2, a1, a2, a3⟩ := t
    by_cases h2 : P2 = P
    · have eq : q2 = q := hu (P2, q2) hm h2
      subst h2 eq
      rw [hP] at a1
      cases a1
      refine ⟨_, by rw [upd_ne nPc, upd_same], by rw [eL]; exact PySem.TriplesOk_snoc _ _ _ _ ht, fun p' cv hcv => ?_⟩
      rw [eL] at hcv
      rcases LamX.among_app _ ht hcv with z | z
      · obtain ⟨c0, e1, e2⟩ := a3 p' cv z
        exact ⟨c0, e1, hE _ _ e2 LamX.codeO_ne⟩
      · exact ⟨c', z, upd_same⟩
    · refine ⟨ps2, by rw [upd_ne (ne_of_none a1 nC), upd_ne h2]; exact a1, a2, fun p' cv hcv => ?_⟩
      obtain ⟨c0, e1, e2⟩ := a3 p' cv hcv
      exact ⟨c0, e1, hE _ _ e2 LamX.codeO_ne⟩
section
variable {X : L2.Cx} {pins : List (Ad × Obj)} {σ : L2.St} {H : Hp} {s : Shared}
theorem thunk_make {c P : Ad} {params : Arguments} {body : Expr} {scope : Scope} {pos : Pos} {E : Value → Shared → Prop} {Q : Value → Shared → Prop} (I : Inv X pins σ H s) (TB : TabB X.base X.mg c P) (hcode : X.env.code = .ref c)
    (hm : (P, X.env.qual ++ "<lambda>") ∈ Tbs.T) (hu : ∀ p ∈ Tbs.T, p.1 = P → p.2 = X.env.qual ++ "<lambda>") (hT : TabS H P (X.env.qual ++ "<lambda>")) (hdef : defaultsOf params X.env = ([], [])) (hfree : ∀ y ∈ scope.names, y.2 = .free → ∃ c, X.env.cells.lookup y.1 = some c)
    (h : ∀ (f c' : Ad) (pm ctv : Value) (H1 : Hp) (s' : Shared), Inv X pins σ H1 s' → MadeT H H1 →
      s'.heap.get? f = some (thunkO X params body scope pm c' ctv) → H1 f = none → f ∉ L2.frs X.stack → H1 c' = some (CodeO c' (X.env.qual ++ "<lambda>")) → Q (.ref f) s') :
    wpAny (model X.prog X.w) X.A (eval (.Lambda params body scope pos) X.env) Q E s := by
  obtain ⟨ps, hP, ht, ha⟩ := hT
  refine PySem.W.kla_eval hdef ?_
  have bP : s.heap.BuiltinsAt X.mg P := TB.bm.keeps I.bk
  have hP' : s.heap.get? P = some { cls := .none, data := .fields ps } := I.hok P _ hP
  have nofr : ∀ f, s.heap.objs.size ≤ f → f ∉ L2.frs X.stack := by
    intro f hf z
    rcases List.mem_cons.mp (I.stkSub _ z) with e | e
    · have h1 := I.lt
      rw [← e] at h1
      exact Nat.lt_irrefl _ (Nat.lt_of_lt_of_le h1 hf)
    · exact I.nofs hf e
  cases hc : codeAmong pos ps.toList with
  | some cv =>
    obtain ⟨c', e, hco⟩ := ha pos cv hc
    subst e
    refine PySem.W.kla_makeFunctionHit (mg := X.mg) (c := c) (P := P) (ps := ps) (L2.closure_ok hfree) I.ok.glob (I.mod.glob.keeps I.bk) hcode (TB.code.keeps I.bk) hP' ht hc bP ?_
    intro ctv h' tk hx hsz
    exact h h'.objs.size c' ((X.mg "__name__").getD .none) ctv H _ (I.kept (t' := tk) fun b o e => Heap.get?_push_of_some _ (hx b o e)) (made_refl H) (Heap.get?_push_size _ rfl) (I.hok.fresh hsz) (nofr _ hsz) hco
  | none =>
    refine PySem.W.kla_makeFunction (mg := X.mg) (c := c) (P := P) (ps := ps) (L2.closure_ok hfree) I.ok.glob (I.mod.glob.keeps I.bk) hcode (TB.code.keeps I.bk) hP' ht hc TB.gP bP ?_
    intro c' ctv h' tk hx hge hlt hrec htb
    obtain ⟨c2, oc, vs, t, e2, hoc, hd, hv⟩ := hrec
    cases e2
    have hsz : s.heap.objs.size ≤ h'.objs.size := Nat.le_trans hge (Nat.le_of_lt hlt)
    have nC : H c' = none := I.hok.fresh hge
    have I1 := LamX.inv_table (t' := tk) (more := #[rawInt pos.line, rawInt pos.col, .ref c']) (h' := h'.push (thunkO X params body scope ((X.mg "__name__").getD .none) c' ctv)) I hP
      (fun b o hb e => Heap.get?_push_of_some _ (hx b o hb e)) (Heap.get?_push_of_some _ htb) hge ⟨oc, vs, t, Heap.get?_push_of_some _ hoc, hd, hv⟩
    refine h h'.objs.size c' ((X.mg "__name__").getD .none) ctv _ _ I1 (made_new hP ht nC hu) (Heap.get?_push_size _ rfl) ?_ (nofr _ hsz) upd_same
    have n1 : h'.objs.size ≠ c' := Nat.ne_of_gt hlt
    have n2 : h'.objs.size ≠ P := Nat.ne_of_gt (Nat.lt_of_lt_of_le (Heap.lt_size hP') hsz)
    rw [upd_ne n1, upd_ne n2]
    exact I.hok.fresh hsz
end
end MW
end
section
set_option Elab.async false
set_option linter.all false
set_option maxRecDepth 100000
set_option maxHeartbeats 4000000
/-! So27: the context of a thunk. -/
namespace MW
open PySem PySem.Spec
open PyProof.Rows hiding St
open L2 (V Hp HO upd upd_same upd_ne ne_of_none VK XK Inv Room FnScope Binds)
open LamX (TabS Tabs CodeO ExtN TabB)
variable [Tbs]
section
variable {X : L2.Cx} {A : Around} {outer : List PySem.Env} {s : Shared} {H : Hp} {E E' : XK} {scope : Scope} {f c' : Ad} {c : Ct} {g : Ge}
theorem sc_lam (L : LamX.LamS X.env.scope scope) : ScOk (LamX.lamCx X A outer s H E scope f c') scope :=
  ⟨fun _ h => h, fun _ h => h, fun _ h => .inr h, fun _ h => h, fun x h => absurd rfl (L.own _ (PySem.mem_of_lookup h)).2⟩
theorem gx_lam (G : GX c g E X) (hA : A.guards = some []) (hr : ∀ k, Room (k + 2) X.A → Room k (A.deeper (LamX.lamEnv X scope s.heap.objs.size f c')))
    (hu : (A.deeper (LamX.lamEnv X scope s.heap.objs.size f c')).units + 65 < cLine)
    (hf : ∀ (i : Nat) x np, c.fns[i]? = some (x, np) → ∃ a fd ps k, FnG X.prog X.w X.K X.mg X.base (L2.CX X.prog X.w) k a fd ps (SpF g np i) ∧ Room (k + 2) X.A ∧ X.mg x = some (.ref a) ∧ PySem.W.keepIn X.K (.ref a) = true ∧ Binds X.K fd ps []) :
    GX c.noT g E' (LamX.lamCx X A outer s H E' scope f c') where
  nn := G.nn
  hK := G.hK
  calm := rfl
  nd := G.nd
  hg := hA
  hu := hu
  blt := G.blt
  glo := G.glo
  fns := fun i x np e => by
    obtain ⟨a, fd, ps, k, F, h0, h1, h2, h3⟩ := hf i x np e
    exact ⟨a, fd, ps, k, F, hr k h0, h1, h2, h3⟩
  pas := L2.passes_call (L2.takes_of (X := LamX.lamCx X A outer s H E' scope f c') rfl rfl rfl rfl) fun _ _ _ _ h => h
  told := fun _ _ _ h => by cases h
  raised := fun _ _ _ h => by cases h
end
/-- what is made with a thunk is a step of the state -/
theorem made_nx {K : Fg} {σ : L2.St} {Z : ZS} {H H1 : Hp} {ρ : Env} (st : Ss K Z H σ ρ) (m : MadeT H H1) : Nxe K σ Z H ρ Z H1 ρ := by
  have kp : ∀ a u, H a = some u → ¬ isTbl u → H1 a = some u := fun a u e nt => m.ext a u e fun ps z => nt (by rw [z]; exact True.intro)
  refine st.pure ⟨fun _ z => z, fun _ z => .inl z, fun a u e nt _ => kp a u e nt, m.th, m.tb⟩ fun a z => ?_
  obtain ⟨u, e, nt⟩ := st.zd a z
  exact ⟨u, kp a u e nt, nt⟩
end MW
end
section
set_option Elab.async false
set_option linter.all false
set_option maxRecDepth 100000
set_option maxHeartbeats 4000000
/-! So28: a thunk handed to a def that tries it. -/
namespace MW
open PySem PySem.Spec
open PyProof.Rows hiding St
open L2 (V Hp HO upd upd_same upd_ne VK XK WX TE TS Ends Inv Takes Room FnScope Binds Gl Vis PE PT PA PS PSs CR cxOf)
open LamX (TabS Tabs CodeO ExtN TabB LamS)
variable [Tbs]
theorem takes_len {X : L2.Cx} {W : WX} (t : Takes X W) : Takes X (fun cls d σ' H' => σ'.length = X.N.length → W cls d σ' H') := fun u s' ⟨a, B, sI, pins, σ, H, cls, d, e, I, nb, up, sky, na, os, ag, w⟩ =>
  t u s' ⟨a, B, sI, pins, σ, H, cls, d, e, I, nb, up, sky, na, os, ag, w I.len⟩
theorem Oc.from' {g : Ge} {E : XK} {Z Z1 : ZS} {H H1 : Hp} {σ : L2.St} {ρ ρ1 : Env} {A : Type} {x : Res A} {Q : A → ZS → Hp → Env → Prop} (h : Oc g E σ Z H ρ x Q) (n : Nxe g.K σ Z H ρ Z1 H1 ρ1) : Oc g E σ Z1 H1 ρ1 x Q := by
  cases x with
  | st k => exact h
  | ex k as ρ2 => exact fun Z2 H2 m => h Z2 H2 (n.trans m)
  | ok a ρ2 => exact fun Z2 H2 m => h Z2 H2 (n.trans m)
theorem look_put (f g : Str) (y : V) (fs : List (Str × V)) : ((f, y) :: fs).lookup g = if g = f then some y else fs.lookup g := by
  by_cases h : g = f
  · subst h
    simp [List.lookup]
  · have e : (g == f) = false := by simpa using h
    rw [if_neg h]
    simp [List.lookup, e]
/-- where a field stands -/
def posOf (x : Str) : List Str → Option Nat
  | [] => none
  | y :: r => if x = y then some 0 else (posOf x r).map (· + 1)
theorem look_zip {x : Str} {d : D} {K : Fg} {Z : ZS} {H : Hp} : ∀ {fs : List Str} {xs : List V} {as : List D} {n : Nat}, posOf x fs = some n → xs.length = fs.length → FzL K Z H as xs → getAt as n = some d → ∃ v, (fs.zip xs).lookup x = some v ∧ Fz K Z H d v
  | [], xs, as, n, h, l, f, e => by cases h
  | y :: r, [], as, n, h, l, f, e => by cases l
  | y :: r, v :: xs, as, n, h, l, f, e => by
    cases as with
    | nil => cases e
    | cons a as =>
      obtain ⟨x', r', e1, f1, f2⟩ := f
      cases e1
      unfold posOf at h
      rw [List.zip_cons_cons, look_put]
      split at h
      · rename_i q
        cases h
        rw [if_pos q]
        cases e
        exact ⟨v, rfl, f1⟩
      · rename_i q
        rw [if_neg q]
        cases hp : posOf x r with
        | none => rw [hp] at h; cases h
        | some m =>
          rw [hp] at h
          cases h
          exact look_zip hp (Nat.succ.inj l) f2 e
/-- a clause, as the evaluator's table tells it -/
structure ClsAt (K : Fg) (mg : Str → Option Value) (sc : Scope) (N : List Str) (ck : Nat → Ad) (fl : Nat → List Str) (p : Nat × D × Nat) (h : Hnd) (i : Nat) : Prop where
  txt : p.2.1 = .str h.2.2.1
  tl : h.2.2.1.length ≤ szLine
  gl : gloN sc h.1 = true
  mgc : mg h.1 = some (.ref (ck p.1))
  ix : N[i]? = some h.2.1
  loc : sc.names.lookup h.2.1 = some .local
  dbg : notDbg h.2.1 = true
  xf : L2.XfC K (ck p.1)
  no : PySem.W.findIn K (.ref (ck p.1)) h.2.2.2 = some none
  fld : posOf h.2.2.2 (fl p.1) = some p.2.2
  ex : ∀ k, PySem.W.exmOne K (.ref (ck k)) (.ref (ck p.1)) = some (decide (p.1 = k))
inductive ClsL (K : Fg) (mg : Str → Option Value) (sc : Scope) (N : List Str) (ck : Nat → Ad) (fl : Nat → List Str) : List (Nat × D × Nat) → List Hnd → List HdT → Prop
  | nil : ClsL K mg sc N ck fl [] [] []
  | cons {p : Nat × D × Nat} {h : Hnd} {i : Nat} {ps : List (Nat × D × Nat)} {hs : List Hnd} {l : List HdT} (at_ : ClsAt K mg sc N ck fl p h i) (r : ClsL K mg sc N ck fl ps hs l) :
      ClsL K mg sc N ck fl (p :: ps) (h :: hs) ((.ref (ck p.1), i, tsH (ck p.1) h.2.2.1 h.2.2.2 i) :: l)
section
variable {K : Fg} {mg : Str → Option Value} {sc : Scope} {N : List Str} {ck : Nat → Ad} {fl : Nat → List Str}
theorem hnds_ok {X : L2.Cx} (hK : X.K = K) (hm : X.mg = mg) (hN : X.N = N) (hsc : X.env.scope = sc) {ps : List (Nat × D × Nat)} {hs : List Hnd} {l : List HdT} (h : ClsL K mg sc N ck fl ps hs l) : HndsOk X hs l := by
  induction h with
  | nil => exact .nil
  | @cons p h i ps hs' l a r ih =>
    have dg := dbg_of a.dbg
    have gl := a.gl
    unfold gloN at gl
    simp only [Bool.and_eq_true, decide_eq_true_eq] at gl
    exact .cons ⟨⟨by show X.env.scope.names.lookup h.1 = some .globalImplicit; rw [hsc]; exact gl.1, (dbg_of gl.2).1, .inl (by rw [hm]; exact a.mgc)⟩, by rw [hN]; exact a.ix, by show X.env.scope.names.lookup h.2.1 = some .local; rw [hsc]; exact a.loc, ⟨dg.1, dg.2.1⟩, by rw [hK]; exact a.xf, by rw [hK]; exact a.no⟩ ih
theorem named_of {ps : List (Nat × D × Nat)} {hs : List Hnd} {l : List HdT} (h : ClsL K mg sc N ck fl ps hs l) {k n : Nat} {t d : D} {as : List D} {dd : Ad} {xs : List V} {Z : ZS} {H : Hp} {σ : L2.St} {D : Ends}
    (hl : lookH k ps = some (t, n)) (hg : getAt as n = some d) (hd : H dd = some (.xd ((fl k).zip xs))) (hx : xs.length = (fl k).length) (hf : FzL K Z H as xs) (hσ : σ.length = N.length)
    (hq : ∀ ts v p, t = .str ts → ts.length ≤ szLine → H p = none → Fz K Z H d v → D.rt (.ref p) (upd H p (.lst [.str ts, v]))) : wNamed K (fun _ _ _ _ => False) D l (.ref (ck k)) (some dd) σ H := by
  induction h with
  | nil => cases hl
  | @cons p h i ps hs' l a r ih =>
    obtain ⟨c, t', n'⟩ := p
    unfold lookH at hl
    refine ⟨_, a.ex k, fun q x hx' => ?_, fun q => ?_⟩
    · have e : c = k := of_decide_eq_true q
      subst e
      rw [if_pos rfl] at hl
      cases hl
      obtain ⟨v, e1, f1⟩ := look_zip a.fld hx hf hg
      have lt : i < σ.length := by
        rw [hσ]
        obtain ⟨h1, _⟩ := List.getElem?_eq_some_iff.mp a.ix
        exact h1
      refine ⟨.ref x, List.getElem?_set_self lt, rfl, rfl, dd, _, v, rfl, hd, e1, ?_, fun p hp => ?_⟩
      · rw [← szLine_eq]
        show 2 ≤ szLine
        decide
      · exact hq _ v p a.txt a.tl hp f1
    · have e : c ≠ k := of_decide_eq_false q
      rw [if_neg e] at hl
      exact ih hl
end
section
variable {X : L2.Cx} {c : Ct} {g : Ge} {E : XK} {fi : Nat} {e : MW.E}
/-- what the def with the try makes of the thunk's outcomes -/
theorem told_out {σ : L2.St} {H H1 : Hp} {Q : VK} {Z : ZS} {ρ : Env} (st : Ss g.K Z H σ ρ) (n1 : Nxe g.K σ Z H ρ Z H1 ρ) (h : Oc g E σ Z H ρ (ev g.mw (.told fi e) ρ) fun r Z' H' ρ' => ∀ v, VR g.K Z' H' H r.1 r.2 v → Q v H')
    {K : Fg} (hK : K = g.K) {mg : Str → Option Value} {sc : Scope} {N : List Str} {hs : List Hnd} {l : List HdT} (cl : ClsL K mg sc N g.ck g.fl (g.mw.hand fi) hs l) {D : Ends} (hD : D.rt = Q) :
    RE g (fun cls d H' => ∀ σ' : L2.St, σ'.length = N.length → wNamed K (fun _ _ _ _ => False) D l cls d σ' H') e σ H1 Q := by
  subst hK
  refine ⟨Z, ρ, n1.nx.st, ?_⟩
  simp only [ev] at h
  cases q : ev g.mw e ρ with
  | st n => rw [q] at h; exact h
  | ok v r =>
    rw [q] at h
    intro Z' H' n v' vr
    exact h Z' H' (n1.trans n) v' (vr.back n1.back)
  | ex k as r =>
    rw [q] at h
    simp only at h
    cases ql : lookH k (g.mw.hand fi) with
    | none => rw [ql] at h; exact h.elim
    | some tn =>
      obtain ⟨t, n⟩ := tn
      rw [ql] at h
      simp only at h
      cases qg : getAt as n with
      | none => rw [qg] at h; exact h.elim
      | some d =>
        rw [qg] at h
        intro Z' H' nx dd xs hd hx hf σ' hσ
        refine named_of cl ql qg hd hx hf hσ fun ts v p et hl hp fz => ?_
        rw [hD]
        subst et
        have n2 := n1.trans nx
        exact (fin_of n2.nx.st n2.back (Oc.from' h n2)).lst n2.nx.st.zd (ds := [.str ts, d]) ⟨_, _, rfl, ⟨rfl, hl⟩, _, _, rfl, fz, rfl⟩ (by show 2 ≤ szLine; decide) p hp
theorem start0 {N : List Str} {f : Ad} : (L2.start N [V.ref f])[0]? = some (some (V.ref f)) := rfl
/-- x(lambda: body), where x is `try: return a()` with clauses -/
theorem pe_told (G : GX c g E X) {x a qg : Str} {ga : Ad} {pg : Arguments} {h0 : ExceptHandler} {hs : List ExceptHandler} {sg : Scope} {dV kV doc pm cdv ct oc : Value} {an od : Option Ad} {osl : Array (Option Value)} {Ng : List Str} {r : List Hnd} {l : List HdT} {p1 p2 p3 p4 p lpos pos : Pos} {k : Nat}
    (D : DefAt X.K X.mg x [a] ga qg pg [.Try [.Return (some (.Call (.Name a p1) [] [] p2)) p3] (h0 :: hs) [] [] p4] sg dV kV doc pm cdv ct oc an od osl) (Sg : FnScope Ng [a] sg) (hda : notDbg a = true) (hh : hndsOf (h0 :: hs) = some r) (cl : ClsL X.K X.mg sg Ng g.ck g.fl (g.mw.hand fi) r l)
    {cc P : Ad} (TB : TabB X.base X.mg cc P) (hcode : X.env.code = .ref cc) (hm : (P, X.env.qual ++ "<lambda>") ∈ Tbs.T) (hu : ∀ p ∈ Tbs.T, p.1 = P → p.2 = X.env.qual ++ "<lambda>") (hr : Room (k + 2) X.A) (hgl : Gl X x) (hdb : (x == ("__debug__" : Str)) = false)
    {params : Arguments} {body : Expr} {scope : Scope} (L : LamS X.env.scope scope) (hdef : defaultsOf params X.env = ([], []))
    (hbind : ∀ (q : Str) (cl : List (Str × Ad)) (pm cv ctv : Value), bindArgs (PySem.W.kla_fn "<lambda>" q params body scope cl pm cv ctv) ⟨[], []⟩ = pure [])
    (hf : ∀ (i : Nat) x np, c.fns[i]? = some (x, np) → ∃ a fd ps k, FnG X.prog X.w X.K X.mg X.base (L2.CX X.prog X.w) k a fd ps (SpF g np i) ∧ Room (k + 2) X.A ∧ X.mg x = some (.ref a) ∧ PySem.W.keepIn X.K (.ref a) = true ∧ Binds X.K fd ps [])
    (hck : ckE c.noT scope false e body = true) : PE X (.Call (.Name x p) [.Lambda params body scope lpos] [] pos) (RE g E (.told fi e)) := by
  constructor
  intro pins s σ H Q I h
  obtain ⟨Z, ρ, st, h⟩ := h
  refine wpAny_Call_Name_kw (L2.ld_glob I hgl D.mgx ?_ hdb)
  refine PySem.W.callWith_K (h₀ := X.base) I.ok.mod.kin D.keep ?_ (by rfl) (by rfl)
  show wpAny _ _ (spliced ((false, eval (.Lambda params body scope lpos) X.env) :: backTo pos (starEach [] X.env))) _ _ s
  refine Calls.spliced_cons (thunk_make I TB hcode hm hu (st.tb _ hm) hdef (L.has I.ok) ?_)
  intro f c' pm' ctv H1 s' I1 mt hfo hfn hfr hco
  refine Calls.spliced_nil ⟨I1.kIn, ?_⟩
  have n1 := made_nx st mt
  have hva : Vis sg a := (Sg.par a (List.mem_singleton.mpr rfl)).elim .inl fun z => .inr (.inl z)
  have hNg : Ng[0]? = some a := by
    have q := Sg.pre
    cases Ng with
    | nil => cases q
    | cons y ys =>
      have q' : [y] = [a] := q
      cases q'
      rfl
  have rc : codeAny (model X.prog X.w) X.A (.call (.ref ga) ⟨[.ref f], []⟩) (CR C8.CX0 X.stack X.prog X.w H1 s' Q C8.E0) s' := by
    refine LamX.run_ofS (N := Ng) (ps := [a]) (us := [.ref f]) (vs := [.ref f]) D.lk D.code Sg hr I1.env0 (D.bind s' [.ref f] I1.kIn rfl) (.cons rfl .nil) rfl fun hr' => ?_
    let XT : L2.Cx := (cxOf C8.CX0 X.prog X.w X.K X.mg X.base Ng qg sg ga cdv X.A X.stack s' H1 C8.E0).nox
    let tb : WX → TS := fun W D σ' H' => ∃ Ech : XK, (∀ cls d σ2 H2, Ech cls d H2 → σ2.length = Ng.length → W cls d σ2 H2) ∧ σ'[0]? = some (some (.ref f)) ∧ H' c' = some (CodeO c' (X.env.qual ++ "<lambda>")) ∧ RE g Ech e σ H' D.rt
    have hk := hnds_ok (X := XT) rfl rfl rfl rfl cl
    have pt : PS XT (.Try [.Return (some (.Call (.Name a p1) [] [] p2)) p3] (h0 :: hs) [] [] p4) (fun D σ' H' => tb (wNamed X.K (fun _ _ _ _ => False) D l) D σ' H') := by
      refine ps_try_named (X := XT) (tb := tb) (Wout := fun _ _ _ _ => False) rfl rfl Sg.nd LamX.takes0 ?_ (hds_n hh hk)
      intro W pn xe tk _
      constructor
      intro pinsZ sZ σZ HZ D' IZ h'
      obtain ⟨Ech, hW, h1, h2, h3⟩ := h'
      have hp := thunk_run (pn := pn) (xe := xe) (E := Ech) (W := fun cls d σ' H' => σ'.length = Ng.length → W cls d σ' H') (tb := RE g Ech e) (i := 0) (a := a) (p1 := p1) (p2 := p2) (k := k) (CXg := C8.CX0) (Eg := C8.E0) (Ng := Ng) (qg := qg) (sg := sg) (g := ga) (cdg := cdv) I1 L hfo hfn hfr (hbind _ _ _ _ _) (takes_len tk) (fun cls d σ' H' q => hW cls d σ' H' q) hr' (fun s1 HZ' hr2 => ?_) hNg hva (dbg_of hda).1 (dbg_of hda).2.1
      · exact (L2.pss_one (L2.ps_ret (pos := p3) hp)).run pinsZ sZ σZ HZ D' IZ ⟨h1, h2, h3⟩
      · refine pe_ck e false body hck (gx_lam (E' := Ech) G G.hg (fun k' hk' => (hk'.deeper _).deeper _) (room_hu hr2) hf) (sc_lam L)
    refine ⟨_, (L2.pss_one pt).nox, ?_⟩
    exact ⟨_, fun cls d σ2 H2 q hl => q σ2 hl, start0, hco, told_out st n1 h G.hK cl rfl⟩
  refine wpAny_call (codeAny_mono rc fun r s2 hq => ?_)
  cases r with
  | error e => exact (show False from hq).elim
  | ok fl =>
    cases fl with
    | ret u => exact I1.after hq
    | next => exact False.elim hq
    | brk => exact False.elim hq
    | cont => exact False.elim hq
end
end MW
end
section
set_option Elab.async false
set_option linter.all false
set_option maxRecDepth 100000
set_option maxHeartbeats 4000000
/-! So29: the law's own def; its call from outside. -/
namespace MW
open PySem PySem.Spec
open PyProof.Rows hiding St
open L2 (V Hp HO upd upd_same upd_ne VK XK WX TE TS Ends Inv Takes Room FnScope Binds Gl Vis PE PT PA PS PSs CR CE CXT Env0 cxOf hidT hidT_get hidT_size of_hidT Un HOk SqL Vals RelV)
open LamX (TabS Tabs CodeO ExtN TabB LamS lamSB lamS_by)
variable [Tbs]
def noArgs : Arguments → Bool
  | ⟨[], [], none, [], [], none, []⟩ => true
  | _ => false
/-- thunks handed to the defs tds -/
def tlOf (N : List Str) (fns : List (Str × Nat)) (globs : List Str) (tds : List (Nat × Str)) (sc : Scope) : Nat → MW.E → Expr → Bool := fun f e x => match x with
  | .Call (.Name n _) [.Lambda params body ls _] [] _ => decide ((f, n) ∈ tds) && gloN sc n && noArgs params && lamSB sc ls && ckE ⟨N, fns, globs, noTl, noRs⟩ ls false e body
  | _ => false
/-- a def that tries a thunk -/
def ToldOk (K : Fg) (mg : Str → Option Value) (ck : Nat → Ad) (fl : Nat → List Str) (hand : List (Nat × D × Nat)) (x : Str) : Prop :=
  ∃ (a : Str) (qg : Str) (ga : Ad) (pg : Arguments) (h0 : ExceptHandler) (hs : List ExceptHandler) (sg : Scope) (dV kV doc pm cdv ct oc : Value) (an od : Option Ad) (osl : Array (Option Value)) (Ng : List Str) (r : List Hnd) (l : List HdT) (p1 p2 p3 p4 : Pos),
    DefAt K mg x [a] ga qg pg [.Try [.Return (some (.Call (.Name a p1) [] [] p2)) p3] (h0 :: hs) [] [] p4] sg dV kV doc pm cdv ct oc an od osl ∧ FnScope Ng [a] sg ∧ notDbg a = true ∧ hndsOf (h0 :: hs) = some r ∧ ClsL K mg sg Ng ck fl hand r l
section
variable {P : Program} {w : World} {K : Fg} {mg : Str → Option Value} {base : Heap} {fns : List (Str × Nat)} {globs : List Str} {exs : List (Str × Nat)} {p : Prog} {wf : Nat} {ck : Nat → Ad} {fl : Nat → List Str}
theorem law_fn (M : ModOk P K mg fns globs exs p ck fl) {n li : Nat} {x qual : Str} {ps : List Str} {a cc PP : Ad} {params : Arguments} {body : List Stmt} {scope : Scope} {dV kV doc pm ct oc : Value} {an od : Option Ad} {osl : Array (Option Value)} {fn : Fn} {N : List Str} {tds : List (Nat × Str)}
    (D : DefAt K mg x ps a qual params body scope dV kV doc pm (.ref cc) ct oc an od osl) (hl : ps.length = fn.np) (hf : fnAt p.fn li = some fn) (hN : N.length = fn.np + fn.more) (S : FnScope N ps scope)
    (hc : ckB ⟨N, fns, globs, tlOf N fns globs tds scope, rsOf N fns globs exs scope⟩ scope fn.body body = true) (TD : ∀ fi y, (fi, y) ∈ tds → ToldOk K mg ck fl (handAt fi p.hand) y)
    (TB : tds ≠ [] → TabB base mg cc PP ∧ (PP, qual ++ ".<locals>." ++ "<lambda>") ∈ Tbs.T ∧ ∀ q ∈ Tbs.T, q.1 = PP → q.2 = qual ++ ".<locals>." ++ "<lambda>") :
    FnG P w K mg base (L2.CX P w) (2 * n + 4) a (PySem.W.fnOf x qual params body scope dV kV doc pm an (.ref cc) ct) ps (SpF (geAt K p wf ck fl (n + 1)) fn.np li) := by
  refine fn_g (k := 2 * n + 3) D.lk D.code S (fun vs H Q E q => by rw [hl]; exact spF_len q) fun A outer s H vs Q E hr hg hsp => ?_
  let X : L2.Cx := cxOf (L2.CX P w) P w K mg base N qual scope a (.ref cc) A outer s H E
  have tk : Takes X (fun cls d _ H => E cls d H) := L2.takes_of rfl rfl rfl rfl
  have G0 : GX ⟨N, fns, globs, noTl, noRs⟩ (geAt K p wf ck fl n) E X := {
    nn := rfl
    hK := rfl
    calm := rfl
    nd := S.nd
    hg := hg
    hu := room_hu hr
    blt := M.blt
    glo := fun j y e => M.glo j y e
    fns := fun j y m e => by
      obtain ⟨b, fd, qs, F, h1, h2, h3⟩ := defs_ok (w := w) (base := base) (wf := wf) M n j y m e
      exact ⟨b, fd, qs, 2 * n + 1, F, hr.mono (by omega), h1, h2, h3⟩
    pas := L2.passes_call tk fun _ _ _ _ h => h
    told := fun _ _ _ h => by cases h
    raised := fun _ _ _ h => by cases h }
  have raised : ∀ (k : Nat) (as : Es) (x : Stmt), rsOf N fns globs exs scope k as x = true → PS X x (RS (geAt K p wf ck fl n) E (.raise k as)) := fun k as x h => raise_ck G0 (sc_self fun _ => rfl) tk (hr.mono (by omega)) (fun k n e => M.exs k n e) k as x h
  have told : ∀ (f : Nat) (e : MW.E) (x : Expr), tlOf N fns globs tds scope f e x = true → PE X x (RE (geAt K p wf ck fl n) E (.told f e)) := fun f e x h => by
    unfold tlOf at h
    split at h
    rotate_left
    · cases h
    rename_i y np lparams lbody ls lp cp
    simp only [Bool.and_eq_true, decide_eq_true_eq] at h
    obtain ⟨⟨⟨⟨h1, h2⟩, h3⟩, h4⟩, h5⟩ := h
    obtain ⟨TB1, TB2, TB3⟩ := TB (List.ne_nil_of_mem h1)
    obtain ⟨a', qg, ga, pg, h0, hs, sg, dV', kV', doc', pm', cdv', ct', oc', an', od', osl', Ng, r, l, p1, p2, p3, p4, TDd, TS, Tn, Th, Tc⟩ := TD f y h1
    obtain ⟨gl, d1, _⟩ := glo_of (X := X) (sc_self fun _ => rfl) h2
    have ea : lparams = ⟨[], [], none, [], [], none, []⟩ := by
      unfold noArgs at h3
      split at h3
      · rfl
      · cases h3
    subst ea
    exact pe_told (c := ⟨N, fns, globs, noTl, noRs⟩) (X := X) G0 TDd TS Tn Th Tc TB1 rfl TB2 TB3 (k := 0) (hr.mono (by omega)) gl d1 (lamS_by h4) rfl (fun q cl pm cv ctv => rfl) (fun j y m e => by
      obtain ⟨b, fd, qs, F, h1, h2, h3⟩ := defs_ok (w := w) (base := base) (wf := wf) M n j y m e
      exact ⟨b, fd, qs, 2 * n + 1, F, hr.mono (by omega), h1, h2, h3⟩) h5
  have G : GX ⟨N, fns, globs, tlOf N fns globs tds scope, rsOf N fns globs exs scope⟩ (geAt K p wf ck fl n) E X := { G0 with told := told, raised := raised }
  refine ⟨RS (geAt K p wf ck fl n) E fn.body, pss_ck fn.body body hc G (sc_self fun _ => rfl) S.kind (L2.passes_of rfl), ?_⟩
  exact body_of (g := geAt K p wf ck fl n) (g1 := geAt K p wf ck fl (n + 1)) rfl rfl rfl (fun ss => callN_succ hf ss) hN hsp
end
end MW
end
section
set_option Elab.async false
set_option linter.all false
set_option maxRecDepth 100000
set_option maxHeartbeats 4000000
/-! So30: the law's call from outside. -/
namespace MW
open PySem PySem.Spec
open PyProof.Rows hiding St
open L2 (V Hp HO upd upd_same upd_ne VK XK Room FnScope Binds CR CE CXT Env0 hidT hidT_get hidT_size of_hidT Un HOk Vals RelV Sp)
open LamX (TabS Tabs TabB)
variable [Tbs]
/-- no list stands in the written part -/
def noLists (K : Fg) : Bool := K.all fun q => match q.2.data with
  | .seq _ _ => !(q.2.cls == .type "list")
  | _ => true
theorem look_in {a : Ad} {o : Obj} : ∀ {l : List (Ad × Obj)}, l.lookup a = some o → (a, o) ∈ l
  | [], h => by cases h
  | (b, u) :: r, h => by
    rw [List.lookup_cons] at h
    cases q : (a == b) with
    | true =>
      rw [q] at h
      cases h
      rw [eq_of_beq q]
      exact .head _
    | false =>
      rw [q] at h
      exact .tail _ (look_in h)
/-- the state ahead of the law's call: the script, empty tables -/
def scrH (a : Ad) (vs : List Value) (ns : List Int) (ts : List Ad) : Hp := fun b => if b = a then some (.frz { cls := .type "list", data := .seq vs.toArray } (.lst (ns.map V.int))) else if b ∈ ts then some (.tbl #[]) else none
section
variable {P : Program} {w : World} {K : Fg} {mg mb : Str → Option Value} {k : Nat} {fa a : Ad} {cs : List (Ad × Ad)} {fd : FuncData} {x : Str} {sp : Sp} {s : Shared} {vs : List Value} {ns : List Int}
theorem law_callG (KX : K.In s.heap) (nl : noLists K = true) (gns : s.heap.Ns mainGlobals mg) (bns : s.heap.Ns builtinsNs mb) (bbt : ∀ x : Str, x ≠ "__name__" → mb x = bootBuiltins x) (lim : s.heap.NoLimit) (hg : s.gens = #[])
    (emp : ∀ p ∈ cs, s.heap.get? p.2 = some { cls := .none, data := .fields #[] }) (out : ∀ p ∈ cs, K.lookup p.2 = none) (cod : ∀ p ∈ cs, PySem.W.CodeHd s.heap p.1 p.2)
    (bmod : ∃ (bm : Ad) (ob : Obj), mg "__builtins__" = some (.ref bm) ∧ bm ≠ builtinsNs ∧ s.heap.get? bm = some ob ∧ ob.cls = .type "module" ∧ ob.dict = some builtinsNs ∧ ob.data = .plain)
    (ha : s.heap.get? a = some { cls := .type "list", data := .seq vs.toArray }) (hi : IntsAre vs ns) (hl : ns.length ≤ sizeLine) (hr : Room k callerA)
    (F : ∀ base : Heap, K.In base → base.Ns mainGlobals mg → (∀ p ∈ cs, TabB base mg p.1 p.2) → FnG P w K mg base (L2.CX P w) k fa fd [x] sp) (hbind : ∀ (s : Shared) (u : Value), BindsTo s fd ⟨[u], []⟩ [(x, u)])
    (hsp : a ∉ cs.map (·.2) → sp [.ref a] (scrH a vs ns (cs.map (·.2))) (fun v _ => v = .bl true) fun _ _ _ => False)
    (hCX : ∀ H e s', L2.CX P w [] H s (fun _ _ _ => False) e s' → False) :
    codeAny (model P w) callerA (.call (.ref fa) ⟨[.ref a], []⟩) (fun r s' => r = .ok (.ret (.bool true)) ∧ OldK s.heap s'.heap ∧ s'.os = s.os ∧ AllBare s'.gens) s := by
  let H : Hp := scrH a vs ns (cs.map (·.2))
  have tab : ∀ b, b ∈ cs.map (·.2) → s.heap.get? b = some { cls := .none, data := .fields #[] } := fun b hb => by
    obtain ⟨p, hp, rfl⟩ := List.mem_map.mp hb
    exact emp p hp
  have apart : a ∉ cs.map (·.2) := fun z => by
    have q := (tab a z).symm.trans ha
    have q2 : Data.fields #[] = Data.seq vs.toArray _ := congrArg Obj.data (Option.some.inj q)
    cases q2
  have Ha : H a = some (.frz { cls := .type "list", data := .seq vs.toArray } (.lst (ns.map V.int))) := if_pos rfl
  have Ht : ∀ b, b ∈ cs.map (·.2) → H b = some (.tbl #[]) := fun b hb => (if_neg (show ¬ b = a from fun z => apart (z ▸ hb))).trans (if_pos hb)
  have Hn : ∀ b, b ≠ a → b ∉ cs.map (·.2) → H b = none := fun b h1 h2 => (if_neg h1).trans (if_neg h2)
  have Hc : ∀ b u, H b = some u → (b = a ∧ u = .frz { cls := .type "list", data := .seq vs.toArray } (.lst (ns.map V.int))) ∨ (b ∈ cs.map (·.2) ∧ u = .tbl #[]) := fun b u e => by
    by_cases h1 : b = a
    · refine .inl ⟨h1, ?_⟩
      rw [h1, Ha] at e
      exact (Option.some.inj e).symm
    · by_cases h2 : b ∈ cs.map (·.2)
      · refine .inr ⟨h2, ?_⟩
        rw [Ht b h2] at e
        exact (Option.some.inj e).symm
      · rw [Hn b h1 h2] at e
        cases e
  -- an object of another kind is not tracked
  have free : ∀ {b : Ad} {o : Obj}, s.heap.get? b = some o → (∀ v n, o.data ≠ .seq v n) → o.data ≠ .fields #[] → H b = none := fun {b o} e h1 h2 => Hn b (fun z => by
    rw [z, ha] at e
    cases e
    exact h1 _ _ rfl) fun z => by
    rw [tab b z] at e
    cases e
    exact h2 rfl
  have nsb : ∀ {b : Ad} {m : Str → Option Value}, s.heap.Ns b m → (hidT s.heap H).Ns b m := fun {b m} ⟨o, es, ep, e, d, r⟩ =>
    ⟨o, es, ep, hidT_get e (free e (fun v n z => by rw [d] at z; cases z) fun z => by rw [d] at z; cases z), d, r⟩
  have nK : ∀ {b : Ad} {o : Obj}, K.lookup b = some o → H b = none := fun {b o} e => Hn b (fun z => by
    have q := KX b o e
    rw [z, ha] at q
    cases q
    have q2 := List.all_eq_true.mp nl _ (look_in e)
    simp at q2) fun z => by
    obtain ⟨p, hp, rfl⟩ := List.mem_map.mp z
    rw [out p hp] at e
    cases e
  have KB : K.In (hidT s.heap H) := fun b o e => hidT_get (KX b o e) (nK e)
  have md : L2.Mod K mg (hidT s.heap H) := by
    obtain ⟨mc, h1, h2⟩ := lim
    exact ⟨KB, nsb gns, ⟨mb, nsb bns, bbt⟩, mc, nsb h1, h2⟩
  have TB : ∀ p ∈ cs, TabB (hidT s.heap H) mg p.1 p.2 := fun p hp => by
    have ep := emp p hp
    refine ⟨?_, ?_, fun z => ?_⟩
    · obtain ⟨o, us, file, tf, flags, tg, inF, text, tt, e1, r1, r2, r3, rest⟩ := cod p hp
      refine ⟨o, us, file, tf, flags, tg, inF, text, tt, hidT_get e1 (free e1 (fun v n z => ?_) fun z => ?_), r1, r2, r3, rest⟩
      · rw [r2] at z
        cases z
      · rw [r2] at z
        cases z
        cases r3
    · obtain ⟨bm, ob, b1, b2, b3, b4, b5, b6⟩ := bmod
      have n1 : bm ≠ mainGlobals := fun z => by
        obtain ⟨o, es, en, e, d, _⟩ := gns
        rw [z, e] at b3
        cases b3
        rw [d] at b6
        cases b6
      have n2 : bm ≠ p.2 := fun z => by
        rw [z, ep] at b3
        cases b3
        cases b6
      exact ⟨bm, ob, b1, b2, n1, n2, hidT_get b3 (free b3 (fun v n z => by rw [b6] at z; cases z) fun z => by rw [b6] at z; cases z), b4, b5, b6⟩
    · obtain ⟨o, es, en, e, d, _⟩ := gns
      rw [z, ep] at e
      cases e
      cases d
  have hok : HOk P w H s.heap := fun b u e => by
    rcases Hc b u e with ⟨rfl, rfl⟩ | ⟨hb, rfl⟩
    · exact ⟨ha, by rw [List.length_map]; exact hl, vs, _, L2.vals_ints hi, ha⟩
    · exact tab b hb
  have e0 : Env0 P w K mg (hidT s.heap H) callerA [] s H := ⟨rfl, md, fun b o e => of_hidT e, Nat.le_of_eq (hidT_size _ _), trivial, fun b hb => absurd (show b ∈ ([] : List Ad) from hb) (by simp), hok, .of_eq hg⟩
  refine codeAny_mono ((F _ KB (nsb gns) TB).go callerA [] s H ⟨[.ref a], []⟩ [.ref a] [.ref a] _ _ hr rfl e0 (hbind s (.ref a)) (.cons rfl .nil) (hsp apart)) ?_
  rintro (er | fl) s' h
  · exact (hCX H er s' h).elim
  cases fl with
  | next => exact h.elim
  | brk => exact h.elim
  | cont => exact h.elim
  | ret u =>
    obtain ⟨v, H', os, bare, un, hok', rv, q⟩ := h
    have q : v = .bl true := q
    subst q
    obtain rfl : u = Value.bool true := rv
    have nin : ∀ {b : Ad}, b ∉ ([] : List Ad) := by simp
    have same : ∀ b o, b ∉ cs.map (·.2) → s.heap.get? b = some o → s'.heap.get? b = some o := fun b o nb e => by
      by_cases hb : b = a
      · subst hb
        have z := hok' b _ (un.frzs b _ _ Ha)
        rw [ha] at e
        cases e
        exact z.1
      · exact un.keep b o e (Hn b hb nb) nin nin
    have grown : ∀ b, b ∈ cs.map (·.2) → ∃ more : Array Value, s'.heap.get? b = some { cls := .none, data := .fields more } := fun b hb => by
      obtain ⟨more, z⟩ := un.tbls b #[] (Ht b hb)
      exact ⟨_, hok' b _ z⟩
    refine ⟨rfl, ⟨fun b o e => ?_, fun b o e => ?_⟩, os, bare⟩
    · by_cases hb : b ∈ cs.map (·.2)
      · obtain ⟨more, hm⟩ := grown b hb
        obtain ⟨p, hp, rfl⟩ := List.mem_map.mp hb
        rw [emp p hp] at e
        cases e
        exact .inr (.inl ⟨((cod p hp).tab (emp p hp)).isCodeTable, rfl, #[], more, rfl, by rw [Array.empty_append]; exact hm⟩)
      · exact .inl (same b o hb e)
    · by_cases hb : b ∈ cs.map (·.2)
      · obtain ⟨more, hm⟩ := grown b hb
        exact ⟨_, hm⟩
      · exact ⟨o, same b o hb e⟩
end
end MW
end
section
set_option Elab.async false
set_option linter.all false
set_option maxRecDepth 100000
set_option maxHeartbeats 4000000
/-! So31: what is looked at in the written part, as Bools. -/
namespace MW
open PySem PySem.Spec
open PyProof.Rows hiding St
open PySem.W (ksEnv ksFn findIn subIn typeIn keepIn nsIn clsIn mroIn codeIn exmOne ks_superIn)
open L2 (V Hp HO VK XK FnScope Binds OexC XfC RelV Vals)
open He (ga ma fAd)
variable [Tbs]
theorem ba2 {a b : Bool} (h : (a && b) = true) : a = true ∧ b = true := Bool.and_eq_true_iff.mp h
/-! ### an __init__'s text read -/
structure InitP where
  sf : Str
  r : Str
  f : Str
  p0 : Pos
  p1 : Pos
  pa : Pos
  pr : Pos
  pc : Pos
  pe : Pos
  ps : Pos
  pf : Pos
  pv : Pos
  pas : Pos
def initOf : List Stmt → Option InitP
  | [.Expr (.Call (.Attribute (.Call (.Name s p0) [] [] p1) i pa) [.Name r pr] [] pc) pe, .Assign [.Attribute (.Name sf ps) f pf] (.Name r2 pv) pas] =>
    if s = "super" ∧ i = "__init__" ∧ r2 = r then some ⟨sf, r, f, p0, p1, pa, pr, pc, pe, ps, pf, pv, pas⟩ else none
  | _ => none
theorem initOf_eq {b : List Stmt} {x : InitP} (h : initOf b = some x) : b = initBody x.sf x.r x.f x.p0 x.p1 x.pa x.pr x.pc x.pe x.ps x.pf x.pv x.pas := by
  unfold initOf at h
  split at h
  · split at h
    · rename_i q
      obtain ⟨e1, e2, e3⟩ := q
      subst e1 e2 e3
      cases h
      rfl
    · cases h
  · cases h
def scI (sc : Scope) (sf r : Str) : Bool :=
  decide (sc.kind = .function) && !sc.isCoroutine && !sc.isGenerator && (sc.names.all fun y => !decide (y.2 = .cell) && (!decide (y.2 = .free) || decide (y.1 = "__class__"))) &&
  decide (sc.names.lookup ("super" : Str) = some .globalImplicit) && decide (sc.names.lookup ("__class__" : Str) = some .free) && decide (sc.names.lookup sf = some .local) && decide (sc.names.lookup r = some .local) &&
  decide (sf ≠ r) && notDbg sf && notDbg r
/-! ### the class -/
def oexB (K : Fg) (C : Ad) : Bool := (match K.lookup C with
  | some ⟨.type t, _, .cls cd, sl⟩ => (match cd.mro, sl.toList with
    | .ref C' :: bm, [_, _, _, _, some (.builtin n), _] => decide (t = "type") && decide (C' = C) && decide (n = "ValueError.__new__") && !cd.hasDel && cd.hasDict && HandSPX.refsVE bm
    | _, _ => false)
  | _ => false) && decide (findIn K (.ref C) "__setattr__" = some (some (.builtin "object.__setattr__"))) && decide (subIn K (.ref C) (.type "BaseException") = some true) && decide (typeIn K (.ref C) = some (.type "type")) && keepIn K (.ref C)
theorem oexB_ok {K : Fg} {C : Ad} (h : oexB K C = true) : OexC K C := by
  unfold oexB at h
  obtain ⟨h, h5⟩ := ba2 h
  obtain ⟨h, h4⟩ := ba2 h
  obtain ⟨h, h3⟩ := ba2 h
  obtain ⟨h, h2⟩ := ba2 h
  refine ⟨?_, of_decide_eq_true h2, of_decide_eq_true h3, of_decide_eq_true h4, h5⟩
  split at h
  · rename_i t dd cd sl ho
    split at h
    · rename_i C' bm k0 k1 k2 k3 n k5 hm hs
      simp only [Bool.and_eq_true, decide_eq_true_eq, Bool.not_eq_true'] at h
      obtain ⟨⟨⟨⟨⟨e1, e2⟩, e3⟩, e4⟩, e5⟩, e6⟩ := h
      subst e1 e2 e3
      obtain ⟨nm, bs, mro, ns, qn, hd, sn, sub, ab, col, del⟩ := cd
      dsimp only at hm e4 e5
      subst hm e4 e5
      have hsl : sl = #[k0, k1, k2, k3, some (.builtin "ValueError.__new__"), k5] := Array.toList_inj.mp hs
      subst hsl
      exact ⟨nm, qn, ns, bs, bm, sn, sub, ab, col, dd, k0, k1, k2, k3, k5, ho, e6⟩
    · cases h
  · cases h
/-! ### an exception's class with its __init__ -/
def exB (P : Program) (K : Fg) (n f : Str) : Bool :=
  oexB K (ga K n) && decide (findIn K (.ref (ga K n)) "__init__" = some (some (.ref (ma K (ga K n) "__init__")))) && decide (typeIn K (.ref (ma K (ga K n) "__init__")) = some (.type "function")) &&
  decide (findIn K (.ref (ga K n)) f = some none) && decide (mroIn K (ga K n) (.ref (ga K n)) = some true) && decide (ks_superIn K (ga K n) (ga K n) "__init__" = some (some (.builtin "ValueError.__init__"))) &&
  decide (subIn K (.ref (ga K n)) (.type "ValueError") = some true) && decide (nsIn K cStatics "thirdparty.any" = some none) && !(P.main.scope.names.lookup ("super" : Str)).isSome &&
  (match K.lookup (ma K (ga K n) "__init__") with
  | some ⟨_, _, .func fd, _⟩ => (match fd.body, fd.code, fd.closure, fd.params with
    | .stmts b, .ref cda, [(q, cc)], ⟨[], [a1, a2], none, [], [], none, []⟩ => (match initOf b with
      | some x => decide (x.f = f) && decide (a1.arg = x.sf) && decide (a2.arg = x.r) && decide (q = "__class__") && decide (fd.globals = mainGlobals) && decide (fd.builtins = builtinsNs) && (match fd.defaults with | .none => true | _ => false) &&
          codeIn K (.ref cda) fd.qualname && (match K.lookup cda with | some ⟨_, _, .fields vs, _⟩ => (match (vs[2]? : Option Value) with | some (.str file _) => ((P.main.file : Str) == file) | _ => false) | _ => false) &&
          (match K.lookup cc with | some ⟨_, _, .cell (some (.ref D)), _⟩ => decide (D = ga K n) | _ => false) && scI fd.scope x.sf x.r && (x.pa.endLine == x.pc.line)
      | none => false)
    | _, _, _, _ => false)
  | _ => false)
theorem zip_look : ∀ {ps : List Str} {us : List Value}, ps.Nodup → us.length = ps.length → (ps.filterMap fun n => ((ps.zip us).lookup n).map fun v => (n, v)) = ps.zip us := by
  have key : ∀ (ps : List Str) (us : List Value) (f : Str → Option Value), ps.Nodup → us.length = ps.length → (∀ n ∈ ps, f n = (ps.zip us).lookup n) → (ps.filterMap fun n => (f n).map fun v => (n, v)) = ps.zip us := by
    intro ps
    induction ps with
    | nil => intro us f _ _ _; rfl
    | cons p ps ih =>
      intro us f nd hl hf
      cases us with
      | nil => cases hl
      | cons u us =>
        rw [List.nodup_cons] at nd
        have e1 : f p = some u := by
          rw [hf p (.head _), List.zip_cons_cons, List.lookup_cons]
          simp
        rw [List.filterMap_cons, e1]
        show (p, u) :: _ = _
        rw [List.zip_cons_cons, ih us f nd.2 (Nat.succ.inj hl)]
        intro n hn
        rw [hf n (.tail _ hn), List.zip_cons_cons, List.lookup_cons]
        have : (n == p) = false := by
          simp
          intro e
          exact nd.1 (e ▸ hn)
        rw [this]
  intro ps us nd hl
  exact key ps us _ nd hl fun _ _ => rfl
theorem zip_has : ∀ {ps : List Str} {us : List Value} {n : Str}, us.length = ps.length → n ∈ ps → ((ps.zip us).lookup n).isNone = false
  | p :: ps, [], n, hl, _ => by cases hl
  | p :: ps, u :: us, n, hl, h => by
    rw [List.zip_cons_cons, List.lookup_cons]
    cases q : (n == p) with
    | true => rfl
    | false =>
      rcases List.mem_cons.mp h with rfl | h
      · simp at q
      · exact zip_has (Nat.succ.inj hl) h
theorem bind_plain {fd : FuncData} {as : List PySem.Arg} {us : List Value} (hp : fd.params = ⟨[], as, none, [], [], none, []⟩) (hd : fd.defaults = .none) (nd : (as.map (·.arg)).Nodup) (hl : us.length = (as.map (·.arg)).length) :
    bindArgs fd ⟨us, []⟩ = pure ((as.map (·.arg)).zip us) := by
  have e0 : seqItems? (.none : Value) = pure none := rfl
  have e1 : ((as.map (·.arg)).take (as.map (·.arg)).length).filter (fun n => (((as.map (·.arg)).zip us).lookup n).isNone) = [] := by
    rw [List.take_length, List.filter_eq_nil_iff]
    intro n hn
    rw [zip_has hl hn]
    simp
  unfold bindArgs
  simp only [hp, hd, List.map_nil, List.nil_append, List.append_nil, e0, List.forIn_nil, pure_bind, Option.getD_none, List.drop_nil, List.length_nil, Nat.sub_zero, e1, hl, Nat.lt_irrefl, gt_iff_lt, decide_false, Bool.false_and, Bool.false_eq_true, if_false, List.isEmpty_nil, Bool.not_true, List.zip_nil_right]
  rw [zip_look nd hl]
theorem exB_ok {P : Program} {K : Fg} {mg : Str → Option Value} {ck : Nat → Ad} {fl : Nat → List Str} {k : Nat} {n f : Str} (h : exB P K n f = true) (hs : mg "super" = none) (hn : mg n = some (.ref (ga K n))) (hc : ck k = ga K n) (hf : fl k = [f]) : RaiseOk P K mg ck fl k n := by
  unfold exB at h
  obtain ⟨h, h10⟩ := ba2 h
  obtain ⟨h, h9⟩ := ba2 h
  obtain ⟨h, h8⟩ := ba2 h
  obtain ⟨h, h7⟩ := ba2 h
  obtain ⟨h, h6⟩ := ba2 h
  obtain ⟨h, h5⟩ := ba2 h
  obtain ⟨h, h4⟩ := ba2 h
  obtain ⟨h, h3⟩ := ba2 h
  obtain ⟨h1, h2⟩ := ba2 h
  split at h10
  rotate_left
  · cases h10
  rename_i oc od fd osl hlk
  split at h10
  rotate_left
  · cases h10
  rename_i b cda q cc a1 a2 e1 e2 e3 e4
  split at h10
  rotate_left
  · cases h10
  rename_i x hx
  obtain ⟨h10, g12⟩ := ba2 h10
  obtain ⟨h10, g11⟩ := ba2 h10
  obtain ⟨h10, g10⟩ := ba2 h10
  obtain ⟨h10, g9⟩ := ba2 h10
  obtain ⟨h10, g8⟩ := ba2 h10
  obtain ⟨h10, g7⟩ := ba2 h10
  obtain ⟨h10, g6⟩ := ba2 h10
  obtain ⟨h10, g5⟩ := ba2 h10
  obtain ⟨h10, g4⟩ := ba2 h10
  obtain ⟨h10, g3⟩ := ba2 h10
  obtain ⟨g1, g2⟩ := ba2 h10
  have eb := initOf_eq hx
  have e5 := of_decide_eq_true g1
  have e6 := of_decide_eq_true g2
  have e7 := of_decide_eq_true g3
  have e8 := of_decide_eq_true g4
  have e9 := of_decide_eq_true g5
  have e10 := of_decide_eq_true g6
  subst e8
  obtain ⟨n1, n2, n3, n4, n5, n6, n7, n8, n9, n10, n11, n12, n13, n14, n15⟩ := fd
  dsimp only at e1 e2 e3 e4 e9 e10 g7 g8 g11
  subst e1 e2 e3 e4 e9 e10
  cases n8 with
  | none =>
    obtain ⟨sf, r, f', p0, p1, pa, pr, pc, pe, ps, pf, pv, pas⟩ := x
    dsimp only at eb e5 e6 e7 g11 g12
    subst e5 e6 e7 eb
    unfold scI at g11
    simp only [Bool.and_eq_true, Bool.or_eq_true, Bool.not_eq_true', decide_eq_true_eq, decide_eq_false_iff_not, List.all_eq_true] at g11
    obtain ⟨⟨⟨⟨⟨⟨⟨⟨⟨⟨s1, s2⟩, s3⟩, s4⟩, s5⟩, s6⟩, s7⟩, s8⟩, s9⟩, s10⟩, s11⟩ := g11
    refine ⟨f', ma K (ga K n) "__init__", cc, cda, n1, n2, ⟨[], [a1, a2], none, [], [], none, []⟩, n5, .none, n9, n10, n11, n14, oc, n12, od, osl, a1.arg, a2.arg, p0, p1, pa, pr, pc, pe, ps, pf, pv, pas, hf, ?_⟩
    rw [hc]
    refine ⟨⟨hlk, g8, ?_, ?_, s1, s2, s3, fun y hy => (s4 y hy).1, fun y hy => ?_, ⟨a1, rfl, rfl⟩, s5, s6, s7, s8, s9, ⟨s10, s11⟩, oexB_ok h1, of_decide_eq_true h5, of_decide_eq_true h6, of_decide_eq_true h7, of_decide_eq_true h8, by simpa using h9⟩, g12, hs, of_decide_eq_true h4, of_decide_eq_true h2, of_decide_eq_true h3, hn, .all fun us hl => bind_plain (as := [a1, a2]) rfl rfl (by simpa using s9) hl⟩
    · split at g9
      · rename_i ccl cdd vs ccs hcd
        split at g9
        · rename_i file tf hvs
          exact ⟨ccl, cdd, vs, ccs, file, tf, hcd, hvs, g9⟩
        · cases g9
      · cases g9
    · split at g10
      · rename_i cl cld Dd csl hcc
        have e := of_decide_eq_true g10
        subst e
        exact ⟨cl, cld, csl, hcc⟩
      · cases g10
    · have hm := PySem.mem_of_lookup hy
      rcases (s4 _ hm).2 with z | z
      · exact absurd rfl z
      · exact z
  | _ => cases g7
/-! ### a def -/
/-- parameters: plain ones alone -/
def parsB (ps : List Str) : Arguments → Bool
  | ⟨[], as, none, [], [], none, []⟩ => decide (as.map (·.arg) = ps) && decide ps.Nodup
  | _ => false
def scB (N ps : List Str) (sc : Scope) : Bool :=
  decide (sc.kind = .function) && !sc.isCoroutine && !sc.isGenerator && decide N.Nodup && decide (N.take ps.length = ps) && (ps.all fun x => decide (sc.names.lookup x = some .local) || decide (sc.names.lookup x = some .cell)) && (sc.names.all fun y => !decide (y.2 = .free))
theorem scB_ok {N ps : List Str} {sc : Scope} (h : scB N ps sc = true) : FnScope N ps sc := by
  unfold scB at h
  simp only [Bool.and_eq_true, Bool.or_eq_true, Bool.not_eq_true', decide_eq_true_eq, decide_eq_false_iff_not, List.all_eq_true] at h
  obtain ⟨⟨⟨⟨⟨⟨h1, h2⟩, h3⟩, h4⟩, h5⟩, h6⟩, h7⟩ := h
  exact ⟨h1, h2, h3, h4, h5, h6, h7⟩
/-- a def of the program with its IR text, names -/
structure DefX where
  fn : Fn
  N : List Str
  st : Stmt
  name : Str
abbrev DefX.ps (d : DefX) : List Str := d.N.take d.fn.np
abbrev DefX.D (d : DefX) : He.DefD := ⟨(d.name, none), d.name, d.name, L2.defArgs d.st, L2.defBody d.st, L2.defScope d.st, [], []⟩
def DefX.okB (fns : List (Str × Nat)) (globs : List Str) (exs : List (Str × Nat)) (tds : List (Nat × Str)) (d : DefX) : Bool :=
  parsB d.ps (L2.defArgs d.st) && decide (d.N.length = d.fn.np + d.fn.more) && scB d.N d.ps (L2.defScope d.st) && ckB ⟨d.N, fns, globs, tlOf d.N fns globs tds (L2.defScope d.st), rsOf d.N fns globs exs (L2.defScope d.st)⟩ (L2.defScope d.st) d.fn.body (L2.defBody d.st)
theorem take_len {N : List Str} {a b : Nat} (h : N.length = a + b) : (N.take a).length = a := by
  rw [List.length_take]; omega
section
variable {K : Fg} {mg : Str → Option Value} {d : DefX} {fd : FuncData}
theorem def_at (F : L2.FunD K d.name d.name (L2.defArgs d.st) (L2.defBody d.st) (L2.defScope d.st) [] [] (ga K d.name) fd) (hm : mg d.name = some (.ref (ga K d.name))) (hp : parsB d.ps (L2.defArgs d.st) = true) :
    ∃ dV kV doc pm cdv ct oc an od osl, DefAt K mg d.name d.ps (ga K d.name) d.name (L2.defArgs d.st) (L2.defBody d.st) (L2.defScope d.st) dV kV doc pm cdv ct oc an od osl ∧ fd = PySem.W.fnOf d.name d.name (L2.defArgs d.st) (L2.defBody d.st) (L2.defScope d.st) dV kV doc pm an cdv ct := by
  obtain ⟨oc, od, dV, kV, doc, pm, an, cdv, ct, osl, rfl, lk, hcd, hD, _⟩ := F.ex
  rcases hD with ⟨_, rfl⟩ | ⟨e, _⟩
  · refine ⟨_, kV, doc, pm, cdv, ct, oc, an, od, osl, ⟨lk, hcd, hm, F.kp, ?_⟩, rfl⟩
    unfold parsB at hp
    split at hp
    · rename_i as ha
      simp only [Bool.and_eq_true, decide_eq_true_eq] at hp
      obtain ⟨e1, e2⟩ := hp
      rw [← e1] at e2 ⊢
      exact .all fun us hl => bind_plain (as := as) ha rfl e2 hl
    · cases hp
  · exact absurd rfl e
end
/-! ### constants -/
def scalB : MW.D → Bool
  | .int _ => true
  | .bool _ => true
  | .none => true
  | .str s => decide (s.length ≤ szLine)
  | _ => false
def toDv : MW.D → He.Dv
  | .int i => .int i
  | .bool b => .bl b
  | .str s => .str s
  | _ => .non
/-- the module's constant x is d: a scalar, or a tuple of scalars -/
def gloB (K : Fg) (x : Str) : MW.D → Bool
  | .tuple ds => decide (nsIn K mainGlobals x = some (some (.ref (ga K x)))) && He.tupB K x (ds.map toDv) && ds.all scalB && decide (ds.length ≤ szLine)
  | d => scalB d && (match nsIn K mainGlobals x with | some (some u) => He.relB ((toDv d).v K) u | _ => false)
theorem fz_scal {K : Fg} {Z : ZS} {H : Hp} {d : MW.D} (h : scalB d = true) : Fz K Z H d ((toDv d).v K) := by
  cases d with
  | int i => rfl
  | bool b => rfl
  | none => rfl
  | str s => exact ⟨rfl, of_decide_eq_true h⟩
  | _ => cases h
theorem fzl_scal {K : Fg} {Z : ZS} {H : Hp} : ∀ {ds : List MW.D}, ds.all scalB = true → FzL K Z H ds ((ds.map toDv).map (He.Dv.v K))
  | [], _ => rfl
  | d :: ds, h => by
    rw [List.all_cons] at h
    obtain ⟨h1, h2⟩ := ba2 h
    exact ⟨_, _, rfl, fz_scal h1, fzl_scal h2⟩
theorem gloB_ok {K : Fg} {mg : Str → Option Value} {h : Heap} {x : Str} {d : MW.D} (X : K.In h) (G : h.Ns mainGlobals mg) (hb : gloB K x d = true) : ∃ v u, mg x = some u ∧ RelV v u ∧ GlobOk K d v := by
  cases d with
  | tuple ds =>
    unfold gloB at hb
    simp only [Bool.and_eq_true, decide_eq_true_eq] at hb
    obtain ⟨⟨⟨h1, h2⟩, h3⟩, h4⟩ := hb
    refine ⟨.ref (ga K x), _, PySem.W.mg_of X G h1, rfl, fun Z H => ⟨.inl ⟨ds, ga K x, _, rfl, rfl, ?_, ?_, fzl_scal h3⟩, fun z => by cases z⟩⟩
    · unfold He.tupB at h2
      split at h2
      · rename_i c dd its n sl hlk
        obtain ⟨k1, k2⟩ := ba2 h2
        obtain ⟨k3, k4⟩ := ba2 k2
        exact ⟨_, its, n, hlk, congrArg Value.type (of_decide_eq_true k1), rfl, of_decide_eq_true k3, He.relAll_ok k4⟩
      · cases h2
    · rw [List.length_map, List.length_map]
      exact h4
  | list _ => cases hb
  | dict _ => cases hb
  | _ =>
    unfold gloB at hb
    simp only [Bool.and_eq_true] at hb
    obtain ⟨h1, h2⟩ := hb
    split at h2
    · rename_i u hu
      exact ⟨_, u, PySem.W.mg_of X G hu, He.relB_ok h2, fun Z H => ⟨.inr (fz_scal h1), fun _ => fz_scal h1⟩⟩
    · cases h2
/-! ### clauses -/
/-- the class number k: its address, by its name -/
def ckOf (K : Fg) (exs : List (Str × Nat)) (root : Str) (k : Nat) : Ad := ga K ((exs[k]?.map (·.1)).getD root)
def clsB (K : Fg) (exs : List (Str × Nat)) (root : Str) (fl : Nat → List Str) (sc : Scope) (N : List Str) (p : Nat × MW.D × Nat) (h : Hnd) : Bool :=
  (match p.2.1 with | .str t => decide (t = h.2.2.1) | _ => false) && decide (h.2.2.1.length ≤ szLine) && gloN sc h.1 && decide (nsIn K mainGlobals h.1 = some (some (.ref (ckOf K exs root p.1)))) && decide (N[N.idxOf h.2.1]? = some h.2.1) &&
  decide (sc.names.lookup h.2.1 = some .local) && notDbg h.2.1 && L2.xfB K (ckOf K exs root p.1) && decide (findIn K (.ref (ckOf K exs root p.1)) h.2.2.2 = some none) && decide (posOf h.2.2.2 (fl p.1) = some p.2.2) && decide (p.1 < exs.length) &&
  ((List.range exs.length).all fun k => decide (exmOne K (.ref (ckOf K exs root k)) (.ref (ckOf K exs root p.1)) = some (decide (p.1 = k)))) && decide (exmOne K (.ref (ga K root)) (.ref (ckOf K exs root p.1)) = some false)
def clsLB (K : Fg) (exs : List (Str × Nat)) (root : Str) (fl : Nat → List Str) (sc : Scope) (N : List Str) : List (Nat × MW.D × Nat) → List Hnd → Bool
  | [], [] => true
  | p :: ps, h :: hs => clsB K exs root fl sc N p h && clsLB K exs root fl sc N ps hs
  | _, _ => false
section
variable {K : Fg} {mg : Str → Option Value} {h : Heap} {exs : List (Str × Nat)} {root : Str} {fl : Nat → List Str} {sc : Scope} {N : List Str}
theorem clsB_ok (X : K.In h) (G : h.Ns mainGlobals mg) {p : Nat × MW.D × Nat} {c : Hnd} (hb : clsB K exs root fl sc N p c = true) : ClsAt K mg sc N (ckOf K exs root) fl p c (N.idxOf c.2.1) := by
  unfold clsB at hb
  simp only [Bool.and_eq_true, decide_eq_true_eq, List.all_eq_true] at hb
  obtain ⟨⟨⟨⟨⟨⟨⟨⟨⟨⟨⟨⟨h1, h2⟩, h3⟩, h4⟩, h5⟩, h6⟩, h7⟩, h8⟩, h9⟩, h10⟩, h11⟩, h12⟩, h13⟩ := hb
  refine ⟨?_, h2, h3, PySem.W.mg_of X G h4, h5, h6, h7, L2.xfB_ok h8, h9, h10, fun k => ?_⟩
  · split at h1
    · rename_i t e
      rw [e, of_decide_eq_true h1]
    · cases h1
  · by_cases hk : k < exs.length
    · exact h12 k (List.mem_range.mpr hk)
    · have e : ckOf K exs root k = ga K root := by
        unfold ckOf
        rw [List.getElem?_eq_none (by omega)]
        rfl
      have e2 : decide (p.1 = k) = false := decide_eq_false (by omega)
      rw [e, e2]
      exact h13
theorem clsLB_ok (X : K.In h) (G : h.Ns mainGlobals mg) : ∀ {ps : List (Nat × MW.D × Nat)} {hs : List Hnd}, clsLB K exs root fl sc N ps hs = true → ∃ l, ClsL K mg sc N (ckOf K exs root) fl ps hs l
  | [], [], _ => ⟨[], .nil⟩
  | [], _ :: _, hb => by cases hb
  | _ :: _, [], hb => by cases hb
  | p :: ps, c :: hs, hb => by
    unfold clsLB at hb
    obtain ⟨h1, h2⟩ := ba2 hb
    obtain ⟨l, r⟩ := clsLB_ok X G h2
    exact ⟨_, .cons (clsB_ok X G h1) r⟩
end
/-- a def that tries a thunk, from its text -/
def tryOf : List Stmt → Option (Str × List ExceptHandler)
  | [.Try [.Return (some (.Call (.Name a _) [] [] _)) _] (h0 :: hs) [] [] _] => some (a, h0 :: hs)
  | _ => none
/-- its text is looked at -/
def tdTextB (st : Stmt) (N : List Str) (hnds : List Hnd) : Bool := match tryOf (L2.defBody st) with
  | some (a, hs) => parsB [a] (L2.defArgs st) && scB N [a] (L2.defScope st) && notDbg a && decide (hndsOf hs = some hnds)
  | none => false
theorem told_ok {K : Fg} {mg : Str → Option Value} {h : Heap} {exs : List (Str × Nat)} {root : Str} {fl : Nat → List Str} {d : DefX} {fd : FuncData} {hand : List (Nat × MW.D × Nat)} {hnds : List Hnd} (X : K.In h) (G : h.Ns mainGlobals mg)
    (F : L2.FunD K d.name d.name (L2.defArgs d.st) (L2.defBody d.st) (L2.defScope d.st) [] [] (ga K d.name) fd) (hm : mg d.name = some (.ref (ga K d.name))) (ht : tdTextB d.st d.N hnds = true) (hc : clsLB K exs root fl (L2.defScope d.st) d.N hand hnds = true) : ToldOk K mg (ckOf K exs root) fl hand d.name := by
  unfold tdTextB at ht
  split at ht
  rotate_left
  · cases ht
  rename_i a hs e
  obtain ⟨ht, t4⟩ := ba2 ht
  obtain ⟨ht, t3⟩ := ba2 ht
  obtain ⟨t1, t2⟩ := ba2 ht
  have eb : ∃ p1 p2 p3 p4 h0 hs', hs = h0 :: hs' ∧ L2.defBody d.st = [.Try [.Return (some (.Call (.Name a p1) [] [] p2)) p3] (h0 :: hs') [] [] p4] := by
    unfold tryOf at e
    split at e
    · rename_i a' p1 p2 p3 h0 hs' p4 hq
      cases e
      exact ⟨_, _, _, _, _, _, rfl, hq⟩
    · cases e
  obtain ⟨p1, p2, p3, p4, h0, hs', rfl, eb⟩ := eb
  obtain ⟨l, cl⟩ := clsLB_ok X G hc
  obtain ⟨oc, od, dV, kV, doc, pm, an, cdv, ct, osl, rfl, lk, hcd, hD, _⟩ := F.ex
  rcases hD with ⟨_, rfl⟩ | ⟨e', _⟩
  · refine ⟨a, d.name, ga K d.name, L2.defArgs d.st, h0, hs', L2.defScope d.st, .none, kV, doc, pm, cdv, ct, oc, an, od, osl, d.N, hnds, l, p1, p2, p3, p4, ?_, scB_ok t2, t3, of_decide_eq_true t4, cl⟩
    rw [← eb]
    refine ⟨lk, hcd, hm, F.kp, ?_⟩
    unfold parsB at t1
    split at t1
    · rename_i as ha
      simp only [Bool.and_eq_true, decide_eq_true_eq] at t1
      obtain ⟨e1, e2⟩ := t1
      rw [← e1] at e2 ⊢
      exact .all fun us hl => bind_plain (as := as) ha rfl e2 hl
    · cases t1
  · exact absurd rfl e'
end MW
end
section
set_option Elab.async false
set_option linter.all false
set_option maxRecDepth 100000
set_option maxHeartbeats 4000000
/-! So32: a law's data; the law's statement from the evaluator's answer. -/
namespace MW
open PySem PySem.Spec
open PyProof.Rows hiding St
open L2 (V Hp HO VK XK FnScope Binds RelV Vals Room Sp)
open LamX (TabS Tabs TabB)
open He (ga SaysX SaysD)
structure LawD where
  l : PySem.W.OpenLaw
  p : Prog
  ds : List DefX
  dl : DefX
  globs : List Str
  exs : List (Str × Nat)
  fls : List (List Str)
  root : Str
  tds : List (Nat × Str)
  hnds : List Hnd
namespace LawD
def fns (L : LawD) : List (Str × Nat) := L.ds.map fun d => (d.name, d.fn.np)
def fl (L : LawD) (k : Nat) : List Str := L.fls.getD k []
def fa (L : LawD) : List He.Fa := ((L.ds ++ [L.dl]).map fun d => .glo d.name) ++ (("super" : Str) :: bltNames).map He.Fa.free ++ L.exs.map fun q => .glo q.1
def fn (L : LawD) : List He.DefD := (L.ds ++ [L.dl]).map DefX.D
def tf (L : LawD) : List He.Defn := if L.tds.isEmpty then [] else [(L.dl.name, none)]
def exOk (L : LawD) (K : Fg) (q : (Str × Nat) × List Str) : Bool := decide (q.1.2 ≠ 1) || (match q.2 with | [f] => exB L.l.prog K q.1.1 f | _ => false)
def tdOk (L : LawD) (K : Fg) (t : Nat × Str) : Bool := match L.ds[t.1]? with
  | some d => clsLB K L.exs L.root L.fl (L2.defScope d.st) d.N (handAt t.1 L.p.hand) L.hnds
  | none => false
def ex (L : LawD) (K : Fg) : Bool := noLists K && (L.exs.zip L.fls).all (L.exOk K) && ((L.globs.zip L.p.glob).all fun q => gloB K q.1 q.2) && L.tds.all (L.tdOk K)
def isBad : S → Bool
  | .bad _ => true
  | _ => false
def defB (L : LawD) (tl : Nat → MW.E → Expr → Bool) (d : DefX) : Bool :=
  decide (d.N.length = d.fn.np + d.fn.more) && scB d.N d.ps (L2.defScope d.st) && ckB ⟨d.N, L.fns, L.globs, tl, rsOf d.N L.fns L.globs L.exs (L2.defScope d.st)⟩ (L2.defScope d.st) d.fn.body (L2.defBody d.st)
def okD (L : LawD) (d : DefX) : Bool := parsB d.ps (L2.defArgs d.st) && decide (d.fn.np ≤ d.N.length) && (isBad d.fn.body || L.defB noTl d)
def okL (L : LawD) : Bool := parsB L.dl.ps (L2.defArgs L.dl.st) && L.defB (tlOf L.dl.N L.fns L.globs L.tds (L2.defScope L.dl.st)) L.dl
def okT (L : LawD) (t : Nat × Str) : Bool := match L.ds[t.1]? with
  | some d => decide (d.name = t.2) && tdTextB d.st d.N L.hnds
  | none => false
/-- the texts, looked at -/
structure Ok (L : LawD) : Prop where
  defs : ∀ d ∈ L.ds, L.okD d = true
  law : L.okL = true
  told : ∀ t ∈ L.tds, L.okT t = true
  pfn : L.p.fn = L.ds.map (·.fn) ++ [L.dl.fn]
  lg : L.globs.length = L.p.glob.length
  le : L.exs.length = L.fls.length
end LawD
theorem fnAt_get : ∀ (l : List Fn) (i : Nat), fnAt l i = l[i]?
  | [], i => by cases i <;> rfl
  | _ :: _, 0 => rfl
  | _ :: r, i + 1 => by rw [List.getElem?_cons_succ]; exact fnAt_get r i
theorem getAt_get : ∀ (l : List MW.D) (i : Nat), getAt l i = l[i]?
  | [], i => by cases i <;> rfl
  | _ :: _, 0 => rfl
  | _ :: r, i + 1 => by rw [List.getElem?_cons_succ]; exact getAt_get r i
variable [Tbs]
section
variable {L : LawD} {w : World} {K : Fg} {h : Heap} {mg : Str → Option Value}
theorem mem_fa {f : He.Fa} (hf : f ∈ ((L.ds ++ [L.dl]).map fun d => He.Fa.glo d.name) ∨ f ∈ (("super" : Str) :: bltNames).map He.Fa.free ∨ f ∈ L.exs.map fun q => He.Fa.glo q.1) : f ∈ L.fa := by
  unfold LawD.fa
  rw [List.mem_append, List.mem_append]
  rcases hf with h | h | h
  · exact .inl (.inl h)
  · exact .inl (.inr h)
  · exact .inr h
theorem fun_at (X : K.In h) (G : h.Ns mainGlobals mg) (c : SaysX L.fa L.fn [] L.tf L.ex w h K) {d : DefX} (hd : d ∈ L.ds ++ [L.dl]) :
    ∃ fd, L2.FunD K d.name d.name (L2.defArgs d.st) (L2.defBody d.st) (L2.defScope d.st) [] [] (ga K d.name) fd ∧ mg d.name = some (.ref (ga K d.name)) := by
  obtain ⟨fd, F⟩ := c.t.d.defs (d := d.D) (List.mem_map.mpr ⟨d, hd, rfl⟩)
  exact ⟨fd, F, He.glo_ok X G (c.t.d.facts (f := .glo d.name) (mem_fa (.inl (List.mem_map.mpr ⟨d, hd, rfl⟩))))⟩
theorem free_at (X : K.In h) (G : h.Ns mainGlobals mg) (c : SaysX L.fa L.fn [] L.tf L.ex w h K) {x : Str} (hx : x ∈ ("super" : Str) :: bltNames) : mg x = none :=
  He.free_ok X G (c.t.d.facts (f := .free x) (mem_fa (.inr (.inl (List.mem_map.mpr ⟨x, hx, rfl⟩)))))
theorem ex_parts (c : SaysX L.fa L.fn [] L.tf L.ex w h K) : noLists K = true ∧ (∀ q ∈ L.exs.zip L.fls, L.exOk K q = true) ∧ (∀ q ∈ L.globs.zip L.p.glob, gloB K q.1 q.2 = true) ∧ ∀ t ∈ L.tds, L.tdOk K t = true := by
  have m := c.more
  unfold LawD.ex at m
  obtain ⟨m, m4⟩ := ba2 m
  obtain ⟨m, m3⟩ := ba2 m
  obtain ⟨m1, m2⟩ := ba2 m
  exact ⟨m1, List.all_eq_true.mp m2, List.all_eq_true.mp m3, List.all_eq_true.mp m4⟩
theorem bad_st {d : DefX} {wf : Nat} {p : Prog} {i : Nat} (hb : LawD.isBad d.fn.body = true) (hf : fnAt p.fn i = some d.fn) : ∀ n ss, ∃ m, callN p wf n i ss = .st m
  | 0, ss => ⟨90, rfl⟩
  | n + 1, ss => by
    rw [callN_succ hf]
    unfold runFn
    cases hq : d.fn.body with
    | bad k =>
      simp only [ex]
      split
      · exact ⟨_, rfl⟩
      · exact ⟨_, rfl⟩
    | _ => rw [hq] at hb; cases hb
theorem mod_ok (O : L.Ok) (X : K.In h) (G : h.Ns mainGlobals mg) (c : SaysX L.fa L.fn [] L.tf L.ex w h K) : ModOk L.l.prog K mg L.fns L.globs L.exs L.p (ckOf K L.exs L.root) L.fl := by
  obtain ⟨e1, e2, e3, e4⟩ := ex_parts c
  refine ⟨fun i x np hi => ?_, fun k n hk => ?_, fun x hx => free_at X G c (.tail _ hx), fun i x hi => ?_⟩
  · unfold LawD.fns at hi
    rw [List.getElem?_map] at hi
    cases hd : L.ds[i]? with
    | none => rw [hd] at hi; cases hi
    | some d =>
      rw [hd] at hi
      cases hi
      have dm : d ∈ L.ds := List.mem_of_getElem? hd
      have ok := O.defs d dm
      unfold LawD.okD at ok
      obtain ⟨ok, o3⟩ := ba2 ok
      obtain ⟨o1, o2⟩ := ba2 ok
      have o2 := of_decide_eq_true o2
      obtain ⟨fd, F, hm⟩ := fun_at X G c (List.mem_append_left _ dm)
      obtain ⟨dV, kV, doc, pm, cdv, ct, oc, an, od, osl, D, _⟩ := def_at F hm o1
      have hfn : fnAt L.p.fn i = some d.fn := by
        rw [fnAt_get, O.pfn, List.getElem?_append_left (by
          rw [List.length_map]
          exact (List.getElem?_eq_some_iff.mp hd).1), List.getElem?_map, hd]
        rfl
      refine ⟨d.ps, ga K d.name, d.name, _, _, _, dV, kV, doc, pm, cdv, ct, oc, an, od, osl, D, by rw [List.length_take]; omega, ?_⟩
      rcases Bool.or_eq_true _ _ |>.mp o3 with hb | hc
      · exact .inr fun wf n ss => bad_st hb hfn n ss
      · unfold LawD.defB at hc
        obtain ⟨hc, k3⟩ := ba2 hc
        obtain ⟨k1, k2⟩ := ba2 hc
        exact .inl ⟨d.fn, d.N, hfn, rfl, of_decide_eq_true k1, scB_ok k2, k3⟩
  · have hlt := (List.getElem?_eq_some_iff.mp hk).1
    have hf : L.fls[k]? = some (L.fl k) := by
      unfold LawD.fl
      rw [List.getD_eq_getElem?_getD, List.getElem?_eq_getElem (by rw [← O.le]; exact hlt)]
      rfl
    have hz : ((n, 1), L.fl k) ∈ L.exs.zip L.fls := List.mem_of_getElem? (i := k) (by
      rw [List.getElem?_zip_eq_some]
      exact ⟨hk, hf⟩)
    have q := e2 _ hz
    unfold LawD.exOk at q
    rcases Bool.or_eq_true _ _ |>.mp q with q | q
    · exact absurd rfl (of_decide_eq_true q)
    · dsimp only at q
      split at q
      · rename_i f hfk
        have hmem : (n, 1) ∈ L.exs := List.mem_of_getElem? hk
        exact exB_ok q (free_at X G c (.head _)) (He.glo_ok X G (c.t.d.facts (f := .glo n) (mem_fa (.inr (.inr (List.mem_map.mpr ⟨_, hmem, rfl⟩)))))) (by unfold ckOf; rw [hk]; rfl) hfk
      · cases q
  · have hlt := (List.getElem?_eq_some_iff.mp hi).1
    have hg : L.p.glob[i]? = some ((getAt L.p.glob i).getD .none) := by
      rw [getAt_get, List.getElem?_eq_getElem (by rw [← O.lg]; exact hlt)]
      rfl
    have hz : (x, (getAt L.p.glob i).getD .none) ∈ L.globs.zip L.p.glob := List.mem_of_getElem? (i := i) (by
      rw [List.getElem?_zip_eq_some]
      exact ⟨hi, hg⟩)
    exact gloB_ok X G (e3 _ hz)
theorem law_td (O : L.Ok) (X : K.In h) (G : h.Ns mainGlobals mg) (c : SaysX L.fa L.fn [] L.tf L.ex w h K) (fi : Nat) (y : Str) (ht : (fi, y) ∈ L.tds) : ToldOk K mg (ckOf K L.exs L.root) L.fl (handAt fi L.p.hand) y := by
  obtain ⟨_, _, _, e4⟩ := ex_parts c
  have k1 := e4 _ ht
  have k2 := O.told _ ht
  unfold LawD.tdOk at k1
  unfold LawD.okT at k2
  dsimp only at k1 k2
  cases hd : L.ds[fi]? with
  | none => rw [hd] at k1; cases k1
  | some d =>
    rw [hd] at k1 k2
    obtain ⟨k2, k3⟩ := ba2 k2
    have e := of_decide_eq_true k2
    subst e
    obtain ⟨fd, F, hm⟩ := fun_at X G c (List.mem_append_left _ (List.mem_of_getElem? hd))
    exact told_ok X G F hm k3 k1
end
/-- the script, as the law gets it -/
def scrD (ns : List Int) : MW.D := .list (ns.map .int)
theorem fzl_ints {K : Fg} {Z : ZS} {H : Hp} : ∀ ns : List Int, FzL K Z H (ns.map .int) (ns.map V.int)
  | [] => rfl
  | n :: ns => ⟨_, _, rfl, rfl, fzl_ints ns⟩
/-- the state at the law's entry -/
theorem scr_ss {K : Fg} {a : Ad} {vs : List Value} {ns : List Int} {ts : List Ad} (ha : a ∉ ts) (hl : ns.length ≤ sizeLine) (hT : ∀ q ∈ Tbs.T, q.1 ∈ ts) :
    Ss K (fun b => b = a) (scrH a vs ns ts) ([V.ref a].map some) [.fz (scrD ns)] := by
  have e : scrH a vs ns ts a = some (.frz { cls := .type "list", data := .seq vs.toArray } (.lst (ns.map V.int))) := if_pos rfl
  refine ⟨rfl, fun i => ?_, fun i j b _ o => ?_, fun b z => ⟨_, (congrArg (scrH a vs ns ts) z).trans e, fun z => nomatch z⟩, fun q hq => ?_⟩
  · match i with
    | 0 => exact ⟨.ref a, rfl, a, ns.map V.int, rfl, ⟨⟨rfl, .inr ⟨_, e⟩⟩, by rw [List.length_map, szLine_eq]; exact hl⟩, fzl_ints ns⟩
    | i + 1 => trivial
  · match i with
    | 0 => cases o
    | i + 1 => cases o
  · refine TabS.nil ?_
    have hq := hT q hq
    exact (if_neg (show ¬ q.1 = a from fun z => ha (z ▸ hq))).trans (if_pos hq)
theorem scr_sp {K : Fg} {p : Prog} {wf n li : Nat} {ck : Nat → Ad} {fl : Nat → List Str} {a : Ad} {vs : List Value} {ns : List Int} {ts : List Ad} {o : Bool} {r : Env} (ha : a ∉ ts) (hl : ns.length ≤ sizeLine) (hT : ∀ q ∈ Tbs.T, q.1 ∈ ts)
    (he : callN p wf n li [.fz (scrD ns)] = .ok (o, .bool true) r) : SpF (geAt K p wf ck fl n) 1 li [V.ref a] (scrH a vs ns ts) (fun v _ => v = .bl true) fun _ _ _ => False := by
  refine ⟨fun b => b = a, [.fz (scrD ns)], rfl, scr_ss ha hl hT, fun i o => ?_, ?_⟩
  · match i with
    | 0 => cases o
    | i + 1 => cases o
  · show (match callN p wf n li [.fz (scrD ns)] with
      | .ok r s' => _
      | .ex k as s' => _
      | .st _ => False)
    rw [he]
    intro Z' H' v _ _ _ vr
    unfold VR at vr
    cases o with
    | true =>
      obtain ⟨b, _, _, w, _⟩ := vr
      exact w.elim
    | false => exact vr
theorem no_CX {P : Program} {w : World} (H : Hp) (s : Shared) (e : Value) (s' : Shared) : ¬ L2.CX P w [] H s (fun _ _ _ => False) e s' := fun h => by
  obtain ⟨_, _, _, _, _, _, _, _, _, _, _, _, z⟩ := h
  exact z
/-- what the evaluator is to answer -/
def Told (L : LawD) : Prop := ∃ n wf, Room (2 * n + 4) callerA ∧ ∀ ns : List Int, ns.length ≤ 63 → (∀ z ∈ ns, Builtin.Int.intBits z ≤ 1048576) → ∃ o r, callN L.p wf (n + 1) L.ds.length [.fz (scrD ns)] = .ok (o, .bool true) r
end MW
namespace MW
open PySem PySem.Spec
open PyProof.Rows hiding St
open L2 (V Hp FnScope Binds RelV Vals Room Sp)
open LamX (TabB)
open He (ga SaysX)
/-! ### the look behind the top -/
/-- what is looked at: all that the module's names reach, the statics -/
def asM (g : Ad → Option Obj) (n : Nat) : List Ad := cStatics :: He.asD g n
def fragM (g : Ad → Option Obj) (n : Nat) : Fg := He.frT g (asM g n)
def obsM (N : Nat) (fa : List He.Fa) (fn : List He.DefD) (tf : List He.Defn) (ex : Fg → Bool) (g : Ad → Option Obj) : He.AlX := (He.obsT fa fn [] (fragM g N), ex (fragM g N) && He.tabsB g tf (fragM g N))
theorem says_of {N : Nat} {fa : List He.Fa} {fn : List He.DefD} {tf : List He.Defn} {ex : Fg → Bool} {w : World} {h : Heap} (e : obsM N fa fn tf ex h.get? = He.valX fn [] w) : SaysX fa fn [] tf ex w h (fragM h.get? N) := by
  have e1 : He.obsT fa fn [] (fragM h.get? N) = He.valT fn [] w := congrArg Prod.fst e
  have e2 : (ex (fragM h.get? N) && He.tabsB h.get? tf (fragM h.get? N)) = true := congrArg Prod.snd e
  obtain ⟨m1, m2⟩ := Bool.and_eq_true_iff.mp e2
  have one : ∀ p ∈ tf, PySem.W.codeHdIn (fragM h.get? N) (He.cT (fragM h.get? N) p).1 (He.cT (fragM h.get? N) p).2 = true ∧ ∃ o, h.get? (He.cT (fragM h.get? N) p).2 = some o ∧ He.emptyTab o = true := by
    intro p hp
    have q := List.all_eq_true.mp m2 p hp
    obtain ⟨q1, q2⟩ := Bool.and_eq_true_iff.mp q
    refine ⟨q1, ?_⟩
    split at q2
    · rename_i o ho
      exact ⟨o, ho, q2⟩
    · cases q2
  refine { t := e1, more := m1, hd := fun p hp => (one p hp).1, out := ?_, empty := ?_ }
  · intro p hp
    obtain ⟨_, o, ho, ht⟩ := one p hp
    exact He.frT_none ho ht
  · intro p hp
    obtain ⟨_, o, ho, ht⟩ := one p hp
    rw [ho, He.emptyTab_eq ht]
def hookM (N : Nat) (fa : List He.Fa) (fn : List He.DefD) (tf : List He.Defn) (ex : Fg → Bool) : PySem.W.Hook where
  α := He.AlX
  obs := fun s => obsM N fa fn tf ex s.heap.get?
  val := fun w => He.valX fn [] w
  says := fun w h => ∃ K : Fg, K.In h ∧ SaysX fa fn [] tf ex w h K
  of := fun _ _ e => ⟨_, He.frT_in, says_of e⟩
  keeps := fun _ _ _ ⟨K, hK, c⟩ k => ⟨K, PySem.W.Frag.In.keeps hK k, { t := c.t, more := c.more, hd := c.hd, out := c.out, empty := fun p hp => k _ _ (c.empty p hp) }⟩
theorem obsM_eq {N : Nat} {fa : List He.Fa} {fn : List He.DefD} {tf : List He.Defn} {ex : Fg → Bool} {g : Ad → Option Obj} {s : Shared} (h : ∀ a, g a = s.heap.get? a) : obsM N fa fn tf ex g = (hookM N fa fn tf ex).obs s := by
  have e : g = s.heap.get? := funext h
  rw [e]
  rfl
/-- the law's call from outside -/
theorem law_walk {L : LawD} (O : L.Ok) (T : Told L) {N : Nat} {q : Program} {loose : List Str} {XP : (Str → Option Value) → Heap → Prop} {d : DefRec} (hn : L.l.most = some 63) (hdf : d.params.defaults = []) (hname : d.name = L.dl.name) (hlaw : L.dl.name = "law") (hnp : L.dl.fn.np = 1) :
    PySem.W.WalkO q loose XP (hookM N L.fa L.fn L.tf L.ex).says L.l.row.toRowW d [] (fun f vs => PySem.call f vs) := by
  obtain ⟨n, wf, hroom, told⟩ := T
  refine Att.attach_callB hn hdf fun w s₀ s mg mb fa o pm cd doc a vs ns G Y ho hd hcd hmg hobj hints hlen hbits hg => ?_
  obtain ⟨K, KX, c⟩ := Y
  have Gg := G.T.g
  -- the law's code object and its table
  let cc := (He.cT K (L.dl.name, none)).1
  let PP := (He.cT K (L.dl.name, none)).2
  letI : Tbs := ⟨L.tf.map fun _ => (PP, L.dl.name ++ ".<locals>." ++ "<lambda>")⟩
  have tfc : ∀ p ∈ L.tf, p = (L.dl.name, none) := fun p hp => by
    unfold LawD.tf at hp
    split at hp
    · cases hp
    · exact List.mem_singleton.mp hp
  have M := mod_ok O KX Gg c
  have ok := O.law
  unfold LawD.okL at ok
  obtain ⟨o1, o2⟩ := ba2 ok
  unfold LawD.defB at o2
  obtain ⟨o2, o5⟩ := ba2 o2
  obtain ⟨o3, o4⟩ := ba2 o2
  obtain ⟨fd, F, hm⟩ := fun_at KX Gg c (d := L.dl) (List.mem_append_right _ (List.mem_singleton.mpr rfl))
  obtain ⟨dV, kV, doc', pm', cdv, ct, oc, an, od, osl, D, efd⟩ := def_at F hm o1
  obtain ⟨c0, ec⟩ := He.codeIn_ref D.code
  subst ec
  have ecc : cc = c0 := He.codeOf_eq (K := K) (p := (L.dl.name, none)) D.lk rfl
  have efa : fa = ga K L.dl.name := by
    rw [hname, hm] at hmg
    cases hmg
    rfl
  subst efa
  have pln : L.dl.ps.length = 1 := by
    have e := of_decide_eq_true o3
    rw [hnp] at e
    show (L.dl.N.take L.dl.fn.np).length = 1
    rw [List.length_take, hnp]
    omega
  obtain ⟨x, ex⟩ : ∃ x, L.dl.ps = [x] := by
    match L.dl.ps, pln with
    | [x], _ => exact ⟨x, rfl⟩
  have nl := (ex_parts c).1
  refine law_callG (K := K) (k := 2 * n + 4) (fa := ga K L.dl.name) (cs := L.tf.map (He.cT K)) (x := x) (sp := SpF (geAt K L.p wf (ckOf K L.exs L.root) L.fl (n + 1)) L.dl.fn.np L.ds.length) (fd := PySem.W.fnOf L.dl.name L.dl.name (L2.defArgs L.dl.st) (L2.defBody L.dl.st) (L2.defScope L.dl.st) dV kV doc' pm' an (.ref c0) ct)
    KX nl Gg G.T.b G.T.builtins G.T.nolimit hg ?_ ?_ ?_ G.T.bmain hobj hints (Nat.le_trans hlen (by rw [sizeLine_eq]; omega)) hroom ?_ ?_ ?_ fun H e s' => no_CX H s e s'
  · intro p hp
    obtain ⟨q, hq, rfl⟩ := List.mem_map.mp hp
    exact c.empty q hq
  · intro p hp
    obtain ⟨q, hq, rfl⟩ := List.mem_map.mp hp
    exact c.out q hq
  · intro p hp
    obtain ⟨q, hq, rfl⟩ := List.mem_map.mp hp
    exact PySem.W.codeHd_of_K KX (c.hd q hq)
  · intro base KB GB TB
    rw [← ex]
    refine law_fn (PP := PP) (cc := c0) M D ?_ ?_ (of_decide_eq_true o3) (scB_ok o4) o5 (fun fi y ht => law_td O KX Gg c fi y ht) ?_
    · rw [pln, hnp]
    · rw [fnAt_get, O.pfn, List.getElem?_append_right (by rw [List.length_map]; exact Nat.le_refl _), List.length_map, Nat.sub_self]
      rfl
    · intro ne
      have hf : L.tf = [(L.dl.name, none)] := by
        unfold LawD.tf
        cases ht : L.tds with
        | nil => exact absurd ht ne
        | cons _ _ => rfl
      refine ⟨?_, ?_, ?_⟩
      · have := TB (He.cT K (L.dl.name, none)) (List.mem_map.mpr ⟨_, by rw [hf]; exact List.mem_singleton.mpr rfl, rfl⟩)
        rw [← ecc]
        exact this
      · show (PP, _) ∈ L.tf.map fun _ => (PP, L.dl.name ++ ".<locals>." ++ "<lambda>")
        rw [hf]
        exact List.mem_singleton.mpr rfl
      · intro q hq _
        obtain ⟨_, _, rfl⟩ := List.mem_map.mp (show q ∈ L.tf.map fun _ => (PP, L.dl.name ++ ".<locals>." ++ "<lambda>") from hq)
        rfl
  · intro s u
    have hb := F.bindsA (ps := L.dl.ps) (fun kV doc pm an cdv ct us hl => ?_) s [u] (by rw [pln]; rfl)
    · rw [efd, ex] at hb
      exact hb
    · unfold parsB at o1
      split at o1
      · rename_i as ha
        simp only [Bool.and_eq_true, decide_eq_true_eq] at o1
        obtain ⟨e1, e2⟩ := o1
        rw [← e1] at e2 hl ⊢
        exact bind_plain (as := as) ha rfl e2 hl
      · cases o1
  · intro apart
    obtain ⟨ob, r, he⟩ := told ns hlen hbits
    rw [hnp]
    refine scr_sp apart (Nat.le_trans hlen (by rw [sizeLine_eq]; omega)) (fun q hq => ?_) he
    obtain ⟨t, ht, rfl⟩ := List.mem_map.mp (show q ∈ L.tf.map fun _ => (PP, L.dl.name ++ ".<locals>." ++ "<lambda>") from hq)
    have := tfc t ht
    subst this
    exact List.mem_map.mpr ⟨_, List.mem_map.mpr ⟨_, ht, rfl⟩, rfl⟩
end MW
end
section
set_option linter.all false
set_option maxRecDepth 100000
/-! EvK: the evaluator, structural (for the kernel). -/
namespace MW
open PySem
structure Tr where
  v : Env → Res (Bool × D)
  o : Env → Res Opd
  t : Env → Res Bool
structure TrS where
  o : Env → Res (List Opd)
  v : Env → Res (List D)
  a : List Bool → Env → Res (List Arg)
def oV (v : Env → Res (Bool × D)) (r : Env) : Res Opd := (v r).bind fun v r => .ok (.val v.1 v.2) r
def tO (o : Env → Res Opd) (r : Env) : Res Bool := (o r).bind fun x r => match (opdV r x).bind tru with
    | some t => .ok t r
    | none => .st 64
def mkV (v : Env → Res (Bool × D)) : Tr := ⟨v, oV v, tO (oV v)⟩
mutual
def cE (X : Cx) : E → Tr
  | .var i => ⟨fun r => useVar i r, fun r => if isSet (slotAt r i) then .ok (.ref i) r else .st 5, tO (fun r => if isSet (slotAt r i) then .ok (.ref i) r else .st 5)⟩
  | .const d => mkV fun r => .ok (false, d) r
  | .glob g => ⟨fun r => if isScal (X.glob g) then .ok (false, X.glob g) r else .st 9, fun r => .ok (.cst (X.glob g)) r, tO (fun r => .ok (.cst (X.glob g)) r)⟩
  | .bin o a b => mkV fun r => ((cE X a).o r).bind fun x r => ((cE X b).o r).bind fun y r =>
      match opdV r x, opdV r y with
      | some x, some y => ofOV 10 (opSem o x y) r
      | _, _ => .st 11
  | .neg a => mkV fun r => ((cE X a).o r).bind fun x r => match opdD r x with
      | some (.int i) => .ok (false, .int (-i)) r
      | _ => .st 12
  | .not a => ⟨fun r => ((cE X a).o r).bind fun x r => match (opdV r x).bind tru with
      | some t => .ok (false, .bool (!t)) r
      | none => .st 64, oV (fun r => ((cE X a).o r).bind fun x r => match (opdV r x).bind tru with
      | some t => .ok (false, .bool (!t)) r
      | none => .st 64), fun r => ((cE X a).t r).bind fun t r => .ok (!t) r⟩
  | .and a b => ⟨fun r => ((cE X a).v r).bind fun x r => match tru x.2 with
      | some true => (cE X b).v r
      | some false => .ok x r
      | none => .st 13, oV (fun r => ((cE X a).v r).bind fun x r => match tru x.2 with
      | some true => (cE X b).v r
      | some false => .ok x r
      | none => .st 13), fun r => ((cE X a).t r).bind fun t r => if t then (cE X b).t r else .ok false r⟩
  | .or a b => ⟨fun r => ((cE X a).v r).bind fun x r => match tru x.2 with
      | some true => .ok x r
      | some false => (cE X b).v r
      | none => .st 13, oV (fun r => ((cE X a).v r).bind fun x r => match tru x.2 with
      | some true => .ok x r
      | some false => (cE X b).v r
      | none => .st 13), fun r => ((cE X a).t r).bind fun t r => if t then .ok true r else (cE X b).t r⟩
  | .cmp o a b => mkV fun r => ((cE X a).o r).bind fun x r => ((cE X b).o r).bind fun y r =>
      match opdV r x, opdD r y with
      | some x, some y => (match cmpSem o x y with | some t => .ok (false, .bool t) r | none => .st 14)
      | _, _ => .st 15
  | .chain o p a b c => mkV fun r => ((cE X a).o r).bind fun x r => ((cE X b).o r).bind fun y r =>
      match opdV r x, opdV r y with
      | some x, some d => (match cmpSem o x d with
        | some true => ((cE X c).o r).bind fun z r => (match opdV r y, opdD r z with
          | some d, some z => (match cmpSem p d z with | some t => .ok (false, .bool t) r | none => .st 16)
          | _, _ => .st 17)
        | some false => .ok (false, .bool false) r
        | none => .st 18)
      | _, _ => .st 19
  | .ite c a b => mkV fun r => ((cE X c).t r).bind fun t r => if t then (cE X a).v r else (cE X b).v r
  | .call f as => mkV fun r => ((cEs X as).a (X.io f) r).bind fun xs r => match argSlots r xs with
      | some ss => (match X.call f ss with
        | .ok v s => (match takeBack r xs s with | some r => .ok v r | none => .st 21)
        | .ex k as s => (match takeBack r xs s with | some r => .ex k as r | none => .st 22)
        | .st n => .st n)
      | none => .st 23
  | .prim p as => mkV fun r => ((cEs X as).o r).bind fun xs r => match opdsD r xs with
      | some ds => ofOV 24 (primSem p ds) r
      | none => .st 25
  | .meth m a as => mkV fun r => ((cE X a).o r).bind fun x r => match opdD r x with
      | some d0 => if methOk m d0 then ((cEs X as).o r).bind fun xs r => (match opdD r x, opdsD r xs with
        | some d, some ds => if kindD d0 = kindD d then ofOV 26 (methSem m d ds) r else .st 26
        | _, _ => .st 27) else .st 27
      | none => .st 27
  | .tup as => mkV fun r => ((cEs X as).v r).bind fun ds r => .ok (false, .tuple ds) r
  | .lst as => mkV fun r => ((cEs X as).v r).bind fun ds r => .ok (true, .list ds) r
  | .dic _ as => mkV fun r => ((cEs X as).v r).bind fun ds r => match pairsK ds [] with
      | some kvs => .ok (true, .dict kvs) r
      | none => .st 28
  | .idx a i => mkV fun r => ((cE X a).o r).bind fun x r => ((cE X i).o r).bind fun y r =>
      match opdD r x, opdV r y with
      | some x, some y => (match idxSem x y with | some v => .ok (false, v) r | none => .st 29)
      | _, _ => .st 30
  | .slice a lo hi => mkV fun r => ((cE X a).o r).bind fun x r => (partR (isNoneE lo) ((cE X lo).o r) r).bind fun l r => (partR (isNoneE hi) ((cE X hi).o r) r).bind fun u r =>
      match opdV r x with
      | some x => ofOV 31 (sliceSem x (optD l) (optD u)) r
      | _ => .st 32
  | .rev a => mkV fun r => ((cE X a).o r).bind fun x r => match opdV r x with
      | some x => ofOV 33 (revSem x) r
      | _ => .st 34
  | .comp t it c e => mkV fun r => (cIt X it r).bind fun p r₀ => if szLine < p.1.length then .st 58 else
      ((loopE (fun d r => (assignT t (false, d) r).bind fun _ r => ((cE X c).t r).bind fun t' r =>
        if t' then ((cE X e).v r).bind fun v r => .ok [v.2] (wipeT t r) else .ok [] (wipeT t r)) p.1 (wipeT t (p.2.foldl lockO r₀))).mapN fun r => p.2.foldl (unlockO r₀) (backT r₀ t r)).bind fun ds r => .ok (true, .list ds) r
  | .comp2 t it t2 it2 c e => mkV fun r => (cIt X it r).bind fun p r₀ => if 4096 < p.1.length then .st 58 else
      ((loopE (fun d r => (assignT t (false, d) r).bind fun _ r => (cIt X it2 r).bind fun q r₁ => if q.2.any isTmp || decide (4096 < q.1.length) then .st 73 else
        ((loopE (fun d r => (assignT t2 (false, d) r).bind fun _ r => ((cE X c).t r).bind fun t' r =>
          if t' then ((cE X e).v r).bind fun v r => .ok [v.2] (wipeT t2 r) else .ok [] (wipeT t2 r)) q.1 (wipeT t2 (q.2.foldl lockO r₁))).mapN fun r => q.2.foldl (unlockO r₁) (backT r₁ t2 r)).bind fun ds r => .ok ds (wipeT (.two t t2) r))
        p.1 (wipeT (.two t t2) (p.2.foldl lockO r₀))).mapN fun r => p.2.foldl (unlockO r₀) (backT r₀ (.two t t2) r)).bind fun ds r => .ok (true, .list ds) r
  | .coll tu it => mkV fun r => (cIt X it r).bind fun p r => .ok (if tu then (false, .tuple p.1) else (true, .list p.1)) r
  | .same a b => mkV fun r => ((cE X a).o r).bind fun x r => (shwR (opdV r x) r).bind fun dx r => ((cE X b).o r).bind fun y r => (shwR (opdV r y) r).bind fun dy r => .ok (false, .bool (shwEq dx dy)) r
  | .append i e => mkV fun r => if ownL (slotAt r i) then ((cE X e).v r).bind fun v r => match slotAt r i with
      | .ow (.list xs) => if xs.length < szLine then .ok (false, .none) (setSlot r i (.ow (.list (xs ++ [v.2])))) else .st 39
      | .io (.list xs) => if xs.length < szLine then .ok (false, .none) (setSlot r i (.io (.list (xs ++ [v.2])))) else .st 39
      | _ => .st 40
      else .st 40
  | .pop i => mkV fun r => match slotAt r i with
      | .ow (.list xs) => (match xs.getLast? with | some v => .ok (false, v) (setSlot r i (.ow (.list xs.dropLast))) | none => .st 41)
      | .io (.list xs) => (match xs.getLast? with | some v => .ok (false, v) (setSlot r i (.io (.list xs.dropLast))) | none => .st 41)
      | _ => .st 42
  | .popat i e => mkV fun r => ((cE X e).o r).bind fun x r => match opdD r x, slotAt r i with
      | some (.int n), .ow (.list xs) => (match (idxNat xs.length n) with
        | some k => (match getAt xs k with | some v => .ok (false, v) (setSlot r i (.ow (.list (dropAt xs k)))) | none => .st 43)
        | none => .st 43)
      | _, _ => .st 44
  | .remove i e => mkV fun r => ((cE X e).o r).bind fun x r => match opdD r x, slotAt r i with
      | some d, .ow (.list xs) => if shp 60 d && shpA 60 xs then (match indexOf d xs 0 with
        | some k => .ok (false, .none) (setSlot r i (.ow (.list (dropAt xs k))))
        | none => .st 45) else .st 45
      | _, _ => .st 46
  | .told f e => mkV fun r => match (cE X e).v r with
      | .ok v r => .ok v r
      | .ex k as r => (match lookH k (X.hand f) with
        | some (t, n) => (match getAt as n with | some d => .ok (true, .list [t, d]) r | none => .st 47)
        | none => .st 36)
      | .st n => .st n
  | .sortkey a i k => mkV fun r => ((cE X a).o r).bind fun x r => match (opdD r x).bind seqOf with
      | some xs => (loopE (fun d r => (store i (false, d) r).bind fun _ r => ((cE X k).v r).bind fun v r => .ok [.tuple [v.2, d]] r) xs r).bind fun ps r' =>
          if orderly (ps.filterMap fun p => match p with | .tuple [a, _] => some a | _ => none) then
            .ok (true, .list ((ps.mergeSort (fun p q => match p, q with | .tuple [a, _], .tuple [b, _] => leD a b | _, _ => true)).filterMap fun p => match p with | .tuple [_, d] => some d | _ => none)) (setSlot r' i (slotAt r i))
          else .st 48
      | none => .st 49
  | .bad n => mkV fun _ => .st (1000 + n)
def cEs (X : Cx) : Es → TrS
  | .nil => ⟨fun r => .ok [] r, fun r => .ok [] r, fun _ r => .ok [] r⟩
  | .cons e es => ⟨fun r => ((cE X e).o r).bind fun x r => ((cEs X es).o r).bind fun xs r => .ok (x :: xs) r,
      fun r => ((cE X e).v r).bind fun x r => ((cEs X es).v r).bind fun xs r => .ok (x.2 :: xs) r,
      fun bs r => if headIo bs then (match e with
        | .var i => if (slotAt r i).own then ((cEs X es).a bs.tail r).bind fun xs r => .ok (.io i :: xs) r else .st 50
        | _ => .st 50)
      else ((cE X e).v r).bind fun x r => ((cEs X es).a bs.tail r).bind fun xs r => .ok (.val x.2 :: xs) r⟩
def cIt (X : Cx) : It → Env → Res (List D × List Opd)
  | .seq e, r => ((cE X e).o r).bind fun x r => match opdD r x with
      | some (.list xs) => if itOk r x then .ok (xs, [x]) r else .st 51
      | some (.tuple xs) => .ok (xs, [x]) r
      | _ => .st 51
  | .range1 a, r => ((cE X a).o r).bind fun x r => match opdD r x with
      | some (.int n) => if smallI n then .ok (ranged 0 n.toNat, []) r else .st 52
      | _ => .st 52
  | .range2 a b, r => ((cE X a).o r).bind fun x r => ((cE X b).o r).bind fun y r => match opdD r x, opdD r y with
      | some (.int m), some (.int n) => if smallI m && smallI n then .ok (ranged m (n - m).toNat, []) r else .st 53
      | _, _ => .st 53
  | .range3 a b c, r => ((cE X a).o r).bind fun x r => ((cE X b).o r).bind fun y r => ((cE X c).o r).bind fun z r => match opdD r x, opdD r y, opdD r z with
      | some (.int m), some (.int n), some (.int k) => (match rangeLen m n k with
        | some j => .ok (rangedBy m k j, []) r
        | none => .st 54)
      | _, _, _ => .st 54
  | .enum e, r => ((cE X e).o r).bind fun x r => match opdD r x with
      | some (.list xs) => if itOk r x then .ok (enumFrom 0 xs, [x]) r else .st 55
      | some (.tuple xs) => .ok (enumFrom 0 xs, [x]) r
      | _ => .st 55
  | .zip2 a b, r => ((cE X a).o r).bind fun x r => ((cE X b).o r).bind fun y r => match opdD r x, opdD r y with
      | some (.list xs), some (.list ys) => if itOk r x && itOk r y then .ok (zipD xs ys, [x, y]) r else .st 56
      | some (.tuple xs), some (.tuple ys) => .ok (zipD xs ys, [x, y]) r
      | some (.list xs), some (.tuple ys) => if itOk r x then .ok (zipD xs ys, [x, y]) r else .st 56
      | some (.tuple xs), some (.list ys) => if itOk r y then .ok (zipD xs ys, [x, y]) r else .st 56
      | _, _ => .st 56
  | .zip3 _ _ _, _ => .st 57
end
def exK (X : Cx) : S → Env → Res Flow
  | .skip, r => .ok .next r
  | .seq a b, r => (exK X a r).bind fun w r => match w with
    | .next => exK X b r
    | w => .ok w r
  | .asg t e, r => ((cE X e).v r).bind fun v r => (assignT t v r).bind fun _ r => .ok .next r
  | .par2 i j a b, r => ((cE X a).v r).bind fun v r => ((cE X b).v r).bind fun w r => (store i v r).bind fun _ r => (store j w r).bind fun _ r => .ok .next r
  | .par3 i j k a b c, r => ((cE X a).v r).bind fun v r => ((cE X b).v r).bind fun w r => ((cE X c).v r).bind fun u r => (store i v r).bind fun _ r => (store j w r).bind fun _ r => (store k u r).bind fun _ r => .ok .next r
  | .set i ix e, r => ((cE X e).v r).bind fun v r => if (slotAt r i).own then ((cE X ix).o r).bind fun k r => match opdV r k with
    | some k => (setItemS r i k v.2).bind fun _ r => .ok .next r
    | none => .st 65
    else .st 65
  | .swap i x y e1 e2, r => ((cE X e1).v r).bind fun v r => ((cE X e2).v r).bind fun w r => ((cE X x).o r).bind fun k r => match opdV r k with
    | some k => (setItemS r i k v.2).bind fun _ r => ((cE X y).o r).bind fun k r => (match opdV r k with
      | some k => (setItemS r i k w.2).bind fun _ r => .ok .next r
      | none => .st 65)
    | none => .st 65
  | .aug i o e, r => if isSet (slotAt r i) then ((cE X e).o r).bind fun y r => match opdV r (.ref i), opdV r y with
    | some (.int x), some (.int y) => (ofOV 67 (opSem o (.int x) (.int y)) r).bind fun v r => (store i v r).bind fun _ r => .ok .next r
    | some (.list xs), some (.list ys) => augL i o xs ys r
    | _, _ => .st 68
    else .st 68
  | .augset i ix o e, r => if isSet (slotAt r i) then ((cE X ix).o r).bind fun k r => match opdD r (.ref i), opdV r k with
    | some x, some kd => (match idxSem x kd, keyOk kd with
      | some (.int old), true => ((cE X e).o r).bind fun y r => (match opdV r y with
        | some (.int y) => (ofOV 69 (opSem o (.int old) (.int y)) r).bind fun v r => (setItemS r i kd v.2).bind fun _ r => .ok .next r
        | _ => .st 70)
      | _, _ => .st 71)
    | _, _ => .st 72
    else .st 72
  | .expr e, r => ((cE X e).v r).bind fun _ r => .ok .next r
  | .ite c a b, r => ((cE X c).t r).bind fun t r => if t then exK X a r else exK X b r
  | .for_ t it b, r => (cIt X it r).bind fun p r₀ =>
      ((loopS (fun d r => (assignT t (false, d) r).bind fun _ r => exK X b r) p.1 (p.2.foldl lockO r₀)).mapR fun r => p.2.foldl (unlockO r₀) r).bind fun w r => .ok w r
  | .while_ c b, r => loopW (cE X c).t (exK X b) X.wf r
  | .ret e, r => match e with
    | .var i => (match slotAt r i with
      | .ow d => .ok (.ret true d) (setSlot r i .no)
      | _ => (useVar i r).bind fun v r => .ok (.ret v.1 v.2) r)
    | e => ((cE X e).v r).bind fun v r => .ok (.ret v.1 v.2) r
  | .retn, r => .ok (.ret false .none) r
  | .raise k as, r => ((cEs X as).v r).bind fun ds r => .ex k ds r
  | .cont, r => .ok .cont r
  | .brk, r => .ok .brk r
  | .tryx b ks h, r => match exK X b r with
    | .ok w r => .ok w r
    | .ex k as r => if ks.contains k then exK X h r else .ex k as r
    | .st n => .st n
  | .bad n, _ => .st (2000 + n)

def runK (X : Cx) (fn : Fn) (ss : List Slot) : Res (Bool × D) :=
  if ss.length = fn.np then
    match exK X fn.body (ss ++ noSlots fn.more) with
    | .ok (.ret o d) r => .ok (o, d) r
    | .ok .next r => .ok (false, .none) r
    | .ok _ _ => .st 80
    | .ex k as r => .ex k as r
    | .st n => .st n
  else .st 81
def callK (p : Prog) (wf : Nat) : Nat → Call
  | 0 => fun _ _ => .st 90
  | k + 1 => fun f ss => match fnAt p.fn f with
    | some fn => runK (p.cx wf (callK p wf k)) fn ss
    | none => .st 91
end MW
end
section
set_option linter.all false
set_option maxRecDepth 100000
set_option maxHeartbeats 4000000
/-! EvE: the structural evaluator is the evaluator. -/
namespace MW
open PySem
theorem evO_val {X : Cx} {e : E} (h : ∀ i, e ≠ .var i) (h2 : ∀ i, e ≠ .glob i) : evO X e = oV (ev X e) := by
  funext r
  cases e <;> first | exact absurd rfl (h _) | exact absurd rfl (h2 _) | (simp only [evO]; rfl)
theorem evT_val {X : Cx} {e : E} (h : ∀ a, e ≠ .not a) (h2 : ∀ a b, e ≠ .and a b) (h3 : ∀ a b, e ≠ .or a b) : evT X e = tO (evO X e) := by
  funext r
  cases e <;> first | exact absurd rfl (h _) | exact absurd rfl (h2 _ _) | exact absurd rfl (h3 _ _) | (unfold evT; rfl)
structure CEq (X : Cx) (e : E) : Prop where
  v : (cE X e).v = ev X e
  o : (cE X e).o = evO X e
  t : (cE X e).t = evT X e
theorem CEq.of {X : Cx} {e : E} {f : Env → Res (Bool × D)} (h : cE X e = mkV f) (hv : f = ev X e) (n1 : ∀ i, e ≠ .var i) (n2 : ∀ i, e ≠ .glob i) (n3 : ∀ a, e ≠ .not a) (n4 : ∀ a b, e ≠ .and a b) (n5 : ∀ a b, e ≠ .or a b) : CEq X e := by
  subst hv
  refine ⟨by rw [h]; rfl, by rw [h, evO_val n1 n2]; rfl, by rw [h, evT_val n3 n4 n5, evO_val n1 n2]; rfl⟩
structure SEq (X : Cx) (es : Es) : Prop where
  o : (cEs X es).o = evOs X es
  v : (cEs X es).v = evs X es
  a : (cEs X es).a = fun bs => evArgs X bs es
mutual
theorem cE_eq (X : Cx) : ∀ e : E, CEq X e
  | .var i => ⟨by funext r; simp only [cE, ev] <;> rfl, by funext r; simp only [cE, evO] <;> rfl, by rw [evT_val (by intros; simp) (by intros; simp) (by intros; simp)]; simp only [cE]; congr 1; funext r; simp only [evO] <;> rfl⟩
  | .glob i => ⟨by funext r; simp only [cE, ev] <;> rfl, by funext r; simp only [cE, evO] <;> rfl, by rw [evT_val (by intros; simp) (by intros; simp) (by intros; simp)]; simp only [cE]; congr 1; funext r; simp only [evO] <;> rfl⟩
  | .not a => by
    have ha := cE_eq X a
    have hv : (cE X (.not a)).v = ev X (.not a) := by funext r; simp only [cE, ev, ha.o] <;> rfl
    refine ⟨hv, ?_, ?_⟩
    · rw [evO_val (by intros; simp) (by intros; simp), ← hv]; simp only [cE]
    · funext r; simp only [cE, evT, ha.t] <;> rfl
  | .and a b => by
    have ha := cE_eq X a
    have hb := cE_eq X b
    have hv : (cE X (.and a b)).v = ev X (.and a b) := by funext r; simp only [cE, ev, ha.v, hb.v] <;> rfl
    refine ⟨hv, ?_, ?_⟩
    · rw [evO_val (by intros; simp) (by intros; simp), ← hv]; simp only [cE]
    · funext r; simp only [cE, evT, ha.t, hb.t] <;> rfl
  | .or a b => by
    have ha := cE_eq X a
    have hb := cE_eq X b
    have hv : (cE X (.or a b)).v = ev X (.or a b) := by funext r; simp only [cE, ev, ha.v, hb.v] <;> rfl
    refine ⟨hv, ?_, ?_⟩
    · rw [evO_val (by intros; simp) (by intros; simp), ← hv]; simp only [cE]
    · funext r; simp only [cE, evT, ha.t, hb.t] <;> rfl
  | .const d => .of (by unfold cE; rfl) (by funext r; simp only [ev] <;> rfl) (by intros; simp) (by intros; simp) (by intros; simp) (by intros; simp) (by intros; simp)
  | .bin o a b => .of (by unfold cE; rfl) (by funext r; simp only [ev, (cE_eq X a).o, (cE_eq X b).o] <;> rfl) (by intros; simp) (by intros; simp) (by intros; simp) (by intros; simp) (by intros; simp)
  | .neg a => .of (by unfold cE; rfl) (by funext r; simp only [ev, (cE_eq X a).o] <;> rfl) (by intros; simp) (by intros; simp) (by intros; simp) (by intros; simp) (by intros; simp)
  | .cmp o a b => .of (by unfold cE; rfl) (by funext r; simp only [ev, (cE_eq X a).o, (cE_eq X b).o] <;> rfl) (by intros; simp) (by intros; simp) (by intros; simp) (by intros; simp) (by intros; simp)
  | .chain o p a b c => .of (by unfold cE; rfl) (by funext r; simp only [ev, (cE_eq X a).o, (cE_eq X b).o, (cE_eq X c).o] <;> rfl) (by intros; simp) (by intros; simp) (by intros; simp) (by intros; simp) (by intros; simp)
  | .ite c a b => .of (by unfold cE; rfl) (by funext r; simp only [ev, (cE_eq X c).t, (cE_eq X a).v, (cE_eq X b).v] <;> rfl) (by intros; simp) (by intros; simp) (by intros; simp) (by intros; simp) (by intros; simp)
  | .call f as => .of (by unfold cE; rfl) (by funext r; simp only [ev, (cEs_eq X as).a] <;> rfl) (by intros; simp) (by intros; simp) (by intros; simp) (by intros; simp) (by intros; simp)
  | .prim p as => .of (by unfold cE; rfl) (by funext r; simp only [ev, (cEs_eq X as).o] <;> rfl) (by intros; simp) (by intros; simp) (by intros; simp) (by intros; simp) (by intros; simp)
  | .meth m a as => .of (by unfold cE; rfl) (by funext r; simp only [ev, (cE_eq X a).o, (cEs_eq X as).o] <;> rfl) (by intros; simp) (by intros; simp) (by intros; simp) (by intros; simp) (by intros; simp)
  | .tup as => .of (by unfold cE; rfl) (by funext r; simp only [ev, (cEs_eq X as).v] <;> rfl) (by intros; simp) (by intros; simp) (by intros; simp) (by intros; simp) (by intros; simp)
  | .lst as => .of (by unfold cE; rfl) (by funext r; simp only [ev, (cEs_eq X as).v] <;> rfl) (by intros; simp) (by intros; simp) (by intros; simp) (by intros; simp) (by intros; simp)
  | .dic t as => .of (by unfold cE; rfl) (by funext r; simp only [ev, (cEs_eq X as).v] <;> rfl) (by intros; simp) (by intros; simp) (by intros; simp) (by intros; simp) (by intros; simp)
  | .idx a i => .of (by unfold cE; rfl) (by funext r; simp only [ev, (cE_eq X a).o, (cE_eq X i).o] <;> rfl) (by intros; simp) (by intros; simp) (by intros; simp) (by intros; simp) (by intros; simp)
  | .slice a lo hi => .of (by unfold cE; rfl) (by funext r; simp only [ev, (cE_eq X a).o, (cE_eq X lo).o, (cE_eq X hi).o] <;> rfl) (by intros; simp) (by intros; simp) (by intros; simp) (by intros; simp) (by intros; simp)
  | .rev a => .of (by unfold cE; rfl) (by funext r; simp only [ev, (cE_eq X a).o] <;> rfl) (by intros; simp) (by intros; simp) (by intros; simp) (by intros; simp) (by intros; simp)
  | .comp t it c e => .of (by unfold cE; rfl) (by funext r; simp only [ev, cIt_eq X it, (cE_eq X c).t, (cE_eq X e).v] <;> rfl) (by intros; simp) (by intros; simp) (by intros; simp) (by intros; simp) (by intros; simp)
  | .comp2 t it t2 it2 c e => .of (by unfold cE; rfl) (by funext r; simp only [ev, cIt_eq X it, cIt_eq X it2, (cE_eq X c).t, (cE_eq X e).v] <;> rfl) (by intros; simp) (by intros; simp) (by intros; simp) (by intros; simp) (by intros; simp)
  | .coll tu it => .of (by unfold cE; rfl) (by funext r; simp only [ev, cIt_eq X it] <;> rfl) (by intros; simp) (by intros; simp) (by intros; simp) (by intros; simp) (by intros; simp)
  | .same a b => .of (by unfold cE; rfl) (by funext r; simp only [ev, (cE_eq X a).o, (cE_eq X b).o] <;> rfl) (by intros; simp) (by intros; simp) (by intros; simp) (by intros; simp) (by intros; simp)
  | .append i e => .of (by unfold cE; rfl) (by funext r; simp only [ev, (cE_eq X e).v] <;> rfl) (by intros; simp) (by intros; simp) (by intros; simp) (by intros; simp) (by intros; simp)
  | .pop i => .of (by unfold cE; rfl) (by funext r; simp only [ev] <;> rfl) (by intros; simp) (by intros; simp) (by intros; simp) (by intros; simp) (by intros; simp)
  | .popat i e => .of (by unfold cE; rfl) (by funext r; simp only [ev, (cE_eq X e).o] <;> rfl) (by intros; simp) (by intros; simp) (by intros; simp) (by intros; simp) (by intros; simp)
  | .remove i e => .of (by unfold cE; rfl) (by funext r; simp only [ev, (cE_eq X e).o] <;> rfl) (by intros; simp) (by intros; simp) (by intros; simp) (by intros; simp) (by intros; simp)
  | .told f e => .of (by unfold cE; rfl) (by funext r; simp only [ev, (cE_eq X e).v] <;> rfl) (by intros; simp) (by intros; simp) (by intros; simp) (by intros; simp) (by intros; simp)
  | .sortkey a i k => .of (by unfold cE; rfl) (by funext r; simp only [ev, (cE_eq X a).o, (cE_eq X k).v] <;> rfl) (by intros; simp) (by intros; simp) (by intros; simp) (by intros; simp) (by intros; simp)
  | .bad n => .of (by unfold cE; rfl) (by funext r; simp only [ev] <;> rfl) (by intros; simp) (by intros; simp) (by intros; simp) (by intros; simp) (by intros; simp)
theorem cEs_eq (X : Cx) : ∀ es : Es, SEq X es
  | .nil => ⟨by funext r; simp only [cEs, evOs] <;> rfl, by funext r; simp only [cEs, evs] <;> rfl, by funext bs r; simp only [cEs, evArgs] <;> rfl⟩
  | .cons e es => by
    have he := cE_eq X e
    have hs := cEs_eq X es
    refine ⟨?_, ?_, ?_⟩
    · funext r; simp only [cEs, evOs, he.o, hs.o] <;> rfl
    · funext r; simp only [cEs, evs, he.v, hs.v] <;> rfl
    · funext bs r; unfold cEs evArgs; simp only [he.v, hs.a] <;> rfl
theorem cIt_eq (X : Cx) : ∀ it : It, cIt X it = evIt X it
  | .seq e => by funext r; simp only [cIt, evIt, (cE_eq X e).o] <;> rfl
  | .range1 e => by funext r; simp only [cIt, evIt, (cE_eq X e).o] <;> rfl
  | .range2 a b => by funext r; simp only [cIt, evIt, (cE_eq X a).o, (cE_eq X b).o] <;> rfl
  | .range3 a b c => by funext r; simp only [cIt, evIt, (cE_eq X a).o, (cE_eq X b).o, (cE_eq X c).o] <;> rfl
  | .enum e => by funext r; simp only [cIt, evIt, (cE_eq X e).o] <;> rfl
  | .zip2 a b => by funext r; simp only [cIt, evIt, (cE_eq X a).o, (cE_eq X b).o] <;> rfl
  | .zip3 a b c => by funext r; simp only [cIt, evIt] <;> rfl
end
theorem exK_eq (X : Cx) : ∀ s : S, exK X s = ex X s
  | .skip => by funext r; simp only [exK, ex] <;> rfl
  | .seq a b => by funext r; simp only [exK, ex, exK_eq X a, exK_eq X b] <;> rfl
  | .asg t e => by funext r; simp only [exK, ex, (cE_eq X e).v] <;> rfl
  | .par2 i j a b => by funext r; simp only [exK, ex, (cE_eq X a).v, (cE_eq X b).v] <;> rfl
  | .par3 i j k a b c => by funext r; simp only [exK, ex, (cE_eq X a).v, (cE_eq X b).v, (cE_eq X c).v] <;> rfl
  | .set i ix e => by funext r; simp only [exK, ex, (cE_eq X e).v, (cE_eq X ix).o] <;> rfl
  | .swap i x y e1 e2 => by funext r; simp only [exK, ex, (cE_eq X x).o, (cE_eq X y).o, (cE_eq X e1).v, (cE_eq X e2).v] <;> rfl
  | .aug i o e => by funext r; simp only [exK, ex, (cE_eq X e).o] <;> rfl
  | .augset i ix o e => by funext r; simp only [exK, ex, (cE_eq X e).o, (cE_eq X ix).o] <;> rfl
  | .expr e => by funext r; simp only [exK, ex, (cE_eq X e).v] <;> rfl
  | .ite c a b => by funext r; simp only [exK, ex, (cE_eq X c).t, exK_eq X a, exK_eq X b] <;> rfl
  | .for_ t it b => by funext r; simp only [exK, ex, cIt_eq X it, exK_eq X b] <;> rfl
  | .while_ c b => by funext r; simp only [exK, ex, (cE_eq X c).t, exK_eq X b] <;> rfl
  | .ret e => by funext r; have h := (cE_eq X e).v; cases e <;> first | (simp only [exK, ex, h] <;> rfl) | (simp only [exK, ex] <;> rfl)
  | .retn => by funext r; simp only [exK, ex] <;> rfl
  | .raise k as => by funext r; simp only [exK, ex, (cEs_eq X as).v] <;> rfl
  | .cont => by funext r; simp only [exK, ex] <;> rfl
  | .brk => by funext r; simp only [exK, ex] <;> rfl
  | .tryx b ks h => by funext r; simp only [exK, ex, exK_eq X b, exK_eq X h] <;> rfl
  | .bad n => by funext r; simp only [exK, ex] <;> rfl
theorem runK_eq (X : Cx) (fn : Fn) (ss : List Slot) : runK X fn ss = runFn X fn ss := by
  unfold runK runFn
  rw [exK_eq]
  first | done | rfl
theorem callK_eq (p : Prog) (wf : Nat) : ∀ n, callK p wf n = callN p wf n
  | 0 => rfl
  | n + 1 => by
    funext f ss
    show (match fnAt p.fn f with | some fn => runK (p.cx wf (callK p wf n)) fn ss | none => .st 91) = (match fnAt p.fn f with | some fn => runFn (p.cx wf (callN p wf n)) fn ss | none => .st 91)
    rw [callK_eq p wf n]
    cases fnAt p.fn f with
    | none => rfl
    | some fn => exact runK_eq _ _ _
end MW
end
section
set_option linter.all false
set_option maxRecDepth 100000
set_option maxHeartbeats 4000000
/-! EvM: what runs where fewer names are set runs alike where more are. -/
namespace MW
open PySem
def SlotLe (s s' : Slot) : Prop := s = s' ∨ (s = .no ∧ (s' = .no ∨ ∃ d, s' = .fz d ∨ s' = .ow d))
structure EnvLe (r r' : Env) : Prop where
  len : r.length = r'.length
  le : ∀ i, SlotLe (slotAt r i) (slotAt r' i)
def RLe {A : Type} : Res A → Res A → Prop
  | .ok a r, x' => ∃ r', x' = .ok a r' ∧ EnvLe r r'
  | .ex k as r, x' => ∃ r', x' = .ex k as r' ∧ EnvLe r r'
  | .st _, _ => True
def Mo {A : Type} (f : Env → Res A) : Prop := ∀ r r', EnvLe r r' → RLe (f r) (f r')
theorem SlotLe.refl (s : Slot) : SlotLe s s := .inl rfl
theorem SlotLe.eq {s s' : Slot} (h : SlotLe s s') (n : s ≠ .no) : s' = s := by
  rcases h with h | ⟨h, _⟩
  · exact h.symm
  · exact absurd h n
theorem EnvLe.refl (r : Env) : EnvLe r r := ⟨rfl, fun i => .refl _⟩
theorem SlotLe.trans {a b c : Slot} (h : SlotLe a b) (g : SlotLe b c) : SlotLe a c := by
  rcases h with rfl | ⟨rfl, h⟩
  · exact g
  · rcases g with rfl | ⟨rfl, g⟩
    · exact .inr ⟨rfl, h⟩
    · exact .inr ⟨rfl, g⟩
theorem EnvLe.trans {a b c : Env} (h : EnvLe a b) (g : EnvLe b c) : EnvLe a c := ⟨h.len.trans g.len, fun i => (h.le i).trans (g.le i)⟩
theorem EnvLe.eq {r r' : Env} (h : EnvLe r r') {i : Nat} (n : slotAt r i ≠ .no) : slotAt r' i = slotAt r i := (h.le i).eq n
theorem at_set : ∀ (r : Env) (k : Nat) (s : Slot) (i : Nat), slotAt (setSlot r k s) i = if i = k ∧ k < r.length then s else slotAt r i
  | [], k, s, i => by simp [setSlot]
  | x :: r, 0, s, 0 => by simp [setSlot, slotAt]
  | x :: r, 0, s, i + 1 => by simp [setSlot, slotAt]
  | x :: r, k + 1, s, 0 => by simp [setSlot, slotAt]
  | x :: r, k + 1, s, i + 1 => by
    have := at_set r k s i
    simp only [setSlot, slotAt, List.length_cons, Nat.add_lt_add_iff_right, Nat.add_right_cancel_iff]
    exact this
theorem len_set : ∀ (r : Env) (k : Nat) (s : Slot), (setSlot r k s).length = r.length
  | [], _, _ => rfl
  | _ :: _, 0, _ => rfl
  | _ :: r, k + 1, s => by
    show (setSlot r k s).length + 1 = r.length + 1
    rw [len_set r k s]
theorem EnvLe.set {r r' : Env} (h : EnvLe r r') (k : Nat) {s s' : Slot} (hs : SlotLe s s') : EnvLe (setSlot r k s) (setSlot r' k s') := by
  refine ⟨by rw [len_set, len_set, h.len], fun i => ?_⟩
  rw [at_set, at_set, h.len]
  split
  · exact hs
  · exact h.le i
theorem RLe.bnd {A B : Type} {x x' : Res A} {f f' : A → Env → Res B} (h : RLe x x') (g : ∀ a r r', EnvLe r r' → RLe (f a r) (f' a r')) : RLe (x.bind f) (x'.bind f') := by
  cases x with
  | ok a r =>
    obtain ⟨r', rfl, e⟩ := h
    exact g a r r' e
  | ex k as r =>
    obtain ⟨r', rfl, e⟩ := h
    exact ⟨r', rfl, e⟩
  | st n => trivial
theorem RLe.okk {A : Type} {a : A} {r r' : Env} (h : EnvLe r r') : RLe (.ok a r) (.ok a r') := ⟨r', rfl, h⟩
/-! operands -/
theorem opdD_le {r r' : Env} (h : EnvLe r r') {x : Opd} {d : D} (e : opdD r x = some d) : opdD r' x = some d := by
  cases x with
  | val o c => exact e
  | cst c => exact e
  | ref i =>
    simp only [opdD] at e ⊢
    have n : slotAt r i ≠ .no := fun z => by rw [z] at e; cases e
    rw [h.eq n]
    exact e
theorem opdV_le {r r' : Env} (h : EnvLe r r') {x : Opd} {d : D} (e : opdV r x = some d) : opdV r' x = some d := by
  cases x with
  | cst c => exact e
  | val o c => exact opdD_le h (x := .val o c) e
  | ref i => exact opdD_le h (x := .ref i) e
theorem opdsD_le {r r' : Env} (h : EnvLe r r') : ∀ {xs : List Opd} {ds : List D}, opdsD r xs = some ds → opdsD r' xs = some ds
  | [], ds, e => e
  | x :: xs, ds, e => by
    simp only [opdsD] at e ⊢
    cases hx : opdV r x with
    | none => rw [hx] at e; cases e
    | some d =>
      rw [hx] at e
      rw [opdV_le h hx]
      cases hs : opdsD r xs with
      | none => rw [hs] at e; cases e
      | some es =>
        rw [hs] at e
        rw [opdsD_le h hs]
        exact e
theorem mo_ofOV {n : Nat} {x : OV} {r r' : Env} (h : EnvLe r r') : RLe (ofOV n x r) (ofOV n x r') := by
  cases x with
  | none => trivial
  | some v => exact .okk h
theorem mo_useVar {i : Nat} {r r' : Env} (h : EnvLe r r') : RLe (useVar i r) (useVar i r') := by
  unfold useVar
  cases hs : slotAt r i with
  | no => trivial
  | fz d => rw [h.eq (by rw [hs]; simp), hs]; exact .okk h
  | ow d => rw [h.eq (by rw [hs]; simp), hs]; exact .okk (h.set i (.refl _))
  | lk d => trivial
  | io d => trivial
theorem mo_store {i : Nat} {v : Bool × D} {r r' : Env} (h : EnvLe r r') : RLe (store i v r) (store i v r') := by
  unfold store
  cases hs : slotAt r i with
  | no =>
    have q := h.le i
    rw [hs] at q
    rcases q with q | ⟨_, q | ⟨d, q | q⟩⟩
    · rw [← q]; exact .okk (h.set i (.refl _))
    · rw [q]; exact .okk (h.set i (.refl _))
    · rw [q]; exact .okk (h.set i (.refl _))
    · rw [q]; exact .okk (h.set i (.refl _))
  | fz d => rw [h.eq (by rw [hs]; simp), hs]; exact .okk (h.set i (.refl _))
  | ow d => rw [h.eq (by rw [hs]; simp), hs]; exact .okk (h.set i (.refl _))
  | lk d => trivial
  | io d => trivial
theorem mo_assign : ∀ {t : T} {v : Bool × D} {r r' : Env}, EnvLe r r' → RLe (assignT t v r) (assignT t v r')
  | .name i, v, r, r', h => mo_store h
  | .two a b, v, r, r', h => by
    unfold assignT
    split
    · exact (mo_assign h).bnd fun _ r r' h => mo_assign h
    · trivial
  | .three a b c, v, r, r', h => by
    unfold assignT
    split
    · exact (mo_assign h).bnd fun _ r r' h => (mo_assign h).bnd fun _ r r' h => mo_assign h
    · trivial
  | .four a b c d, v, r, r', h => by
    unfold assignT
    split
    · exact (mo_assign h).bnd fun _ r r' h => (mo_assign h).bnd fun _ r r' h => (mo_assign h).bnd fun _ r r' h => mo_assign h
    · trivial
theorem le_wipe : ∀ {t : T} {r r' : Env}, EnvLe r r' → EnvLe (wipeT t r) (wipeT t r')
  | .name i, r, r', h => h.set i (.refl _)
  | .two a b, r, r', h => le_wipe (t := b) (le_wipe (t := a) h)
  | .three a b c, r, r', h => le_wipe (t := c) (le_wipe (t := b) (le_wipe (t := a) h))
  | .four a b c d, r, r', h => le_wipe (t := d) (le_wipe (t := c) (le_wipe (t := b) (le_wipe (t := a) h)))
theorem le_back {r₀ r₀' : Env} (h0 : EnvLe r₀ r₀') : ∀ {t : T} {r r' : Env}, EnvLe r r' → EnvLe (backT r₀ t r) (backT r₀' t r')
  | .name i, r, r', h => h.set i (h0.le i)
  | .two a b, r, r', h => le_back h0 (t := b) (le_back h0 (t := a) h)
  | .three a b c, r, r', h => le_back h0 (t := c) (le_back h0 (t := b) (le_back h0 (t := a) h))
  | .four a b c d, r, r', h => le_back h0 (t := d) (le_back h0 (t := c) (le_back h0 (t := b) (le_back h0 (t := a) h)))
/-- an operand whose place is set -/
def setO (r : Env) : Opd → Prop
  | .ref i => slotAt r i ≠ .no
  | _ => True
theorem set_of {r : Env} {x : Opd} {d : D} (h : opdD r x = some d) : setO r x := by
  cases x with
  | ref i =>
    intro z
    simp only [opdD, z] at h
    cases h
  | _ => trivial
theorem le_lock {r r' : Env} {x : Opd} (h : EnvLe r r') (s : setO r x) : EnvLe (lockO r x) (lockO r' x) := by
  cases x with
  | ref i =>
    have e := h.eq s
    simp only [lockO, e]
    cases slotAt r i with
    | ow d => exact h.set i (.refl _)
    | _ => exact h
  | _ => exact h
theorem set_lock {r : Env} {x y : Opd} (s : setO r x) : setO (lockO r y) x := by
  cases x with
  | ref i =>
    cases y with
    | ref j =>
      simp only [lockO]
      cases hs : slotAt r j with
      | ow d =>
        show slotAt (setSlot r j (.lk d)) i ≠ .no
        rw [at_set]
        split
        · simp
        · exact s
      | _ => exact s
    | _ => exact s
  | _ => trivial
theorem le_locks {xs : List Opd} : ∀ {r r' : Env}, EnvLe r r' → (∀ x ∈ xs, setO r x) → EnvLe (xs.foldl lockO r) (xs.foldl lockO r') := by
  induction xs with
  | nil => exact fun h _ => h
  | cons x xs ih => exact fun h s => ih (le_lock h (s x (.head _))) fun y hy => set_lock (s y (.tail _ hy))
theorem le_unlock {r₀ r₀' r r' : Env} {x : Opd} (h0 : EnvLe r₀ r₀') (s : setO r₀ x) (h : EnvLe r r') : EnvLe (unlockO r₀ r x) (unlockO r₀' r' x) := by
  cases x with
  | ref i =>
    have e := h0.eq s
    simp only [unlockO, e]
    cases hq : slotAt r₀ i with
    | ow c =>
      rcases h.le i with q | ⟨q, q' | ⟨d, q' | q'⟩⟩
      · rw [← q]
        cases slotAt r i with
        | lk d => exact h.set i (.refl _)
        | _ => exact h
      · rw [q, q']; exact h
      · rw [q, q']; exact h
      · rw [q, q']; exact h
    | _ => exact h
  | _ => exact h
theorem le_unlocks {r₀ r₀' : Env} (h0 : EnvLe r₀ r₀') {xs : List Opd} : ∀ {r r' : Env}, (∀ x ∈ xs, setO r₀ x) → EnvLe r r' → EnvLe (xs.foldl (unlockO r₀) r) (xs.foldl (unlockO r₀') r') := by
  induction xs with
  | nil => exact fun _ h => h
  | cons x xs ih => exact fun s h => ih (fun y hy => s y (.tail _ hy)) (le_unlock h0 (s x (.head _)) h)
theorem mo_loopE {f f' : D → Env → Res (List D)} (hf : ∀ d r r', EnvLe r r' → RLe (f d r) (f' d r')) : ∀ {xs : List D} {r r' : Env}, EnvLe r r' → RLe (loopE f xs r) (loopE f' xs r')
  | [], r, r', h => .okk h
  | x :: xs, r, r', h => (hf x r r' h).bnd fun _ r r' h => (mo_loopE hf h).bnd fun _ r r' h => .okk h
theorem mo_loopS {f f' : D → Env → Res MW.Flow} (hf : ∀ d r r', EnvLe r r' → RLe (f d r) (f' d r')) : ∀ {xs : List D} {r r' : Env}, EnvLe r r' → RLe (loopS f xs r) (loopS f' xs r')
  | [], r, r', h => .okk h
  | x :: xs, r, r', h => (hf x r r' h).bnd fun w r r' h => by
    cases w with
    | next => exact mo_loopS hf h
    | cont => exact mo_loopS hf h
    | brk => exact .okk h
    | ret o d => exact .okk h
theorem mo_loopW {c : Env → Res Bool} {b : Env → Res MW.Flow} (hc : Mo c) (hb : Mo b) : ∀ {n : Nat} {r r' : Env}, EnvLe r r' → RLe (loopW c b n r) (loopW c b n r')
  | 0, r, r', h => trivial
  | n + 1, r, r', h => (hc r r' h).bnd fun t r r' h => by
    cases t with
    | false => exact .okk h
    | true =>
      refine (hb r r' h).bnd fun w r r' h => ?_
      cases w with
      | next => exact mo_loopW hc hb h
      | cont => exact mo_loopW hc hb h
      | brk => exact .okk h
      | ret o d => exact .okk h
theorem le_mapN {A : Type} {x x' : Res A} {f f' : Env → Env} (h : RLe x x') (hf : ∀ r r', EnvLe r r' → EnvLe (f r) (f' r')) : RLe (x.mapN f) (x'.mapN f') := by
  cases x with
  | ok a r =>
    obtain ⟨r', rfl, e⟩ := h
    exact .okk (hf r r' e)
  | ex k as r => trivial
  | st n => trivial
theorem le_mapR {A : Type} {x x' : Res A} {f f' : Env → Env} (h : RLe x x') (hf : ∀ r r', EnvLe r r' → EnvLe (f r) (f' r')) : RLe (x.mapR f) (x'.mapR f') := by
  cases x with
  | ok a r =>
    obtain ⟨r', rfl, e⟩ := h
    exact .okk (hf r r' e)
  | ex k as r =>
    obtain ⟨r', rfl, e⟩ := h
    exact ⟨_, rfl, hf r r' e⟩
  | st n => trivial
/-! calls -/
theorem args_le {r r' : Env} (h : EnvLe r r') : ∀ {xs : List Arg} {ss : List Slot}, argSlots r xs = some ss → argSlots r' xs = some ss
  | [], ss, e => e
  | .val d :: xs, ss, e => by
    simp only [argSlots] at e ⊢
    cases hs : argSlots r xs with
    | none => rw [hs] at e; cases e
    | some es => rw [hs] at e; rw [args_le h hs]; exact e
  | .io i :: xs, ss, e => by
    simp only [argSlots] at e ⊢
    split at e
    · rename_i hn
      rw [if_pos hn]
      have n : slotAt r i ≠ .no := fun z => by rw [z] at e; cases e
      rw [h.eq n]
      cases hs : argSlots r xs with
      | none => rw [hs] at e; split at e <;> cases e
      | some es => rw [hs] at e; rw [args_le h hs]; exact e
    · cases e
theorem take_le : ∀ {xs : List Arg} {s : Env} {r r' r1 : Env}, EnvLe r r' → takeBack r xs s = some r1 → ∃ r1', takeBack r' xs s = some r1' ∧ EnvLe r1 r1'
  | [], s, r, r', r1, h, e => by
    cases s <;> cases e <;> exact ⟨r', rfl, h⟩
  | .val d :: xs, s, r, r', r1, h, e => by
    cases s with
    | nil => cases e
    | cons c s => exact take_le (xs := xs) h e
  | .io i :: xs, s, r, r', r1, h, e => by
    unfold takeBack at e ⊢
    split at e
    · rename_i d s2
      have n : slotAt r i ≠ .no := fun z => by rw [z] at e; cases e
      rw [h.eq n]
      split at e
      · rename_i c hc
        exact take_le (xs := xs) (h.set i (.refl _)) e
      · rename_i c hc
        exact take_le (xs := xs) (h.set i (.refl _)) e
      · cases e
    · cases e
theorem mo_oV {v : Env → Res (Bool × D)} (h : Mo v) : Mo (oV v) := fun r r' e => (h r r' e).bnd fun _ r r' e => .okk e
theorem mo_tO {o : Env → Res Opd} (h : Mo o) : Mo (tO o) := fun r r' e => (h r r' e).bnd fun x r r' e => by
  cases hx : (opdV r x).bind tru with
  | none => trivial
  | some t =>
    obtain ⟨d, h1, h2⟩ := Option.bind_eq_some_iff.mp hx
    simp only [opdV_le e h1, Option.bind_some, h2]
    exact .okk e
structure MoT (T : Tr) : Prop where
  v : Mo T.v
  o : Mo T.o
  t : Mo T.t
theorem mo_mk {v : Env → Res (Bool × D)} (h : Mo v) : MoT (mkV v) := ⟨h, mo_oV h, mo_tO (mo_oV h)⟩
structure MoS (T : TrS) : Prop where
  o : Mo T.o
  v : Mo T.v
  a : ∀ bs, Mo (T.a bs)
/-- what is walked: the operands are set -/
def MoI (f : Env → Res (List D × List Opd)) : Prop := Mo f ∧ ∀ r p r', f r = .ok p r' → ∀ x ∈ p.2, setO r' x
theorem MoI.get {f : Env → Res (List D × List Opd)} (h : MoI f) {B : Type} {g g' : List D × List Opd → Env → Res B} {r r' : Env} (e : EnvLe r r') (k : ∀ p r r', EnvLe r r' → (∀ x ∈ p.2, setO r x) → RLe (g p r) (g' p r')) : RLe ((f r).bind g) ((f r').bind g') := by
  have q := h.1 r r' e
  have s := h.2 r
  cases hf : f r with
  | ok p r1 =>
    rw [hf] at q
    obtain ⟨r1', e1, e2⟩ := q
    rw [e1]
    exact k p r1 r1' e2 (s p r1 hf)
  | ex a as r1 =>
    rw [hf] at q
    obtain ⟨r1', e1, e2⟩ := q
    rw [e1]
    exact ⟨r1', rfl, e2⟩
  | st n => trivial
mutual
theorem mo_E (X : Cx) : ∀ e : E, MoT (cE X e)
  | .var i => by
    have o : Mo fun r => if isSet (slotAt r i) then Res.ok (Opd.ref i) r else .st 5 := fun r r' e => by
      dsimp only
      cases hs : slotAt r i with
      | no => trivial
      | _ => rw [e.eq (by rw [hs]; simp), hs]; exact .okk e
    refine ⟨fun r r' e => ?_, ?_, ?_⟩
    · simp only [cE]; exact mo_useVar e
    · simp only [cE]; exact o
    · simp only [cE]; exact mo_tO o
  | .glob g => by
    have o : Mo fun r => Res.ok (Opd.cst (X.glob g)) r := fun r r' e => .okk e
    refine ⟨fun r r' e => ?_, ?_, ?_⟩
    · simp only [cE]
      split
      · exact .okk e
      · trivial
    · simp only [cE]; exact o
    · simp only [cE]; exact mo_tO o
  | .not a => by
    have ha := mo_E X a
    have hv : Mo (cE X (.not a)).v := fun r r' e => by
      simp only [cE]
      refine (ha.o r r' e).bnd fun x r r' e => ?_
      cases hx : (opdV r x).bind tru with
      | none => trivial
      | some t =>
        obtain ⟨d, h1, h2⟩ := Option.bind_eq_some_iff.mp hx
        simp only [opdV_le e h1, Option.bind_some, h2]
        exact .okk e
    refine ⟨hv, ?_, fun r r' e => ?_⟩
    · have : (cE X (.not a)).o = oV (cE X (.not a)).v := by simp only [cE]
      rw [this]; exact mo_oV hv
    · simp only [cE]
      exact (ha.t r r' e).bnd fun t r r' e => .okk e
  | .and a b => by
    have ha := mo_E X a
    have hb := mo_E X b
    have hv : Mo (cE X (.and a b)).v := fun r r' e => by
      simp only [cE]
      refine (ha.v r r' e).bnd fun x r r' e => ?_
      cases tru x.2 with
      | none => trivial
      | some t => cases t with
        | true => exact hb.v r r' e
        | false => exact .okk e
    refine ⟨hv, ?_, fun r r' e => ?_⟩
    · have : (cE X (.and a b)).o = oV (cE X (.and a b)).v := by simp only [cE]
      rw [this]; exact mo_oV hv
    · simp only [cE]
      refine (ha.t r r' e).bnd fun t r r' e => ?_
      cases t with
      | true => exact hb.t r r' e
      | false => exact .okk e
  | .or a b => by
    have ha := mo_E X a
    have hb := mo_E X b
    have hv : Mo (cE X (.or a b)).v := fun r r' e => by
      simp only [cE]
      refine (ha.v r r' e).bnd fun x r r' e => ?_
      cases tru x.2 with
      | none => trivial
      | some t => cases t with
        | false => exact hb.v r r' e
        | true => exact .okk e
    refine ⟨hv, ?_, fun r r' e => ?_⟩
    · have : (cE X (.or a b)).o = oV (cE X (.or a b)).v := by simp only [cE]
      rw [this]; exact mo_oV hv
    · simp only [cE]
      refine (ha.t r r' e).bnd fun t r r' e => ?_
      cases t with
      | false => exact hb.t r r' e
      | true => exact .okk e
  | .const d => by
    unfold cE
    exact mo_mk fun r r' e => .okk e
  | .bin o a b => by
    have ha := mo_E X a
    have hb := mo_E X b
    unfold cE
    exact mo_mk fun r r' e => (ha.o r r' e).bnd fun x r r' e => (hb.o r r' e).bnd fun y r r' e => by
      cases h1 : opdV r x with
      | none => trivial
      | some u =>
        cases h2 : opdV r y with
        | none => trivial
        | some v =>
          simp only [opdV_le e h1, opdV_le e h2]
          exact mo_ofOV e
  | .neg a => by
    have ha := mo_E X a
    unfold cE
    exact mo_mk fun r r' e => (ha.o r r' e).bnd fun x r r' e => by
      cases h1 : opdD r x with
      | none => trivial
      | some u =>
        simp only [opdD_le e h1]
        cases u <;> first | trivial | exact .okk e
  | .cmp o a b => by
    have ha := mo_E X a
    have hb := mo_E X b
    unfold cE
    exact mo_mk fun r r' e => (ha.o r r' e).bnd fun x r r' e => (hb.o r r' e).bnd fun y r r' e => by
      cases h1 : opdV r x with
      | none => trivial
      | some u =>
        cases h2 : opdD r y with
        | none => trivial
        | some v =>
          simp only [opdV_le e h1, opdD_le e h2]
          cases cmpSem o u v with
          | none => trivial
          | some t => exact .okk e
  | .chain o p a b c => by
    have ha := mo_E X a
    have hb := mo_E X b
    have hc := mo_E X c
    unfold cE
    exact mo_mk fun r r' e => (ha.o r r' e).bnd fun x r r' e => (hb.o r r' e).bnd fun y r r' e => by
      cases h1 : opdV r x with
      | none => trivial
      | some u =>
        cases h2 : opdV r y with
        | none => trivial
        | some v =>
          simp only [opdV_le e h1, opdV_le e h2]
          cases cmpSem o u v with
          | none => trivial
          | some t => cases t with
            | false => exact .okk e
            | true =>
              refine (hc.o r r' e).bnd fun z r r' e => ?_
              cases h3 : opdV r y with
              | none => trivial
              | some d =>
                cases h4 : opdD r z with
                | none => trivial
                | some w =>
                  simp only [opdV_le e h3, opdD_le e h4]
                  cases cmpSem p d w with
                  | none => trivial
                  | some t => exact .okk e
  | .ite c a b => by
    have hc := mo_E X c
    have ha := mo_E X a
    have hb := mo_E X b
    unfold cE
    exact mo_mk fun r r' e => (hc.t r r' e).bnd fun t r r' e => by
      cases t with
      | true => exact ha.v r r' e
      | false => exact hb.v r r' e
  | .call f as => by
    have h := mo_Es X as
    unfold cE
    exact mo_mk fun r r' e => (h.a _ r r' e).bnd fun xs r r' e => by
      cases h1 : argSlots r xs with
      | none => trivial
      | some ss =>
        simp only [args_le e h1]
        cases X.call f ss with
        | st n => trivial
        | ok v s =>
          simp only
          cases h2 : takeBack r xs s with
          | none => trivial
          | some r1 =>
            obtain ⟨r1', h3, e1⟩ := take_le e h2
            simp only [h3]
            exact .okk e1
        | ex k as s =>
          simp only
          cases h2 : takeBack r xs s with
          | none => trivial
          | some r1 =>
            obtain ⟨r1', h3, e1⟩ := take_le e h2
            simp only [h3]
            exact ⟨r1', rfl, e1⟩
  | .prim p as => by
    have h := mo_Es X as
    unfold cE
    exact mo_mk fun r r' e => (h.o r r' e).bnd fun xs r r' e => by
      cases h1 : opdsD r xs with
      | none => trivial
      | some ds =>
        simp only [opdsD_le e h1]
        exact mo_ofOV e
  | .meth m a as => by
    have ha := mo_E X a
    have h := mo_Es X as
    unfold cE
    exact mo_mk fun r r' e => (ha.o r r' e).bnd fun x r r' e => by
      cases h1 : opdD r x with
      | none => trivial
      | some d0 =>
        simp only [opdD_le e h1]
        split
        · refine (h.o r r' e).bnd fun xs r r' e => ?_
          cases h2 : opdD r x with
          | none => trivial
          | some d =>
            cases h3 : opdsD r xs with
            | none => trivial
            | some ds =>
              simp only [opdD_le e h2, opdsD_le e h3]
              split
              · exact mo_ofOV e
              · trivial
        · trivial
  | .tup as => by
    have h := mo_Es X as
    unfold cE
    exact mo_mk fun r r' e => (h.v r r' e).bnd fun xs r r' e => .okk e
  | .lst as => by
    have h := mo_Es X as
    unfold cE
    exact mo_mk fun r r' e => (h.v r r' e).bnd fun xs r r' e => .okk e
  | .dic t as => by
    have h := mo_Es X as
    unfold cE
    exact mo_mk fun r r' e => (h.v r r' e).bnd fun xs r r' e => by
      cases pairsK xs [] with
      | some _ => exact .okk e
      | none => trivial
  | .idx a i => by
    have ha := mo_E X a
    have hi := mo_E X i
    unfold cE
    exact mo_mk fun r r' e => (ha.o r r' e).bnd fun x r r' e => (hi.o r r' e).bnd fun y r r' e => by
      cases h1 : opdD r x with
      | none => trivial
      | some u =>
        cases h2 : opdV r y with
        | none => trivial
        | some v =>
          simp only [opdD_le e h1, opdV_le e h2]
          cases idxSem u v with
          | none => trivial
          | some t => exact .okk e
  | .slice a lo hi => by
    have ha := mo_E X a
    have hl := mo_E X lo
    have hh := mo_E X hi
    have part : ∀ (b : Bool) (f : Env → Res Opd), Mo f → ∀ r r', EnvLe r r' → RLe (partR b (f r) r) (partR b (f r') r') := fun b f hf r r' e => by
      unfold partR
      cases b with
      | true => exact .okk e
      | false =>
        refine (hf r r' e).bnd fun y r r' e => ?_
        cases h1 : opdD r y with
        | none => trivial
        | some u =>
          simp only [opdD_le e h1]
          cases u <;> first | trivial | exact .okk e
    unfold cE
    exact mo_mk fun r r' e => (ha.o r r' e).bnd fun x r r' e => (part _ _ hl.o r r' e).bnd fun l r r' e => (part _ _ hh.o r r' e).bnd fun u r r' e => by
      cases h1 : opdV r x with
      | none => trivial
      | some v =>
        simp only [opdV_le e h1]
        exact mo_ofOV e
  | .rev a => by
    have ha := mo_E X a
    unfold cE
    exact mo_mk fun r r' e => (ha.o r r' e).bnd fun x r r' e => by
      cases h1 : opdV r x with
      | none => trivial
      | some v =>
        simp only [opdV_le e h1]
        exact mo_ofOV e
  | .comp t it c e => by
    have hi := mo_It X it
    have hc := mo_E X c
    have he := mo_E X e
    unfold cE
    refine mo_mk fun r r' h => hi.get h fun p r₀ r₀' h0 s => ?_
    split
    · trivial
    · refine RLe.bnd (le_mapN (mo_loopE (fun d r r' h => ?_) (le_wipe (le_locks h0 s))) fun r r' h => le_unlocks h0 s (le_back h0 h)) fun ds r r' h => .okk h
      refine (mo_assign h).bnd fun _ r r' h => (hc.t r r' h).bnd fun t' r r' h => ?_
      cases t' with
      | true => exact (he.v r r' h).bnd fun v r r' h => .okk (le_wipe h)
      | false => exact .okk (le_wipe h)
  | .comp2 t it t2 it2 c e => by
    have hi := mo_It X it
    have hi2 := mo_It X it2
    have hc := mo_E X c
    have he := mo_E X e
    unfold cE
    refine mo_mk fun r r' h => hi.get h fun p r₀ r₀' h0 s => ?_
    split
    · trivial
    · refine RLe.bnd (le_mapN (mo_loopE (fun d r r' h => ?_) (le_wipe (le_locks h0 s))) fun r r' h => le_unlocks h0 s (le_back h0 h)) fun ds r r' h => .okk h
      refine (mo_assign h).bnd fun _ r r' h => hi2.get h fun q r₁ r₁' h1 s1 => ?_
      split
      · trivial
      · refine RLe.bnd (le_mapN (mo_loopE (fun d r r' h => ?_) (le_wipe (le_locks h1 s1))) fun r r' h => le_unlocks h1 s1 (le_back h1 h)) fun ds r r' h => .okk (le_wipe h)
        refine (mo_assign h).bnd fun _ r r' h => (hc.t r r' h).bnd fun t' r r' h => ?_
        cases t' with
        | true => exact (he.v r r' h).bnd fun v r r' h => .okk (le_wipe h)
        | false => exact .okk (le_wipe h)
  | .coll tu it => by
    have hi := mo_It X it
    unfold cE
    exact mo_mk fun r r' h => (hi.1 r r' h).bnd fun p r r' h => .okk h
  | .same a b => by
    have ha := mo_E X a
    have hb := mo_E X b
    have sh : ∀ x r r', EnvLe r r' → RLe (shwR (opdV r x) r) (shwR (opdV r' x) r') := fun x r r' e => by
      unfold shwR
      cases h1 : opdV r x with
      | none => trivial
      | some d =>
        simp only [opdV_le e h1]
        split
        · exact .okk e
        · trivial
    unfold cE
    exact mo_mk fun r r' e => (ha.o r r' e).bnd fun x r r' e => (sh x r r' e).bnd fun dx r r' e => (hb.o r r' e).bnd fun y r r' e => (sh y r r' e).bnd fun dy r r' e => .okk e
  | .append i e => by
    have he := mo_E X e
    unfold cE
    refine mo_mk fun r r' h => ?_
    skip
    cases hq : ownL (slotAt r i) with
    | false => trivial
    | true =>
      have n : slotAt r i ≠ .no := fun z => by rw [z] at hq; cases hq
      rw [h.eq n, hq]
      refine (he.v r r' h).bnd fun v r r' h => ?_
      cases hs : slotAt r i with
      | no => trivial
      | fz d => trivial
      | lk d => trivial
      | ow d =>
        rw [h.eq (by rw [hs]; simp), hs]
        cases d <;> first | trivial | skip
        dsimp only
        split
        · exact .okk (h.set i (.refl _))
        · trivial
      | io d =>
        rw [h.eq (by rw [hs]; simp), hs]
        cases d <;> first | trivial | skip
        dsimp only
        split
        · exact .okk (h.set i (.refl _))
        · trivial
  | .pop i => by
    unfold cE
    refine mo_mk fun r r' h => ?_
    skip
    cases hs : slotAt r i with
    | no => trivial
    | fz d => trivial
    | lk d => trivial
    | ow d =>
      rw [h.eq (by rw [hs]; simp), hs]
      cases d <;> first | trivial | skip
      rename_i xs
      cases hl : xs.getLast? with
      | none => simp only [hl]; trivial
      | some v => simp only [hl]; exact .okk (h.set i (.refl _))
    | io d =>
      rw [h.eq (by rw [hs]; simp), hs]
      cases d <;> first | trivial | skip
      rename_i xs
      cases hl : xs.getLast? with
      | none => simp only [hl]; trivial
      | some v => simp only [hl]; exact .okk (h.set i (.refl _))
  | .popat i e => by
    have he := mo_E X e
    unfold cE
    exact mo_mk fun r r' h => (he.o r r' h).bnd fun x r r' h => by
      cases h1 : opdD r x with
      | none => trivial
      | some u =>
        simp only [opdD_le h h1]
        cases hs : slotAt r i with
        | ow d =>
          rw [h.eq (by rw [hs]; simp), hs]
          cases u <;> first | trivial | skip
          cases d <;> first | trivial | skip
          rename_i n xs
          simp only
          cases idxNat xs.length n with
          | none => trivial
          | some k =>
            simp only
            cases getAt xs k with
            | none => trivial
            | some v => exact .okk (h.set i (.refl _))
        | _ => cases u <;> trivial
  | .remove i e => by
    have he := mo_E X e
    unfold cE
    exact mo_mk fun r r' h => (he.o r r' h).bnd fun x r r' h => by
      cases h1 : opdD r x with
      | none => trivial
      | some u =>
        simp only [opdD_le h h1]
        cases hs : slotAt r i with
        | ow d =>
          rw [h.eq (by rw [hs]; simp), hs]
          cases d <;> first | trivial | skip
          rename_i xs
          simp only
          split
          · cases indexOf u xs 0 with
            | none => trivial
            | some k => exact .okk (h.set i (.refl _))
          · trivial
        | _ => trivial
  | .told f e => by
    have he := mo_E X e
    unfold cE
    refine mo_mk fun r r' h => ?_
    have q := he.v r r' h
    skip
    cases hq : (cE X e).v r with
    | st n => trivial
    | ok v r1 =>
      rw [hq] at q
      obtain ⟨r1', e1, e2⟩ := q
      rw [e1]
      exact .okk e2
    | ex k as r1 =>
      rw [hq] at q
      obtain ⟨r1', e1, e2⟩ := q
      rw [e1]
      dsimp only
      cases lookH k (X.hand f) with
      | none => trivial
      | some p =>
        dsimp only
        cases getAt as p.2 with
        | none => trivial
        | some d => exact .okk e2
  | .sortkey a i k => by
    have ha := mo_E X a
    have hk := mo_E X k
    unfold cE
    exact mo_mk fun r r' h => (ha.o r r' h).bnd fun x r r' h => by
      cases h1 : (opdD r x).bind seqOf with
      | none => trivial
      | some xs =>
        obtain ⟨d, h2, h3⟩ := Option.bind_eq_some_iff.mp h1
        simp only [opdD_le h h2, Option.bind_some, h3]
        refine RLe.bnd (mo_loopE (fun d r r' h => ?_) h) fun ps r1 r1' h1 => ?_
        · exact (mo_store h).bnd fun _ r r' h => (hk.v r r' h).bnd fun v r r' h => .okk h
        split
        · exact .okk (h1.set i (h.le i))
        · trivial
  | .bad n => by
    unfold cE
    exact mo_mk fun r r' h => trivial
theorem mo_Es (X : Cx) : ∀ es : Es, MoS (cEs X es)
  | .nil => by
    unfold cEs
    exact ⟨fun r r' h => .okk h, fun r r' h => .okk h, fun bs r r' h => .okk h⟩
  | .cons e es => by
    have he := mo_E X e
    have hs := mo_Es X es
    unfold cEs
    refine ⟨fun r r' h => (he.o r r' h).bnd fun x r r' h => (hs.o r r' h).bnd fun xs r r' h => .okk h, fun r r' h => (he.v r r' h).bnd fun x r r' h => (hs.v r r' h).bnd fun xs r r' h => .okk h, fun bs r r' h => ?_⟩
    dsimp only
    split
    · split
      · rename_i i
        cases hq : (slotAt r i).own with
        | false => trivial
        | true =>
          have n : slotAt r i ≠ .no := fun z => by rw [z] at hq; cases hq
          rw [h.eq n, hq]
          exact (hs.a _ r r' h).bnd fun xs r r' h => .okk h
      · trivial
    · exact (he.v r r' h).bnd fun x r r' h => (hs.a _ r r' h).bnd fun xs r r' h => .okk h
theorem mo_It (X : Cx) : ∀ it : It, MoI (cIt X it)
  | .seq e => by
    have he := mo_E X e
    refine ⟨fun r r' h => ?_, fun r p r' hp x hx => ?_⟩
    · simp only [cIt]
      refine (he.o r r' h).bnd fun x r r' h => ?_
      cases h1 : opdD r x with
      | none => trivial
      | some u =>
        simp only [opdD_le h h1]
        cases u <;> first | trivial | exact .okk h | skip
        have ei : itOk r' x = itOk r x := by
          cases x with
          | ref i => simp only [itOk]; rw [h.eq (set_of h1)]
          | _ => rfl
        rw [ei]
        dsimp only
        split
        · exact .okk h
        · trivial
    · simp only [cIt] at hp
      cases hq : (cE X e).o r with
      | st n => rw [hq] at hp; cases hp
      | ex a b c => rw [hq] at hp; cases hp
      | ok y r1 =>
        rw [hq] at hp
        simp only [Res.bind] at hp
        cases h1 : opdD r1 y with
        | none => rw [h1] at hp; cases hp
        | some u =>
          rw [h1] at hp
          cases u <;> simp only at hp <;> try (cases hp; done)
          · split at hp
            · cases hp
              rw [List.mem_singleton.mp hx]
              exact set_of h1
            · cases hp
          · cases hp
            rw [List.mem_singleton.mp hx]
            exact set_of h1
  | .range1 e => by
    have he := mo_E X e
    refine ⟨fun r r' h => ?_, fun r p r' hp x hx => ?_⟩
    · simp only [cIt]
      refine (he.o r r' h).bnd fun x r r' h => ?_
      cases h1 : opdD r x with
      | none => trivial
      | some u =>
        simp only [opdD_le h h1]
        cases u <;> first | trivial | skip
        dsimp only
        split
        · exact .okk h
        · trivial
    · simp only [cIt] at hp
      cases hq : (cE X e).o r with
      | st n => rw [hq] at hp; cases hp
      | ex a b c => rw [hq] at hp; cases hp
      | ok y r1 =>
        rw [hq] at hp
        simp only [Res.bind] at hp
        split at hp
        · split at hp
          · cases hp; cases hx
          · cases hp
        · cases hp
  | .range2 a b => by
    have ha := mo_E X a
    have hb := mo_E X b
    refine ⟨fun r r' h => ?_, fun r p r' hp x hx => ?_⟩
    · simp only [cIt]
      refine (ha.o r r' h).bnd fun x r r' h => (hb.o r r' h).bnd fun y r r' h => ?_
      cases h1 : opdD r x with
      | none => trivial
      | some u =>
        cases h2 : opdD r y with
        | none => cases u <;> trivial
        | some v =>
          simp only [opdD_le h h1, opdD_le h h2]
          cases u <;> first | trivial | skip
          cases v <;> first | trivial | skip
          simp only
          split
          · exact .okk h
          · trivial
    · simp only [cIt] at hp
      cases hq : (cE X a).o r with
      | st n => rw [hq] at hp; cases hp
      | ex a b c => rw [hq] at hp; cases hp
      | ok y r1 =>
        rw [hq] at hp
        simp only [Res.bind] at hp
        cases hq2 : (cE X b).o r1 with
        | st n => rw [hq2] at hp; cases hp
        | ex a b c => rw [hq2] at hp; cases hp
        | ok z r2 =>
          rw [hq2] at hp
          simp only [Res.bind] at hp
          split at hp
          · split at hp
            · cases hp; cases hx
            · cases hp
          · cases hp
  | .range3 a b c => by
    have ha := mo_E X a
    have hb := mo_E X b
    have hc := mo_E X c
    refine ⟨fun r r' h => ?_, fun r p r' hp x hx => ?_⟩
    · simp only [cIt]
      refine (ha.o r r' h).bnd fun x r r' h => (hb.o r r' h).bnd fun y r r' h => (hc.o r r' h).bnd fun z r r' h => ?_
      cases h1 : opdD r x with
      | none => trivial
      | some u =>
        cases h2 : opdD r y with
        | none => cases u <;> trivial
        | some v =>
          cases h3 : opdD r z with
          | none => cases u <;> first | trivial | (cases v <;> trivial)
          | some w =>
            simp only [opdD_le h h1, opdD_le h h2, opdD_le h h3]
            cases u <;> first | trivial | skip
            cases v <;> first | trivial | skip
            cases w <;> first | trivial | skip
            simp only
            split
            · exact .okk h
            · trivial
    · simp only [cIt] at hp
      cases hq : (cE X a).o r with
      | st n => rw [hq] at hp; cases hp
      | ex a b c => rw [hq] at hp; cases hp
      | ok y r1 =>
        rw [hq] at hp
        simp only [Res.bind] at hp
        cases hq2 : (cE X b).o r1 with
        | st n => rw [hq2] at hp; cases hp
        | ex a b c => rw [hq2] at hp; cases hp
        | ok z r2 =>
          rw [hq2] at hp
          simp only [Res.bind] at hp
          cases hq3 : (cE X c).o r2 with
          | st n => rw [hq3] at hp; cases hp
          | ex a b c => rw [hq3] at hp; cases hp
          | ok w r3 =>
            rw [hq3] at hp
            simp only [Res.bind] at hp
            split at hp
            · split at hp
              · cases hp; cases hx
              · cases hp
            · cases hp
  | .enum e => by
    have he := mo_E X e
    refine ⟨fun r r' h => ?_, fun r p r' hp x hx => ?_⟩
    · simp only [cIt]
      refine (he.o r r' h).bnd fun x r r' h => ?_
      cases h1 : opdD r x with
      | none => trivial
      | some u =>
        simp only [opdD_le h h1]
        cases u <;> first | trivial | exact .okk h | skip
        have ei : itOk r' x = itOk r x := by
          cases x with
          | ref i => simp only [itOk]; rw [h.eq (set_of h1)]
          | _ => rfl
        rw [ei]
        dsimp only
        split
        · exact .okk h
        · trivial
    · simp only [cIt] at hp
      cases hq : (cE X e).o r with
      | st n => rw [hq] at hp; cases hp
      | ex a b c => rw [hq] at hp; cases hp
      | ok y r1 =>
        rw [hq] at hp
        simp only [Res.bind] at hp
        cases h1 : opdD r1 y with
        | none => rw [h1] at hp; cases hp
        | some u =>
          rw [h1] at hp
          cases u <;> simp only at hp <;> try (cases hp; done)
          all_goals first
            | (split at hp
               · cases hp
                 rw [List.mem_singleton.mp hx]
                 exact set_of h1
               · cases hp)
            | (cases hp
               rw [List.mem_singleton.mp hx]
               exact set_of h1)
  | .zip2 a b => by
    have ha := mo_E X a
    have hb := mo_E X b
    refine ⟨fun r r' h => ?_, fun r p r' hp x hx => ?_⟩
    · simp only [cIt]
      refine (ha.o r r' h).bnd fun x r r' h => (hb.o r r' h).bnd fun y r r' h => ?_
      cases h1 : opdD r x with
      | none => trivial
      | some u =>
        cases h2 : opdD r y with
        | none => cases u <;> trivial
        | some v =>
          simp only [opdD_le h h1, opdD_le h h2]
          have ei : ∀ {z : Opd} {d : D}, opdD r z = some d → itOk r' z = itOk r z := fun {z d} hz => by
            cases z with
            | ref i => simp only [itOk]; rw [h.eq (set_of hz)]
            | _ => rfl
          cases u <;> cases v <;> first | trivial | exact .okk h | skip
          all_goals
            simp only [ei h1, ei h2]
            split
            · exact .okk h
            · trivial
    · simp only [cIt] at hp
      cases hq : (cE X a).o r with
      | st n => rw [hq] at hp; cases hp
      | ex a b c => rw [hq] at hp; cases hp
      | ok y r1 =>
        rw [hq] at hp
        simp only [Res.bind] at hp
        cases hq2 : (cE X b).o r1 with
        | st n => rw [hq2] at hp; cases hp
        | ex a b c => rw [hq2] at hp; cases hp
        | ok z r2 =>
          rw [hq2] at hp
          simp only [Res.bind] at hp
          cases h1 : opdD r2 y with
          | none => rw [h1] at hp; cases hp
          | some u =>
            cases h2 : opdD r2 z with
            | none => rw [h1, h2] at hp; cases u <;> cases hp
            | some v =>
              rw [h1, h2] at hp
              have fin : ∀ x' ∈ [y, z], setO r2 x' := fun x' hx' => by
                rcases List.mem_cons.mp hx' with rfl | hx'
                · exact set_of h1
                · rw [List.mem_singleton.mp hx']
                  exact set_of h2
              cases u <;> cases v <;> simp only at hp <;> try (cases hp; done)
              all_goals first
                | (split at hp
                   · cases hp; exact fin x hx
                   · cases hp)
                | (cases hp; exact fin x hx)
  | .zip3 a b c => by
    exact ⟨fun r r' h => by simp only [cIt]; trivial, fun r p r' hp => by simp only [cIt] at hp; cases hp⟩
end
theorem mo_augL {i : Nat} {o : Op} {xs ys : List D} {r r' : Env} (h : EnvLe r r') : RLe (augL i o xs ys r) (augL i o xs ys r') := by
  unfold augL
  split
  · cases hs : slotAt r i with
    | no => trivial
    | fz d => trivial
    | lk d => trivial
    | ow d =>
      rw [h.eq (by rw [hs]; simp), hs]
      exact .okk (h.set i (.refl _))
    | io d =>
      rw [h.eq (by rw [hs]; simp), hs]
      exact .okk (h.set i (.refl _))
  · trivial
theorem mo_item {i : Nat} {k v : D} {r r' : Env} (h : EnvLe r r') : RLe (setItemS r i k v) (setItemS r' i k v) := by
  unfold setItemS
  cases hs : slotAt r i with
  | no => trivial
  | fz d => trivial
  | lk d => trivial
  | ow d =>
    rw [h.eq (by rw [hs]; simp), hs]
    cases d <;> first | trivial | skip
    · cases k <;> first | trivial | skip
      simp only
      split
      · exact .okk (h.set i (.refl _))
      · trivial
    · simp only
      split
      · exact .okk (h.set i (.refl _))
      · trivial
  | io d =>
    rw [h.eq (by rw [hs]; simp), hs]
    cases d <;> first | trivial | skip
    · cases k <;> first | trivial | skip
      simp only
      split
      · exact .okk (h.set i (.refl _))
      · trivial
    · simp only
      split
      · exact .okk (h.set i (.refl _))
      · trivial
theorem mo_S (X : Cx) : ∀ s : S, Mo (exK X s)
  | .skip => fun r r' h => by simp only [exK]; exact .okk h
  | .seq a b => fun r r' h => by
    simp only [exK]
    refine (mo_S X a r r' h).bnd fun w r r' h => ?_
    cases w with
    | next => exact mo_S X b r r' h
    | cont => exact .okk h
    | brk => exact .okk h
    | ret o d => exact .okk h
  | .asg t e => fun r r' h => by
    simp only [exK]
    exact ((mo_E X e).v r r' h).bnd fun v r r' h => (mo_assign h).bnd fun _ r r' h => .okk h
  | .par2 i j a b => fun r r' h => by
    simp only [exK]
    exact ((mo_E X a).v r r' h).bnd fun v r r' h => ((mo_E X b).v r r' h).bnd fun w r r' h => (mo_store h).bnd fun _ r r' h => (mo_store h).bnd fun _ r r' h => .okk h
  | .par3 i j k a b c => fun r r' h => by
    simp only [exK]
    exact ((mo_E X a).v r r' h).bnd fun v r r' h => ((mo_E X b).v r r' h).bnd fun w r r' h => ((mo_E X c).v r r' h).bnd fun u r r' h => (mo_store h).bnd fun _ r r' h => (mo_store h).bnd fun _ r r' h => (mo_store h).bnd fun _ r r' h => .okk h
  | .set i ix e => fun r r' h => by
    simp only [exK]
    refine ((mo_E X e).v r r' h).bnd fun v r r' h => ?_
    cases hq : (slotAt r i).own with
    | false => trivial
    | true =>
      have n : slotAt r i ≠ .no := fun z => by rw [z] at hq; cases hq
      rw [h.eq n, hq]
      refine ((mo_E X ix).o r r' h).bnd fun k r r' h => ?_
      cases h1 : opdV r k with
      | none => trivial
      | some kd =>
        simp only [opdV_le h h1]
        exact (mo_item h).bnd fun _ r r' h => .okk h
  | .swap i x y e1 e2 => fun r r' h => by
    simp only [exK]
    refine ((mo_E X e1).v r r' h).bnd fun v r r' h => ((mo_E X e2).v r r' h).bnd fun w r r' h => ((mo_E X x).o r r' h).bnd fun k r r' h => ?_
    cases h1 : opdV r k with
    | none => trivial
    | some kd =>
      simp only [opdV_le h h1]
      refine (mo_item h).bnd fun _ r r' h => ((mo_E X y).o r r' h).bnd fun k r r' h => ?_
      cases h2 : opdV r k with
      | none => trivial
      | some kd =>
        simp only [opdV_le h h2]
        exact (mo_item h).bnd fun _ r r' h => .okk h
  | .aug i o e => fun r r' h => by
    simp only [exK]
    cases hq : isSet (slotAt r i) with
    | false => trivial
    | true =>
      have n : slotAt r i ≠ .no := fun z => by rw [z] at hq; cases hq
      rw [h.eq n, hq]
      refine ((mo_E X e).o r r' h).bnd fun y r r' h => ?_
      cases h1 : opdV r (.ref i) with
      | none => trivial
      | some u =>
        cases h2 : opdV r y with
        | none => cases u <;> trivial
        | some v =>
          simp only [opdV_le h h1, opdV_le h h2]
          cases u <;> first | trivial | skip
          · cases v <;> first | trivial | skip
            exact (mo_ofOV h).bnd fun v r r' h => (mo_store h).bnd fun _ r r' h => .okk h
          · cases v <;> first | trivial | skip
            exact mo_augL h
  | .augset i ix o e => fun r r' h => by
    simp only [exK]
    cases hq : isSet (slotAt r i) with
    | false => trivial
    | true =>
    have n : slotAt r i ≠ .no := fun z => by rw [z] at hq; cases hq
    rw [h.eq n, hq]
    refine ((mo_E X ix).o r r' h).bnd fun k r r' h => ?_
    cases h1 : opdD r (.ref i) with
    | none => trivial
    | some u =>
      cases h2 : opdV r k with
      | none => trivial
      | some kd =>
        simp only [opdD_le h h1, opdV_le h h2]
        cases idxSem u kd with
        | none => trivial
        | some old =>
          cases keyOk kd with
          | false => cases old <;> trivial
          | true =>
          cases old <;> first | trivial | skip
          refine ((mo_E X e).o r r' h).bnd fun y r r' h => ?_
          cases h3 : opdV r y with
          | none => trivial
          | some v =>
            simp only [opdV_le h h3]
            cases v <;> first | trivial | skip
            exact (mo_ofOV h).bnd fun v r r' h => (mo_item h).bnd fun _ r r' h => .okk h
  | .expr e => fun r r' h => by
    simp only [exK]
    exact ((mo_E X e).v r r' h).bnd fun v r r' h => .okk h
  | .ite c a b => fun r r' h => by
    simp only [exK]
    refine ((mo_E X c).t r r' h).bnd fun t r r' h => ?_
    cases t with
    | true => exact mo_S X a r r' h
    | false => exact mo_S X b r r' h
  | .for_ t it b => fun r r' h => by
    simp only [exK]
    refine (mo_It X it).get h fun p r₀ r₀' h0 s => ?_
    refine RLe.bnd (le_mapR (mo_loopS (fun d r r' h => ?_) (le_locks h0 s)) fun r r' h => le_unlocks h0 s h) fun w r r' h => .okk h
    exact (mo_assign h).bnd fun _ r r' h => mo_S X b r r' h
  | .while_ c b => fun r r' h => by
    simp only [exK]
    exact mo_loopW (mo_E X c).t (mo_S X b) h
  | .ret e => fun r r' h => by
    have gen : RLe (((cE X e).v r).bind fun v r => Res.ok (MW.Flow.ret v.1 v.2) r) (((cE X e).v r').bind fun v r => Res.ok (MW.Flow.ret v.1 v.2) r) := ((mo_E X e).v r r' h).bnd fun v r r' h => .okk h
    cases e <;> first
      | (simp only [exK]; exact gen)
      | skip
    rename_i i
    simp only [exK]
    cases hs : slotAt r i with
    | no =>
      have : useVar i r = .st 5 := by unfold useVar; rw [hs]
      simp only [this]
      trivial
    | ow d => rw [h.eq (by rw [hs]; simp), hs]; exact .okk (h.set i (.refl _))
    | _ =>
      rw [h.eq (by rw [hs]; simp), hs]
      exact (mo_useVar h).bnd fun v r r' h => .okk h
  | .retn => fun r r' h => by simp only [exK]; exact .okk h
  | .raise k as => fun r r' h => by
    simp only [exK]
    exact ((mo_Es X as).v r r' h).bnd fun ds r r' h => ⟨r', rfl, h⟩
  | .cont => fun r r' h => by simp only [exK]; exact .okk h
  | .brk => fun r r' h => by simp only [exK]; exact .okk h
  | .tryx b ks hd => fun r r' h => by
    have q := mo_S X b r r' h
    simp only [exK]
    cases hq : exK X b r with
    | st n => trivial
    | ok w r1 =>
      rw [hq] at q
      obtain ⟨r1', e1, e2⟩ := q
      rw [e1]
      exact .okk e2
    | ex k as r1 =>
      rw [hq] at q
      obtain ⟨r1', e1, e2⟩ := q
      rw [e1]
      dsimp only
      split
      · exact mo_S X hd r1 r1' e2
      · exact ⟨r1', rfl, e2⟩
  | .bad n => fun r r' h => by simp only [exK]; trivial
end MW
end
section
set_option linter.all false
set_option maxRecDepth 100000
/-! EvP: the evaluator's primitives by recursors (for the kernel). -/
namespace MW
open PySem
noncomputable def slotQ (r : Env) : Nat → Slot := @List.rec Slot (fun _ => Nat → Slot) (fun _ => .no) (fun x _ ih i => @Nat.rec (fun _ => Slot) x (fun n _ => ih n) i) r
theorem slotQ_eq : ∀ (r : Env) (i : Nat), slotQ r i = slotAt r i
  | [], _ => rfl
  | _ :: _, 0 => rfl
  | _ :: r, i + 1 => slotQ_eq r i
noncomputable def setQ (r : Env) : Nat → Slot → Env := @List.rec Slot (fun _ => Nat → Slot → Env) (fun _ _ => []) (fun x r ih i => @Nat.rec (fun _ => Slot → Env) (fun s => s :: r) (fun n _ s => x :: ih n s) i) r
theorem setQ_eq : ∀ (r : Env) (i : Nat) (s : Slot), setQ r i s = setSlot r i s
  | [], _, _ => rfl
  | _ :: _, 0, _ => rfl
  | x :: r, i + 1, s => congrArg (x :: ·) (setQ_eq r i s)
noncomputable def Res.bindQ {A B : Type} (x : Res A) (f : A → Env → Res B) : Res B := @Res.rec A (fun _ => Res B) f (fun k as r => .ex k as r) (fun n => .st n) x
theorem bindQ_eq {A B : Type} (x : Res A) (f : A → Env → Res B) : x.bindQ f = x.bind f := by cases x <;> rfl
noncomputable def storeQ (i : Nat) (v : Bool × D) (r : Env) : Res Unit :=
  @Slot.rec (fun _ => Res Unit) (.ok () (setQ r i (@Bool.rec (fun _ => Slot) (.fz v.2) (.ow v.2) v.1))) (fun _ => .ok () (setQ r i (@Bool.rec (fun _ => Slot) (.fz v.2) (.ow v.2) v.1))) (fun _ => .ok () (setQ r i (@Bool.rec (fun _ => Slot) (.fz v.2) (.ow v.2) v.1))) (fun _ => .st 2) (fun _ => .st 1) (slotQ r i)
theorem storeQ_eq (i : Nat) (v : Bool × D) (r : Env) : storeQ i v r = store i v r := by
  obtain ⟨o, d⟩ := v
  unfold storeQ store
  rw [slotQ_eq, setQ_eq]
  cases slotAt r i <;> cases o <;> rfl
noncomputable def useQ (i : Nat) (r : Env) : Res (Bool × D) :=
  @Slot.rec (fun _ => Res (Bool × D)) (.st 5) (fun d => .ok (false, d) r) (fun d => .ok (false, d) (setQ r i (.fz d))) (fun _ => .st 3) (fun _ => .st 4) (slotQ r i)
theorem useQ_eq (i : Nat) (r : Env) : useQ i r = useVar i r := by
  unfold useQ useVar
  rw [slotQ_eq]
  cases slotAt r i with
  | ow d => exact congrArg (Res.ok (false, d)) (setQ_eq r i _)
  | _ => rfl
noncomputable def datQ (s : Slot) : Option D := @Slot.rec (fun _ => Option D) none some some some some s
noncomputable def opdQ (r : Env) (x : Opd) : Option D := @Opd.rec (fun _ => Option D) (fun _ d => some d) (fun i => datQ (slotQ r i)) (fun d => some d) x
theorem opdQ_eq (r : Env) (x : Opd) : opdQ r x = opdD r x := by
  cases x with
  | ref i =>
    show datQ (slotQ r i) = _
    rw [slotQ_eq]
    simp only [opdD]
    cases slotAt r i <;> rfl
  | _ => rfl
noncomputable def opvQ (r : Env) (x : Opd) : Option D := @Opd.rec (fun _ => Option D) (fun _ d => some d) (fun i => datQ (slotQ r i)) (fun d => if isScal d then some d else none) x
theorem opvQ_eq (r : Env) (x : Opd) : opvQ r x = opdV r x := by
  cases x with
  | ref i => exact opdQ_eq r (.ref i)
  | _ => rfl
noncomputable def getQ (xs : List D) : Nat → Option D := @List.rec D (fun _ => Nat → Option D) (fun _ => none) (fun x _ ih i => @Nat.rec (fun _ => Option D) (some x) (fun n _ => ih n) i) xs
theorem getQ_eq : ∀ (r : List D) (i : Nat), getQ r i = getAt r i
  | [], _ => rfl
  | _ :: _, 0 => rfl
  | _ :: r, i + 1 => getQ_eq r i
noncomputable def obQ {A B : Type} (x : Option A) (f : A → Option B) : Option B := @Option.rec A (fun _ => Option B) none f x
/-- a place in a sequence -/
noncomputable def atQ (xs : List D) (i : Int) : Option D := @Int.rec (fun _ => Option D) (fun n => getQ xs n) (fun n => (idxNat xs.length (.negSucc n)).bind (getAt xs)) i
theorem get_none : ∀ {xs : List D} {n : Nat}, ¬ n < xs.length → getAt xs n = none
  | [], n, _ => by cases n <;> rfl
  | x :: xs, 0, h => absurd (Nat.succ_pos _) h
  | x :: xs, n + 1, h => get_none (xs := xs) fun z => h (Nat.succ_lt_succ z)
theorem atQ_eq (xs : List D) (i : Int) : atQ xs i = (idxNat xs.length i).bind (getAt xs) := by
  cases i with
  | negSucc n => rfl
  | ofNat n =>
    show getQ xs n = _
    rw [getQ_eq]
    unfold idxNat
    rw [if_pos (show (0 : Int) ≤ Int.ofNat n from Int.natCast_nonneg n)]
    by_cases h : (Int.ofNat n) < (xs.length : Int)
    · rw [if_pos h]; rfl
    · rw [if_neg h]
      exact get_none fun z => h (Int.ofNat_lt.mpr z)
noncomputable def idxQ (d k : D) : Option D := match d, k with
  | .list xs, .int i => atQ xs i
  | .tuple xs, .int i => atQ xs i
  | d, k => idxSem d k
theorem idxQ_eq (d k : D) : idxQ d k = idxSem d k := by
  unfold idxQ
  split
  · exact atQ_eq _ _
  · exact atQ_eq _ _
  · rfl
noncomputable def assignQ : T → Bool × D → Env → Res Unit
  | .name i, v, r => storeQ i v r
  | t, v, r => assignT t v r
theorem assignQ_eq (t : T) (v : Bool × D) (r : Env) : assignQ t v r = assignT t v r := by
  cases t with
  | name i => exact storeQ_eq i v r
  | _ => rfl
noncomputable def loopSQ (f : D → Env → Res MW.Flow) (xs : List D) : Env → Res MW.Flow := @List.rec D (fun _ => Env → Res MW.Flow) (fun r => .ok .next r) (fun x _ ih r => (f x r).bindQ fun w r => @Flow.rec (fun _ => Res MW.Flow) (ih r) (fun o d => .ok (.ret o d) r) (ih r) (.ok .next r) w) xs
theorem loopSQ_eq (f : D → Env → Res MW.Flow) : ∀ (xs : List D) (r : Env), loopSQ f xs r = loopS f xs r
  | [], _ => rfl
  | x :: xs, r => by
    show (f x r).bindQ _ = (f x r).bind _
    rw [bindQ_eq]
    congr 1
    funext w r
    cases w <;> first | exact loopSQ_eq f xs r | rfl
noncomputable def loopEQ (f : D → Env → Res (List D)) (xs : List D) : Env → Res (List D) := @List.rec D (fun _ => Env → Res (List D)) (fun r => .ok [] r) (fun x _ ih r => (f x r).bindQ fun a r => (ih r).bindQ fun b r => .ok (a ++ b) r) xs
theorem loopEQ_eq (f : D → Env → Res (List D)) : ∀ (xs : List D) (r : Env), loopEQ f xs r = loopE f xs r
  | [], _ => rfl
  | x :: xs, r => by
    show (f x r).bindQ _ = (f x r).bind _
    rw [bindQ_eq]
    congr 1
    funext w r
    rw [bindQ_eq]
    have h := loopEQ_eq f xs r
    unfold loopEQ at h
    rw [h]
def smallQ (n : Int) : Bool := decide (-4611686018427387904 ≤ n) && decide (n < 4611686018427387904)
theorem smallQ_eq (n : Int) : smallQ n = smallI n := rfl
noncomputable def opIQ (o : Op) (a b : Int) : OV :=
  @Op.rec (fun _ => OV) (some (false, .int (a + b))) (some (false, .int (a - b))) (if mulOk a b then some (false, .int (a * b)) else none) (if 0 < b ∧ b < 1073741824 then some (false, .int (a / b)) else none) (if 0 < b then some (false, .int (a % b)) else none) o
noncomputable def opQ (o : Op) (x y : D) : OV := match x, y with
  | .int a, .int b => opIQ o a b
  | x, y => opSem o x y
theorem opQ_eq (o : Op) (x y : D) : opQ o x y = opSem o x y := by
  unfold opQ
  split
  · cases o <;> rfl
  · rfl
noncomputable def cmpIQ (o : Cmp) (a b : Int) : Option Bool :=
  @Cmp.rec (fun _ => Option Bool) (some (PyData.eqv (.int a) (.int b))) (some (!PyData.eqv (.int a) (.int b))) (some (decide (a < b))) (some (decide (a ≤ b))) (some (decide (b < a))) (some (decide (b ≤ a))) none none none none o
noncomputable def cmpQ (o : Cmp) (x y : D) : Option Bool := match x, y with
  | .int a, .int b => cmpIQ o a b
  | x, y => cmpSem o x y
theorem cmpQ_eq (o : Cmp) (x y : D) : cmpQ o x y = cmpSem o x y := by
  unfold cmpQ
  split
  · cases o <;> rfl
  · rfl
noncomputable def primQ (p : P) (ds : List D) : OV := match p with
  | .int => (match ds with
    | [.int a] => some (false, .int a)
    | ds => primSem .int ds)
  | .len => (match ds with
    | [.list xs] => some (false, .int xs.length)
    | ds => primSem .len ds)
  | p => primSem p ds
theorem primQ_eq (p : P) (ds : List D) : primQ p ds = primSem p ds := by
  unfold primQ
  split
  · split <;> rfl
  · split <;> rfl
  · rfl
noncomputable def putQ (xs : List D) : Nat → D → List D := @List.rec D (fun _ => Nat → D → List D) (fun _ _ => []) (fun x r ih i => @Nat.rec (fun _ => D → List D) (fun s => s :: r) (fun n _ s => x :: ih n s) i) xs
theorem putQ_eq : ∀ (r : List D) (i : Nat) (s : D), putQ r i s = setAt r i s
  | [], _, _ => rfl
  | _ :: _, 0, _ => rfl
  | x :: r, i + 1, s => congrArg (x :: ·) (putQ_eq r i s)
noncomputable def itemQ (r : Env) (i : Nat) (k v : D) : Res Unit := match slotQ r i, k with
  | .ow (.list xs), .int n => (match idxNat xs.length n with | some j => .ok () (setQ r i (.ow (.list (putQ xs j v)))) | none => .st 61)
  | _, _ => setItemS r i k v
theorem itemQ_eq (r : Env) (i : Nat) (k v : D) : itemQ r i k v = setItemS r i k v := by
  unfold itemQ
  rw [slotQ_eq]
  split
  · rename_i xs n hs
    unfold setItemS
    rw [hs]
    simp only [putQ_eq, setQ_eq]
    first | done | rfl
  · rfl
end MW
end
section
set_option linter.all false
set_option maxRecDepth 100000
/-! EvR: the structural evaluator by the recursors themselves (for the kernel). -/
namespace MW
open PySem
noncomputable def oVQ (v : Env → Res (Bool × D)) (r : Env) : Res Opd := (v r).bindQ fun v r => .ok (.val v.1 v.2) r
noncomputable def tOQ (o : Env → Res Opd) (r : Env) : Res Bool := (o r).bindQ fun x r => match (opvQ r x).bind tru with
    | some t => .ok t r
    | none => .st 64
noncomputable def mkQ (v : Env → Res (Bool × D)) : Tr := ⟨v, oVQ v, tOQ (oVQ v)⟩
noncomputable def rE (X : Cx) : E → Tr := @E.rec (fun _ => Tr) (fun _ => TrS) (fun _ => Env → Res (List D × List Opd))
  -- var
  (fun i =>  ⟨fun r => useQ i r, fun r => if isSet (slotQ r i) then .ok (.ref i) r else .st 5, tOQ (fun r => if isSet (slotQ r i) then .ok (.ref i) r else .st 5)⟩)
  -- const
  (fun d =>  mkQ fun r => .ok (false, d) r)
  -- glob
  (fun g =>  ⟨fun r => if isScal (X.glob g) then .ok (false, X.glob g) r else .st 9, fun r => .ok (.cst (X.glob g)) r, tOQ (fun r => .ok (.cst (X.glob g)) r)⟩)
  -- bin
  (fun o a b ih_a ih_b =>  mkQ fun r => (ih_a.o r).bindQ fun x r => (ih_b.o r).bindQ fun y r =>
        match opvQ r x, opvQ r y with
        | some x, some y => ofOV 10 (opQ o x y) r
        | _, _ => .st 11)
  -- neg
  (fun a ih_a =>  mkQ fun r => (ih_a.o r).bindQ fun x r => match opdQ r x with
        | some (.int i) => .ok (false, .int (-i)) r
        | _ => .st 12)
  -- not
  (fun a ih_a =>  ⟨fun r => (ih_a.o r).bindQ fun x r => match (opvQ r x).bind tru with
        | some t => .ok (false, .bool (!t)) r
        | none => .st 64, oVQ (fun r => (ih_a.o r).bindQ fun x r => match (opvQ r x).bind tru with
        | some t => .ok (false, .bool (!t)) r
        | none => .st 64), fun r => (ih_a.t r).bindQ fun t r => .ok (!t) r⟩)
  -- and
  (fun a b ih_a ih_b =>  ⟨fun r => (ih_a.v r).bindQ fun x r => match tru x.2 with
        | some true => ih_b.v r
        | some false => .ok x r
        | none => .st 13, oVQ (fun r => (ih_a.v r).bindQ fun x r => match tru x.2 with
        | some true => ih_b.v r
        | some false => .ok x r
        | none => .st 13), fun r => (ih_a.t r).bindQ fun t r => if t then ih_b.t r else .ok false r⟩)
  -- or
  (fun a b ih_a ih_b =>  ⟨fun r => (ih_a.v r).bindQ fun x r => match tru x.2 with
        | some true => .ok x r
        | some false => ih_b.v r
        | none => .st 13, oVQ (fun r => (ih_a.v r).bindQ fun x r => match tru x.2 with
        | some true => .ok x r
        | some false => ih_b.v r
        | none => .st 13), fun r => (ih_a.t r).bindQ fun t r => if t then .ok true r else ih_b.t r⟩)
  -- cmp
  (fun o a b ih_a ih_b =>  mkQ fun r => (ih_a.o r).bindQ fun x r => (ih_b.o r).bindQ fun y r =>
        match opvQ r x, opdQ r y with
        | some x, some y => (match cmpQ o x y with | some t => .ok (false, .bool t) r | none => .st 14)
        | _, _ => .st 15)
  -- chain
  (fun o p a b c ih_a ih_b ih_c =>  mkQ fun r => (ih_a.o r).bindQ fun x r => (ih_b.o r).bindQ fun y r =>
        match opvQ r x, opvQ r y with
        | some x, some d => (match cmpQ o x d with
          | some true => (ih_c.o r).bindQ fun z r => (match opvQ r y, opdQ r z with
            | some d, some z => (match cmpQ p d z with | some t => .ok (false, .bool t) r | none => .st 16)
            | _, _ => .st 17)
          | some false => .ok (false, .bool false) r
          | none => .st 18)
        | _, _ => .st 19)
  -- ite
  (fun c a b ih_c ih_a ih_b =>  mkQ fun r => (ih_c.t r).bindQ fun t r => if t then ih_a.v r else ih_b.v r)
  -- call
  (fun f as ih_as =>  mkQ fun r => (ih_as.a (X.io f) r).bindQ fun xs r => match argSlots r xs with
        | some ss => (match X.call f ss with
          | .ok v s => (match takeBack r xs s with | some r => .ok v r | none => .st 21)
          | .ex k as s => (match takeBack r xs s with | some r => .ex k as r | none => .st 22)
          | .st n => .st n)
        | none => .st 23)
  -- prim
  (fun p as ih_as =>  mkQ fun r => (ih_as.o r).bindQ fun xs r => match opdsD r xs with
        | some ds => ofOV 24 (primQ p ds) r
        | none => .st 25)
  -- meth
  (fun m a as ih_a ih_as =>  mkQ fun r => (ih_a.o r).bindQ fun x r => match opdQ r x with
        | some d0 => if methOk m d0 then (ih_as.o r).bindQ fun xs r => (match opdQ r x, opdsD r xs with
          | some d, some ds => if kindD d0 = kindD d then ofOV 26 (methSem m d ds) r else .st 26
          | _, _ => .st 27) else .st 27
        | none => .st 27)
  -- tup
  (fun as ih_as =>  mkQ fun r => (ih_as.v r).bindQ fun ds r => .ok (false, .tuple ds) r)
  -- lst
  (fun as ih_as =>  mkQ fun r => (ih_as.v r).bindQ fun ds r => .ok (true, .list ds) r)
  -- dic
  (fun u_t as ih_as =>  mkQ fun r => (ih_as.v r).bindQ fun ds r => match pairsK ds [] with
        | some kvs => .ok (true, .dict kvs) r
        | none => .st 28)
  -- idx
  (fun a i ih_a ih_i =>  mkQ fun r => (ih_a.o r).bindQ fun x r => (ih_i.o r).bindQ fun y r =>
        match opdQ r x, opvQ r y with
        | some x, some y => (match idxQ x y with | some v => .ok (false, v) r | none => .st 29)
        | _, _ => .st 30)
  -- slice
  (fun a lo hi ih_a ih_lo ih_hi =>  mkQ fun r => (ih_a.o r).bindQ fun x r => (partR (isNoneE lo) (ih_lo.o r) r).bindQ fun l r => (partR (isNoneE hi) (ih_hi.o r) r).bindQ fun u r =>
        match opvQ r x with
        | some x => ofOV 31 (sliceSem x (optD l) (optD u)) r
        | _ => .st 32)
  -- rev
  (fun a ih_a =>  mkQ fun r => (ih_a.o r).bindQ fun x r => match opvQ r x with
        | some x => ofOV 33 (revSem x) r
        | _ => .st 34)
  -- comp
  (fun t it c e ih_it ih_c ih_e =>  mkQ fun r => (ih_it r).bindQ fun p r₀ => if szLine < p.1.length then .st 58 else
        ((loopEQ (fun d r => (assignQ t (false, d) r).bindQ fun _ r => (ih_c.t r).bindQ fun t' r =>
          if t' then (ih_e.v r).bindQ fun v r => .ok [v.2] (wipeT t r) else .ok [] (wipeT t r)) p.1 (wipeT t (p.2.foldl lockO r₀))).mapN fun r => p.2.foldl (unlockO r₀) (backT r₀ t r)).bindQ fun ds r => .ok (true, .list ds) r)
  -- comp2
  (fun t it t2 it2 c e ih_it ih_it2 ih_c ih_e =>  mkQ fun r => (ih_it r).bindQ fun p r₀ => if 4096 < p.1.length then .st 58 else
        ((loopEQ (fun d r => (assignQ t (false, d) r).bindQ fun _ r => (ih_it2 r).bindQ fun q r₁ => if q.2.any isTmp || decide (4096 < q.1.length) then .st 73 else
          ((loopEQ (fun d r => (assignQ t2 (false, d) r).bindQ fun _ r => (ih_c.t r).bindQ fun t' r =>
            if t' then (ih_e.v r).bindQ fun v r => .ok [v.2] (wipeT t2 r) else .ok [] (wipeT t2 r)) q.1 (wipeT t2 (q.2.foldl lockO r₁))).mapN fun r => q.2.foldl (unlockO r₁) (backT r₁ t2 r)).bindQ fun ds r => .ok ds (wipeT (.two t t2) r))
          p.1 (wipeT (.two t t2) (p.2.foldl lockO r₀))).mapN fun r => p.2.foldl (unlockO r₀) (backT r₀ (.two t t2) r)).bindQ fun ds r => .ok (true, .list ds) r)
  -- coll
  (fun tu it ih_it =>  mkQ fun r => (ih_it r).bindQ fun p r => .ok (if tu then (false, .tuple p.1) else (true, .list p.1)) r)
  -- same
  (fun a b ih_a ih_b =>  mkQ fun r => (ih_a.o r).bindQ fun x r => (shwR (opvQ r x) r).bindQ fun dx r => (ih_b.o r).bindQ fun y r => (shwR (opvQ r y) r).bindQ fun dy r => .ok (false, .bool (shwEq dx dy)) r)
  -- append
  (fun i e ih_e =>  mkQ fun r => if ownL (slotQ r i) then (ih_e.v r).bindQ fun v r => match slotQ r i with
        | .ow (.list xs) => if xs.length < szLine then .ok (false, .none) (setQ r i (.ow (.list (xs ++ [v.2])))) else .st 39
        | .io (.list xs) => if xs.length < szLine then .ok (false, .none) (setQ r i (.io (.list (xs ++ [v.2])))) else .st 39
        | _ => .st 40
        else .st 40)
  -- pop
  (fun i =>  mkQ fun r => match slotQ r i with
        | .ow (.list xs) => (match xs.getLast? with | some v => .ok (false, v) (setQ r i (.ow (.list xs.dropLast))) | none => .st 41)
        | .io (.list xs) => (match xs.getLast? with | some v => .ok (false, v) (setQ r i (.io (.list xs.dropLast))) | none => .st 41)
        | _ => .st 42)
  -- popat
  (fun i e ih_e =>  mkQ fun r => (ih_e.o r).bindQ fun x r => match opdQ r x, slotQ r i with
        | some (.int n), .ow (.list xs) => (match (idxNat xs.length n) with
          | some k => (match getAt xs k with | some v => .ok (false, v) (setQ r i (.ow (.list (dropAt xs k)))) | none => .st 43)
          | none => .st 43)
        | _, _ => .st 44)
  -- remove
  (fun i e ih_e =>  mkQ fun r => (ih_e.o r).bindQ fun x r => match opdQ r x, slotQ r i with
        | some d, .ow (.list xs) => if shp 60 d && shpA 60 xs then (match indexOf d xs 0 with
          | some k => .ok (false, .none) (setQ r i (.ow (.list (dropAt xs k))))
          | none => .st 45) else .st 45
        | _, _ => .st 46)
  -- told
  (fun f e ih_e =>  mkQ fun r => match ih_e.v r with
        | .ok v r => .ok v r
        | .ex k as r => (match lookH k (X.hand f) with
          | some (t, n) => (match getAt as n with | some d => .ok (true, .list [t, d]) r | none => .st 47)
          | none => .st 36)
        | .st n => .st n)
  -- sortkey
  (fun a i k ih_a ih_k =>  mkQ fun r => (ih_a.o r).bindQ fun x r => match (opdQ r x).bind seqOf with
        | some xs => (loopEQ (fun d r => (storeQ i (false, d) r).bindQ fun _ r => (ih_k.v r).bindQ fun v r => .ok [.tuple [v.2, d]] r) xs r).bindQ fun ps r' =>
            if orderly (ps.filterMap fun p => match p with | .tuple [a, _] => some a | _ => none) then
              .ok (true, .list ((ps.mergeSort (fun p q => match p, q with | .tuple [a, _], .tuple [b, _] => leD a b | _, _ => true)).filterMap fun p => match p with | .tuple [_, d] => some d | _ => none)) (setQ r' i (slotQ r i))
            else .st 48
        | none => .st 49)
  -- bad
  (fun n =>  mkQ fun _ => .st (1000 + n))
  -- nil
  ( ⟨fun r => .ok [] r, fun r => .ok [] r, fun _ r => .ok [] r⟩)
  -- cons
  (fun e es ih_e ih_es =>  ⟨fun r => (ih_e.o r).bindQ fun x r => (ih_es.o r).bindQ fun xs r => .ok (x :: xs) r,
        fun r => (ih_e.v r).bindQ fun x r => (ih_es.v r).bindQ fun xs r => .ok (x.2 :: xs) r,
        fun bs r => if headIo bs then (match e with
          | .var i => if (slotQ r i).own then (ih_es.a bs.tail r).bindQ fun xs r => .ok (.io i :: xs) r else .st 50
          | _ => .st 50)
        else (ih_e.v r).bindQ fun x r => (ih_es.a bs.tail r).bindQ fun xs r => .ok (.val x.2 :: xs) r⟩)
  -- seq
  (fun e ih_e => fun r => (ih_e.o r).bindQ fun x r => match opdQ r x with
        | some (.list xs) => if itOk r x then .ok (xs, [x]) r else .st 51
        | some (.tuple xs) => .ok (xs, [x]) r
        | _ => .st 51)
  -- range1
  (fun a ih_a => fun r => (ih_a.o r).bindQ fun x r => match opdQ r x with
        | some (.int n) => if smallQ n then .ok (ranged 0 n.toNat, []) r else .st 52
        | _ => .st 52)
  -- range2
  (fun a b ih_a ih_b => fun r => (ih_a.o r).bindQ fun x r => (ih_b.o r).bindQ fun y r => match opdQ r x, opdQ r y with
        | some (.int m), some (.int n) => if smallQ m && smallQ n then .ok (ranged m (n - m).toNat, []) r else .st 53
        | _, _ => .st 53)
  -- range3
  (fun a b c ih_a ih_b ih_c => fun r => (ih_a.o r).bindQ fun x r => (ih_b.o r).bindQ fun y r => (ih_c.o r).bindQ fun z r => match opdQ r x, opdQ r y, opdQ r z with
        | some (.int m), some (.int n), some (.int k) => (match rangeLen m n k with
          | some j => .ok (rangedBy m k j, []) r
          | none => .st 54)
        | _, _, _ => .st 54)
  -- enum
  (fun e ih_e => fun r => (ih_e.o r).bindQ fun x r => match opdQ r x with
        | some (.list xs) => if itOk r x then .ok (enumFrom 0 xs, [x]) r else .st 55
        | some (.tuple xs) => .ok (enumFrom 0 xs, [x]) r
        | _ => .st 55)
  -- zip2
  (fun a b ih_a ih_b => fun r => (ih_a.o r).bindQ fun x r => (ih_b.o r).bindQ fun y r => match opdQ r x, opdQ r y with
        | some (.list xs), some (.list ys) => if itOk r x && itOk r y then .ok (zipD xs ys, [x, y]) r else .st 56
        | some (.tuple xs), some (.tuple ys) => .ok (zipD xs ys, [x, y]) r
        | some (.list xs), some (.tuple ys) => if itOk r x then .ok (zipD xs ys, [x, y]) r else .st 56
        | some (.tuple xs), some (.list ys) => if itOk r y then .ok (zipD xs ys, [x, y]) r else .st 56
        | _, _ => .st 56)
  -- zip3
  (fun u_a u_b u_c ih_u_a ih_u_b ih_u_c => fun _ => .st 57)
noncomputable def rEs (X : Cx) : Es → TrS := @Es.rec (fun _ => Tr) (fun _ => TrS) (fun _ => Env → Res (List D × List Opd))
  -- var
  (fun i =>  ⟨fun r => useQ i r, fun r => if isSet (slotQ r i) then .ok (.ref i) r else .st 5, tOQ (fun r => if isSet (slotQ r i) then .ok (.ref i) r else .st 5)⟩)
  -- const
  (fun d =>  mkQ fun r => .ok (false, d) r)
  -- glob
  (fun g =>  ⟨fun r => if isScal (X.glob g) then .ok (false, X.glob g) r else .st 9, fun r => .ok (.cst (X.glob g)) r, tOQ (fun r => .ok (.cst (X.glob g)) r)⟩)
  -- bin
  (fun o a b ih_a ih_b =>  mkQ fun r => (ih_a.o r).bindQ fun x r => (ih_b.o r).bindQ fun y r =>
        match opvQ r x, opvQ r y with
        | some x, some y => ofOV 10 (opQ o x y) r
        | _, _ => .st 11)
  -- neg
  (fun a ih_a =>  mkQ fun r => (ih_a.o r).bindQ fun x r => match opdQ r x with
        | some (.int i) => .ok (false, .int (-i)) r
        | _ => .st 12)
  -- not
  (fun a ih_a =>  ⟨fun r => (ih_a.o r).bindQ fun x r => match (opvQ r x).bind tru with
        | some t => .ok (false, .bool (!t)) r
        | none => .st 64, oVQ (fun r => (ih_a.o r).bindQ fun x r => match (opvQ r x).bind tru with
        | some t => .ok (false, .bool (!t)) r
        | none => .st 64), fun r => (ih_a.t r).bindQ fun t r => .ok (!t) r⟩)
  -- and
  (fun a b ih_a ih_b =>  ⟨fun r => (ih_a.v r).bindQ fun x r => match tru x.2 with
        | some true => ih_b.v r
        | some false => .ok x r
        | none => .st 13, oVQ (fun r => (ih_a.v r).bindQ fun x r => match tru x.2 with
        | some true => ih_b.v r
        | some false => .ok x r
        | none => .st 13), fun r => (ih_a.t r).bindQ fun t r => if t then ih_b.t r else .ok false r⟩)
  -- or
  (fun a b ih_a ih_b =>  ⟨fun r => (ih_a.v r).bindQ fun x r => match tru x.2 with
        | some true => .ok x r
        | some false => ih_b.v r
        | none => .st 13, oVQ (fun r => (ih_a.v r).bindQ fun x r => match tru x.2 with
        | some true => .ok x r
        | some false => ih_b.v r
        | none => .st 13), fun r => (ih_a.t r).bindQ fun t r => if t then .ok true r else ih_b.t r⟩)
  -- cmp
  (fun o a b ih_a ih_b =>  mkQ fun r => (ih_a.o r).bindQ fun x r => (ih_b.o r).bindQ fun y r =>
        match opvQ r x, opdQ r y with
        | some x, some y => (match cmpQ o x y with | some t => .ok (false, .bool t) r | none => .st 14)
        | _, _ => .st 15)
  -- chain
  (fun o p a b c ih_a ih_b ih_c =>  mkQ fun r => (ih_a.o r).bindQ fun x r => (ih_b.o r).bindQ fun y r =>
        match opvQ r x, opvQ r y with
        | some x, some d => (match cmpQ o x d with
          | some true => (ih_c.o r).bindQ fun z r => (match opvQ r y, opdQ r z with
            | some d, some z => (match cmpQ p d z with | some t => .ok (false, .bool t) r | none => .st 16)
            | _, _ => .st 17)
          | some false => .ok (false, .bool false) r
          | none => .st 18)
        | _, _ => .st 19)
  -- ite
  (fun c a b ih_c ih_a ih_b =>  mkQ fun r => (ih_c.t r).bindQ fun t r => if t then ih_a.v r else ih_b.v r)
  -- call
  (fun f as ih_as =>  mkQ fun r => (ih_as.a (X.io f) r).bindQ fun xs r => match argSlots r xs with
        | some ss => (match X.call f ss with
          | .ok v s => (match takeBack r xs s with | some r => .ok v r | none => .st 21)
          | .ex k as s => (match takeBack r xs s with | some r => .ex k as r | none => .st 22)
          | .st n => .st n)
        | none => .st 23)
  -- prim
  (fun p as ih_as =>  mkQ fun r => (ih_as.o r).bindQ fun xs r => match opdsD r xs with
        | some ds => ofOV 24 (primQ p ds) r
        | none => .st 25)
  -- meth
  (fun m a as ih_a ih_as =>  mkQ fun r => (ih_a.o r).bindQ fun x r => match opdQ r x with
        | some d0 => if methOk m d0 then (ih_as.o r).bindQ fun xs r => (match opdQ r x, opdsD r xs with
          | some d, some ds => if kindD d0 = kindD d then ofOV 26 (methSem m d ds) r else .st 26
          | _, _ => .st 27) else .st 27
        | none => .st 27)
  -- tup
  (fun as ih_as =>  mkQ fun r => (ih_as.v r).bindQ fun ds r => .ok (false, .tuple ds) r)
  -- lst
  (fun as ih_as =>  mkQ fun r => (ih_as.v r).bindQ fun ds r => .ok (true, .list ds) r)
  -- dic
  (fun u_t as ih_as =>  mkQ fun r => (ih_as.v r).bindQ fun ds r => match pairsK ds [] with
        | some kvs => .ok (true, .dict kvs) r
        | none => .st 28)
  -- idx
  (fun a i ih_a ih_i =>  mkQ fun r => (ih_a.o r).bindQ fun x r => (ih_i.o r).bindQ fun y r =>
        match opdQ r x, opvQ r y with
        | some x, some y => (match idxQ x y with | some v => .ok (false, v) r | none => .st 29)
        | _, _ => .st 30)
  -- slice
  (fun a lo hi ih_a ih_lo ih_hi =>  mkQ fun r => (ih_a.o r).bindQ fun x r => (partR (isNoneE lo) (ih_lo.o r) r).bindQ fun l r => (partR (isNoneE hi) (ih_hi.o r) r).bindQ fun u r =>
        match opvQ r x with
        | some x => ofOV 31 (sliceSem x (optD l) (optD u)) r
        | _ => .st 32)
  -- rev
  (fun a ih_a =>  mkQ fun r => (ih_a.o r).bindQ fun x r => match opvQ r x with
        | some x => ofOV 33 (revSem x) r
        | _ => .st 34)
  -- comp
  (fun t it c e ih_it ih_c ih_e =>  mkQ fun r => (ih_it r).bindQ fun p r₀ => if szLine < p.1.length then .st 58 else
        ((loopEQ (fun d r => (assignQ t (false, d) r).bindQ fun _ r => (ih_c.t r).bindQ fun t' r =>
          if t' then (ih_e.v r).bindQ fun v r => .ok [v.2] (wipeT t r) else .ok [] (wipeT t r)) p.1 (wipeT t (p.2.foldl lockO r₀))).mapN fun r => p.2.foldl (unlockO r₀) (backT r₀ t r)).bindQ fun ds r => .ok (true, .list ds) r)
  -- comp2
  (fun t it t2 it2 c e ih_it ih_it2 ih_c ih_e =>  mkQ fun r => (ih_it r).bindQ fun p r₀ => if 4096 < p.1.length then .st 58 else
        ((loopEQ (fun d r => (assignQ t (false, d) r).bindQ fun _ r => (ih_it2 r).bindQ fun q r₁ => if q.2.any isTmp || decide (4096 < q.1.length) then .st 73 else
          ((loopEQ (fun d r => (assignQ t2 (false, d) r).bindQ fun _ r => (ih_c.t r).bindQ fun t' r =>
            if t' then (ih_e.v r).bindQ fun v r => .ok [v.2] (wipeT t2 r) else .ok [] (wipeT t2 r)) q.1 (wipeT t2 (q.2.foldl lockO r₁))).mapN fun r => q.2.foldl (unlockO r₁) (backT r₁ t2 r)).bindQ fun ds r => .ok ds (wipeT (.two t t2) r))
          p.1 (wipeT (.two t t2) (p.2.foldl lockO r₀))).mapN fun r => p.2.foldl (unlockO r₀) (backT r₀ (.two t t2) r)).bindQ fun ds r => .ok (true, .list ds) r)
  -- coll
  (fun tu it ih_it =>  mkQ fun r => (ih_it r).bindQ fun p r => .ok (if tu then (false, .tuple p.1) else (true, .list p.1)) r)
  -- same
  (fun a b ih_a ih_b =>  mkQ fun r => (ih_a.o r).bindQ fun x r => (shwR (opvQ r x) r).bindQ fun dx r => (ih_b.o r).bindQ fun y r => (shwR (opvQ r y) r).bindQ fun dy r => .ok (false, .bool (shwEq dx dy)) r)
  -- append
  (fun i e ih_e =>  mkQ fun r => if ownL (slotQ r i) then (ih_e.v r).bindQ fun v r => match slotQ r i with
        | .ow (.list xs) => if xs.length < szLine then .ok (false, .none) (setQ r i (.ow (.list (xs ++ [v.2])))) else .st 39
        | .io (.list xs) => if xs.length < szLine then .ok (false, .none) (setQ r i (.io (.list (xs ++ [v.2])))) else .st 39
        | _ => .st 40
        else .st 40)
  -- pop
  (fun i =>  mkQ fun r => match slotQ r i with
        | .ow (.list xs) => (match xs.getLast? with | some v => .ok (false, v) (setQ r i (.ow (.list xs.dropLast))) | none => .st 41)
        | .io (.list xs) => (match xs.getLast? with | some v => .ok (false, v) (setQ r i (.io (.list xs.dropLast))) | none => .st 41)
        | _ => .st 42)
  -- popat
  (fun i e ih_e =>  mkQ fun r => (ih_e.o r).bindQ fun x r => match opdQ r x, slotQ r i with
        | some (.int n), .ow (.list xs) => (match (idxNat xs.length n) with
          | some k => (match getAt xs k with | some v => .ok (false, v) (setQ r i (.ow (.list (dropAt xs k)))) | none => .st 43)
          | none => .st 43)
        | _, _ => .st 44)
  -- remove
  (fun i e ih_e =>  mkQ fun r => (ih_e.o r).bindQ fun x r => match opdQ r x, slotQ r i with
        | some d, .ow (.list xs) => if shp 60 d && shpA 60 xs then (match indexOf d xs 0 with
          | some k => .ok (false, .none) (setQ r i (.ow (.list (dropAt xs k))))
          | none => .st 45) else .st 45
        | _, _ => .st 46)
  -- told
  (fun f e ih_e =>  mkQ fun r => match ih_e.v r with
        | .ok v r => .ok v r
        | .ex k as r => (match lookH k (X.hand f) with
          | some (t, n) => (match getAt as n with | some d => .ok (true, .list [t, d]) r | none => .st 47)
          | none => .st 36)
        | .st n => .st n)
  -- sortkey
  (fun a i k ih_a ih_k =>  mkQ fun r => (ih_a.o r).bindQ fun x r => match (opdQ r x).bind seqOf with
        | some xs => (loopEQ (fun d r => (storeQ i (false, d) r).bindQ fun _ r => (ih_k.v r).bindQ fun v r => .ok [.tuple [v.2, d]] r) xs r).bindQ fun ps r' =>
            if orderly (ps.filterMap fun p => match p with | .tuple [a, _] => some a | _ => none) then
              .ok (true, .list ((ps.mergeSort (fun p q => match p, q with | .tuple [a, _], .tuple [b, _] => leD a b | _, _ => true)).filterMap fun p => match p with | .tuple [_, d] => some d | _ => none)) (setQ r' i (slotQ r i))
            else .st 48
        | none => .st 49)
  -- bad
  (fun n =>  mkQ fun _ => .st (1000 + n))
  -- nil
  ( ⟨fun r => .ok [] r, fun r => .ok [] r, fun _ r => .ok [] r⟩)
  -- cons
  (fun e es ih_e ih_es =>  ⟨fun r => (ih_e.o r).bindQ fun x r => (ih_es.o r).bindQ fun xs r => .ok (x :: xs) r,
        fun r => (ih_e.v r).bindQ fun x r => (ih_es.v r).bindQ fun xs r => .ok (x.2 :: xs) r,
        fun bs r => if headIo bs then (match e with
          | .var i => if (slotQ r i).own then (ih_es.a bs.tail r).bindQ fun xs r => .ok (.io i :: xs) r else .st 50
          | _ => .st 50)
        else (ih_e.v r).bindQ fun x r => (ih_es.a bs.tail r).bindQ fun xs r => .ok (.val x.2 :: xs) r⟩)
  -- seq
  (fun e ih_e => fun r => (ih_e.o r).bindQ fun x r => match opdQ r x with
        | some (.list xs) => if itOk r x then .ok (xs, [x]) r else .st 51
        | some (.tuple xs) => .ok (xs, [x]) r
        | _ => .st 51)
  -- range1
  (fun a ih_a => fun r => (ih_a.o r).bindQ fun x r => match opdQ r x with
        | some (.int n) => if smallQ n then .ok (ranged 0 n.toNat, []) r else .st 52
        | _ => .st 52)
  -- range2
  (fun a b ih_a ih_b => fun r => (ih_a.o r).bindQ fun x r => (ih_b.o r).bindQ fun y r => match opdQ r x, opdQ r y with
        | some (.int m), some (.int n) => if smallQ m && smallQ n then .ok (ranged m (n - m).toNat, []) r else .st 53
        | _, _ => .st 53)
  -- range3
  (fun a b c ih_a ih_b ih_c => fun r => (ih_a.o r).bindQ fun x r => (ih_b.o r).bindQ fun y r => (ih_c.o r).bindQ fun z r => match opdQ r x, opdQ r y, opdQ r z with
        | some (.int m), some (.int n), some (.int k) => (match rangeLen m n k with
          | some j => .ok (rangedBy m k j, []) r
          | none => .st 54)
        | _, _, _ => .st 54)
  -- enum
  (fun e ih_e => fun r => (ih_e.o r).bindQ fun x r => match opdQ r x with
        | some (.list xs) => if itOk r x then .ok (enumFrom 0 xs, [x]) r else .st 55
        | some (.tuple xs) => .ok (enumFrom 0 xs, [x]) r
        | _ => .st 55)
  -- zip2
  (fun a b ih_a ih_b => fun r => (ih_a.o r).bindQ fun x r => (ih_b.o r).bindQ fun y r => match opdQ r x, opdQ r y with
        | some (.list xs), some (.list ys) => if itOk r x && itOk r y then .ok (zipD xs ys, [x, y]) r else .st 56
        | some (.tuple xs), some (.tuple ys) => .ok (zipD xs ys, [x, y]) r
        | some (.list xs), some (.tuple ys) => if itOk r x then .ok (zipD xs ys, [x, y]) r else .st 56
        | some (.tuple xs), some (.list ys) => if itOk r y then .ok (zipD xs ys, [x, y]) r else .st 56
        | _, _ => .st 56)
  -- zip3
  (fun u_a u_b u_c ih_u_a ih_u_b ih_u_c => fun _ => .st 57)
noncomputable def rIt (X : Cx) : It → Env → Res (List D × List Opd) := @It.rec (fun _ => Tr) (fun _ => TrS) (fun _ => Env → Res (List D × List Opd))
  -- var
  (fun i =>  ⟨fun r => useQ i r, fun r => if isSet (slotQ r i) then .ok (.ref i) r else .st 5, tOQ (fun r => if isSet (slotQ r i) then .ok (.ref i) r else .st 5)⟩)
  -- const
  (fun d =>  mkQ fun r => .ok (false, d) r)
  -- glob
  (fun g =>  ⟨fun r => if isScal (X.glob g) then .ok (false, X.glob g) r else .st 9, fun r => .ok (.cst (X.glob g)) r, tOQ (fun r => .ok (.cst (X.glob g)) r)⟩)
  -- bin
  (fun o a b ih_a ih_b =>  mkQ fun r => (ih_a.o r).bindQ fun x r => (ih_b.o r).bindQ fun y r =>
        match opvQ r x, opvQ r y with
        | some x, some y => ofOV 10 (opQ o x y) r
        | _, _ => .st 11)
  -- neg
  (fun a ih_a =>  mkQ fun r => (ih_a.o r).bindQ fun x r => match opdQ r x with
        | some (.int i) => .ok (false, .int (-i)) r
        | _ => .st 12)
  -- not
  (fun a ih_a =>  ⟨fun r => (ih_a.o r).bindQ fun x r => match (opvQ r x).bind tru with
        | some t => .ok (false, .bool (!t)) r
        | none => .st 64, oVQ (fun r => (ih_a.o r).bindQ fun x r => match (opvQ r x).bind tru with
        | some t => .ok (false, .bool (!t)) r
        | none => .st 64), fun r => (ih_a.t r).bindQ fun t r => .ok (!t) r⟩)
  -- and
  (fun a b ih_a ih_b =>  ⟨fun r => (ih_a.v r).bindQ fun x r => match tru x.2 with
        | some true => ih_b.v r
        | some false => .ok x r
        | none => .st 13, oVQ (fun r => (ih_a.v r).bindQ fun x r => match tru x.2 with
        | some true => ih_b.v r
        | some false => .ok x r
        | none => .st 13), fun r => (ih_a.t r).bindQ fun t r => if t then ih_b.t r else .ok false r⟩)
  -- or
  (fun a b ih_a ih_b =>  ⟨fun r => (ih_a.v r).bindQ fun x r => match tru x.2 with
        | some true => .ok x r
        | some false => ih_b.v r
        | none => .st 13, oVQ (fun r => (ih_a.v r).bindQ fun x r => match tru x.2 with
        | some true => .ok x r
        | some false => ih_b.v r
        | none => .st 13), fun r => (ih_a.t r).bindQ fun t r => if t then .ok true r else ih_b.t r⟩)
  -- cmp
  (fun o a b ih_a ih_b =>  mkQ fun r => (ih_a.o r).bindQ fun x r => (ih_b.o r).bindQ fun y r =>
        match opvQ r x, opdQ r y with
        | some x, some y => (match cmpQ o x y with | some t => .ok (false, .bool t) r | none => .st 14)
        | _, _ => .st 15)
  -- chain
  (fun o p a b c ih_a ih_b ih_c =>  mkQ fun r => (ih_a.o r).bindQ fun x r => (ih_b.o r).bindQ fun y r =>
        match opvQ r x, opvQ r y with
        | some x, some d => (match cmpQ o x d with
          | some true => (ih_c.o r).bindQ fun z r => (match opvQ r y, opdQ r z with
            | some d, some z => (match cmpQ p d z with | some t => .ok (false, .bool t) r | none => .st 16)
            | _, _ => .st 17)
          | some false => .ok (false, .bool false) r
          | none => .st 18)
        | _, _ => .st 19)
  -- ite
  (fun c a b ih_c ih_a ih_b =>  mkQ fun r => (ih_c.t r).bindQ fun t r => if t then ih_a.v r else ih_b.v r)
  -- call
  (fun f as ih_as =>  mkQ fun r => (ih_as.a (X.io f) r).bindQ fun xs r => match argSlots r xs with
        | some ss => (match X.call f ss with
          | .ok v s => (match takeBack r xs s with | some r => .ok v r | none => .st 21)
          | .ex k as s => (match takeBack r xs s with | some r => .ex k as r | none => .st 22)
          | .st n => .st n)
        | none => .st 23)
  -- prim
  (fun p as ih_as =>  mkQ fun r => (ih_as.o r).bindQ fun xs r => match opdsD r xs with
        | some ds => ofOV 24 (primQ p ds) r
        | none => .st 25)
  -- meth
  (fun m a as ih_a ih_as =>  mkQ fun r => (ih_a.o r).bindQ fun x r => match opdQ r x with
        | some d0 => if methOk m d0 then (ih_as.o r).bindQ fun xs r => (match opdQ r x, opdsD r xs with
          | some d, some ds => if kindD d0 = kindD d then ofOV 26 (methSem m d ds) r else .st 26
          | _, _ => .st 27) else .st 27
        | none => .st 27)
  -- tup
  (fun as ih_as =>  mkQ fun r => (ih_as.v r).bindQ fun ds r => .ok (false, .tuple ds) r)
  -- lst
  (fun as ih_as =>  mkQ fun r => (ih_as.v r).bindQ fun ds r => .ok (true, .list ds) r)
  -- dic
  (fun u_t as ih_as =>  mkQ fun r => (ih_as.v r).bindQ fun ds r => match pairsK ds [] with
        | some kvs => .ok (true, .dict kvs) r
        | none => .st 28)
  -- idx
  (fun a i ih_a ih_i =>  mkQ fun r => (ih_a.o r).bindQ fun x r => (ih_i.o r).bindQ fun y r =>
        match opdQ r x, opvQ r y with
        | some x, some y => (match idxQ x y with | some v => .ok (false, v) r | none => .st 29)
        | _, _ => .st 30)
  -- slice
  (fun a lo hi ih_a ih_lo ih_hi =>  mkQ fun r => (ih_a.o r).bindQ fun x r => (partR (isNoneE lo) (ih_lo.o r) r).bindQ fun l r => (partR (isNoneE hi) (ih_hi.o r) r).bindQ fun u r =>
        match opvQ r x with
        | some x => ofOV 31 (sliceSem x (optD l) (optD u)) r
        | _ => .st 32)
  -- rev
  (fun a ih_a =>  mkQ fun r => (ih_a.o r).bindQ fun x r => match opvQ r x with
        | some x => ofOV 33 (revSem x) r
        | _ => .st 34)
  -- comp
  (fun t it c e ih_it ih_c ih_e =>  mkQ fun r => (ih_it r).bindQ fun p r₀ => if szLine < p.1.length then .st 58 else
        ((loopEQ (fun d r => (assignQ t (false, d) r).bindQ fun _ r => (ih_c.t r).bindQ fun t' r =>
          if t' then (ih_e.v r).bindQ fun v r => .ok [v.2] (wipeT t r) else .ok [] (wipeT t r)) p.1 (wipeT t (p.2.foldl lockO r₀))).mapN fun r => p.2.foldl (unlockO r₀) (backT r₀ t r)).bindQ fun ds r => .ok (true, .list ds) r)
  -- comp2
  (fun t it t2 it2 c e ih_it ih_it2 ih_c ih_e =>  mkQ fun r => (ih_it r).bindQ fun p r₀ => if 4096 < p.1.length then .st 58 else
        ((loopEQ (fun d r => (assignQ t (false, d) r).bindQ fun _ r => (ih_it2 r).bindQ fun q r₁ => if q.2.any isTmp || decide (4096 < q.1.length) then .st 73 else
          ((loopEQ (fun d r => (assignQ t2 (false, d) r).bindQ fun _ r => (ih_c.t r).bindQ fun t' r =>
            if t' then (ih_e.v r).bindQ fun v r => .ok [v.2] (wipeT t2 r) else .ok [] (wipeT t2 r)) q.1 (wipeT t2 (q.2.foldl lockO r₁))).mapN fun r => q.2.foldl (unlockO r₁) (backT r₁ t2 r)).bindQ fun ds r => .ok ds (wipeT (.two t t2) r))
          p.1 (wipeT (.two t t2) (p.2.foldl lockO r₀))).mapN fun r => p.2.foldl (unlockO r₀) (backT r₀ (.two t t2) r)).bindQ fun ds r => .ok (true, .list ds) r)
  -- coll
  (fun tu it ih_it =>  mkQ fun r => (ih_it r).bindQ fun p r => .ok (if tu then (false, .tuple p.1) else (true, .list p.1)) r)
  -- same
  (fun a b ih_a ih_b =>  mkQ fun r => (ih_a.o r).bindQ fun x r => (shwR (opvQ r x) r).bindQ fun dx r => (ih_b.o r).bindQ fun y r => (shwR (opvQ r y) r).bindQ fun dy r => .ok (false, .bool (shwEq dx dy)) r)
  -- append
  (fun i e ih_e =>  mkQ fun r => if ownL (slotQ r i) then (ih_e.v r).bindQ fun v r => match slotQ r i with
        | .ow (.list xs) => if xs.length < szLine then .ok (false, .none) (setQ r i (.ow (.list (xs ++ [v.2])))) else .st 39
        | .io (.list xs) => if xs.length < szLine then .ok (false, .none) (setQ r i (.io (.list (xs ++ [v.2])))) else .st 39
        | _ => .st 40
        else .st 40)
  -- pop
  (fun i =>  mkQ fun r => match slotQ r i with
        | .ow (.list xs) => (match xs.getLast? with | some v => .ok (false, v) (setQ r i (.ow (.list xs.dropLast))) | none => .st 41)
        | .io (.list xs) => (match xs.getLast? with | some v => .ok (false, v) (setQ r i (.io (.list xs.dropLast))) | none => .st 41)
        | _ => .st 42)
  -- popat
  (fun i e ih_e =>  mkQ fun r => (ih_e.o r).bindQ fun x r => match opdQ r x, slotQ r i with
        | some (.int n), .ow (.list xs) => (match (idxNat xs.length n) with
          | some k => (match getAt xs k with | some v => .ok (false, v) (setQ r i (.ow (.list (dropAt xs k)))) | none => .st 43)
          | none => .st 43)
        | _, _ => .st 44)
  -- remove
  (fun i e ih_e =>  mkQ fun r => (ih_e.o r).bindQ fun x r => match opdQ r x, slotQ r i with
        | some d, .ow (.list xs) => if shp 60 d && shpA 60 xs then (match indexOf d xs 0 with
          | some k => .ok (false, .none) (setQ r i (.ow (.list (dropAt xs k))))
          | none => .st 45) else .st 45
        | _, _ => .st 46)
  -- told
  (fun f e ih_e =>  mkQ fun r => match ih_e.v r with
        | .ok v r => .ok v r
        | .ex k as r => (match lookH k (X.hand f) with
          | some (t, n) => (match getAt as n with | some d => .ok (true, .list [t, d]) r | none => .st 47)
          | none => .st 36)
        | .st n => .st n)
  -- sortkey
  (fun a i k ih_a ih_k =>  mkQ fun r => (ih_a.o r).bindQ fun x r => match (opdQ r x).bind seqOf with
        | some xs => (loopEQ (fun d r => (storeQ i (false, d) r).bindQ fun _ r => (ih_k.v r).bindQ fun v r => .ok [.tuple [v.2, d]] r) xs r).bindQ fun ps r' =>
            if orderly (ps.filterMap fun p => match p with | .tuple [a, _] => some a | _ => none) then
              .ok (true, .list ((ps.mergeSort (fun p q => match p, q with | .tuple [a, _], .tuple [b, _] => leD a b | _, _ => true)).filterMap fun p => match p with | .tuple [_, d] => some d | _ => none)) (setQ r' i (slotQ r i))
            else .st 48
        | none => .st 49)
  -- bad
  (fun n =>  mkQ fun _ => .st (1000 + n))
  -- nil
  ( ⟨fun r => .ok [] r, fun r => .ok [] r, fun _ r => .ok [] r⟩)
  -- cons
  (fun e es ih_e ih_es =>  ⟨fun r => (ih_e.o r).bindQ fun x r => (ih_es.o r).bindQ fun xs r => .ok (x :: xs) r,
        fun r => (ih_e.v r).bindQ fun x r => (ih_es.v r).bindQ fun xs r => .ok (x.2 :: xs) r,
        fun bs r => if headIo bs then (match e with
          | .var i => if (slotQ r i).own then (ih_es.a bs.tail r).bindQ fun xs r => .ok (.io i :: xs) r else .st 50
          | _ => .st 50)
        else (ih_e.v r).bindQ fun x r => (ih_es.a bs.tail r).bindQ fun xs r => .ok (.val x.2 :: xs) r⟩)
  -- seq
  (fun e ih_e => fun r => (ih_e.o r).bindQ fun x r => match opdQ r x with
        | some (.list xs) => if itOk r x then .ok (xs, [x]) r else .st 51
        | some (.tuple xs) => .ok (xs, [x]) r
        | _ => .st 51)
  -- range1
  (fun a ih_a => fun r => (ih_a.o r).bindQ fun x r => match opdQ r x with
        | some (.int n) => if smallQ n then .ok (ranged 0 n.toNat, []) r else .st 52
        | _ => .st 52)
  -- range2
  (fun a b ih_a ih_b => fun r => (ih_a.o r).bindQ fun x r => (ih_b.o r).bindQ fun y r => match opdQ r x, opdQ r y with
        | some (.int m), some (.int n) => if smallQ m && smallQ n then .ok (ranged m (n - m).toNat, []) r else .st 53
        | _, _ => .st 53)
  -- range3
  (fun a b c ih_a ih_b ih_c => fun r => (ih_a.o r).bindQ fun x r => (ih_b.o r).bindQ fun y r => (ih_c.o r).bindQ fun z r => match opdQ r x, opdQ r y, opdQ r z with
        | some (.int m), some (.int n), some (.int k) => (match rangeLen m n k with
          | some j => .ok (rangedBy m k j, []) r
          | none => .st 54)
        | _, _, _ => .st 54)
  -- enum
  (fun e ih_e => fun r => (ih_e.o r).bindQ fun x r => match opdQ r x with
        | some (.list xs) => if itOk r x then .ok (enumFrom 0 xs, [x]) r else .st 55
        | some (.tuple xs) => .ok (enumFrom 0 xs, [x]) r
        | _ => .st 55)
  -- zip2
  (fun a b ih_a ih_b => fun r => (ih_a.o r).bindQ fun x r => (ih_b.o r).bindQ fun y r => match opdQ r x, opdQ r y with
        | some (.list xs), some (.list ys) => if itOk r x && itOk r y then .ok (zipD xs ys, [x, y]) r else .st 56
        | some (.tuple xs), some (.tuple ys) => .ok (zipD xs ys, [x, y]) r
        | some (.list xs), some (.tuple ys) => if itOk r x then .ok (zipD xs ys, [x, y]) r else .st 56
        | some (.tuple xs), some (.list ys) => if itOk r y then .ok (zipD xs ys, [x, y]) r else .st 56
        | _, _ => .st 56)
  -- zip3
  (fun u_a u_b u_c ih_u_a ih_u_b ih_u_c => fun _ => .st 57)
noncomputable def exR (X : Cx) : S → Env → Res MW.Flow := @S.rec (fun _ => Env → Res MW.Flow)
  -- skip
  (fun r => .ok .next r)
  -- seq
  (fun a b ih_a ih_b => fun r => (ih_a r).bindQ fun w r => match w with
      | .next => ih_b r
      | w => .ok w r)
  -- asg
  (fun t e => fun r => ((rE X e).v r).bindQ fun v r => (assignQ t v r).bindQ fun _ r => .ok .next r)
  -- par2
  (fun i j a b => fun r => ((rE X a).v r).bindQ fun v r => ((rE X b).v r).bindQ fun w r => (storeQ i v r).bindQ fun _ r => (storeQ j w r).bindQ fun _ r => .ok .next r)
  -- par3
  (fun i j k a b c => fun r => ((rE X a).v r).bindQ fun v r => ((rE X b).v r).bindQ fun w r => ((rE X c).v r).bindQ fun u r => (storeQ i v r).bindQ fun _ r => (storeQ j w r).bindQ fun _ r => (storeQ k u r).bindQ fun _ r => .ok .next r)
  -- set
  (fun i ix e => fun r => ((rE X e).v r).bindQ fun v r => if (slotQ r i).own then ((rE X ix).o r).bindQ fun k r => match opvQ r k with
      | some k => (itemQ r i k v.2).bindQ fun _ r => .ok .next r
      | none => .st 65
      else .st 65)
  -- swap
  (fun i x y e1 e2 => fun r => ((rE X e1).v r).bindQ fun v r => ((rE X e2).v r).bindQ fun w r => ((rE X x).o r).bindQ fun k r => match opvQ r k with
      | some k => (itemQ r i k v.2).bindQ fun _ r => ((rE X y).o r).bindQ fun k r => (match opvQ r k with
        | some k => (itemQ r i k w.2).bindQ fun _ r => .ok .next r
        | none => .st 65)
      | none => .st 65)
  -- aug
  (fun i o e => fun r => if isSet (slotQ r i) then ((rE X e).o r).bindQ fun y r => match opvQ r (.ref i), opvQ r y with
      | some (.int x), some (.int y) => (ofOV 67 (opQ o (.int x) (.int y)) r).bindQ fun v r => (storeQ i v r).bindQ fun _ r => .ok .next r
      | some (.list xs), some (.list ys) => augL i o xs ys r
      | _, _ => .st 68
      else .st 68)
  -- augset
  (fun i ix o e => fun r => if isSet (slotQ r i) then ((rE X ix).o r).bindQ fun k r => match opdQ r (.ref i), opvQ r k with
      | some x, some kd => (match idxQ x kd, keyOk kd with
        | some (.int old), true => ((rE X e).o r).bindQ fun y r => (match opvQ r y with
          | some (.int y) => (ofOV 69 (opQ o (.int old) (.int y)) r).bindQ fun v r => (itemQ r i kd v.2).bindQ fun _ r => .ok .next r
          | _ => .st 70)
        | _, _ => .st 71)
      | _, _ => .st 72
      else .st 72)
  -- expr
  (fun e => fun r => ((rE X e).v r).bindQ fun _ r => .ok .next r)
  -- ite
  (fun c a b ih_a ih_b => fun r => ((rE X c).t r).bindQ fun t r => if t then ih_a r else ih_b r)
  -- for_
  (fun t it b ih_b => fun r => (rIt X it r).bindQ fun p r₀ =>
        ((loopSQ (fun d r => (assignQ t (false, d) r).bindQ fun _ r => ih_b r) p.1 (p.2.foldl lockO r₀)).mapR fun r => p.2.foldl (unlockO r₀) r).bindQ fun w r => .ok w r)
  -- while_
  (fun c b ih_b => fun r => loopW (rE X c).t (ih_b) X.wf r)
  -- ret
  (fun e => fun r => match e with
      | .var i => (match slotQ r i with
        | .ow d => .ok (.ret true d) (setQ r i .no)
        | _ => (useQ i r).bindQ fun v r => .ok (.ret v.1 v.2) r)
      | e => ((rE X e).v r).bindQ fun v r => .ok (.ret v.1 v.2) r)
  -- retn
  (fun r => .ok (.ret false .none) r)
  -- raise
  (fun k as => fun r => ((rEs X as).v r).bindQ fun ds r => .ex k ds r)
  -- cont
  (fun r => .ok .cont r)
  -- brk
  (fun r => .ok .brk r)
  -- tryx
  (fun b ks h ih_b ih_h => fun r => match ih_b r with
      | .ok w r => .ok w r
      | .ex k as r => if ks.contains k then ih_h r else .ex k as r
      | .st n => .st n)
  -- bad
  (fun n => fun _ => .st (2000 + n))
noncomputable def runR (X : Cx) (fn : Fn) (ss : List Slot) : Res (Bool × D) :=
  if ss.length = fn.np then
    match exR X fn.body (ss ++ noSlots fn.more) with
    | .ok (.ret o d) r => .ok (o, d) r
    | .ok .next r => .ok (false, .none) r
    | .ok _ _ => .st 80
    | .ex k as r => .ex k as r
    | .st n => .st n
  else .st 81
noncomputable def callR (p : Prog) (wf : Nat) : Nat → Call
  | 0 => fun _ _ => .st 90
  | k + 1 => fun f ss => match fnAt p.fn f with
    | some fn => runR (p.cx wf (callR p wf k)) fn ss
    | none => .st 91
end MW

namespace MW
open PySem
theorem bindQ_eqF {A B : Type} : @Res.bindQ A B = @Res.bind A B := by funext x f; exact bindQ_eq x f
theorem oVQ_eq (v : Env → Res (Bool × D)) : oVQ v = oV v := by funext r; unfold oVQ oV; rw [bindQ_eq]
theorem tOQ_eq (o : Env → Res Opd) : tOQ o = tO o := by funext r; unfold tOQ tO; rw [bindQ_eq]; simp only [opvQ_eq] <;> rfl
theorem mkQ_eq (v : Env → Res (Bool × D)) : mkQ v = mkV v := by unfold mkQ mkV; rw [oVQ_eq, tOQ_eq]
theorem rE_var (X : Cx) (i : Nat) : rE X (.var i) = ⟨fun r => useQ i r, fun r => if isSet (slotQ r i) then .ok (.ref i) r else .st 5, tOQ (fun r => if isSet (slotQ r i) then .ok (.ref i) r else .st 5)⟩ := rfl
theorem rE_const (X : Cx) (d : D) : rE X (.const d) = mkQ fun r => .ok (false, d) r := rfl
theorem rE_glob (X : Cx) (g : Nat) : rE X (.glob g) = ⟨fun r => if isScal (X.glob g) then .ok (false, X.glob g) r else .st 9, fun r => .ok (.cst (X.glob g)) r, tOQ (fun r => .ok (.cst (X.glob g)) r)⟩ := rfl
theorem rE_bin (X : Cx) (o : Op) (a : E) (b : E) : rE X (.bin o a b) = mkQ fun r => ((rE X a).o r).bindQ fun x r => ((rE X b).o r).bindQ fun y r =>
      match opvQ r x, opvQ r y with
      | some x, some y => ofOV 10 (opQ o x y) r
      | _, _ => .st 11 := rfl
theorem rE_neg (X : Cx) (a : E) : rE X (.neg a) = mkQ fun r => ((rE X a).o r).bindQ fun x r => match opdQ r x with
      | some (.int i) => .ok (false, .int (-i)) r
      | _ => .st 12 := rfl
theorem rE_not (X : Cx) (a : E) : rE X (.not a) = ⟨fun r => ((rE X a).o r).bindQ fun x r => match (opvQ r x).bind tru with
      | some t => .ok (false, .bool (!t)) r
      | none => .st 64, oVQ (fun r => ((rE X a).o r).bindQ fun x r => match (opvQ r x).bind tru with
      | some t => .ok (false, .bool (!t)) r
      | none => .st 64), fun r => ((rE X a).t r).bindQ fun t r => .ok (!t) r⟩ := rfl
theorem rE_and (X : Cx) (a : E) (b : E) : rE X (.and a b) = ⟨fun r => ((rE X a).v r).bindQ fun x r => match tru x.2 with
      | some true => (rE X b).v r
      | some false => .ok x r
      | none => .st 13, oVQ (fun r => ((rE X a).v r).bindQ fun x r => match tru x.2 with
      | some true => (rE X b).v r
      | some false => .ok x r
      | none => .st 13), fun r => ((rE X a).t r).bindQ fun t r => if t then (rE X b).t r else .ok false r⟩ := rfl
theorem rE_or (X : Cx) (a : E) (b : E) : rE X (.or a b) = ⟨fun r => ((rE X a).v r).bindQ fun x r => match tru x.2 with
      | some true => .ok x r
      | some false => (rE X b).v r
      | none => .st 13, oVQ (fun r => ((rE X a).v r).bindQ fun x r => match tru x.2 with
      | some true => .ok x r
      | some false => (rE X b).v r
      | none => .st 13), fun r => ((rE X a).t r).bindQ fun t r => if t then .ok true r else (rE X b).t r⟩ := rfl
theorem rE_cmp (X : Cx) (o : Cmp) (a : E) (b : E) : rE X (.cmp o a b) = mkQ fun r => ((rE X a).o r).bindQ fun x r => ((rE X b).o r).bindQ fun y r =>
      match opvQ r x, opdQ r y with
      | some x, some y => (match cmpQ o x y with | some t => .ok (false, .bool t) r | none => .st 14)
      | _, _ => .st 15 := rfl
theorem rE_chain (X : Cx) (o : Cmp) (p : Cmp) (a : E) (b : E) (c : E) : rE X (.chain o p a b c) = mkQ fun r => ((rE X a).o r).bindQ fun x r => ((rE X b).o r).bindQ fun y r =>
      match opvQ r x, opvQ r y with
      | some x, some d => (match cmpQ o x d with
        | some true => ((rE X c).o r).bindQ fun z r => (match opvQ r y, opdQ r z with
          | some d, some z => (match cmpQ p d z with | some t => .ok (false, .bool t) r | none => .st 16)
          | _, _ => .st 17)
        | some false => .ok (false, .bool false) r
        | none => .st 18)
      | _, _ => .st 19 := rfl
theorem rE_ite (X : Cx) (c : E) (a : E) (b : E) : rE X (.ite c a b) = mkQ fun r => ((rE X c).t r).bindQ fun t r => if t then (rE X a).v r else (rE X b).v r := rfl
theorem rE_call (X : Cx) (f : Nat) (as : Es) : rE X (.call f as) = mkQ fun r => ((rEs X as).a (X.io f) r).bindQ fun xs r => match argSlots r xs with
      | some ss => (match X.call f ss with
        | .ok v s => (match takeBack r xs s with | some r => .ok v r | none => .st 21)
        | .ex k as s => (match takeBack r xs s with | some r => .ex k as r | none => .st 22)
        | .st n => .st n)
      | none => .st 23 := rfl
theorem rE_prim (X : Cx) (p : P) (as : Es) : rE X (.prim p as) = mkQ fun r => ((rEs X as).o r).bindQ fun xs r => match opdsD r xs with
      | some ds => ofOV 24 (primQ p ds) r
      | none => .st 25 := rfl
theorem rE_meth (X : Cx) (m : M) (a : E) (as : Es) : rE X (.meth m a as) = mkQ fun r => ((rE X a).o r).bindQ fun x r => match opdQ r x with
      | some d0 => if methOk m d0 then ((rEs X as).o r).bindQ fun xs r => (match opdQ r x, opdsD r xs with
        | some d, some ds => if kindD d0 = kindD d then ofOV 26 (methSem m d ds) r else .st 26
        | _, _ => .st 27) else .st 27
      | none => .st 27 := rfl
theorem rE_tup (X : Cx) (as : Es) : rE X (.tup as) = mkQ fun r => ((rEs X as).v r).bindQ fun ds r => .ok (false, .tuple ds) r := rfl
theorem rE_lst (X : Cx) (as : Es) : rE X (.lst as) = mkQ fun r => ((rEs X as).v r).bindQ fun ds r => .ok (true, .list ds) r := rfl
theorem rE_dic (X : Cx) (u_t : Bool) (as : Es) : rE X (.dic u_t as) = mkQ fun r => ((rEs X as).v r).bindQ fun ds r => match pairsK ds [] with
      | some kvs => .ok (true, .dict kvs) r
      | none => .st 28 := rfl
theorem rE_idx (X : Cx) (a : E) (i : E) : rE X (.idx a i) = mkQ fun r => ((rE X a).o r).bindQ fun x r => ((rE X i).o r).bindQ fun y r =>
      match opdQ r x, opvQ r y with
      | some x, some y => (match idxQ x y with | some v => .ok (false, v) r | none => .st 29)
      | _, _ => .st 30 := rfl
theorem rE_slice (X : Cx) (a : E) (lo : E) (hi : E) : rE X (.slice a lo hi) = mkQ fun r => ((rE X a).o r).bindQ fun x r => (partR (isNoneE lo) ((rE X lo).o r) r).bindQ fun l r => (partR (isNoneE hi) ((rE X hi).o r) r).bindQ fun u r =>
      match opvQ r x with
      | some x => ofOV 31 (sliceSem x (optD l) (optD u)) r
      | _ => .st 32 := rfl
theorem rE_rev (X : Cx) (a : E) : rE X (.rev a) = mkQ fun r => ((rE X a).o r).bindQ fun x r => match opvQ r x with
      | some x => ofOV 33 (revSem x) r
      | _ => .st 34 := rfl
theorem rE_comp (X : Cx) (t : T) (it : It) (c : E) (e : E) : rE X (.comp t it c e) = mkQ fun r => (rIt X it r).bindQ fun p r₀ => if szLine < p.1.length then .st 58 else
      ((loopEQ (fun d r => (assignQ t (false, d) r).bindQ fun _ r => ((rE X c).t r).bindQ fun t' r =>
        if t' then ((rE X e).v r).bindQ fun v r => .ok [v.2] (wipeT t r) else .ok [] (wipeT t r)) p.1 (wipeT t (p.2.foldl lockO r₀))).mapN fun r => p.2.foldl (unlockO r₀) (backT r₀ t r)).bindQ fun ds r => .ok (true, .list ds) r := rfl
theorem rE_comp2 (X : Cx) (t : T) (it : It) (t2 : T) (it2 : It) (c : E) (e : E) : rE X (.comp2 t it t2 it2 c e) = mkQ fun r => (rIt X it r).bindQ fun p r₀ => if 4096 < p.1.length then .st 58 else
      ((loopEQ (fun d r => (assignQ t (false, d) r).bindQ fun _ r => (rIt X it2 r).bindQ fun q r₁ => if q.2.any isTmp || decide (4096 < q.1.length) then .st 73 else
        ((loopEQ (fun d r => (assignQ t2 (false, d) r).bindQ fun _ r => ((rE X c).t r).bindQ fun t' r =>
          if t' then ((rE X e).v r).bindQ fun v r => .ok [v.2] (wipeT t2 r) else .ok [] (wipeT t2 r)) q.1 (wipeT t2 (q.2.foldl lockO r₁))).mapN fun r => q.2.foldl (unlockO r₁) (backT r₁ t2 r)).bindQ fun ds r => .ok ds (wipeT (.two t t2) r))
        p.1 (wipeT (.two t t2) (p.2.foldl lockO r₀))).mapN fun r => p.2.foldl (unlockO r₀) (backT r₀ (.two t t2) r)).bindQ fun ds r => .ok (true, .list ds) r := rfl
theorem rE_coll (X : Cx) (tu : Bool) (it : It) : rE X (.coll tu it) = mkQ fun r => (rIt X it r).bindQ fun p r => .ok (if tu then (false, .tuple p.1) else (true, .list p.1)) r := rfl
theorem rE_same (X : Cx) (a : E) (b : E) : rE X (.same a b) = mkQ fun r => ((rE X a).o r).bindQ fun x r => (shwR (opvQ r x) r).bindQ fun dx r => ((rE X b).o r).bindQ fun y r => (shwR (opvQ r y) r).bindQ fun dy r => .ok (false, .bool (shwEq dx dy)) r := rfl
theorem rE_append (X : Cx) (i : Nat) (e : E) : rE X (.append i e) = mkQ fun r => if ownL (slotQ r i) then ((rE X e).v r).bindQ fun v r => match slotQ r i with
      | .ow (.list xs) => if xs.length < szLine then .ok (false, .none) (setQ r i (.ow (.list (xs ++ [v.2])))) else .st 39
      | .io (.list xs) => if xs.length < szLine then .ok (false, .none) (setQ r i (.io (.list (xs ++ [v.2])))) else .st 39
      | _ => .st 40
      else .st 40 := rfl
theorem rE_pop (X : Cx) (i : Nat) : rE X (.pop i) = mkQ fun r => match slotQ r i with
      | .ow (.list xs) => (match xs.getLast? with | some v => .ok (false, v) (setQ r i (.ow (.list xs.dropLast))) | none => .st 41)
      | .io (.list xs) => (match xs.getLast? with | some v => .ok (false, v) (setQ r i (.io (.list xs.dropLast))) | none => .st 41)
      | _ => .st 42 := rfl
theorem rE_popat (X : Cx) (i : Nat) (e : E) : rE X (.popat i e) = mkQ fun r => ((rE X e).o r).bindQ fun x r => match opdQ r x, slotQ r i with
      | some (.int n), .ow (.list xs) => (match (idxNat xs.length n) with
        | some k => (match getAt xs k with | some v => .ok (false, v) (setQ r i (.ow (.list (dropAt xs k)))) | none => .st 43)
        | none => .st 43)
      | _, _ => .st 44 := rfl
theorem rE_remove (X : Cx) (i : Nat) (e : E) : rE X (.remove i e) = mkQ fun r => ((rE X e).o r).bindQ fun x r => match opdQ r x, slotQ r i with
      | some d, .ow (.list xs) => if shp 60 d && shpA 60 xs then (match indexOf d xs 0 with
        | some k => .ok (false, .none) (setQ r i (.ow (.list (dropAt xs k))))
        | none => .st 45) else .st 45
      | _, _ => .st 46 := rfl
theorem rE_told (X : Cx) (f : Nat) (e : E) : rE X (.told f e) = mkQ fun r => match (rE X e).v r with
      | .ok v r => .ok v r
      | .ex k as r => (match lookH k (X.hand f) with
        | some (t, n) => (match getAt as n with | some d => .ok (true, .list [t, d]) r | none => .st 47)
        | none => .st 36)
      | .st n => .st n := rfl
theorem rE_sortkey (X : Cx) (a : E) (i : Nat) (k : E) : rE X (.sortkey a i k) = mkQ fun r => ((rE X a).o r).bindQ fun x r => match (opdQ r x).bind seqOf with
      | some xs => (loopEQ (fun d r => (storeQ i (false, d) r).bindQ fun _ r => ((rE X k).v r).bindQ fun v r => .ok [.tuple [v.2, d]] r) xs r).bindQ fun ps r' =>
          if orderly (ps.filterMap fun p => match p with | .tuple [a, _] => some a | _ => none) then
            .ok (true, .list ((ps.mergeSort (fun p q => match p, q with | .tuple [a, _], .tuple [b, _] => leD a b | _, _ => true)).filterMap fun p => match p with | .tuple [_, d] => some d | _ => none)) (setQ r' i (slotQ r i))
          else .st 48
      | none => .st 49 := rfl
theorem rE_bad (X : Cx) (n : Nat) : rE X (.bad n) = mkQ fun _ => .st (1000 + n) := rfl
theorem rEs_nil (X : Cx)  : rEs X (.nil ) = ⟨fun r => .ok [] r, fun r => .ok [] r, fun _ r => .ok [] r⟩ := rfl
theorem rEs_cons (X : Cx) (e : E) (es : Es) : rEs X (.cons e es) = ⟨fun r => ((rE X e).o r).bindQ fun x r => ((rEs X es).o r).bindQ fun xs r => .ok (x :: xs) r,
      fun r => ((rE X e).v r).bindQ fun x r => ((rEs X es).v r).bindQ fun xs r => .ok (x.2 :: xs) r,
      fun bs r => if headIo bs then (match e with
        | .var i => if (slotQ r i).own then ((rEs X es).a bs.tail r).bindQ fun xs r => .ok (.io i :: xs) r else .st 50
        | _ => .st 50)
      else ((rE X e).v r).bindQ fun x r => ((rEs X es).a bs.tail r).bindQ fun xs r => .ok (.val x.2 :: xs) r⟩ := rfl
theorem rIt_seq (X : Cx) (e : E) : rIt X (.seq e) = fun r => ((rE X e).o r).bindQ fun x r => match opdQ r x with
      | some (.list xs) => if itOk r x then .ok (xs, [x]) r else .st 51
      | some (.tuple xs) => .ok (xs, [x]) r
      | _ => .st 51 := rfl
theorem rIt_range1 (X : Cx) (a : E) : rIt X (.range1 a) = fun r => ((rE X a).o r).bindQ fun x r => match opdQ r x with
      | some (.int n) => if smallQ n then .ok (ranged 0 n.toNat, []) r else .st 52
      | _ => .st 52 := rfl
theorem rIt_range2 (X : Cx) (a : E) (b : E) : rIt X (.range2 a b) = fun r => ((rE X a).o r).bindQ fun x r => ((rE X b).o r).bindQ fun y r => match opdQ r x, opdQ r y with
      | some (.int m), some (.int n) => if smallQ m && smallQ n then .ok (ranged m (n - m).toNat, []) r else .st 53
      | _, _ => .st 53 := rfl
theorem rIt_range3 (X : Cx) (a : E) (b : E) (c : E) : rIt X (.range3 a b c) = fun r => ((rE X a).o r).bindQ fun x r => ((rE X b).o r).bindQ fun y r => ((rE X c).o r).bindQ fun z r => match opdQ r x, opdQ r y, opdQ r z with
      | some (.int m), some (.int n), some (.int k) => (match rangeLen m n k with
        | some j => .ok (rangedBy m k j, []) r
        | none => .st 54)
      | _, _, _ => .st 54 := rfl
theorem rIt_enum (X : Cx) (e : E) : rIt X (.enum e) = fun r => ((rE X e).o r).bindQ fun x r => match opdQ r x with
      | some (.list xs) => if itOk r x then .ok (enumFrom 0 xs, [x]) r else .st 55
      | some (.tuple xs) => .ok (enumFrom 0 xs, [x]) r
      | _ => .st 55 := rfl
theorem rIt_zip2 (X : Cx) (a : E) (b : E) : rIt X (.zip2 a b) = fun r => ((rE X a).o r).bindQ fun x r => ((rE X b).o r).bindQ fun y r => match opdQ r x, opdQ r y with
      | some (.list xs), some (.list ys) => if itOk r x && itOk r y then .ok (zipD xs ys, [x, y]) r else .st 56
      | some (.tuple xs), some (.tuple ys) => .ok (zipD xs ys, [x, y]) r
      | some (.list xs), some (.tuple ys) => if itOk r x then .ok (zipD xs ys, [x, y]) r else .st 56
      | some (.tuple xs), some (.list ys) => if itOk r y then .ok (zipD xs ys, [x, y]) r else .st 56
      | _, _ => .st 56 := rfl
theorem rIt_zip3 (X : Cx) (u_a : E) (u_b : E) (u_c : E) : rIt X (.zip3 u_a u_b u_c) = fun _ => .st 57 := rfl
theorem exR_skip (X : Cx)  : exR X (.skip ) = fun r => .ok .next r := rfl
theorem exR_seq (X : Cx) (a : S) (b : S) : exR X (.seq a b) = fun r => (exR X a r).bindQ fun w r => match w with
    | .next => exR X b r
    | w => .ok w r := rfl
theorem exR_asg (X : Cx) (t : T) (e : E) : exR X (.asg t e) = fun r => ((rE X e).v r).bindQ fun v r => (assignQ t v r).bindQ fun _ r => .ok .next r := rfl
theorem exR_par2 (X : Cx) (i : Nat) (j : Nat) (a : E) (b : E) : exR X (.par2 i j a b) = fun r => ((rE X a).v r).bindQ fun v r => ((rE X b).v r).bindQ fun w r => (storeQ i v r).bindQ fun _ r => (storeQ j w r).bindQ fun _ r => .ok .next r := rfl
theorem exR_par3 (X : Cx) (i : Nat) (j : Nat) (k : Nat) (a : E) (b : E) (c : E) : exR X (.par3 i j k a b c) = fun r => ((rE X a).v r).bindQ fun v r => ((rE X b).v r).bindQ fun w r => ((rE X c).v r).bindQ fun u r => (storeQ i v r).bindQ fun _ r => (storeQ j w r).bindQ fun _ r => (storeQ k u r).bindQ fun _ r => .ok .next r := rfl
theorem exR_set (X : Cx) (i : Nat) (ix : E) (e : E) : exR X (.set i ix e) = fun r => ((rE X e).v r).bindQ fun v r => if (slotQ r i).own then ((rE X ix).o r).bindQ fun k r => match opvQ r k with
    | some k => (itemQ r i k v.2).bindQ fun _ r => .ok .next r
    | none => .st 65
    else .st 65 := rfl
theorem exR_swap (X : Cx) (i : Nat) (x : E) (y : E) (e1 : E) (e2 : E) : exR X (.swap i x y e1 e2) = fun r => ((rE X e1).v r).bindQ fun v r => ((rE X e2).v r).bindQ fun w r => ((rE X x).o r).bindQ fun k r => match opvQ r k with
    | some k => (itemQ r i k v.2).bindQ fun _ r => ((rE X y).o r).bindQ fun k r => (match opvQ r k with
      | some k => (itemQ r i k w.2).bindQ fun _ r => .ok .next r
      | none => .st 65)
    | none => .st 65 := rfl
theorem exR_aug (X : Cx) (i : Nat) (o : Op) (e : E) : exR X (.aug i o e) = fun r => if isSet (slotQ r i) then ((rE X e).o r).bindQ fun y r => match opvQ r (.ref i), opvQ r y with
    | some (.int x), some (.int y) => (ofOV 67 (opQ o (.int x) (.int y)) r).bindQ fun v r => (storeQ i v r).bindQ fun _ r => .ok .next r
    | some (.list xs), some (.list ys) => augL i o xs ys r
    | _, _ => .st 68
    else .st 68 := rfl
theorem exR_augset (X : Cx) (i : Nat) (ix : E) (o : Op) (e : E) : exR X (.augset i ix o e) = fun r => if isSet (slotQ r i) then ((rE X ix).o r).bindQ fun k r => match opdQ r (.ref i), opvQ r k with
    | some x, some kd => (match idxQ x kd, keyOk kd with
      | some (.int old), true => ((rE X e).o r).bindQ fun y r => (match opvQ r y with
        | some (.int y) => (ofOV 69 (opQ o (.int old) (.int y)) r).bindQ fun v r => (itemQ r i kd v.2).bindQ fun _ r => .ok .next r
        | _ => .st 70)
      | _, _ => .st 71)
    | _, _ => .st 72
    else .st 72 := rfl
theorem exR_expr (X : Cx) (e : E) : exR X (.expr e) = fun r => ((rE X e).v r).bindQ fun _ r => .ok .next r := rfl
theorem exR_ite (X : Cx) (c : E) (a : S) (b : S) : exR X (.ite c a b) = fun r => ((rE X c).t r).bindQ fun t r => if t then exR X a r else exR X b r := rfl
theorem exR_for_ (X : Cx) (t : T) (it : It) (b : S) : exR X (.for_ t it b) = fun r => (rIt X it r).bindQ fun p r₀ =>
      ((loopSQ (fun d r => (assignQ t (false, d) r).bindQ fun _ r => exR X b r) p.1 (p.2.foldl lockO r₀)).mapR fun r => p.2.foldl (unlockO r₀) r).bindQ fun w r => .ok w r := rfl
theorem exR_while_ (X : Cx) (c : E) (b : S) : exR X (.while_ c b) = fun r => loopW (rE X c).t (exR X b) X.wf r := rfl
theorem exR_ret (X : Cx) (e : E) : exR X (.ret e) = fun r => match e with
    | .var i => (match slotQ r i with
      | .ow d => .ok (.ret true d) (setQ r i .no)
      | _ => (useQ i r).bindQ fun v r => .ok (.ret v.1 v.2) r)
    | e => ((rE X e).v r).bindQ fun v r => .ok (.ret v.1 v.2) r := rfl
theorem exR_retn (X : Cx)  : exR X (.retn ) = fun r => .ok (.ret false .none) r := rfl
theorem exR_raise (X : Cx) (k : Nat) (as : Es) : exR X (.raise k as) = fun r => ((rEs X as).v r).bindQ fun ds r => .ex k ds r := rfl
theorem exR_cont (X : Cx)  : exR X (.cont ) = fun r => .ok .cont r := rfl
theorem exR_brk (X : Cx)  : exR X (.brk ) = fun r => .ok .brk r := rfl
theorem exR_tryx (X : Cx) (b : S) (ks : List Nat) (h : S) : exR X (.tryx b ks h) = fun r => match exR X b r with
    | .ok w r => .ok w r
    | .ex k as r => if ks.contains k then exR X h r else .ex k as r
    | .st n => .st n := rfl
theorem exR_bad (X : Cx) (n : Nat) : exR X (.bad n) = fun _ => .st (2000 + n) := rfl
mutual
theorem rE_eq (X : Cx) : ∀ e : E, rE X e = cE X e
  | .var i => by
    rw [rE_var]
    unfold cE
    try (simp only [bindQ_eq, slotQ_eq, setQ_eq, storeQ_eq, useQ_eq, opdQ_eq, opvQ_eq, idxQ_eq, loopSQ_eq, loopEQ_eq, assignQ_eq, smallQ_eq, oVQ_eq, tOQ_eq, mkQ_eq, opQ_eq, cmpQ_eq, primQ_eq, itemQ_eq, bindQ_eqF] <;> rfl)
  | .const d => by
    rw [rE_const]
    unfold cE
    try (simp only [bindQ_eq, slotQ_eq, setQ_eq, storeQ_eq, useQ_eq, opdQ_eq, opvQ_eq, idxQ_eq, loopSQ_eq, loopEQ_eq, assignQ_eq, smallQ_eq, oVQ_eq, tOQ_eq, mkQ_eq, opQ_eq, cmpQ_eq, primQ_eq, itemQ_eq, bindQ_eqF] <;> rfl)
  | .glob g => by
    rw [rE_glob]
    unfold cE
    try (simp only [bindQ_eq, slotQ_eq, setQ_eq, storeQ_eq, useQ_eq, opdQ_eq, opvQ_eq, idxQ_eq, loopSQ_eq, loopEQ_eq, assignQ_eq, smallQ_eq, oVQ_eq, tOQ_eq, mkQ_eq, opQ_eq, cmpQ_eq, primQ_eq, itemQ_eq, bindQ_eqF] <;> rfl)
  | .bin o a b => by
    rw [rE_bin]
    unfold cE
    try (simp only [rE_eq X a, rE_eq X b, bindQ_eq, slotQ_eq, setQ_eq, storeQ_eq, useQ_eq, opdQ_eq, opvQ_eq, idxQ_eq, loopSQ_eq, loopEQ_eq, assignQ_eq, smallQ_eq, oVQ_eq, tOQ_eq, mkQ_eq, opQ_eq, cmpQ_eq, primQ_eq, itemQ_eq, bindQ_eqF] <;> rfl)
  | .neg a => by
    rw [rE_neg]
    unfold cE
    try (simp only [rE_eq X a, bindQ_eq, slotQ_eq, setQ_eq, storeQ_eq, useQ_eq, opdQ_eq, opvQ_eq, idxQ_eq, loopSQ_eq, loopEQ_eq, assignQ_eq, smallQ_eq, oVQ_eq, tOQ_eq, mkQ_eq, opQ_eq, cmpQ_eq, primQ_eq, itemQ_eq, bindQ_eqF] <;> rfl)
  | .not a => by
    rw [rE_not]
    unfold cE
    try (simp only [rE_eq X a, bindQ_eq, slotQ_eq, setQ_eq, storeQ_eq, useQ_eq, opdQ_eq, opvQ_eq, idxQ_eq, loopSQ_eq, loopEQ_eq, assignQ_eq, smallQ_eq, oVQ_eq, tOQ_eq, mkQ_eq, opQ_eq, cmpQ_eq, primQ_eq, itemQ_eq, bindQ_eqF] <;> rfl)
  | .and a b => by
    rw [rE_and]
    unfold cE
    try (simp only [rE_eq X a, rE_eq X b, bindQ_eq, slotQ_eq, setQ_eq, storeQ_eq, useQ_eq, opdQ_eq, opvQ_eq, idxQ_eq, loopSQ_eq, loopEQ_eq, assignQ_eq, smallQ_eq, oVQ_eq, tOQ_eq, mkQ_eq, opQ_eq, cmpQ_eq, primQ_eq, itemQ_eq, bindQ_eqF] <;> rfl)
  | .or a b => by
    rw [rE_or]
    unfold cE
    try (simp only [rE_eq X a, rE_eq X b, bindQ_eq, slotQ_eq, setQ_eq, storeQ_eq, useQ_eq, opdQ_eq, opvQ_eq, idxQ_eq, loopSQ_eq, loopEQ_eq, assignQ_eq, smallQ_eq, oVQ_eq, tOQ_eq, mkQ_eq, opQ_eq, cmpQ_eq, primQ_eq, itemQ_eq, bindQ_eqF] <;> rfl)
  | .cmp o a b => by
    rw [rE_cmp]
    unfold cE
    try (simp only [rE_eq X a, rE_eq X b, bindQ_eq, slotQ_eq, setQ_eq, storeQ_eq, useQ_eq, opdQ_eq, opvQ_eq, idxQ_eq, loopSQ_eq, loopEQ_eq, assignQ_eq, smallQ_eq, oVQ_eq, tOQ_eq, mkQ_eq, opQ_eq, cmpQ_eq, primQ_eq, itemQ_eq, bindQ_eqF] <;> rfl)
  | .chain o p a b c => by
    rw [rE_chain]
    unfold cE
    try (simp only [rE_eq X a, rE_eq X b, rE_eq X c, bindQ_eq, slotQ_eq, setQ_eq, storeQ_eq, useQ_eq, opdQ_eq, opvQ_eq, idxQ_eq, loopSQ_eq, loopEQ_eq, assignQ_eq, smallQ_eq, oVQ_eq, tOQ_eq, mkQ_eq, opQ_eq, cmpQ_eq, primQ_eq, itemQ_eq, bindQ_eqF] <;> rfl)
  | .ite c a b => by
    rw [rE_ite]
    unfold cE
    try (simp only [rE_eq X c, rE_eq X a, rE_eq X b, bindQ_eq, slotQ_eq, setQ_eq, storeQ_eq, useQ_eq, opdQ_eq, opvQ_eq, idxQ_eq, loopSQ_eq, loopEQ_eq, assignQ_eq, smallQ_eq, oVQ_eq, tOQ_eq, mkQ_eq, opQ_eq, cmpQ_eq, primQ_eq, itemQ_eq, bindQ_eqF] <;> rfl)
  | .call f as => by
    rw [rE_call]
    unfold cE
    try (simp only [rEs_eq X as, bindQ_eq, slotQ_eq, setQ_eq, storeQ_eq, useQ_eq, opdQ_eq, opvQ_eq, idxQ_eq, loopSQ_eq, loopEQ_eq, assignQ_eq, smallQ_eq, oVQ_eq, tOQ_eq, mkQ_eq, opQ_eq, cmpQ_eq, primQ_eq, itemQ_eq, bindQ_eqF] <;> rfl)
  | .prim p as => by
    rw [rE_prim]
    unfold cE
    try (simp only [rEs_eq X as, bindQ_eq, slotQ_eq, setQ_eq, storeQ_eq, useQ_eq, opdQ_eq, opvQ_eq, idxQ_eq, loopSQ_eq, loopEQ_eq, assignQ_eq, smallQ_eq, oVQ_eq, tOQ_eq, mkQ_eq, opQ_eq, cmpQ_eq, primQ_eq, itemQ_eq, bindQ_eqF] <;> rfl)
  | .meth m a as => by
    rw [rE_meth]
    unfold cE
    try (simp only [rE_eq X a, rEs_eq X as, bindQ_eq, slotQ_eq, setQ_eq, storeQ_eq, useQ_eq, opdQ_eq, opvQ_eq, idxQ_eq, loopSQ_eq, loopEQ_eq, assignQ_eq, smallQ_eq, oVQ_eq, tOQ_eq, mkQ_eq, opQ_eq, cmpQ_eq, primQ_eq, itemQ_eq, bindQ_eqF] <;> rfl)
  | .tup as => by
    rw [rE_tup]
    unfold cE
    try (simp only [rEs_eq X as, bindQ_eq, slotQ_eq, setQ_eq, storeQ_eq, useQ_eq, opdQ_eq, opvQ_eq, idxQ_eq, loopSQ_eq, loopEQ_eq, assignQ_eq, smallQ_eq, oVQ_eq, tOQ_eq, mkQ_eq, opQ_eq, cmpQ_eq, primQ_eq, itemQ_eq, bindQ_eqF] <;> rfl)
  | .lst as => by
    rw [rE_lst]
    unfold cE
    try (simp only [rEs_eq X as, bindQ_eq, slotQ_eq, setQ_eq, storeQ_eq, useQ_eq, opdQ_eq, opvQ_eq, idxQ_eq, loopSQ_eq, loopEQ_eq, assignQ_eq, smallQ_eq, oVQ_eq, tOQ_eq, mkQ_eq, opQ_eq, cmpQ_eq, primQ_eq, itemQ_eq, bindQ_eqF] <;> rfl)
  | .dic u_t as => by
    rw [rE_dic]
    unfold cE
    try (simp only [rEs_eq X as, bindQ_eq, slotQ_eq, setQ_eq, storeQ_eq, useQ_eq, opdQ_eq, opvQ_eq, idxQ_eq, loopSQ_eq, loopEQ_eq, assignQ_eq, smallQ_eq, oVQ_eq, tOQ_eq, mkQ_eq, opQ_eq, cmpQ_eq, primQ_eq, itemQ_eq, bindQ_eqF] <;> rfl)
  | .idx a i => by
    rw [rE_idx]
    unfold cE
    try (simp only [rE_eq X a, rE_eq X i, bindQ_eq, slotQ_eq, setQ_eq, storeQ_eq, useQ_eq, opdQ_eq, opvQ_eq, idxQ_eq, loopSQ_eq, loopEQ_eq, assignQ_eq, smallQ_eq, oVQ_eq, tOQ_eq, mkQ_eq, opQ_eq, cmpQ_eq, primQ_eq, itemQ_eq, bindQ_eqF] <;> rfl)
  | .slice a lo hi => by
    rw [rE_slice]
    unfold cE
    try (simp only [rE_eq X a, rE_eq X lo, rE_eq X hi, bindQ_eq, slotQ_eq, setQ_eq, storeQ_eq, useQ_eq, opdQ_eq, opvQ_eq, idxQ_eq, loopSQ_eq, loopEQ_eq, assignQ_eq, smallQ_eq, oVQ_eq, tOQ_eq, mkQ_eq, opQ_eq, cmpQ_eq, primQ_eq, itemQ_eq, bindQ_eqF] <;> rfl)
  | .rev a => by
    rw [rE_rev]
    unfold cE
    try (simp only [rE_eq X a, bindQ_eq, slotQ_eq, setQ_eq, storeQ_eq, useQ_eq, opdQ_eq, opvQ_eq, idxQ_eq, loopSQ_eq, loopEQ_eq, assignQ_eq, smallQ_eq, oVQ_eq, tOQ_eq, mkQ_eq, opQ_eq, cmpQ_eq, primQ_eq, itemQ_eq, bindQ_eqF] <;> rfl)
  | .comp t it c e => by
    rw [rE_comp]
    unfold cE
    try (simp only [rIt_eq X it, rE_eq X c, rE_eq X e, bindQ_eq, slotQ_eq, setQ_eq, storeQ_eq, useQ_eq, opdQ_eq, opvQ_eq, idxQ_eq, loopSQ_eq, loopEQ_eq, assignQ_eq, smallQ_eq, oVQ_eq, tOQ_eq, mkQ_eq, opQ_eq, cmpQ_eq, primQ_eq, itemQ_eq, bindQ_eqF] <;> rfl)
  | .comp2 t it t2 it2 c e => by
    rw [rE_comp2]
    unfold cE
    try (simp only [rIt_eq X it, rIt_eq X it2, rE_eq X c, rE_eq X e, bindQ_eq, slotQ_eq, setQ_eq, storeQ_eq, useQ_eq, opdQ_eq, opvQ_eq, idxQ_eq, loopSQ_eq, loopEQ_eq, assignQ_eq, smallQ_eq, oVQ_eq, tOQ_eq, mkQ_eq, opQ_eq, cmpQ_eq, primQ_eq, itemQ_eq, bindQ_eqF] <;> rfl)
  | .coll tu it => by
    rw [rE_coll]
    unfold cE
    try (simp only [rIt_eq X it, bindQ_eq, slotQ_eq, setQ_eq, storeQ_eq, useQ_eq, opdQ_eq, opvQ_eq, idxQ_eq, loopSQ_eq, loopEQ_eq, assignQ_eq, smallQ_eq, oVQ_eq, tOQ_eq, mkQ_eq, opQ_eq, cmpQ_eq, primQ_eq, itemQ_eq, bindQ_eqF] <;> rfl)
  | .same a b => by
    rw [rE_same]
    unfold cE
    try (simp only [rE_eq X a, rE_eq X b, bindQ_eq, slotQ_eq, setQ_eq, storeQ_eq, useQ_eq, opdQ_eq, opvQ_eq, idxQ_eq, loopSQ_eq, loopEQ_eq, assignQ_eq, smallQ_eq, oVQ_eq, tOQ_eq, mkQ_eq, opQ_eq, cmpQ_eq, primQ_eq, itemQ_eq, bindQ_eqF] <;> rfl)
  | .append i e => by
    rw [rE_append]
    unfold cE
    try (simp only [rE_eq X e, bindQ_eq, slotQ_eq, setQ_eq, storeQ_eq, useQ_eq, opdQ_eq, opvQ_eq, idxQ_eq, loopSQ_eq, loopEQ_eq, assignQ_eq, smallQ_eq, oVQ_eq, tOQ_eq, mkQ_eq, opQ_eq, cmpQ_eq, primQ_eq, itemQ_eq, bindQ_eqF] <;> rfl)
  | .pop i => by
    rw [rE_pop]
    unfold cE
    try (simp only [bindQ_eq, slotQ_eq, setQ_eq, storeQ_eq, useQ_eq, opdQ_eq, opvQ_eq, idxQ_eq, loopSQ_eq, loopEQ_eq, assignQ_eq, smallQ_eq, oVQ_eq, tOQ_eq, mkQ_eq, opQ_eq, cmpQ_eq, primQ_eq, itemQ_eq, bindQ_eqF] <;> rfl)
  | .popat i e => by
    rw [rE_popat]
    unfold cE
    try (simp only [rE_eq X e, bindQ_eq, slotQ_eq, setQ_eq, storeQ_eq, useQ_eq, opdQ_eq, opvQ_eq, idxQ_eq, loopSQ_eq, loopEQ_eq, assignQ_eq, smallQ_eq, oVQ_eq, tOQ_eq, mkQ_eq, opQ_eq, cmpQ_eq, primQ_eq, itemQ_eq, bindQ_eqF] <;> rfl)
  | .remove i e => by
    rw [rE_remove]
    unfold cE
    try (simp only [rE_eq X e, bindQ_eq, slotQ_eq, setQ_eq, storeQ_eq, useQ_eq, opdQ_eq, opvQ_eq, idxQ_eq, loopSQ_eq, loopEQ_eq, assignQ_eq, smallQ_eq, oVQ_eq, tOQ_eq, mkQ_eq, opQ_eq, cmpQ_eq, primQ_eq, itemQ_eq, bindQ_eqF] <;> rfl)
  | .told f e => by
    rw [rE_told]
    unfold cE
    try (simp only [rE_eq X e, bindQ_eq, slotQ_eq, setQ_eq, storeQ_eq, useQ_eq, opdQ_eq, opvQ_eq, idxQ_eq, loopSQ_eq, loopEQ_eq, assignQ_eq, smallQ_eq, oVQ_eq, tOQ_eq, mkQ_eq, opQ_eq, cmpQ_eq, primQ_eq, itemQ_eq, bindQ_eqF] <;> rfl)
  | .sortkey a i k => by
    rw [rE_sortkey]
    unfold cE
    try (simp only [rE_eq X a, rE_eq X k, bindQ_eq, slotQ_eq, setQ_eq, storeQ_eq, useQ_eq, opdQ_eq, opvQ_eq, idxQ_eq, loopSQ_eq, loopEQ_eq, assignQ_eq, smallQ_eq, oVQ_eq, tOQ_eq, mkQ_eq, opQ_eq, cmpQ_eq, primQ_eq, itemQ_eq, bindQ_eqF] <;> rfl)
  | .bad n => by
    rw [rE_bad]
    unfold cE
    try (simp only [bindQ_eq, slotQ_eq, setQ_eq, storeQ_eq, useQ_eq, opdQ_eq, opvQ_eq, idxQ_eq, loopSQ_eq, loopEQ_eq, assignQ_eq, smallQ_eq, oVQ_eq, tOQ_eq, mkQ_eq, opQ_eq, cmpQ_eq, primQ_eq, itemQ_eq, bindQ_eqF] <;> rfl)
theorem rEs_eq (X : Cx) : ∀ es : Es, rEs X es = cEs X es
  | .nil  => by
    rw [rEs_nil]
    unfold cEs
    try (simp only [bindQ_eq, slotQ_eq, setQ_eq, storeQ_eq, useQ_eq, opdQ_eq, opvQ_eq, idxQ_eq, loopSQ_eq, loopEQ_eq, assignQ_eq, smallQ_eq, oVQ_eq, tOQ_eq, mkQ_eq, opQ_eq, cmpQ_eq, primQ_eq, itemQ_eq, bindQ_eqF] <;> rfl)
  | .cons e es => by
    rw [rEs_cons]
    unfold cEs
    try (simp only [rE_eq X e, rEs_eq X es, bindQ_eq, slotQ_eq, setQ_eq, storeQ_eq, useQ_eq, opdQ_eq, opvQ_eq, idxQ_eq, loopSQ_eq, loopEQ_eq, assignQ_eq, smallQ_eq, oVQ_eq, tOQ_eq, mkQ_eq, opQ_eq, cmpQ_eq, primQ_eq, itemQ_eq, bindQ_eqF] <;> rfl)
theorem rIt_eq (X : Cx) : ∀ it : It, rIt X it = cIt X it
  | .seq e => by
    rw [rIt_seq]
    funext r; simp only [cIt]
    try (simp only [rE_eq X e, bindQ_eq, slotQ_eq, setQ_eq, storeQ_eq, useQ_eq, opdQ_eq, opvQ_eq, idxQ_eq, loopSQ_eq, loopEQ_eq, assignQ_eq, smallQ_eq, oVQ_eq, tOQ_eq, mkQ_eq, opQ_eq, cmpQ_eq, primQ_eq, itemQ_eq, bindQ_eqF] <;> rfl)
  | .range1 a => by
    rw [rIt_range1]
    funext r; simp only [cIt]
    try (simp only [rE_eq X a, bindQ_eq, slotQ_eq, setQ_eq, storeQ_eq, useQ_eq, opdQ_eq, opvQ_eq, idxQ_eq, loopSQ_eq, loopEQ_eq, assignQ_eq, smallQ_eq, oVQ_eq, tOQ_eq, mkQ_eq, opQ_eq, cmpQ_eq, primQ_eq, itemQ_eq, bindQ_eqF] <;> rfl)
  | .range2 a b => by
    rw [rIt_range2]
    funext r; simp only [cIt]
    try (simp only [rE_eq X a, rE_eq X b, bindQ_eq, slotQ_eq, setQ_eq, storeQ_eq, useQ_eq, opdQ_eq, opvQ_eq, idxQ_eq, loopSQ_eq, loopEQ_eq, assignQ_eq, smallQ_eq, oVQ_eq, tOQ_eq, mkQ_eq, opQ_eq, cmpQ_eq, primQ_eq, itemQ_eq, bindQ_eqF] <;> rfl)
  | .range3 a b c => by
    rw [rIt_range3]
    funext r; simp only [cIt]
    try (simp only [rE_eq X a, rE_eq X b, rE_eq X c, bindQ_eq, slotQ_eq, setQ_eq, storeQ_eq, useQ_eq, opdQ_eq, opvQ_eq, idxQ_eq, loopSQ_eq, loopEQ_eq, assignQ_eq, smallQ_eq, oVQ_eq, tOQ_eq, mkQ_eq, opQ_eq, cmpQ_eq, primQ_eq, itemQ_eq, bindQ_eqF] <;> rfl)
  | .enum e => by
    rw [rIt_enum]
    funext r; simp only [cIt]
    try (simp only [rE_eq X e, bindQ_eq, slotQ_eq, setQ_eq, storeQ_eq, useQ_eq, opdQ_eq, opvQ_eq, idxQ_eq, loopSQ_eq, loopEQ_eq, assignQ_eq, smallQ_eq, oVQ_eq, tOQ_eq, mkQ_eq, opQ_eq, cmpQ_eq, primQ_eq, itemQ_eq, bindQ_eqF] <;> rfl)
  | .zip2 a b => by
    rw [rIt_zip2]
    funext r; simp only [cIt]
    try (simp only [rE_eq X a, rE_eq X b, bindQ_eq, slotQ_eq, setQ_eq, storeQ_eq, useQ_eq, opdQ_eq, opvQ_eq, idxQ_eq, loopSQ_eq, loopEQ_eq, assignQ_eq, smallQ_eq, oVQ_eq, tOQ_eq, mkQ_eq, opQ_eq, cmpQ_eq, primQ_eq, itemQ_eq, bindQ_eqF] <;> rfl)
  | .zip3 u_a u_b u_c => by
    rw [rIt_zip3]
    funext r; simp only [cIt]
    try (simp only [rE_eq X u_a, rE_eq X u_b, rE_eq X u_c, bindQ_eq, slotQ_eq, setQ_eq, storeQ_eq, useQ_eq, opdQ_eq, opvQ_eq, idxQ_eq, loopSQ_eq, loopEQ_eq, assignQ_eq, smallQ_eq, oVQ_eq, tOQ_eq, mkQ_eq, opQ_eq, cmpQ_eq, primQ_eq, itemQ_eq, bindQ_eqF] <;> rfl)
end
theorem exR_eq (X : Cx) : ∀ s : S, exR X s = exK X s
  | .skip  => by
    rw [exR_skip]
    funext r
    unfold exK
    simp only [bindQ_eq, slotQ_eq, setQ_eq, storeQ_eq, useQ_eq, opdQ_eq, opvQ_eq, idxQ_eq, loopSQ_eq, loopEQ_eq, assignQ_eq, smallQ_eq, oVQ_eq, tOQ_eq, mkQ_eq, opQ_eq, cmpQ_eq, primQ_eq, itemQ_eq, bindQ_eqF] <;> rfl
  | .seq a b => by
    rw [exR_seq]
    funext r
    unfold exK
    simp only [exR_eq X a, exR_eq X b, bindQ_eq, slotQ_eq, setQ_eq, storeQ_eq, useQ_eq, opdQ_eq, opvQ_eq, idxQ_eq, loopSQ_eq, loopEQ_eq, assignQ_eq, smallQ_eq, oVQ_eq, tOQ_eq, mkQ_eq, opQ_eq, cmpQ_eq, primQ_eq, itemQ_eq, bindQ_eqF] <;> rfl
  | .asg t e => by
    rw [exR_asg]
    funext r
    unfold exK
    simp only [rE_eq X e, bindQ_eq, slotQ_eq, setQ_eq, storeQ_eq, useQ_eq, opdQ_eq, opvQ_eq, idxQ_eq, loopSQ_eq, loopEQ_eq, assignQ_eq, smallQ_eq, oVQ_eq, tOQ_eq, mkQ_eq, opQ_eq, cmpQ_eq, primQ_eq, itemQ_eq, bindQ_eqF] <;> rfl
  | .par2 i j a b => by
    rw [exR_par2]
    funext r
    unfold exK
    simp only [rE_eq X a, rE_eq X b, bindQ_eq, slotQ_eq, setQ_eq, storeQ_eq, useQ_eq, opdQ_eq, opvQ_eq, idxQ_eq, loopSQ_eq, loopEQ_eq, assignQ_eq, smallQ_eq, oVQ_eq, tOQ_eq, mkQ_eq, opQ_eq, cmpQ_eq, primQ_eq, itemQ_eq, bindQ_eqF] <;> rfl
  | .par3 i j k a b c => by
    rw [exR_par3]
    funext r
    unfold exK
    simp only [rE_eq X a, rE_eq X b, rE_eq X c, bindQ_eq, slotQ_eq, setQ_eq, storeQ_eq, useQ_eq, opdQ_eq, opvQ_eq, idxQ_eq, loopSQ_eq, loopEQ_eq, assignQ_eq, smallQ_eq, oVQ_eq, tOQ_eq, mkQ_eq, opQ_eq, cmpQ_eq, primQ_eq, itemQ_eq, bindQ_eqF] <;> rfl
  | .set i ix e => by
    rw [exR_set]
    funext r
    unfold exK
    simp only [rE_eq X ix, rE_eq X e, bindQ_eq, slotQ_eq, setQ_eq, storeQ_eq, useQ_eq, opdQ_eq, opvQ_eq, idxQ_eq, loopSQ_eq, loopEQ_eq, assignQ_eq, smallQ_eq, oVQ_eq, tOQ_eq, mkQ_eq, opQ_eq, cmpQ_eq, primQ_eq, itemQ_eq, bindQ_eqF] <;> rfl
  | .swap i x y e1 e2 => by
    rw [exR_swap]
    funext r
    unfold exK
    simp only [rE_eq X x, rE_eq X y, rE_eq X e1, rE_eq X e2, bindQ_eq, slotQ_eq, setQ_eq, storeQ_eq, useQ_eq, opdQ_eq, opvQ_eq, idxQ_eq, loopSQ_eq, loopEQ_eq, assignQ_eq, smallQ_eq, oVQ_eq, tOQ_eq, mkQ_eq, opQ_eq, cmpQ_eq, primQ_eq, itemQ_eq, bindQ_eqF] <;> rfl
  | .aug i o e => by
    rw [exR_aug]
    funext r
    unfold exK
    simp only [rE_eq X e, bindQ_eq, slotQ_eq, setQ_eq, storeQ_eq, useQ_eq, opdQ_eq, opvQ_eq, idxQ_eq, loopSQ_eq, loopEQ_eq, assignQ_eq, smallQ_eq, oVQ_eq, tOQ_eq, mkQ_eq, opQ_eq, cmpQ_eq, primQ_eq, itemQ_eq, bindQ_eqF] <;> rfl
  | .augset i ix o e => by
    rw [exR_augset]
    funext r
    unfold exK
    simp only [rE_eq X ix, rE_eq X e, bindQ_eq, slotQ_eq, setQ_eq, storeQ_eq, useQ_eq, opdQ_eq, opvQ_eq, idxQ_eq, loopSQ_eq, loopEQ_eq, assignQ_eq, smallQ_eq, oVQ_eq, tOQ_eq, mkQ_eq, opQ_eq, cmpQ_eq, primQ_eq, itemQ_eq, bindQ_eqF] <;> rfl
  | .expr e => by
    rw [exR_expr]
    funext r
    unfold exK
    simp only [rE_eq X e, bindQ_eq, slotQ_eq, setQ_eq, storeQ_eq, useQ_eq, opdQ_eq, opvQ_eq, idxQ_eq, loopSQ_eq, loopEQ_eq, assignQ_eq, smallQ_eq, oVQ_eq, tOQ_eq, mkQ_eq, opQ_eq, cmpQ_eq, primQ_eq, itemQ_eq, bindQ_eqF] <;> rfl
  | .ite c a b => by
    rw [exR_ite]
    funext r
    unfold exK
    simp only [rE_eq X c, exR_eq X a, exR_eq X b, bindQ_eq, slotQ_eq, setQ_eq, storeQ_eq, useQ_eq, opdQ_eq, opvQ_eq, idxQ_eq, loopSQ_eq, loopEQ_eq, assignQ_eq, smallQ_eq, oVQ_eq, tOQ_eq, mkQ_eq, opQ_eq, cmpQ_eq, primQ_eq, itemQ_eq, bindQ_eqF] <;> rfl
  | .for_ t it b => by
    rw [exR_for_]
    funext r
    unfold exK
    simp only [rIt_eq X it, exR_eq X b, bindQ_eq, slotQ_eq, setQ_eq, storeQ_eq, useQ_eq, opdQ_eq, opvQ_eq, idxQ_eq, loopSQ_eq, loopEQ_eq, assignQ_eq, smallQ_eq, oVQ_eq, tOQ_eq, mkQ_eq, opQ_eq, cmpQ_eq, primQ_eq, itemQ_eq, bindQ_eqF] <;> rfl
  | .while_ c b => by
    rw [exR_while_]
    funext r
    unfold exK
    simp only [rE_eq X c, exR_eq X b, bindQ_eq, slotQ_eq, setQ_eq, storeQ_eq, useQ_eq, opdQ_eq, opvQ_eq, idxQ_eq, loopSQ_eq, loopEQ_eq, assignQ_eq, smallQ_eq, oVQ_eq, tOQ_eq, mkQ_eq, opQ_eq, cmpQ_eq, primQ_eq, itemQ_eq, bindQ_eqF] <;> rfl
  | .ret e => by
    have h := rE_eq X e
    rw [exR_ret]
    funext r
    unfold exK
    cases e <;> (simp only [h, bindQ_eq, slotQ_eq, setQ_eq, storeQ_eq, useQ_eq, opdQ_eq, opvQ_eq, idxQ_eq, loopSQ_eq, loopEQ_eq, assignQ_eq, smallQ_eq, oVQ_eq, tOQ_eq, mkQ_eq, opQ_eq, cmpQ_eq, primQ_eq, itemQ_eq, bindQ_eqF] <;> rfl)
  | .retn  => by
    rw [exR_retn]
    funext r
    unfold exK
    simp only [bindQ_eq, slotQ_eq, setQ_eq, storeQ_eq, useQ_eq, opdQ_eq, opvQ_eq, idxQ_eq, loopSQ_eq, loopEQ_eq, assignQ_eq, smallQ_eq, oVQ_eq, tOQ_eq, mkQ_eq, opQ_eq, cmpQ_eq, primQ_eq, itemQ_eq, bindQ_eqF] <;> rfl
  | .raise k as => by
    rw [exR_raise]
    funext r
    unfold exK
    simp only [rEs_eq X as, bindQ_eq, slotQ_eq, setQ_eq, storeQ_eq, useQ_eq, opdQ_eq, opvQ_eq, idxQ_eq, loopSQ_eq, loopEQ_eq, assignQ_eq, smallQ_eq, oVQ_eq, tOQ_eq, mkQ_eq, opQ_eq, cmpQ_eq, primQ_eq, itemQ_eq, bindQ_eqF] <;> rfl
  | .cont  => by
    rw [exR_cont]
    funext r
    unfold exK
    simp only [bindQ_eq, slotQ_eq, setQ_eq, storeQ_eq, useQ_eq, opdQ_eq, opvQ_eq, idxQ_eq, loopSQ_eq, loopEQ_eq, assignQ_eq, smallQ_eq, oVQ_eq, tOQ_eq, mkQ_eq, opQ_eq, cmpQ_eq, primQ_eq, itemQ_eq, bindQ_eqF] <;> rfl
  | .brk  => by
    rw [exR_brk]
    funext r
    unfold exK
    simp only [bindQ_eq, slotQ_eq, setQ_eq, storeQ_eq, useQ_eq, opdQ_eq, opvQ_eq, idxQ_eq, loopSQ_eq, loopEQ_eq, assignQ_eq, smallQ_eq, oVQ_eq, tOQ_eq, mkQ_eq, opQ_eq, cmpQ_eq, primQ_eq, itemQ_eq, bindQ_eqF] <;> rfl
  | .tryx b ks h => by
    rw [exR_tryx]
    funext r
    unfold exK
    simp only [exR_eq X b, exR_eq X h, bindQ_eq, slotQ_eq, setQ_eq, storeQ_eq, useQ_eq, opdQ_eq, opvQ_eq, idxQ_eq, loopSQ_eq, loopEQ_eq, assignQ_eq, smallQ_eq, oVQ_eq, tOQ_eq, mkQ_eq, opQ_eq, cmpQ_eq, primQ_eq, itemQ_eq, bindQ_eqF] <;> rfl
  | .bad n => by
    rw [exR_bad]
    funext r
    unfold exK
    simp only [bindQ_eq, slotQ_eq, setQ_eq, storeQ_eq, useQ_eq, opdQ_eq, opvQ_eq, idxQ_eq, loopSQ_eq, loopEQ_eq, assignQ_eq, smallQ_eq, oVQ_eq, tOQ_eq, mkQ_eq, opQ_eq, cmpQ_eq, primQ_eq, itemQ_eq, bindQ_eqF] <;> rfl
theorem runR_eq (X : Cx) (fn : Fn) (ss : List Slot) : runR X fn ss = runK X fn ss := by
  unfold runR runK
  rw [exR_eq]
  first | done | rfl
theorem callR_eq (p : Prog) (wf : Nat) : ∀ n, callR p wf n = callK p wf n
  | 0 => rfl
  | n + 1 => by
    funext f ss
    show (match fnAt p.fn f with | some fn => runR (p.cx wf (callR p wf n)) fn ss | none => .st 91) = (match fnAt p.fn f with | some fn => runK (p.cx wf (callK p wf n)) fn ss | none => .st 91)
    rw [callR_eq p wf n]
    cases fnAt p.fn f with
    | none => rfl
    | some fn => exact runR_eq _ _ _
end MW
end
section
set_option linter.all false
set_option maxRecDepth 100000
set_option maxHeartbeats 4000000
/-! Sy: the evaluator's steps as equations over small functions (for reckoning with letters). -/
namespace MW
open PySem
section
variable {A B : Type}
theorem bind_ok' {a : A} {r : Env} {f : A → Env → Res B} : (Res.ok a r).bind f = f a r := rfl
theorem bind_ex' {k : Nat} {as : List D} {r : Env} {f : A → Env → Res B} : (Res.ex k as r : Res A).bind f = .ex k as r := rfl
theorem bind_st' {n : Nat} {f : A → Env → Res B} : (Res.st n : Res A).bind f = .st n := rfl
def h1 {C : Type} (n : Nat) (x : Option C) (f : C → Res A) : Res A := match x with
  | some x => f x
  | none => .st n
theorem h1_some {C : Type} {n : Nat} {x : C} {f : C → Res A} : h1 n (some x) f = f x := rfl
theorem h1_none {C : Type} {n : Nat} {f : C → Res A} : h1 n none f = .st n := rfl
def h2 (n : Nat) (x y : Option D) (f : D → D → Res A) : Res A := match x, y with
  | some x, some y => f x y
  | _, _ => .st n
theorem h2_some {n : Nat} {x y : D} {f : D → D → Res A} : h2 n (some x) (some y) f = f x y := rfl
end
def hI {A : Type} (n : Nat) (x : Option D) (f : Int → Res A) : Res A := match x with
  | some (.int i) => f i
  | _ => .st n
theorem hI_some {A : Type} {n : Nat} {i : Int} {f : Int → Res A} : hI n (some (.int i)) f = f i := rfl
def hI2 {A : Type} (n : Nat) (x y : Option D) (f : Int → Int → Res A) : Res A := match x, y with
  | some (.int i), some (.int j) => f i j
  | _, _ => .st n
theorem hI2_some {A : Type} {n : Nat} {i j : Int} {f : Int → Int → Res A} : hI2 n (some (.int i)) (some (.int j)) f = f i j := rfl
def apK (s : Slot) (j : Nat) (v : D) (r : Env) : Res (Bool × D) := match s with
  | .ow (.list xs) => if xs.length < szLine then .ok (false, .none) (setSlot r j (.ow (.list (xs ++ [v])))) else .st 39
  | .io (.list xs) => if xs.length < szLine then .ok (false, .none) (setSlot r j (.io (.list (xs ++ [v])))) else .st 39
  | _ => .st 40
theorem apK_ow {j : Nat} {v : D} {r : Env} {xs : List D} (h : xs.length < szLine) : apK (.ow (.list xs)) j v r = .ok (false, .none) (setSlot r j (.ow (.list (xs ++ [v])))) := if_pos h
theorem apK_io {j : Nat} {v : D} {r : Env} {xs : List D} (h : xs.length < szLine) : apK (.io (.list xs)) j v r = .ok (false, .none) (setSlot r j (.io (.list (xs ++ [v])))) := if_pos h
def sd : Slot → Option D
  | .fz d => some d
  | .ow d => some d
  | .lk d => some d
  | .io d => some d
  | .no => none
theorem sd_fz {d : D} : sd (.fz d) = some d := rfl
theorem sd_ow {d : D} : sd (.ow d) = some d := rfl
theorem sd_lk {d : D} : sd (.lk d) = some d := rfl
theorem sd_io {d : D} : sd (.io d) = some d := rfl
theorem sd_no : sd .no = none := rfl
theorem opdD_ref' {r : Env} {i : Nat} : opdD r (.ref i) = sd (slotAt r i) := by
  simp only [opdD]; cases slotAt r i <;> rfl
theorem opdD_val {r : Env} {o : Bool} {d : D} : opdD r (.val o d) = some d := rfl
theorem opdD_cst {r : Env} {d : D} : opdD r (.cst d) = some d := rfl
theorem opdV_ref' {r : Env} {i : Nat} : opdV r (.ref i) = sd (slotAt r i) := opdD_ref'
theorem opdV_val {r : Env} {o : Bool} {d : D} : opdV r (.val o d) = some d := rfl
theorem opdV_cst {r : Env} {d : D} : opdV r (.cst d) = if isScal d then some d else none := rfl
theorem opdsD_nil {r : Env} : opdsD r [] = some [] := rfl
theorem opdsD_cons {r : Env} {x : Opd} {xs : List Opd} : opdsD r (x :: xs) = (opdV r x).bind fun d => (opdsD r xs).map (d :: ·) := rfl
theorem at0 {x : Slot} {r : Env} : slotAt (x :: r) 0 = x := rfl
theorem atS {x : Slot} {r : Env} {n : Nat} : slotAt (x :: r) (n + 1) = slotAt r n := rfl
theorem set0 {x s : Slot} {r : Env} : setSlot (x :: r) 0 s = s :: r := rfl
theorem setS {x s : Slot} {r : Env} {n : Nat} : setSlot (x :: r) (n + 1) s = x :: setSlot r n s := rfl
/-- a value as a name's -/
def mkSl (v : Bool × D) : Slot := if v.1 then .ow v.2 else .fz v.2
theorem mkSl_t {d : D} : mkSl (true, d) = .ow d := rfl
theorem mkSl_f {d : D} : mkSl (false, d) = .fz d := rfl
def stK (s : Slot) (i : Nat) (v : Bool × D) (r : Env) : Res Unit := match s with
  | .io _ => .st 1
  | .lk _ => .st 2
  | _ => .ok () (setSlot r i (mkSl v))
theorem store_K {i : Nat} {v : Bool × D} {r : Env} : store i v r = stK (slotAt r i) i v r := by unfold store stK mkSl; cases slotAt r i <;> rfl
theorem stK_no {i : Nat} {v : Bool × D} {r : Env} : stK .no i v r = .ok () (setSlot r i (mkSl v)) := rfl
theorem stK_fz {i : Nat} {v : Bool × D} {r : Env} {d : D} : stK (.fz d) i v r = .ok () (setSlot r i (mkSl v)) := rfl
theorem stK_ow {i : Nat} {v : Bool × D} {r : Env} {d : D} : stK (.ow d) i v r = .ok () (setSlot r i (mkSl v)) := rfl
def usK (s : Slot) (i : Nat) (r : Env) : Res (Bool × D) := match s with
  | .fz d => .ok (false, d) r
  | .ow d => .ok (false, d) (setSlot r i (.fz d))
  | .lk _ => .st 3
  | .io _ => .st 4
  | .no => .st 5
theorem use_K {i : Nat} {r : Env} : useVar i r = usK (slotAt r i) i r := by unfold useVar usK; cases slotAt r i <;> rfl
theorem usK_fz {i : Nat} {r : Env} {d : D} : usK (.fz d) i r = .ok (false, d) r := rfl
theorem usK_ow {i : Nat} {r : Env} {d : D} : usK (.ow d) i r = .ok (false, d) (setSlot r i (.fz d)) := rfl
theorem asg_name {i : Nat} {v : Bool × D} {r : Env} : assignT (.name i) v r = stK (slotAt r i) i v r := store_K
theorem asg_two {a b : T} {o : Bool} {x y : D} {r : Env} : assignT (.two a b) (o, .tuple [x, y]) r = (assignT a (false, x) r).bind fun _ r => assignT b (false, y) r := rfl
theorem asg_three {a b c : T} {o : Bool} {x y z : D} {r : Env} : assignT (.three a b c) (o, .tuple [x, y, z]) r = (assignT a (false, x) r).bind fun _ r => (assignT b (false, y) r).bind fun _ r => assignT c (false, z) r := rfl
theorem ofOV_some {n : Nat} {v : Bool × D} {r : Env} : ofOV n (some v) r = .ok v r := rfl
theorem sl_own {d : D} : (Slot.ow d).own = true := rfl
theorem sl_io {d : D} : (Slot.io d).own = true := rfl
theorem set_fz {d : D} : isSet (.fz d) = true := rfl
theorem set_ow {d : D} : isSet (.ow d) = true := rfl
theorem set_lk {d : D} : isSet (.lk d) = true := rfl
theorem set_io {d : D} : isSet (.io d) = true := rfl
/-! plain values -/
theorem op_add {a b : Int} : opSem .add (.int a) (.int b) = some (false, .int (a + b)) := rfl
theorem op_sub {a b : Int} : opSem .sub (.int a) (.int b) = some (false, .int (a - b)) := rfl
theorem op_mul {a b : Int} : opSem .mul (.int a) (.int b) = if mulOk a b then some (false, .int (a * b)) else none := rfl
theorem op_fdiv {a b : Int} : opSem .fdiv (.int a) (.int b) = if 0 < b ∧ b < 1073741824 then some (false, .int (a / b)) else none := rfl
theorem op_mod {a b : Int} : opSem .mod (.int a) (.int b) = if 0 < b then some (false, .int (a % b)) else none := rfl
theorem cmp_lt {a b : Int} : cmpSem .lt (.int a) (.int b) = some (decide (a < b)) := rfl
theorem cmp_gt {a b : Int} : cmpSem .gt (.int a) (.int b) = some (decide (b < a)) := rfl
theorem cmp_le {a b : Int} : cmpSem .le (.int a) (.int b) = some (decide (a ≤ b)) := rfl
theorem cmp_ge {a b : Int} : cmpSem .ge (.int a) (.int b) = some (decide (b ≤ a)) := rfl
theorem eqv_int {a b : Int} : PyData.eqv (.int a) (.int b) = decide (a = b) := by
  first | rfl | (simp only [PyData.eqv]; rfl) | (unfold PyData.eqv; rfl)
theorem cmp_eq {a b : Int} : cmpSem .eq (.int a) (.int b) = some (decide (a = b)) := by
  show (if shp 60 (.int a) && shp 60 (.int b) then some (PyData.eqv (.int a) (.int b)) else none) = _
  rw [if_pos (show (shp 60 (.int a) && shp 60 (.int b)) = true from rfl), eqv_int]
theorem cmp_ne {a b : Int} : cmpSem .ne (.int a) (.int b) = some (!decide (a = b)) := by
  show (if shp 60 (.int a) && shp 60 (.int b) then some (!PyData.eqv (.int a) (.int b)) else none) = _
  rw [if_pos (show (shp 60 (.int a) && shp 60 (.int b)) = true from rfl), eqv_int]
theorem pr_int {a : Int} : primSem .int [.int a] = some (false, .int a) := rfl
theorem pr_lenL {xs : List D} : primSem .len [.list xs] = some (false, .int xs.length) := rfl
theorem pr_lenT {xs : List D} : primSem .len [.tuple xs] = some (false, .int xs.length) := rfl
theorem pr_tup {xs : List D} : primSem .tuple [.list xs] = some (false, .tuple xs) := rfl
theorem tru_b {b : Bool} : tru (.bool b) = some b := rfl
theorem tru_i {i : Int} : tru (.int i) = some (i != 0) := rfl
theorem ix_list {xs : List D} {i : Int} : idxSem (.list xs) (.int i) = (idxNat xs.length i).bind (getAt xs) := rfl
theorem ix_tup {xs : List D} {i : Int} : idxSem (.tuple xs) (.int i) = (idxNat xs.length i).bind (getAt xs) := rfl
theorem ixN {n i : Nat} (h : i < n) : idxNat n (i : Int) = some i := by
  unfold idxNat
  rw [if_pos (Int.natCast_nonneg i), if_pos (by exact_mod_cast h)]
  simp
theorem ixl0 {x : D} {r : List D} : idxSem (.list (x :: r)) (.int 0) = some x := by
  show (idxNat (r.length + 1) 0).bind _ = _
  rw [show (0 : Int) = ((0 : Nat) : Int) from rfl, ixN (Nat.succ_pos _)]; rfl
theorem ixl1 {x y : D} {r : List D} : idxSem (.list (x :: y :: r)) (.int 1) = some y := by
  show (idxNat (r.length + 1 + 1) 1).bind _ = _
  rw [show (1 : Int) = ((1 : Nat) : Int) from rfl, ixN (by omega)]; rfl
theorem ixl2 {x y z : D} {r : List D} : idxSem (.list (x :: y :: z :: r)) (.int 2) = some z := by
  show (idxNat (r.length + 1 + 1 + 1) 2).bind _ = _
  rw [show (2 : Int) = ((2 : Nat) : Int) from rfl, ixN (by omega)]; rfl
theorem ixl3 {x y z w : D} {r : List D} : idxSem (.list (x :: y :: z :: w :: r)) (.int 3) = some w := by
  show (idxNat (r.length + 1 + 1 + 1 + 1) 3).bind _ = _
  rw [show (3 : Int) = ((3 : Nat) : Int) from rfl, ixN (by omega)]; rfl
theorem ixt0 {x : D} {r : List D} : idxSem (.tuple (x :: r)) (.int 0) = some x := ixl0
theorem ixt1 {x y : D} {r : List D} : idxSem (.tuple (x :: y :: r)) (.int 1) = some y := ixl1
theorem ixt2 {x y z : D} {r : List D} : idxSem (.tuple (x :: y :: z :: r)) (.int 2) = some z := ixl2
theorem ixt3 {x y z w : D} {r : List D} : idxSem (.tuple (x :: y :: z :: w :: r)) (.int 3) = some w := ixl3
theorem get0 {x : D} {r : List D} : getAt (x :: r) 0 = some x := rfl
theorem getS {x : D} {r : List D} {n : Nat} : getAt (x :: r) (n + 1) = getAt r n := rfl
/-! expressions -/
section
variable {X : Cx} {r : Env} {a b c e i lo hi : E} {as es : Es}
theorem v_var {j : Nat} : (cE X (.var j)).v r = usK (slotAt r j) j r := by simp only [cE]; exact use_K
theorem o_var {j : Nat} : (cE X (.var j)).o r = if isSet (slotAt r j) then .ok (.ref j) r else .st 5 := by simp only [cE]
theorem v_const {d : D} : (cE X (.const d)).v r = .ok (false, d) r := by simp only [cE, mkV]
theorem o_const {d : D} : (cE X (.const d)).o r = .ok (.val false d) r := by simp only [cE, mkV, oV, Res.bind]
def bV (v : Env → Res (Bool × D)) (r : Env) : Res Opd := (v r).bind fun v r => .ok (.val v.1 v.2) r
theorem bV_ok {v : Env → Res (Bool × D)} {x : Bool × D} {r r' : Env} (h : v r = .ok x r') : bV v r = .ok (.val x.1 x.2) r' := by unfold bV; rw [h]; rfl
theorem v_bin {o : Op} : (cE X (.bin o a b)).v r = ((cE X a).o r).bind fun x r => ((cE X b).o r).bind fun y r => h2 11 (opdV r x) (opdV r y) fun x y => ofOV 10 (opSem o x y) r := by
  simp only [cE, mkV] <;> rfl
theorem o_bin {o : Op} : (cE X (.bin o a b)).o r = ((cE X (.bin o a b)).v r).bind fun v r => .ok (.val v.1 v.2) r := by simp only [cE, mkV] <;> rfl
theorem v_neg : (cE X (.neg a)).v r = ((cE X a).o r).bind fun x r => hI 12 (opdD r x) fun i => .ok (false, .int (-i)) r := by simp only [cE, mkV] <;> rfl
theorem v_cmp {o : Cmp} : (cE X (.cmp o a b)).v r = ((cE X a).o r).bind fun x r => ((cE X b).o r).bind fun y r => h2 15 (opdV r x) (opdD r y) fun x y => h1 14 (cmpSem o x y) fun t => .ok (false, .bool t) r := by
  simp only [cE, mkV]; congr 1; funext x r; congr 1; funext y r
  cases opdV r x with
  | none => rfl
  | some u =>
    cases opdD r y with
    | none => rfl
    | some v => simp only [h2_some]; cases cmpSem o u v <;> rfl
theorem o_cmp {o : Cmp} : (cE X (.cmp o a b)).o r = ((cE X (.cmp o a b)).v r).bind fun v r => .ok (.val v.1 v.2) r := by simp only [cE, mkV] <;> rfl
theorem t_cmp {o : Cmp} : (cE X (.cmp o a b)).t r = ((cE X a).o r).bind fun x r => ((cE X b).o r).bind fun y r => h2 15 (opdV r x) (opdD r y) fun x y => h1 14 (cmpSem o x y) fun t => .ok t r := by
  have : (cE X (.cmp o a b)).t r = tO (oV (cE X (.cmp o a b)).v) r := by simp only [cE, mkV]
  rw [this]
  unfold tO oV
  rw [v_cmp]
  cases (cE X a).o r with
  | st n => rfl
  | ex k as r => rfl
  | ok x r =>
    simp only [bind_ok']
    cases (cE X b).o r with
    | st n => rfl
    | ex k as r => rfl
    | ok y r =>
      simp only [bind_ok']
      cases opdV r x with
      | none => rfl
      | some u =>
        cases opdD r y with
        | none => rfl
        | some v => simp only [h2_some]; cases cmpSem o u v <;> rfl
theorem t_not : (cE X (.not a)).t r = ((cE X a).t r).bind fun t r => .ok (!t) r := by simp only [cE]
theorem t_and : (cE X (.and a b)).t r = ((cE X a).t r).bind fun t r => if t then (cE X b).t r else .ok false r := by simp only [cE]
theorem t_or : (cE X (.or a b)).t r = ((cE X a).t r).bind fun t r => if t then .ok true r else (cE X b).t r := by simp only [cE]
theorem v_ite : (cE X (.ite c a b)).v r = ((cE X c).t r).bind fun t r => if t then (cE X a).v r else (cE X b).v r := by simp only [cE, mkV]
theorem v_call {f : Nat} : (cE X (.call f as)).v r = ((cEs X as).a (X.io f) r).bind fun xs r => h1 23 (argSlots r xs) fun ss => match X.call f ss with
        | .ok v s => h1 21 (takeBack r xs s) fun r => .ok v r
        | .ex k as s => h1 22 (takeBack r xs s) fun r => .ex k as r
        | .st n => .st n := by
  simp only [cE, mkV]; congr 1; funext xs r
  cases argSlots r xs with
  | none => rfl
  | some ss =>
    simp only [h1_some]
    cases X.call f ss with
    | st n => rfl
    | ok v s => simp only; cases takeBack r xs s <;> rfl
    | ex k as s => simp only; cases takeBack r xs s <;> rfl
theorem o_call {f : Nat} : (cE X (.call f as)).o r = ((cE X (.call f as)).v r).bind fun v r => .ok (.val v.1 v.2) r := by simp only [cE, mkV] <;> rfl
theorem t_call {f : Nat} : (cE X (.call f as)).t r = ((cE X (.call f as)).v r).bind fun v r => h1 64 (tru v.2) fun t => .ok t r := by
  have : (cE X (.call f as)).t r = tO (oV (cE X (.call f as)).v) r := by simp only [cE, mkV]
  rw [this]
  unfold tO oV
  cases (cE X (.call f as)).v r with
  | st n => rfl
  | ex k as r => rfl
  | ok v r =>
    simp only [bind_ok', opdV_val, Option.bind_some]
    cases tru v.2 <;> rfl
theorem v_prim {p : P} : (cE X (.prim p as)).v r = ((cEs X as).o r).bind fun xs r => h1 25 (opdsD r xs) fun ds => ofOV 24 (primSem p ds) r := by
  simp only [cE, mkV]; congr 1; funext xs r; cases opdsD r xs <;> rfl
theorem o_prim {p : P} : (cE X (.prim p as)).o r = ((cE X (.prim p as)).v r).bind fun v r => .ok (.val v.1 v.2) r := by simp only [cE, mkV] <;> rfl
theorem v_tup : (cE X (.tup as)).v r = ((cEs X as).v r).bind fun ds r => .ok (false, .tuple ds) r := by simp only [cE, mkV]
theorem v_lst : (cE X (.lst as)).v r = ((cEs X as).v r).bind fun ds r => .ok (true, .list ds) r := by simp only [cE, mkV]
theorem v_idx : (cE X (.idx a i)).v r = ((cE X a).o r).bind fun x r => ((cE X i).o r).bind fun y r => h2 30 (opdD r x) (opdV r y) fun x y => h1 29 (idxSem x y) fun v => .ok (false, v) r := by
  simp only [cE, mkV]; congr 1; funext x r; congr 1; funext y r
  cases opdD r x with
  | none => rfl
  | some u =>
    cases opdV r y with
    | none => rfl
    | some v => simp only [h2_some]; cases idxSem u v <;> rfl
theorem o_idx : (cE X (.idx a i)).o r = ((cE X (.idx a i)).v r).bind fun v r => .ok (.val v.1 v.2) r := by simp only [cE, mkV] <;> rfl
theorem v_comp {t : T} {it : It} : (cE X (.comp t it c e)).v r = (cIt X it r).bind fun p r₀ => if szLine < p.1.length then .st 58 else
      ((loopE (fun d r => (assignT t (false, d) r).bind fun _ r => ((cE X c).t r).bind fun t' r =>
        if t' then ((cE X e).v r).bind fun v r => .ok [v.2] (wipeT t r) else .ok [] (wipeT t r)) p.1 (wipeT t (p.2.foldl lockO r₀))).mapN fun r => p.2.foldl (unlockO r₀) (backT r₀ t r)).bind fun ds r => .ok (true, .list ds) r := by simp only [cE, mkV]
theorem v_append {j : Nat} : (cE X (.append j e)).v r = if ownL (slotAt r j) then ((cE X e).v r).bind fun v r => apK (slotAt r j) j v.2 r else .st 40 := by
  simp only [cE, mkV] <;> rfl
theorem o_comp {t : T} {it : It} : (cE X (.comp t it c e)).o r = ((cE X (.comp t it c e)).v r).bind fun v r => .ok (.val v.1 v.2) r := by simp only [cE, mkV] <;> rfl
theorem o_tup  : (cE X (.tup as)).o r = ((cE X (.tup as)).v r).bind fun v r => .ok (.val v.1 v.2) r := by simp only [cE, mkV] <;> rfl
theorem o_lst  : (cE X (.lst as)).o r = ((cE X (.lst as)).v r).bind fun v r => .ok (.val v.1 v.2) r := by simp only [cE, mkV] <;> rfl
theorem o_neg  : (cE X (.neg a)).o r = ((cE X (.neg a)).v r).bind fun v r => .ok (.val v.1 v.2) r := by simp only [cE, mkV] <;> rfl
theorem o_ite  : (cE X (.ite c a b)).o r = ((cE X (.ite c a b)).v r).bind fun v r => .ok (.val v.1 v.2) r := by simp only [cE, mkV] <;> rfl
theorem o_append {j : Nat} : (cE X (.append j e)).o r = ((cE X (.append j e)).v r).bind fun v r => .ok (.val v.1 v.2) r := by simp only [cE, mkV] <;> rfl
theorem o_slice  : (cE X (.slice a lo hi)).o r = ((cE X (.slice a lo hi)).v r).bind fun v r => .ok (.val v.1 v.2) r := by simp only [cE, mkV] <;> rfl
theorem o_rev  : (cE X (.rev a)).o r = ((cE X (.rev a)).v r).bind fun v r => .ok (.val v.1 v.2) r := by simp only [cE, mkV] <;> rfl
theorem o_meth {m : M} : (cE X (.meth m a as)).o r = ((cE X (.meth m a as)).v r).bind fun v r => .ok (.val v.1 v.2) r := by simp only [cE, mkV] <;> rfl
theorem o_chain {o q : Cmp} : (cE X (.chain o q a b c)).o r = ((cE X (.chain o q a b c)).v r).bind fun v r => .ok (.val v.1 v.2) r := by simp only [cE, mkV] <;> rfl
theorem o_same  : (cE X (.same a b)).o r = ((cE X (.same a b)).v r).bind fun v r => .ok (.val v.1 v.2) r := by simp only [cE, mkV] <;> rfl
theorem o_pop {j : Nat} : (cE X (.pop j)).o r = ((cE X (.pop j)).v r).bind fun v r => .ok (.val v.1 v.2) r := by simp only [cE, mkV] <;> rfl
theorem o_not  : (cE X (.not a)).o r = ((cE X (.not a)).v r).bind fun v r => .ok (.val v.1 v.2) r := by simp only [cE, mkV] <;> rfl
theorem o_and  : (cE X (.and a b)).o r = ((cE X (.and a b)).v r).bind fun v r => .ok (.val v.1 v.2) r := by simp only [cE, mkV] <;> rfl
theorem o_or  : (cE X (.or a b)).o r = ((cE X (.or a b)).v r).bind fun v r => .ok (.val v.1 v.2) r := by simp only [cE, mkV] <;> rfl
theorem t_const {d : D} : (cE X (.const d)).t r = h1 64 (tru d) fun t => .ok t r := by
  simp only [cE, mkV, tO, oV, Res.bind, opdV, opdD, Option.bind_some]; cases tru d <;> rfl
theorem es_o0 : (cEs X .nil).o r = .ok [] r := by simp only [cEs]
theorem es_oS : (cEs X (.cons e es)).o r = ((cE X e).o r).bind fun x r => ((cEs X es).o r).bind fun xs r => .ok (x :: xs) r := by simp only [cEs]
theorem es_v0 : (cEs X .nil).v r = .ok [] r := by simp only [cEs]
theorem es_vS : (cEs X (.cons e es)).v r = ((cE X e).v r).bind fun x r => ((cEs X es).v r).bind fun xs r => .ok (x.2 :: xs) r := by simp only [cEs]
theorem es_a0 {bs : List Bool} : (cEs X .nil).a bs r = .ok [] r := by simp only [cEs]
theorem es_af {bs : List Bool} : (cEs X (.cons e es)).a (false :: bs) r = ((cE X e).v r).bind fun x r => ((cEs X es).a bs r).bind fun xs r => .ok (.val x.2 :: xs) r := by simp only [cEs, headIo, List.tail]; rfl
theorem es_at {bs : List Bool} {j : Nat} : (cEs X (.cons (.var j) es)).a (true :: bs) r = if (slotAt r j).own then ((cEs X es).a bs r).bind fun xs r => .ok (.io j :: xs) r else .st 50 := by simp only [cEs, headIo, List.tail]; rfl
theorem as0 : argSlots r [] = some [] := rfl
theorem asV {d : D} {xs : List Arg} : argSlots r (.val d :: xs) = (argSlots r xs).map (.fz d :: ·) := rfl
def ioK (s : Slot) (x : Option (List Slot)) : Option (List Slot) := match s with
  | .ow d => x.map (.io d :: ·)
  | .io d => x.map (.io d :: ·)
  | _ => none
theorem ioK_ow {d : D} {x : Option (List Slot)} : ioK (.ow d) x = x.map (.io d :: ·) := rfl
theorem ioK_io {d : D} {x : Option (List Slot)} : ioK (.io d) x = x.map (.io d :: ·) := rfl
theorem asI {j : Nat} {xs : List Arg} : argSlots r (.io j :: xs) = if noIo xs then ioK (slotAt r j) (argSlots r xs) else none := by
  simp only [argSlots]; split
  · cases slotAt r j <;> rfl
  · rfl
theorem tb0 {s : Env} : takeBack r [] s = some r := by cases s <;> rfl
theorem tbV {d : D} {xs : List Arg} {x : Slot} {s : Env} : takeBack r (.val d :: xs) (x :: s) = takeBack r xs s := rfl
def tbK (s : Slot) (j : Nat) (d : D) (r : Env) (xs : List Arg) (t : Env) : Option Env := match s with
  | .ow _ => takeBack (setSlot r j (.ow d)) xs t
  | .io _ => takeBack (setSlot r j (.io d)) xs t
  | _ => none
theorem tbK_ow {j : Nat} {d c : D} {xs : List Arg} {t : Env} : tbK (.ow c) j d r xs t = takeBack (setSlot r j (.ow d)) xs t := rfl
theorem tbK_io {j : Nat} {d c : D} {xs : List Arg} {t : Env} : tbK (.io c) j d r xs t = takeBack (setSlot r j (.io d)) xs t := rfl
theorem tbI {j : Nat} {d : D} {xs : List Arg} {s : Env} : takeBack r (.io j :: xs) (.io d :: s) = tbK (slotAt r j) j d r xs s := by
  unfold takeBack tbK
  first | done | (simp only; first | done | (cases slotAt r j <;> rfl))
theorem it_r1 : cIt X (.range1 a) r = ((cE X a).o r).bind fun x r => hI 52 (opdD r x) fun n => if smallI n then .ok (ranged 0 n.toNat, []) r else .st 52 := by simp only [cIt] <;> rfl
theorem it_r2 : cIt X (.range2 a b) r = ((cE X a).o r).bind fun x r => ((cE X b).o r).bind fun y r => hI2 53 (opdD r x) (opdD r y) fun m n => if smallI m && smallI n then .ok (ranged m (n - m).toNat, []) r else .st 53 := by simp only [cIt] <;> rfl
/-! statements -/
/-- what stands behind a statement -/
def thn' (X : Cx) (b : S) (w : MW.Flow) (r : Env) : Res MW.Flow := match w with
  | .next => exK X b r
  | w => .ok w r
theorem thn_next {s : S} : thn' X s .next r = exK X s r := rfl
theorem thn_ret {s : S} {o : Bool} {d : D} : thn' X s (.ret o d) r = .ok (.ret o d) r := rfl
theorem x_seq {s t : S} : exK X (.seq s t) r = (exK X s r).bind fun w r => thn' X t w r := by
  simp only [exK]; congr 1
theorem x_skip : exK X .skip r = .ok .next r := by simp only [exK]
theorem x_asg {t : T} : exK X (.asg t e) r = ((cE X e).v r).bind fun v r => (assignT t v r).bind fun _ r => .ok .next r := by simp only [exK]
theorem x_expr : exK X (.expr e) r = ((cE X e).v r).bind fun _ r => .ok .next r := by simp only [exK]
theorem x_ite {s t : S} : exK X (.ite c s t) r = ((cE X c).t r).bind fun b r => if b then exK X s r else exK X t r := by simp only [exK]
theorem x_for {t : T} {it : It} {s : S} : exK X (.for_ t it s) r = (cIt X it r).bind fun p r₀ => ((loopS (fun d r => (assignT t (false, d) r).bind fun _ r => exK X s r) p.1 (p.2.foldl lockO r₀)).mapR fun r => p.2.foldl (unlockO r₀) r).bind fun w r => .ok w r := by simp only [exK]
theorem x_set {j : Nat} : exK X (.set j i e) r = ((cE X e).v r).bind fun v r => if (slotAt r j).own then ((cE X i).o r).bind fun k r => h1 65 (opdV r k) fun k => (setItemS r j k v.2).bind fun _ r => .ok .next r else .st 65 := by
  simp only [exK]; congr 1; funext v r; split
  · congr 1; funext k r; cases opdV r k <;> rfl
  · rfl
def rtK (s : Slot) (j : Nat) (r : Env) : Res MW.Flow := match s with
  | .ow d => .ok (.ret true d) (setSlot r j .no)
  | s => (usK s j r).bind fun v r => .ok (.ret v.1 v.2) r
theorem x_retV {j : Nat} : exK X (.ret (.var j)) r = rtK (slotAt r j) j r := by
  simp only [exK, use_K]; unfold rtK; cases slotAt r j <;> rfl
theorem rtK_ow {j : Nat} {d : D} : rtK (.ow d) j r = .ok (.ret true d) (setSlot r j .no) := rfl
theorem rtK_fz {j : Nat} {d : D} : rtK (.fz d) j r = .ok (.ret false d) r := rfl
theorem x_ret (h : ∀ j, e ≠ .var j) : exK X (.ret e) r = ((cE X e).v r).bind fun v r => .ok (.ret v.1 v.2) r := by
  cases e <;> first | exact absurd rfl (h _) | simp only [exK]
theorem xr_const {d : D} : exK X (.ret (.const d)) r = ((cE X (.const d)).v r).bind fun v r => .ok (.ret v.1 v.2) r := x_ret (by intros; simp)
theorem xr_glob {g : Nat} : exK X (.ret (.glob g)) r = ((cE X (.glob g)).v r).bind fun v r => .ok (.ret v.1 v.2) r := x_ret (by intros; simp)
theorem xr_bin {o : Op} : exK X (.ret (.bin o a b)) r = ((cE X (.bin o a b)).v r).bind fun v r => .ok (.ret v.1 v.2) r := x_ret (by intros; simp)
theorem xr_neg  : exK X (.ret (.neg a)) r = ((cE X (.neg a)).v r).bind fun v r => .ok (.ret v.1 v.2) r := x_ret (by intros; simp)
theorem xr_not  : exK X (.ret (.not a)) r = ((cE X (.not a)).v r).bind fun v r => .ok (.ret v.1 v.2) r := x_ret (by intros; simp)
theorem xr_and  : exK X (.ret (.and a b)) r = ((cE X (.and a b)).v r).bind fun v r => .ok (.ret v.1 v.2) r := x_ret (by intros; simp)
theorem xr_or  : exK X (.ret (.or a b)) r = ((cE X (.or a b)).v r).bind fun v r => .ok (.ret v.1 v.2) r := x_ret (by intros; simp)
theorem xr_cmp {o : Cmp} : exK X (.ret (.cmp o a b)) r = ((cE X (.cmp o a b)).v r).bind fun v r => .ok (.ret v.1 v.2) r := x_ret (by intros; simp)
theorem xr_chain {o q : Cmp} : exK X (.ret (.chain o q a b c)) r = ((cE X (.chain o q a b c)).v r).bind fun v r => .ok (.ret v.1 v.2) r := x_ret (by intros; simp)
theorem xr_ite  : exK X (.ret (.ite c a b)) r = ((cE X (.ite c a b)).v r).bind fun v r => .ok (.ret v.1 v.2) r := x_ret (by intros; simp)
theorem xr_call {f : Nat} : exK X (.ret (.call f as)) r = ((cE X (.call f as)).v r).bind fun v r => .ok (.ret v.1 v.2) r := x_ret (by intros; simp)
theorem xr_prim {q : P} : exK X (.ret (.prim q as)) r = ((cE X (.prim q as)).v r).bind fun v r => .ok (.ret v.1 v.2) r := x_ret (by intros; simp)
theorem xr_tup  : exK X (.ret (.tup as)) r = ((cE X (.tup as)).v r).bind fun v r => .ok (.ret v.1 v.2) r := x_ret (by intros; simp)
theorem xr_lst  : exK X (.ret (.lst as)) r = ((cE X (.lst as)).v r).bind fun v r => .ok (.ret v.1 v.2) r := x_ret (by intros; simp)
theorem xr_idx  : exK X (.ret (.idx a i)) r = ((cE X (.idx a i)).v r).bind fun v r => .ok (.ret v.1 v.2) r := x_ret (by intros; simp)
theorem xr_slice  : exK X (.ret (.slice a lo hi)) r = ((cE X (.slice a lo hi)).v r).bind fun v r => .ok (.ret v.1 v.2) r := x_ret (by intros; simp)
theorem xr_rev  : exK X (.ret (.rev a)) r = ((cE X (.rev a)).v r).bind fun v r => .ok (.ret v.1 v.2) r := x_ret (by intros; simp)
theorem xr_comp {t : T} {it : It} : exK X (.ret (.comp t it c e)) r = ((cE X (.comp t it c e)).v r).bind fun v r => .ok (.ret v.1 v.2) r := x_ret (by intros; simp)
theorem xr_meth {m : M} : exK X (.ret (.meth m a as)) r = ((cE X (.meth m a as)).v r).bind fun v r => .ok (.ret v.1 v.2) r := x_ret (by intros; simp)
theorem xr_coll {tu : Bool} {it : It} : exK X (.ret (.coll tu it)) r = ((cE X (.coll tu it)).v r).bind fun v r => .ok (.ret v.1 v.2) r := x_ret (by intros; simp)
theorem xr_same  : exK X (.ret (.same a b)) r = ((cE X (.same a b)).v r).bind fun v r => .ok (.ret v.1 v.2) r := x_ret (by intros; simp)
end
/-! a def's run -/
theorem run_K {p : Prog} {wf n f : Nat} {fn : Fn} {ss : List Slot} (h : fnAt p.fn f = some fn) (hl : ss.length = fn.np) : callK p wf (n + 1) f ss = match exK (p.cx wf (callK p wf n)) fn.body (ss ++ noSlots fn.more) with
    | .ok (.ret o d) r => .ok (o, d) r
    | .ok .next r => .ok (false, .none) r
    | .ok _ _ => .st 80
    | .ex k as r => .ex k as r
    | .st n => .st n := by
  show (match fnAt p.fn f with | some fn => runK (p.cx wf (callK p wf n)) fn ss | none => .st 91) = _
  rw [h]
  show runK _ fn ss = _
  unfold runK
  rw [if_pos hl]
  first | done | rfl
end MW
end
section
set_option linter.all false
set_option maxRecDepth 100000
set_option maxHeartbeats 4000000
/-! Vc: what a run comes to: facts looked at by the kernel, weakened, put together; the draws that all laws share. -/
namespace MW
open PySem
/-! ### facts -/
def dropS : List Nat → Env → Env
  | [], r => r
  | i :: is, r => dropS is (match slotAt r i with
    | .fz _ => setSlot r i .no
    | .ow _ => setSlot r i .no
    | _ => r)
def trimR {A : Type} (is : List Nat) : Res A → Res A
  | .ok a r => .ok a (dropS is r)
  | x => x
theorem drop_le : ∀ (is : List Nat) (r : Env), EnvLe (dropS is r) r
  | [], r => .refl r
  | i :: is, r => by
    refine EnvLe.trans (drop_le is _) ?_
    have one : ∀ d : D, (slotAt r i = .fz d ∨ slotAt r i = .ow d) → EnvLe (setSlot r i .no) r := fun d hd => by
      refine ⟨len_set _ _ _, fun j => ?_⟩
      rw [at_set]
      split
      · rename_i h
        rw [h.1]
        refine .inr ⟨rfl, .inr ⟨d, ?_⟩⟩
        exact hd
      · exact .refl _
    cases hs : slotAt r i with
    | fz d => exact one d (.inl hs)
    | ow d => exact one d (.inr hs)
    | _ => exact .refl _
theorem trim_ok {A : Type} {is : List Nat} {x : Res A} {a : A} {r : Env} (h : trimR is x = .ok a r) : ∃ r', x = .ok a r' ∧ EnvLe r r' := by
  cases x with
  | ok b r' =>
    cases h
    exact ⟨r', rfl, drop_le _ _⟩
  | ex k as r' => cases h
  | st n => cases h
/-- the context for the kernel, for reasoning -/
noncomputable abbrev xR (p : Prog) (wf n : Nat) : Cx := p.cx wf (callR p wf n)
abbrev xK (p : Prog) (wf n : Nat) : Cx := p.cx wf (callK p wf n)
theorem xR_eq (p : Prog) (wf n : Nat) : xR p wf n = xK p wf n := by unfold xR xK; rw [callR_eq]
section
variable {p : Prog} {wf n : Nat} {s a b : S} {r0 r1 : Env} {is : List Nat} {w : MW.Flow}
theorem fact (h : trimR is (exR (xR p wf n) s r0) = .ok w r1) {r : Env} (e : EnvLe r0 r) : ∃ r', exK (xK p wf n) s r = .ok w r' ∧ EnvLe r1 r' := by
  obtain ⟨r2, h2, e2⟩ := trim_ok h
  rw [exR_eq, xR_eq] at h2
  have q := mo_S (xK p wf n) s r0 r e
  rw [h2] at q
  obtain ⟨r3, h3, e3⟩ := q
  exact ⟨r3, h3, e2.trans e3⟩
/-- s hands back True -/
def Gd (X : Cx) (s : S) (r0 : Env) : Prop := ∀ r, EnvLe r0 r → ∃ o r', exK X s r = .ok (.ret o (.bool true)) r'
theorem Gd.weak {X : Cx} {r1 r0 : Env} (h : Gd X s r1) (e : EnvLe r1 r0) : Gd X s r0 := fun r e' => h r (e.trans e')
theorem Gd.next {X : Cx} (h : ∀ r, EnvLe r0 r → ∃ r', exK X a r = .ok .next r' ∧ EnvLe r1 r') (g : Gd X b r1) : Gd X (.seq a b) r0 := fun r e => by
  obtain ⟨r', h1, e1⟩ := h r e
  obtain ⟨o, r2, h2⟩ := g r' e1
  refine ⟨o, r2, ?_⟩
  simp only [exK, h1, Res.bind, h2]
theorem Gd.step (h : trimR is (exR (xR p wf n) a r0) = .ok .next r1) (g : Gd (xK p wf n) b r1) : Gd (xK p wf n) (.seq a b) r0 := Gd.next (fun r e => fact h e) g
theorem Gd.end {o : Bool} (h : trimR is (exR (xR p wf n) a r0) = .ok (.ret o (.bool true)) r1) : Gd (xK p wf n) (.seq a b) r0 := fun r e => by
  obtain ⟨r', h1, _⟩ := fact h e
  refine ⟨o, r', ?_⟩
  simp only [exK, h1, Res.bind]
end
/-! ### loops -/
theorem loopS_inv {f : D → Env → Res MW.Flow} (I : Nat → Env → Prop) : ∀ (xs : List D) (k : Nat) (r : Env), (∀ i d r, getAt xs i = some d → I (k + i) r → ∃ w r', f d r = .ok w r' ∧ (w = .next ∨ w = .cont) ∧ I (k + i + 1) r') → I k r →
    ∃ r', loopS f xs r = .ok .next r' ∧ I (k + xs.length) r'
  | [], k, r, _, h => ⟨r, rfl, h⟩
  | x :: xs, k, r, hf, h => by
    obtain ⟨w, r1, h1, hw, h2⟩ := hf 0 x r rfl h
    obtain ⟨r2, h3, h4⟩ := loopS_inv I xs (k + 1) r1 (fun i d r e hi => by
      have := hf (i + 1) d r e (by rw [show k + (i + 1) = k + 1 + i by omega]; exact hi)
      rw [show k + (i + 1) + 1 = k + 1 + i + 1 by omega] at this
      exact this) h2
    refine ⟨r2, ?_, by rw [List.length_cons, show k + (xs.length + 1) = k + 1 + xs.length by omega]; exact h4⟩
    show (f x r).bind _ = _
    rw [h1]
    rcases hw with rfl | rfl <;> exact h3
theorem getAt_ranged : ∀ (n : Nat) (lo : Int) (i : Nat) (d : D), getAt (ranged lo n) i = some d → i < n ∧ d = .int (lo + i)
  | 0, lo, i, d, h => by cases h
  | n + 1, lo, 0, d, h => by
    cases h
    exact ⟨Nat.succ_pos _, by simp⟩
  | n + 1, lo, i + 1, d, h => by
    obtain ⟨h1, h2⟩ := getAt_ranged n (lo + 1) i d h
    refine ⟨Nat.succ_lt_succ h1, ?_⟩
    rw [h2]
    congr 1
    push_cast
    omega
theorem ranged_len : ∀ (n : Nat) (lo : Int), (ranged lo n).length = n
  | 0, _ => rfl
  | n + 1, lo => congrArg (· + 1) (ranged_len n (lo + 1))
/-! ### the draws -/
def digFn : Fn := ⟨3, 5, [false, false, false],
  (.seq (.asg (.name 3) (.lst .nil)) (.seq (.for_ (.name 4) (.range2 (.var 1) (.var 2)) (.seq (.asg (.name 5) (.ite (.cmp .lt (.var 4) (.prim .len (.cons (.var 0) .nil))) (.idx (.var 0) (.var 4)) (.const (dI 0)))) (.seq (.ite (.cmp .lt (.var 5) (.const (dI 0))) (.seq (.asg (.name 5) (.bin .sub (.const (dI 1)) (.bin .mul (.const (dI 2)) (.var 5)))) .skip) .skip) (.seq (.ite (.cmp .ge (.var 5) (.const (dI 1000000000000000000))) (.seq (.for_ (.name 6) (.range1 (.const (dI 60))) (.seq (.ite (.cmp .gt (.var 5) (.const (dI 0))) (.seq (.expr (.append 3 (.bin .mod (.prim .int (.cons (.var 5) .nil)) (.const (dI 1009))))) (.seq (.asg (.name 5) (.bin .fdiv (.var 5) (.const (dI 1009)))) .skip)) .skip) .skip)) .skip) (.seq (.asg (.name 7) (.bin .mod (.prim .int (.cons (.bin .add (.bin .add (.bin .mul (.var 5) (.const (dI 40699))) (.bin .mul (.var 4) (.const (dI 52769)))) (.const (dI 31))) .nil)) (.const (dI 2147483399)))) (.seq (.for_ (.name 6) (.range1 (.const (dI 12))) (.seq (.asg (.name 7) (.bin .mod (.prim .int (.cons (.bin .add (.bin .add (.bin .mul (.var 7) (.const (dI 40014))) (.bin .mul (.const (dI 11)) (.var 6))) (.const (dI 7))) .nil)) (.const (dI 2147483563)))) (.seq (.expr (.append 3 (.bin .mod (.prim .int (.cons (.bin .fdiv (.var 7) (.const (dI 1013))) .nil)) (.const (dI 1009))))) .skip))) .skip))) .skip)))) (.seq (.ret (.var 3)) .skip)))⟩
def drawFn : Fn := ⟨2, 1, [true, false],
  (.seq (.asg (.name 2) (.idx (.var 0) (.const (dI 1)))) (.seq (.set 0 (.const (dI 1)) (.bin .add (.var 2) (.const (dI 1)))) (.seq (.ite (.cmp .lt (.var 2) (.prim .len (.cons (.idx (.var 0) (.const (dI 0))) .nil))) (.seq (.ret (.bin .mod (.prim .int (.cons (.idx (.idx (.var 0) (.const (dI 0))) (.var 2)) .nil)) (.var 1))) .skip) .skip) (.seq (.ret (.bin .mod (.prim .int (.cons (.bin .add (.bin .add (.bin .add (.bin .mul (.bin .mul (.var 2) (.var 2)) (.const (dI 3))) (.bin .mul (.var 2) (.const (dI 4)))) (.bin .fdiv (.var 2) (.const (dI 3)))) (.const (dI 1))) .nil)) (.var 1))) .skip))))⟩
def pickFn (di : Nat) : Fn := ⟨2, 0, [true, false],
  (.seq (.ret (.idx (.var 1) (.call di (.cons (.var 0) (.cons (.prim .len (.cons (.var 1) .nil)) .nil))))) .skip)⟩
def rowFn (di : Nat) : Fn := ⟨3, 1, [true, false, false],
  (.seq (.ret (.prim .tuple (.cons (.comp (.name 3) (.range1 (.var 2)) (.const (.bool true)) (.call di (.cons (.var 0) (.cons (.var 1) .nil)))) .nil))) .skip)⟩
def intsD (ds : List Int) : D := .list (ds.map .int)
def boxD (ds : List Int) (at_ : Nat) : D := .list [intsD ds, .int at_]
/-- the number drawn -/
def drawV (ds : List Int) (at_ : Nat) (m : Int) : Int :=
  (match ds[at_]? with
  | some v => v
  | none => (at_ : Int) * at_ * 3 + at_ * 4 + at_ / 3 + 1) % m
theorem getAt_ints : ∀ (ds : List Int) (i : Nat), getAt (ds.map .int) i = (ds[i]?).map .int
  | [], i => by cases i <;> rfl
  | _ :: _, 0 => rfl
  | _ :: r, i + 1 => getAt_ints r i
theorem item1 {x y v : D} {r : Env} : setItemS (.io (.list [x, y]) :: r) 0 (.int 1) v = .ok () (.io (.list [x, v]) :: r) := rfl
theorem ix_ints {ds : List Int} {i : Nat} (h : i < ds.length) : idxSem (.list (ds.map .int)) (.int i) = some (.int (ds[i])) := by
  rw [ix_list, ixN (by rw [List.length_map]; exact h), Option.bind_some, getAt_ints, List.getElem?_eq_getElem h]
  rfl
theorem draw_ok {p : Prog} {wf n i at_ : Nat} {ds : List Int} {m : Int} (hf : fnAt p.fn i = some drawFn) (hm : 0 < m) (ha : at_ < 1000000) :
    callK p wf (n + 1) i [.io (boxD ds at_), .fz (.int m)] = .ok (false, .int (drawV ds at_ m)) [.io (boxD ds (at_ + 1)), .fz (.int m), .fz (.int at_)] := by
  have mo1 : mulOk (at_ : Int) at_ = true := by unfold mulOk big64; simp; omega
  have mo2 : mulOk ((at_ : Int) * at_) 3 = true := by unfold mulOk big64; simp
  have mo3 : mulOk (at_ : Int) 4 = true := by unfold mulOk big64; simp
  have hlen : (List.map PyData.int ds).length = ds.length := List.length_map _
  rw [run_K hf rfl]
  simp only [drawFn, noSlots, List.cons_append, List.nil_append, boxD, intsD]
  simp only [item1, hlen, bind_ok', bind_ex', bind_st', h1_some, h1_none, h2_some, hI_some, hI2_some, sd_fz, sd_ow, sd_lk, sd_io, sd_no, opdD_ref', opdD_val, opdV_ref', opdV_val, opdsD_nil, opdsD_cons, at0, atS, set0, setS, mkSl_t, mkSl_f, stK_no, stK_fz, stK_ow, usK_fz, usK_ow, asg_name, asg_two, asg_three, ofOV_some, sl_own, sl_io, set_fz, set_ow, set_lk, set_io, op_add, op_sub, op_mul, op_fdiv, op_mod, cmp_lt, cmp_gt, cmp_le, cmp_ge, cmp_eq, cmp_ne, pr_int, pr_lenL, pr_lenT, pr_tup, tru_b, tru_i, ixl0, ixl1, ixl2, ixl3, ixt0, ixt1, ixt2, ixt3, get0, getS, v_var, o_var, v_const, o_const, v_bin, o_bin, v_neg, v_cmp, o_cmp, t_cmp, t_not, t_and, t_or, v_ite, v_call, o_call, t_call, v_prim, o_prim, v_tup, v_lst, v_idx, o_idx, v_append, t_const, es_o0, es_oS, es_v0, es_vS, es_a0, es_af, es_at, as0, asV, asI, ioK_ow, ioK_io, tb0, tbV, tbI, tbK_ow, tbK_io, it_r1, it_r2, thn_next, thn_ret, x_seq, x_skip, x_asg, x_expr, x_ite, x_set, x_retV, rtK_ow, rtK_fz, if_true, if_false, Bool.false_eq_true, Option.map_some, Option.bind_some, Option.map_none, Option.bind_none]
  by_cases h : at_ < ds.length
  · have h' : ((at_ : Int) < (ds.length : Int)) := by exact_mod_cast h
    simp only [h', decide_true, ix_ints h, hm, bind_ok', bind_ex', bind_st', h1_some, h1_none, h2_some, hI_some, hI2_some, sd_fz, sd_ow, sd_lk, sd_io, sd_no, opdD_ref', opdD_val, opdV_ref', opdV_val, opdsD_nil, opdsD_cons, at0, atS, set0, setS, mkSl_t, mkSl_f, stK_no, stK_fz, stK_ow, usK_fz, usK_ow, asg_name, asg_two, asg_three, ofOV_some, sl_own, sl_io, set_fz, set_ow, set_lk, set_io, op_add, op_sub, op_mul, op_fdiv, op_mod, cmp_lt, cmp_gt, cmp_le, cmp_ge, cmp_eq, cmp_ne, pr_int, pr_lenL, pr_lenT, pr_tup, tru_b, tru_i, ixl0, ixl1, ixl2, ixl3, ixt0, ixt1, ixt2, ixt3, get0, getS, v_var, o_var, v_const, o_const, v_bin, o_bin, v_neg, v_cmp, o_cmp, t_cmp, t_not, t_and, t_or, v_ite, v_call, o_call, t_call, v_prim, o_prim, v_tup, v_lst, v_idx, o_idx, v_append, t_const, es_o0, es_oS, es_v0, es_vS, es_a0, es_af, es_at, as0, asV, asI, ioK_ow, ioK_io, tb0, tbV, tbI, tbK_ow, tbK_io, it_r1, it_r2, thn_next, thn_ret, x_seq, x_skip, x_asg, x_expr, x_ite, x_set, x_retV, xr_const, xr_glob, xr_bin, xr_neg, xr_not, xr_and, xr_or, xr_cmp, xr_chain, xr_ite, xr_call, xr_prim, xr_tup, xr_lst, xr_idx, xr_slice, xr_rev, xr_comp, xr_meth, xr_coll, xr_same, rtK_ow, rtK_fz, if_true, if_false, Bool.false_eq_true, Option.map_some, Option.bind_some, Option.map_none, Option.bind_none]
    simp [drawV, h]
  · have h' : ¬ ((at_ : Int) < (ds.length : Int)) := by exact_mod_cast h
    have fd : ((0 : Int) < 3 ∧ (3 : Int) < 1073741824) = True := by simp
    simp only [h', decide_false, mo1, mo2, mo3, hm, fd, bind_ok', bind_ex', bind_st', h1_some, h1_none, h2_some, hI_some, hI2_some, sd_fz, sd_ow, sd_lk, sd_io, sd_no, opdD_ref', opdD_val, opdV_ref', opdV_val, opdsD_nil, opdsD_cons, at0, atS, set0, setS, mkSl_t, mkSl_f, stK_no, stK_fz, stK_ow, usK_fz, usK_ow, asg_name, asg_two, asg_three, ofOV_some, sl_own, sl_io, set_fz, set_ow, set_lk, set_io, op_add, op_sub, op_mul, op_fdiv, op_mod, cmp_lt, cmp_gt, cmp_le, cmp_ge, cmp_eq, cmp_ne, pr_int, pr_lenL, pr_lenT, pr_tup, tru_b, tru_i, ixl0, ixl1, ixl2, ixl3, ixt0, ixt1, ixt2, ixt3, get0, getS, v_var, o_var, v_const, o_const, v_bin, o_bin, v_neg, v_cmp, o_cmp, t_cmp, t_not, t_and, t_or, v_ite, v_call, o_call, t_call, v_prim, o_prim, v_tup, v_lst, v_idx, o_idx, v_append, t_const, es_o0, es_oS, es_v0, es_vS, es_a0, es_af, es_at, as0, asV, asI, ioK_ow, ioK_io, tb0, tbV, tbI, tbK_ow, tbK_io, it_r1, it_r2, thn_next, thn_ret, x_seq, x_skip, x_asg, x_expr, x_ite, x_set, x_retV, xr_const, xr_glob, xr_bin, xr_neg, xr_not, xr_and, xr_or, xr_cmp, xr_chain, xr_ite, xr_call, xr_prim, xr_tup, xr_lst, xr_idx, xr_slice, xr_rev, xr_comp, xr_meth, xr_coll, xr_same, rtK_ow, rtK_fz, if_true, if_false, Bool.false_eq_true, Option.map_some, Option.bind_some, Option.map_none, Option.bind_none]
    simp [drawV, h, hm]
theorem getAt_get' : ∀ (l : List MW.D) (i : Nat), getAt l i = l[i]?
  | [], i => by cases i <;> rfl
  | _ :: _, 0 => rfl
  | _ :: r, i + 1 => by rw [List.getElem?_cons_succ]; exact getAt_get' r i
theorem drawV_lt {ds : List Int} {a : Nat} {m : Int} (h : 0 < m) : 0 ≤ drawV ds a m ∧ drawV ds a m < m := by
  unfold drawV
  exact ⟨Int.emod_nonneg _ (by omega), Int.emod_lt_of_pos _ h⟩
theorem pick_ok {p : Prog} {wf n i di at_ : Nat} {ds : List Int} {xs : List D} (hf : fnAt p.fn i = some (pickFn di)) (hd : fnAt p.fn di = some drawFn) (hm : 0 < xs.length) (ha : at_ < 1000000) :
    ∃ d y r, callK p wf (n + 2) i [.io (boxD ds at_), .fz (.list xs)] = .ok (false, d) (.io (boxD ds (at_ + 1)) :: y :: r) ∧ d ∈ xs := by
  have io : (p.cx wf (callK p wf (n + 1))).io di = [true, false] := by
    show (match fnAt p.fn di with | some fn => fn.io | none => []) = _
    rw [hd]; rfl
  have dr := draw_ok (wf := wf) (n := n) (ds := ds) (m := xs.length) hd (by exact_mod_cast hm) ha
  obtain ⟨d0, d1⟩ := drawV_lt (ds := ds) (a := at_) (m := xs.length) (by exact_mod_cast hm)
  have dr' : (p.cx wf (callK p wf (n + 1))).call di [.io (boxD ds at_), .fz (.int xs.length)] = _ := dr
  rw [run_K hf rfl]
  simp only [pickFn, noSlots, List.append_nil]
  simp only [io, noIo, dr', bind_ok', bind_ex', bind_st', h1_some, h1_none, h2_some, hI_some, hI2_some, sd_fz, sd_ow, sd_lk, sd_io, sd_no, opdD_ref', opdD_val, opdV_ref', opdV_val, opdsD_nil, opdsD_cons, at0, atS, set0, setS, mkSl_t, mkSl_f, stK_no, stK_fz, stK_ow, usK_fz, usK_ow, asg_name, asg_two, asg_three, ofOV_some, sl_own, sl_io, set_fz, set_ow, set_lk, set_io, op_add, op_sub, op_mul, op_fdiv, op_mod, cmp_lt, cmp_gt, cmp_le, cmp_ge, cmp_eq, cmp_ne, pr_int, pr_lenL, pr_lenT, pr_tup, tru_b, tru_i, ixl0, ixl1, ixl2, ixl3, ixt0, ixt1, ixt2, ixt3, get0, getS, v_var, o_var, v_const, o_const, v_bin, o_bin, v_neg, v_cmp, o_cmp, t_cmp, t_not, t_and, t_or, v_ite, v_call, o_call, t_call, v_prim, o_prim, v_tup, v_lst, v_idx, o_idx, v_append, t_const, es_o0, es_oS, es_v0, es_vS, es_a0, es_af, es_at, as0, asV, asI, ioK_ow, ioK_io, tb0, tbV, tbI, tbK_ow, tbK_io, it_r1, it_r2, thn_next, thn_ret, x_seq, x_skip, x_asg, x_expr, x_ite, x_set, x_retV, xr_const, xr_glob, xr_bin, xr_neg, xr_not, xr_and, xr_or, xr_cmp, xr_chain, xr_ite, xr_call, xr_prim, xr_tup, xr_lst, xr_idx, xr_slice, xr_rev, xr_comp, xr_meth, xr_coll, xr_same, rtK_ow, rtK_fz, if_true, if_false, Bool.false_eq_true, Option.map_some, Option.bind_some, Option.map_none, Option.bind_none]
  obtain ⟨k, hk⟩ := Int.eq_ofNat_of_zero_le d0
  rw [hk] at d1 ⊢
  have hk2 : k < xs.length := by exact_mod_cast d1
  rw [ix_list, ixN hk2, Option.bind_some]
  cases hg : getAt xs k with
  | none =>
    rw [getAt_get'] at hg
    exact absurd (List.getElem?_eq_none_iff.mp hg) (by omega)
  | some d =>
    refine ⟨d, _, _, by simp only [h1_some, bind_ok', bind_ex', bind_st', h1_some, h1_none, h2_some, hI_some, hI2_some, sd_fz, sd_ow, sd_lk, sd_io, sd_no, opdD_ref', opdD_val, opdV_ref', opdV_val, opdsD_nil, opdsD_cons, at0, atS, set0, setS, mkSl_t, mkSl_f, stK_no, stK_fz, stK_ow, usK_fz, usK_ow, asg_name, asg_two, asg_three, ofOV_some, sl_own, sl_io, set_fz, set_ow, set_lk, set_io, op_add, op_sub, op_mul, op_fdiv, op_mod, cmp_lt, cmp_gt, cmp_le, cmp_ge, cmp_eq, cmp_ne, pr_int, pr_lenL, pr_lenT, pr_tup, tru_b, tru_i, ixl0, ixl1, ixl2, ixl3, ixt0, ixt1, ixt2, ixt3, get0, getS, v_var, o_var, v_const, o_const, v_bin, o_bin, v_neg, v_cmp, o_cmp, t_cmp, t_not, t_and, t_or, v_ite, v_call, o_call, t_call, v_prim, o_prim, v_tup, v_lst, v_idx, o_idx, v_append, t_const, es_o0, es_oS, es_v0, es_vS, es_a0, es_af, es_at, as0, asV, asI, ioK_ow, ioK_io, tb0, tbV, tbI, tbK_ow, tbK_io, it_r1, it_r2, thn_next, thn_ret, x_seq, x_skip, x_asg, x_expr, x_ite, x_set, x_retV, xr_const, xr_glob, xr_bin, xr_neg, xr_not, xr_and, xr_or, xr_cmp, xr_chain, xr_ite, xr_call, xr_prim, xr_tup, xr_lst, xr_idx, xr_slice, xr_rev, xr_comp, xr_meth, xr_coll, xr_same, rtK_ow, rtK_fz, if_true, if_false, Bool.false_eq_true, Option.map_some, Option.bind_some, Option.map_none, Option.bind_none]; rfl, ?_⟩
    rw [getAt_get'] at hg
    exact List.mem_of_getElem? hg
/-! the digits -/
/-- a place that may be stored -/
def pl : Slot → Prop
  | .io _ => False
  | .lk _ => False
  | _ => True
theorem stK_pl {s : Slot} {i : Nat} {v : Bool × D} {r : Env} (h : pl s) : stK s i v r = .ok () (setSlot r i (mkSl v)) := by
  cases s <;> first | rfl | exact h.elim
theorem mul_l {a b : Int} (h : a.natAbs < big64) : mulOk a b = true := by unfold mulOk; simp [h]
theorem mul_r {a b : Int} (h : b.natAbs < big64) : mulOk a b = true := by unfold mulOk; simp [h]
theorem ints_app {ds : List Int} {v : Int} : PyData.list (ds.map PyData.int ++ [.int v]) = intsD (ds ++ [v]) := by simp [intsD]
theorem small_n {n : Int} (h1 : -(2 ^ 62) ≤ n) (h2 : n < 2 ^ 62) : smallI n = true := by unfold smallI; rw [decide_eq_true h1, decide_eq_true h2]; rfl
/-- the inner loop over a great cell -/
def digA : S := (.seq (.ite (.cmp .gt (.var 5) (.const (dI 0))) (.seq (.expr (.append 3 (.bin .mod (.prim .int (.cons (.var 5) .nil)) (.const (dI 1009))))) (.seq (.asg (.name 5) (.bin .fdiv (.var 5) (.const (dI 1009)))) .skip)) .skip) .skip)
theorem digA_ok {X : Cx} {a0 a1 a2 a4 a6 a7 : Slot} {ds : List Int} {c : Int} (h : ds.length < szLine) :
    ∃ ds' c', exK X digA [a0, a1, a2, .ow (intsD ds), a4, .fz (.int c), a6, a7] = .ok .next [a0, a1, a2, .ow (intsD ds'), a4, .fz (.int c'), a6, a7] ∧ ds'.length ≤ ds.length + 1 := by
  have hl : (ds.map PyData.int).length < szLine := by rw [List.length_map]; exact h
  have m1 : ((0 : Int) < 1009) = True := by simp
  have m2 : ((1009 : Int) < 1073741824) = True := by simp
  have ow : ∀ xs : List D, ownL (.ow (.list xs)) = true := fun _ => rfl
  by_cases hc : (0 : Int) < c
  · refine ⟨ds ++ [c % 1009], c / 1009, ?_, by simp⟩
    simp only [digA, intsD, hc, decide_true, m1, m2, and_self, ow, apK_ow hl, bind_ok', bind_ex', bind_st', h1_some, h1_none, h2_some, hI_some, hI2_some, sd_fz, sd_ow, sd_lk, sd_io, sd_no, opdD_ref', opdD_val, opdV_ref', opdV_val, opdsD_nil, opdsD_cons, at0, atS, set0, setS, mkSl_t, mkSl_f, stK_no, stK_fz, stK_ow, usK_fz, usK_ow, asg_name, asg_two, asg_three, ofOV_some, sl_own, sl_io, set_fz, set_ow, set_lk, set_io, op_add, op_sub, op_mul, op_fdiv, op_mod, cmp_lt, cmp_gt, cmp_le, cmp_ge, cmp_eq, cmp_ne, pr_int, pr_lenL, pr_lenT, pr_tup, tru_b, tru_i, ixl0, ixl1, ixl2, ixl3, ixt0, ixt1, ixt2, ixt3, get0, getS, v_var, o_var, v_const, o_const, v_bin, o_bin, v_neg, v_cmp, o_cmp, t_cmp, t_not, t_and, t_or, v_ite, v_call, o_call, t_call, v_prim, o_prim, v_tup, v_lst, v_idx, o_idx, v_append, t_const, es_o0, es_oS, es_v0, es_vS, es_a0, es_af, es_at, as0, asV, asI, ioK_ow, ioK_io, tb0, tbV, tbI, tbK_ow, tbK_io, it_r1, it_r2, thn_next, thn_ret, x_seq, x_skip, x_asg, x_expr, x_ite, x_set, x_retV, xr_const, xr_glob, xr_bin, xr_neg, xr_not, xr_and, xr_or, xr_cmp, xr_chain, xr_ite, xr_call, xr_prim, xr_tup, xr_lst, xr_idx, xr_slice, xr_rev, xr_comp, xr_meth, xr_coll, xr_same, rtK_ow, rtK_fz, if_true, if_false, Bool.false_eq_true, Option.map_some, Option.bind_some, Option.map_none, Option.bind_none]
    simp
  · refine ⟨ds, c, ?_, by simp⟩
    simp only [digA, intsD, hc, decide_false, bind_ok', bind_ex', bind_st', h1_some, h1_none, h2_some, hI_some, hI2_some, sd_fz, sd_ow, sd_lk, sd_io, sd_no, opdD_ref', opdD_val, opdV_ref', opdV_val, opdsD_nil, opdsD_cons, at0, atS, set0, setS, mkSl_t, mkSl_f, stK_no, stK_fz, stK_ow, usK_fz, usK_ow, asg_name, asg_two, asg_three, ofOV_some, sl_own, sl_io, set_fz, set_ow, set_lk, set_io, op_add, op_sub, op_mul, op_fdiv, op_mod, cmp_lt, cmp_gt, cmp_le, cmp_ge, cmp_eq, cmp_ne, pr_int, pr_lenL, pr_lenT, pr_tup, tru_b, tru_i, ixl0, ixl1, ixl2, ixl3, ixt0, ixt1, ixt2, ixt3, get0, getS, v_var, o_var, v_const, o_const, v_bin, o_bin, v_neg, v_cmp, o_cmp, t_cmp, t_not, t_and, t_or, v_ite, v_call, o_call, t_call, v_prim, o_prim, v_tup, v_lst, v_idx, o_idx, v_append, t_const, es_o0, es_oS, es_v0, es_vS, es_a0, es_af, es_at, as0, asV, asI, ioK_ow, ioK_io, tb0, tbV, tbI, tbK_ow, tbK_io, it_r1, it_r2, thn_next, thn_ret, x_seq, x_skip, x_asg, x_expr, x_ite, x_set, x_retV, xr_const, xr_glob, xr_bin, xr_neg, xr_not, xr_and, xr_or, xr_cmp, xr_chain, xr_ite, xr_call, xr_prim, xr_tup, xr_lst, xr_idx, xr_slice, xr_rev, xr_comp, xr_meth, xr_coll, xr_same, rtK_ow, rtK_fz, if_true, if_false, Bool.false_eq_true, Option.map_some, Option.bind_some, Option.map_none, Option.bind_none]
def digB : S := (.seq (.asg (.name 7) (.bin .mod (.prim .int (.cons (.bin .add (.bin .add (.bin .mul (.var 7) (.const (dI 40014))) (.bin .mul (.const (dI 11)) (.var 6))) (.const (dI 7))) .nil)) (.const (dI 2147483563)))) (.seq (.expr (.append 3 (.bin .mod (.prim .int (.cons (.bin .fdiv (.var 7) (.const (dI 1013))) .nil)) (.const (dI 1009))))) .skip))
theorem digB_ok {X : Cx} {a0 a1 a2 a4 a5 : Slot} {ds : List Int} {c t : Int} (h : ds.length < szLine) :
    ∃ ds' c', exK X digB [a0, a1, a2, .ow (intsD ds), a4, a5, .fz (.int t), .fz (.int c)] = .ok .next [a0, a1, a2, .ow (intsD ds'), a4, a5, .fz (.int t), .fz (.int c')] ∧ ds'.length ≤ ds.length + 1 := by
  have hl : (ds.map PyData.int).length < szLine := by rw [List.length_map]; exact h
  have m1 : ((0 : Int) < 1009) = True := by simp
  have m2 : ((0 : Int) < 2147483563) = True := by simp
  have m3 : ((0 : Int) < 1013 ∧ (1013 : Int) < 1073741824) = True := by simp
  have ow : ∀ xs : List D, ownL (.ow (.list xs)) = true := fun _ => rfl
  have u1 : mulOk c 40014 = true := mul_r (by decide)
  have u2 : mulOk 11 t = true := mul_l (by decide)
  refine ⟨ds ++ [(c * 40014 + 11 * t + 7) % 2147483563 / 1013 % 1009], (c * 40014 + 11 * t + 7) % 2147483563, ?_, by simp⟩
  simp only [digB, intsD, m1, m2, m3, u1, u2, ow, apK_ow hl, bind_ok', bind_ex', bind_st', h1_some, h1_none, h2_some, hI_some, hI2_some, sd_fz, sd_ow, sd_lk, sd_io, sd_no, opdD_ref', opdD_val, opdV_ref', opdV_val, opdsD_nil, opdsD_cons, at0, atS, set0, setS, mkSl_t, mkSl_f, stK_no, stK_fz, stK_ow, usK_fz, usK_ow, asg_name, asg_two, asg_three, ofOV_some, sl_own, sl_io, set_fz, set_ow, set_lk, set_io, op_add, op_sub, op_mul, op_fdiv, op_mod, cmp_lt, cmp_gt, cmp_le, cmp_ge, cmp_eq, cmp_ne, pr_int, pr_lenL, pr_lenT, pr_tup, tru_b, tru_i, ixl0, ixl1, ixl2, ixl3, ixt0, ixt1, ixt2, ixt3, get0, getS, v_var, o_var, v_const, o_const, v_bin, o_bin, v_neg, v_cmp, o_cmp, t_cmp, t_not, t_and, t_or, v_ite, v_call, o_call, t_call, v_prim, o_prim, v_tup, v_lst, v_idx, o_idx, v_append, t_const, es_o0, es_oS, es_v0, es_vS, es_a0, es_af, es_at, as0, asV, asI, ioK_ow, ioK_io, tb0, tbV, tbI, tbK_ow, tbK_io, it_r1, it_r2, thn_next, thn_ret, x_seq, x_skip, x_asg, x_expr, x_ite, x_set, x_retV, xr_const, xr_glob, xr_bin, xr_neg, xr_not, xr_and, xr_or, xr_cmp, xr_chain, xr_ite, xr_call, xr_prim, xr_tup, xr_lst, xr_idx, xr_slice, xr_rev, xr_comp, xr_meth, xr_coll, xr_same, rtK_ow, rtK_fz, if_true, if_false, Bool.false_eq_true, Option.map_some, Option.bind_some, Option.map_none, Option.bind_none]
  simp
/-- turns over a range, the digits growing by one at most -/
theorem dig_loop {X : Cx} {s : S} {j : Nat} {ds : List Int} {c : Int} {n : Nat} (mk : List Int → Int → Slot → Env) (hs : ∀ ds c t, slotAt (mk ds c t) j = t) (hset : ∀ ds c t d, setSlot (mk ds c t) j d = mk ds c d)
    (body : ∀ ds c t, ds.length < szLine → ∃ ds' c', exK X s (mk ds c (.fz (.int t))) = .ok .next (mk ds' c' (.fz (.int t))) ∧ ds'.length ≤ ds.length + 1) (lo : Int) (t0 : Slot) (h0 : pl t0) (hl : ds.length + n < szLine) :
    ∃ ds' c' t', loopS (fun d r => (assignT (.name j) (false, d) r).bind fun _ r => exK X s r) (ranged lo n) (mk ds c t0) = .ok .next (mk ds' c' t') ∧ ds'.length ≤ ds.length + n ∧ pl t' := by
  have key : ∀ i d r, getAt (ranged lo n) i = some d → (∃ ds' c' t', r = mk ds' c' t' ∧ ds'.length ≤ ds.length + (0 + i) ∧ pl t') → ∃ w r', (assignT (.name j) (false, d) r).bind (fun _ r => exK X s r) = .ok w r' ∧ (w = .next ∨ w = .cont) ∧ ∃ ds' c' t', r' = mk ds' c' t' ∧ ds'.length ≤ ds.length + (0 + i + 1) ∧ pl t' := by
    rintro i d r hd ⟨ds1, c1, t1, rfl, l1, p1⟩
    obtain ⟨hi, rfl⟩ := getAt_ranged _ _ _ _ hd
    obtain ⟨ds2, c2, b1, b2⟩ := body ds1 c1 (lo + i) (by omega)
    refine ⟨.next, _, ?_, .inl rfl, ds2, c2, .fz (.int (lo + i)), rfl, by omega, trivial⟩
    simp only [asg_name, hs, stK_pl p1, bind_ok', mkSl_f, hset]
    exact b1
  obtain ⟨r', h1, ds', c', t', rfl, h2, h3⟩ := loopS_inv (f := fun d r => (assignT (.name j) (false, d) r).bind fun _ r => exK X s r) (fun k r => ∃ ds' c' t', r = mk ds' c' t' ∧ ds'.length ≤ ds.length + k ∧ pl t') (ranged lo n) 0 (mk ds c t0) key ⟨ds, c, t0, rfl, Nat.le_refl _, h0⟩
  rw [ranged_len, Nat.zero_add] at h2
  exact ⟨ds', c', t', h1, h2, h3⟩
def digC : S := (.seq (.asg (.name 5) (.ite (.cmp .lt (.var 4) (.prim .len (.cons (.var 0) .nil))) (.idx (.var 0) (.var 4)) (.const (dI 0)))) (.seq (.ite (.cmp .lt (.var 5) (.const (dI 0))) (.seq (.asg (.name 5) (.bin .sub (.const (dI 1)) (.bin .mul (.const (dI 2)) (.var 5)))) .skip) .skip) (.seq (.ite (.cmp .ge (.var 5) (.const (dI 1000000000000000000))) (.seq (.for_ (.name 6) (.range1 (.const (dI 60))) digA) .skip) (.seq (.asg (.name 7) (.bin .mod (.prim .int (.cons (.bin .add (.bin .add (.bin .mul (.var 5) (.const (dI 40699))) (.bin .mul (.var 4) (.const (dI 52769)))) (.const (dI 31))) .nil)) (.const (dI 2147483399)))) (.seq (.for_ (.name 6) (.range1 (.const (dI 12))) digB) .skip))) .skip)))
theorem digFn_eq : digFn = ⟨3, 5, [false, false, false], (.seq (.asg (.name 3) (.lst .nil)) (.seq (.for_ (.name 4) (.range2 (.var 1) (.var 2)) digC) (.seq (.ret (.var 3)) .skip)))⟩ := rfl
theorem digC_ok {X : Cx} {ns ds : List Int} {k : Nat} {a1 a2 a5 a6 a7 : Slot} (p5 : pl a5) (p6 : pl a6) (p7 : pl a7) (h : ds.length + 60 < szLine) :
    ∃ ds' b5 b6 b7, exK X digC [.fz (intsD ns), a1, a2, .ow (intsD ds), .fz (.int k), a5, a6, a7] = .ok .next [.fz (intsD ns), a1, a2, .ow (intsD ds'), .fz (.int k), b5, b6, b7] ∧ ds'.length ≤ ds.length + 60 ∧ pl b5 ∧ pl b6 ∧ pl b7 := by
  have u0 : ∀ c : Int, mulOk 2 c = true := fun c => mul_l (by decide)
  have u1 : ∀ c : Int, mulOk c 40699 = true := fun c => mul_r (by decide)
  have u2 : ∀ c : Int, mulOk c 52769 = true := fun c => mul_r (by decide)
  have m2 : ((0 : Int) < 2147483399) = True := by simp
  have s60 : smallI 60 = true := by decide
  have s12 : smallI 12 = true := by decide
  -- the cell
  have cell : ∃ c : Int, (cE X (.ite (.cmp .lt (.var 4) (.prim .len (.cons (.var 0) .nil))) (.idx (.var 0) (.var 4)) (.const (dI 0)))).v [.fz (intsD ns), a1, a2, .ow (intsD ds), .fz (.int k), a5, a6, a7] = .ok (false, .int c) [.fz (intsD ns), a1, a2, .ow (intsD ds), .fz (.int k), a5, a6, a7] := by
    by_cases hk : k < ns.length
    · have h' : ((k : Int) < (ns.length : Int)) := by exact_mod_cast hk
      refine ⟨ns[k], ?_⟩
      simp only [intsD, List.length_map, h', decide_true, ix_ints hk, bind_ok', bind_ex', bind_st', h1_some, h1_none, h2_some, hI_some, hI2_some, sd_fz, sd_ow, sd_lk, sd_io, sd_no, opdD_ref', opdD_val, opdV_ref', opdV_val, opdsD_nil, opdsD_cons, at0, atS, set0, setS, mkSl_t, mkSl_f, stK_no, stK_fz, stK_ow, usK_fz, usK_ow, asg_name, asg_two, asg_three, ofOV_some, sl_own, sl_io, set_fz, set_ow, set_lk, set_io, op_add, op_sub, op_mul, op_fdiv, op_mod, cmp_lt, cmp_gt, cmp_le, cmp_ge, cmp_eq, cmp_ne, pr_int, pr_lenL, pr_lenT, pr_tup, tru_b, tru_i, ixl0, ixl1, ixl2, ixl3, ixt0, ixt1, ixt2, ixt3, get0, getS, v_var, o_var, v_const, o_const, v_bin, o_bin, v_neg, v_cmp, o_cmp, t_cmp, t_not, t_and, t_or, v_ite, v_call, o_call, t_call, v_prim, o_prim, v_tup, v_lst, v_idx, o_idx, v_append, t_const, es_o0, es_oS, es_v0, es_vS, es_a0, es_af, es_at, as0, asV, asI, ioK_ow, ioK_io, tb0, tbV, tbI, tbK_ow, tbK_io, it_r1, it_r2, thn_next, thn_ret, x_seq, x_skip, x_asg, x_expr, x_ite, x_set, x_retV, xr_const, xr_glob, xr_bin, xr_neg, xr_not, xr_and, xr_or, xr_cmp, xr_chain, xr_ite, xr_call, xr_prim, xr_tup, xr_lst, xr_idx, xr_slice, xr_rev, xr_comp, xr_meth, xr_coll, xr_same, rtK_ow, rtK_fz, if_true, if_false, Bool.false_eq_true, Option.map_some, Option.bind_some, Option.map_none, Option.bind_none]
    · have h' : ¬ ((k : Int) < (ns.length : Int)) := by exact_mod_cast hk
      refine ⟨0, ?_⟩
      simp only [intsD, List.length_map, h', decide_false, bind_ok', bind_ex', bind_st', h1_some, h1_none, h2_some, hI_some, hI2_some, sd_fz, sd_ow, sd_lk, sd_io, sd_no, opdD_ref', opdD_val, opdV_ref', opdV_val, opdsD_nil, opdsD_cons, at0, atS, set0, setS, mkSl_t, mkSl_f, stK_no, stK_fz, stK_ow, usK_fz, usK_ow, asg_name, asg_two, asg_three, ofOV_some, sl_own, sl_io, set_fz, set_ow, set_lk, set_io, op_add, op_sub, op_mul, op_fdiv, op_mod, cmp_lt, cmp_gt, cmp_le, cmp_ge, cmp_eq, cmp_ne, pr_int, pr_lenL, pr_lenT, pr_tup, tru_b, tru_i, ixl0, ixl1, ixl2, ixl3, ixt0, ixt1, ixt2, ixt3, get0, getS, v_var, o_var, v_const, o_const, v_bin, o_bin, v_neg, v_cmp, o_cmp, t_cmp, t_not, t_and, t_or, v_ite, v_call, o_call, t_call, v_prim, o_prim, v_tup, v_lst, v_idx, o_idx, v_append, t_const, es_o0, es_oS, es_v0, es_vS, es_a0, es_af, es_at, as0, asV, asI, ioK_ow, ioK_io, tb0, tbV, tbI, tbK_ow, tbK_io, it_r1, it_r2, thn_next, thn_ret, x_seq, x_skip, x_asg, x_expr, x_ite, x_set, x_retV, xr_const, xr_glob, xr_bin, xr_neg, xr_not, xr_and, xr_or, xr_cmp, xr_chain, xr_ite, xr_call, xr_prim, xr_tup, xr_lst, xr_idx, xr_slice, xr_rev, xr_comp, xr_meth, xr_coll, xr_same, rtK_ow, rtK_fz, if_true, if_false, Bool.false_eq_true, Option.map_some, Option.bind_some, Option.map_none, Option.bind_none]
  obtain ⟨c, hc⟩ := cell
  -- made positive
  have pos : ∃ c' : Int, exK X (.ite (.cmp .lt (.var 5) (.const (dI 0))) (.seq (.asg (.name 5) (.bin .sub (.const (dI 1)) (.bin .mul (.const (dI 2)) (.var 5)))) .skip) .skip) [.fz (intsD ns), a1, a2, .ow (intsD ds), .fz (.int k), .fz (.int c), a6, a7] = .ok .next [.fz (intsD ns), a1, a2, .ow (intsD ds), .fz (.int k), .fz (.int c'), a6, a7] := by
    by_cases hn : c < 0
    · refine ⟨1 - 2 * c, ?_⟩
      simp only [hn, decide_true, u0, bind_ok', bind_ex', bind_st', h1_some, h1_none, h2_some, hI_some, hI2_some, sd_fz, sd_ow, sd_lk, sd_io, sd_no, opdD_ref', opdD_val, opdV_ref', opdV_val, opdsD_nil, opdsD_cons, at0, atS, set0, setS, mkSl_t, mkSl_f, stK_no, stK_fz, stK_ow, usK_fz, usK_ow, asg_name, asg_two, asg_three, ofOV_some, sl_own, sl_io, set_fz, set_ow, set_lk, set_io, op_add, op_sub, op_mul, op_fdiv, op_mod, cmp_lt, cmp_gt, cmp_le, cmp_ge, cmp_eq, cmp_ne, pr_int, pr_lenL, pr_lenT, pr_tup, tru_b, tru_i, ixl0, ixl1, ixl2, ixl3, ixt0, ixt1, ixt2, ixt3, get0, getS, v_var, o_var, v_const, o_const, v_bin, o_bin, v_neg, v_cmp, o_cmp, t_cmp, t_not, t_and, t_or, v_ite, v_call, o_call, t_call, v_prim, o_prim, v_tup, v_lst, v_idx, o_idx, v_append, t_const, es_o0, es_oS, es_v0, es_vS, es_a0, es_af, es_at, as0, asV, asI, ioK_ow, ioK_io, tb0, tbV, tbI, tbK_ow, tbK_io, it_r1, it_r2, thn_next, thn_ret, x_seq, x_skip, x_asg, x_expr, x_ite, x_set, x_retV, xr_const, xr_glob, xr_bin, xr_neg, xr_not, xr_and, xr_or, xr_cmp, xr_chain, xr_ite, xr_call, xr_prim, xr_tup, xr_lst, xr_idx, xr_slice, xr_rev, xr_comp, xr_meth, xr_coll, xr_same, rtK_ow, rtK_fz, if_true, if_false, Bool.false_eq_true, Option.map_some, Option.bind_some, Option.map_none, Option.bind_none]
    · refine ⟨c, ?_⟩
      simp only [hn, decide_false, bind_ok', bind_ex', bind_st', h1_some, h1_none, h2_some, hI_some, hI2_some, sd_fz, sd_ow, sd_lk, sd_io, sd_no, opdD_ref', opdD_val, opdV_ref', opdV_val, opdsD_nil, opdsD_cons, at0, atS, set0, setS, mkSl_t, mkSl_f, stK_no, stK_fz, stK_ow, usK_fz, usK_ow, asg_name, asg_two, asg_three, ofOV_some, sl_own, sl_io, set_fz, set_ow, set_lk, set_io, op_add, op_sub, op_mul, op_fdiv, op_mod, cmp_lt, cmp_gt, cmp_le, cmp_ge, cmp_eq, cmp_ne, pr_int, pr_lenL, pr_lenT, pr_tup, tru_b, tru_i, ixl0, ixl1, ixl2, ixl3, ixt0, ixt1, ixt2, ixt3, get0, getS, v_var, o_var, v_const, o_const, v_bin, o_bin, v_neg, v_cmp, o_cmp, t_cmp, t_not, t_and, t_or, v_ite, v_call, o_call, t_call, v_prim, o_prim, v_tup, v_lst, v_idx, o_idx, v_append, t_const, es_o0, es_oS, es_v0, es_vS, es_a0, es_af, es_at, as0, asV, asI, ioK_ow, ioK_io, tb0, tbV, tbI, tbK_ow, tbK_io, it_r1, it_r2, thn_next, thn_ret, x_seq, x_skip, x_asg, x_expr, x_ite, x_set, x_retV, xr_const, xr_glob, xr_bin, xr_neg, xr_not, xr_and, xr_or, xr_cmp, xr_chain, xr_ite, xr_call, xr_prim, xr_tup, xr_lst, xr_idx, xr_slice, xr_rev, xr_comp, xr_meth, xr_coll, xr_same, rtK_ow, rtK_fz, if_true, if_false, Bool.false_eq_true, Option.map_some, Option.bind_some, Option.map_none, Option.bind_none]
  obtain ⟨c', hc'⟩ := pos
  unfold digC
  simp only [x_seq, x_asg, hc, bind_ok', asg_name, atS, at0, stK_pl p5, setS, set0, mkSl_f, thn_next, hc']
  by_cases hg : (1000000000000000000 : Int) ≤ c'
  · obtain ⟨ds', c2, t', l1, l2, l3⟩ := dig_loop (X := X) (s := digA) (j := 6) (ds := ds) (c := c') (n := 60) (fun ds c t => [.fz (intsD ns), a1, a2, .ow (intsD ds), .fz (.int k), .fz (.int c), t, a7]) (fun _ _ _ => rfl) (fun _ _ _ _ => rfl) (fun ds c t hl => digA_ok hl) 0 a6 p6 (by omega)
    refine ⟨ds', .fz (.int c2), t', a7, ?_, l2, trivial, l3, p7⟩
    simp only [hg, decide_true, x_for, s60, List.foldl_nil, bind_ok', bind_ex', bind_st', h1_some, h1_none, h2_some, hI_some, hI2_some, sd_fz, sd_ow, sd_lk, sd_io, sd_no, opdD_ref', opdD_val, opdV_ref', opdV_val, opdsD_nil, opdsD_cons, at0, atS, set0, setS, mkSl_t, mkSl_f, stK_no, stK_fz, stK_ow, usK_fz, usK_ow, asg_name, asg_two, asg_three, ofOV_some, sl_own, sl_io, set_fz, set_ow, set_lk, set_io, op_add, op_sub, op_mul, op_fdiv, op_mod, cmp_lt, cmp_gt, cmp_le, cmp_ge, cmp_eq, cmp_ne, pr_int, pr_lenL, pr_lenT, pr_tup, tru_b, tru_i, ixl0, ixl1, ixl2, ixl3, ixt0, ixt1, ixt2, ixt3, get0, getS, v_var, o_var, v_const, o_const, v_bin, o_bin, v_neg, v_cmp, o_cmp, t_cmp, t_not, t_and, t_or, v_ite, v_call, o_call, t_call, v_prim, o_prim, v_tup, v_lst, v_idx, o_idx, v_append, t_const, es_o0, es_oS, es_v0, es_vS, es_a0, es_af, es_at, as0, asV, asI, ioK_ow, ioK_io, tb0, tbV, tbI, tbK_ow, tbK_io, it_r1, it_r2, thn_next, thn_ret, x_seq, x_skip, x_asg, x_expr, x_ite, x_set, x_retV, xr_const, xr_glob, xr_bin, xr_neg, xr_not, xr_and, xr_or, xr_cmp, xr_chain, xr_ite, xr_call, xr_prim, xr_tup, xr_lst, xr_idx, xr_slice, xr_rev, xr_comp, xr_meth, xr_coll, xr_same, rtK_ow, rtK_fz, if_true, if_false, Bool.false_eq_true, Option.map_some, Option.bind_some, Option.map_none, Option.bind_none]
    simp only [asg_name] at l1
    rw [show (60 : Int).toNat = 60 from rfl, l1]
    rfl
  · obtain ⟨ds', c2, t', l1, l2, l3⟩ := dig_loop (X := X) (s := digB) (j := 6) (ds := ds) (c := (c' * 40699 + k * 52769 + 31) % 2147483399) (n := 12) (fun ds c t => [.fz (intsD ns), a1, a2, .ow (intsD ds), .fz (.int k), .fz (.int c'), t, .fz (.int c)]) (fun _ _ _ => rfl) (fun _ _ _ _ => rfl) (fun ds c t hl => digB_ok hl) 0 a6 p6 (by omega)
    refine ⟨ds', .fz (.int c'), t', .fz (.int c2), ?_, by omega, trivial, l3, trivial⟩
    simp only [hg, decide_false, x_for, s12, List.foldl_nil, u1, u2, m2, stK_pl p7, bind_ok', bind_ex', bind_st', h1_some, h1_none, h2_some, hI_some, hI2_some, sd_fz, sd_ow, sd_lk, sd_io, sd_no, opdD_ref', opdD_val, opdV_ref', opdV_val, opdsD_nil, opdsD_cons, at0, atS, set0, setS, mkSl_t, mkSl_f, stK_no, stK_fz, stK_ow, usK_fz, usK_ow, asg_name, asg_two, asg_three, ofOV_some, sl_own, sl_io, set_fz, set_ow, set_lk, set_io, op_add, op_sub, op_mul, op_fdiv, op_mod, cmp_lt, cmp_gt, cmp_le, cmp_ge, cmp_eq, cmp_ne, pr_int, pr_lenL, pr_lenT, pr_tup, tru_b, tru_i, ixl0, ixl1, ixl2, ixl3, ixt0, ixt1, ixt2, ixt3, get0, getS, v_var, o_var, v_const, o_const, v_bin, o_bin, v_neg, v_cmp, o_cmp, t_cmp, t_not, t_and, t_or, v_ite, v_call, o_call, t_call, v_prim, o_prim, v_tup, v_lst, v_idx, o_idx, v_append, t_const, es_o0, es_oS, es_v0, es_vS, es_a0, es_af, es_at, as0, asV, asI, ioK_ow, ioK_io, tb0, tbV, tbI, tbK_ow, tbK_io, it_r1, it_r2, thn_next, thn_ret, x_seq, x_skip, x_asg, x_expr, x_ite, x_set, x_retV, xr_const, xr_glob, xr_bin, xr_neg, xr_not, xr_and, xr_or, xr_cmp, xr_chain, xr_ite, xr_call, xr_prim, xr_tup, xr_lst, xr_idx, xr_slice, xr_rev, xr_comp, xr_meth, xr_coll, xr_same, rtK_ow, rtK_fz, if_true, if_false, Bool.false_eq_true, Option.map_some, Option.bind_some, Option.map_none, Option.bind_none]
    simp only [asg_name] at l1
    rw [show (12 : Int).toNat = 12 from rfl, l1]
    rfl
theorem dig_ok {p : Prog} {wf n i : Nat} {ns : List Int} (hf : fnAt p.fn i = some digFn) : ∃ ds x y z r, callK p wf (n + 1) i [.fz (intsD ns), .fz (.int 0), .fz (.int 63)] = .ok (true, intsD ds) (x :: y :: z :: r) := by
  rw [digFn_eq] at hf
  rw [run_K hf rfl]
  have s0 : smallI 0 = true := by decide
  have s63 : smallI 63 = true := by decide
  let I : Nat → Env → Prop := fun k r => ∃ ds' b4 b5 b6 b7, r = [.fz (intsD ns), .fz (.int 0), .fz (.int 63), .ow (intsD ds'), b4, b5, b6, b7] ∧ ds'.length ≤ 60 * k ∧ pl b4 ∧ pl b5 ∧ pl b6 ∧ pl b7
  have key : ∀ j d r, getAt (ranged 0 63) j = some d → I (0 + j) r → ∃ w r', (assignT (.name 4) (false, d) r).bind (fun _ r => exK (p.cx wf (callK p wf n)) digC r) = .ok w r' ∧ (w = .next ∨ w = .cont) ∧ I (0 + j + 1) r' := by
    rintro j d r hd ⟨ds1, b4, b5, b6, b7, rfl, l1, p4, p5, p6, p7⟩
    obtain ⟨hi, rfl⟩ := getAt_ranged _ _ _ _ hd
    obtain ⟨ds2, c5, c6, c7, b1, b2, q5, q6, q7⟩ := digC_ok (X := p.cx wf (callK p wf n)) (ns := ns) (ds := ds1) (k := j) (a1 := .fz (.int 0)) (a2 := .fz (.int 63)) p5 p6 p7 (by unfold szLine; omega)
    refine ⟨.next, _, ?_, .inl rfl, ds2, .fz (.int j), c5, c6, c7, rfl, by omega, trivial, q5, q6, q7⟩
    simp only [asg_name, atS, at0, stK_pl p4, bind_ok', mkSl_f, setS, set0, Int.zero_add]
    exact b1
  obtain ⟨r', h1, ds', b4, b5, b6, b7, rfl, h2, h3⟩ := loopS_inv (f := fun d r => (assignT (.name 4) (false, d) r).bind fun _ r => exK (p.cx wf (callK p wf n)) digC r) I (ranged 0 63) 0 [.fz (intsD ns), .fz (.int 0), .fz (.int 63), .ow (intsD []), .no, .no, .no, .no] key ⟨[], .no, .no, .no, .no, rfl, Nat.le_refl _, trivial, trivial, trivial, trivial⟩
  refine ⟨ds', .fz (intsD ns), .fz (.int 0), .fz (.int 63), [.no, b4, b5, b6, b7], ?_⟩
  have e : (PyData.list []) = intsD [] := rfl
  simp only [noSlots, List.cons_append, List.nil_append, x_for, s0, s63, Bool.and_self, List.foldl_nil, e, bind_ok', bind_ex', bind_st', h1_some, h1_none, h2_some, hI_some, hI2_some, sd_fz, sd_ow, sd_lk, sd_io, sd_no, opdD_ref', opdD_val, opdV_ref', opdV_val, opdsD_nil, opdsD_cons, at0, atS, set0, setS, mkSl_t, mkSl_f, stK_no, stK_fz, stK_ow, usK_fz, usK_ow, asg_name, asg_two, asg_three, ofOV_some, sl_own, sl_io, set_fz, set_ow, set_lk, set_io, op_add, op_sub, op_mul, op_fdiv, op_mod, cmp_lt, cmp_gt, cmp_le, cmp_ge, cmp_eq, cmp_ne, pr_int, pr_lenL, pr_lenT, pr_tup, tru_b, tru_i, ixl0, ixl1, ixl2, ixl3, ixt0, ixt1, ixt2, ixt3, get0, getS, v_var, o_var, v_const, o_const, v_bin, o_bin, v_neg, v_cmp, o_cmp, t_cmp, t_not, t_and, t_or, v_ite, v_call, o_call, t_call, v_prim, o_prim, v_tup, v_lst, v_idx, o_idx, v_append, t_const, es_o0, es_oS, es_v0, es_vS, es_a0, es_af, es_at, as0, asV, asI, ioK_ow, ioK_io, tb0, tbV, tbI, tbK_ow, tbK_io, it_r1, it_r2, thn_next, thn_ret, x_seq, x_skip, x_asg, x_expr, x_ite, x_set, x_retV, xr_const, xr_glob, xr_bin, xr_neg, xr_not, xr_and, xr_or, xr_cmp, xr_chain, xr_ite, xr_call, xr_prim, xr_tup, xr_lst, xr_idx, xr_slice, xr_rev, xr_comp, xr_meth, xr_coll, xr_same, rtK_ow, rtK_fz, if_true, if_false, Bool.false_eq_true, Option.map_some, Option.bind_some, Option.map_none, Option.bind_none]
  simp only [asg_name] at h1
  rw [show ((63 : Int) - 0).toNat = 63 from rfl, h1]
  simp only [Res.mapR, bind_ok', bind_ex', bind_st', h1_some, h1_none, h2_some, hI_some, hI2_some, sd_fz, sd_ow, sd_lk, sd_io, sd_no, opdD_ref', opdD_val, opdV_ref', opdV_val, opdsD_nil, opdsD_cons, at0, atS, set0, setS, mkSl_t, mkSl_f, stK_no, stK_fz, stK_ow, usK_fz, usK_ow, asg_name, asg_two, asg_three, ofOV_some, sl_own, sl_io, set_fz, set_ow, set_lk, set_io, op_add, op_sub, op_mul, op_fdiv, op_mod, cmp_lt, cmp_gt, cmp_le, cmp_ge, cmp_eq, cmp_ne, pr_int, pr_lenL, pr_lenT, pr_tup, tru_b, tru_i, ixl0, ixl1, ixl2, ixl3, ixt0, ixt1, ixt2, ixt3, get0, getS, v_var, o_var, v_const, o_const, v_bin, o_bin, v_neg, v_cmp, o_cmp, t_cmp, t_not, t_and, t_or, v_ite, v_call, o_call, t_call, v_prim, o_prim, v_tup, v_lst, v_idx, o_idx, v_append, t_const, es_o0, es_oS, es_v0, es_vS, es_a0, es_af, es_at, as0, asV, asI, ioK_ow, ioK_io, tb0, tbV, tbI, tbK_ow, tbK_io, it_r1, it_r2, thn_next, thn_ret, x_seq, x_skip, x_asg, x_expr, x_ite, x_set, x_retV, xr_const, xr_glob, xr_bin, xr_neg, xr_not, xr_and, xr_or, xr_cmp, xr_chain, xr_ite, xr_call, xr_prim, xr_tup, xr_lst, xr_idx, xr_slice, xr_rev, xr_comp, xr_meth, xr_coll, xr_same, rtK_ow, rtK_fz, if_true, if_false, Bool.false_eq_true, Option.map_some, Option.bind_some, Option.map_none, Option.bind_none]
/-! a drawn row -/
theorem loopE_inv {f : D → Env → Res (List D)} (I : Nat → List D → Env → Prop) : ∀ (xs : List D) (k : Nat) (acc : List D) (r : Env), (∀ i d r acc, getAt xs i = some d → I (k + i) acc r → ∃ vs r', f d r = .ok vs r' ∧ I (k + i + 1) (acc ++ vs) r') → I k acc r →
    ∃ vs r', loopE f xs r = .ok vs r' ∧ I (k + xs.length) (acc ++ vs) r'
  | [], k, acc, r, _, h => ⟨[], r, rfl, by rw [List.append_nil]; exact h⟩
  | x :: xs, k, acc, r, hf, h => by
    obtain ⟨vs, r1, h1, h2⟩ := hf 0 x r acc rfl h
    obtain ⟨ws, r2, h3, h4⟩ := loopE_inv I xs (k + 1) (acc ++ vs) r1 (fun i d r acc e hi => by
      have := hf (i + 1) d r acc e (by rw [show k + (i + 1) = k + 1 + i by omega]; exact hi)
      rw [show k + (i + 1) + 1 = k + 1 + i + 1 by omega] at this
      exact this) h2
    refine ⟨vs ++ ws, r2, ?_, by rw [List.length_cons, show k + (xs.length + 1) = k + 1 + xs.length by omega, ← List.append_assoc]; exact h4⟩
    show (f x r).bind _ = _
    rw [h1, bind_ok', h3, bind_ok']
def rowF (X : Cx) (di : Nat) : D → Env → Res (List D) := fun d r => (assignT (.name 3) (false, d) r).bind fun _ r => ((cE X (.const (.bool true))).t r).bind fun t' r => if t' then ((cE X (.call di (.cons (.var 0) (.cons (.var 1) .nil)))).v r).bind fun v r => .ok [v.2] (wipeT (.name 3) r) else .ok [] (wipeT (.name 3) r)
theorem row_turn {X : Cx} {di at_ : Nat} {ds : List Int} {m k d v : Int} (io : X.io di = [true, false]) (dr : X.call di [.io (boxD ds at_), .fz (.int m)] = .ok (false, .int v) [.io (boxD ds (at_ + 1)), .fz (.int m), .fz (.int at_)]) :
    rowF X di (.int d) [.io (boxD ds at_), .fz (.int m), .fz (.int k), .no] = .ok [.int v] [.io (boxD ds (at_ + 1)), .fz (.int m), .fz (.int k), .no] := by
  simp only [rowF, io, noIo, bind_ok', bind_ex', bind_st', h1_some, h1_none, h2_some, hI_some, hI2_some, sd_fz, sd_ow, sd_lk, sd_io, sd_no, opdD_ref', opdD_val, opdV_ref', opdV_val, opdsD_nil, opdsD_cons, at0, atS, set0, setS, mkSl_t, mkSl_f, stK_no, stK_fz, stK_ow, usK_fz, usK_ow, asg_name, asg_two, asg_three, ofOV_some, sl_own, sl_io, set_fz, set_ow, set_lk, set_io, op_add, op_sub, op_mul, op_fdiv, op_mod, cmp_lt, cmp_gt, cmp_le, cmp_ge, cmp_eq, cmp_ne, pr_int, pr_lenL, pr_lenT, pr_tup, tru_b, tru_i, ixl0, ixl1, ixl2, ixl3, ixt0, ixt1, ixt2, ixt3, get0, getS, v_var, o_var, v_const, o_const, v_bin, o_bin, v_neg, v_cmp, o_cmp, t_cmp, t_not, t_and, t_or, v_ite, v_call, o_call, t_call, v_prim, o_prim, v_tup, o_comp, o_tup, o_lst, o_neg, o_ite, o_append, o_slice, o_rev, o_meth, o_chain, o_same, o_pop, o_not, o_and, o_or, v_lst, v_idx, o_idx, v_append, t_const, es_o0, es_oS, es_v0, es_vS, es_a0, es_af, es_at, as0, asV, asI, ioK_ow, ioK_io, tb0, tbV, tbI, tbK_ow, tbK_io, it_r1, it_r2, thn_next, thn_ret, x_seq, x_skip, x_asg, x_expr, x_ite, x_set, x_retV, xr_const, xr_glob, xr_bin, xr_neg, xr_not, xr_and, xr_or, xr_cmp, xr_chain, xr_ite, xr_call, xr_prim, xr_tup, xr_lst, xr_idx, xr_slice, xr_rev, xr_comp, xr_meth, xr_coll, xr_same, rtK_ow, rtK_fz, if_true, if_false, Bool.false_eq_true, Option.map_some, Option.bind_some, Option.map_none, Option.bind_none]
  simp only [dr, wipeT, bind_ok', bind_ex', bind_st', h1_some, h1_none, h2_some, hI_some, hI2_some, sd_fz, sd_ow, sd_lk, sd_io, sd_no, opdD_ref', opdD_val, opdV_ref', opdV_val, opdsD_nil, opdsD_cons, at0, atS, set0, setS, mkSl_t, mkSl_f, stK_no, stK_fz, stK_ow, usK_fz, usK_ow, asg_name, asg_two, asg_three, ofOV_some, sl_own, sl_io, set_fz, set_ow, set_lk, set_io, op_add, op_sub, op_mul, op_fdiv, op_mod, cmp_lt, cmp_gt, cmp_le, cmp_ge, cmp_eq, cmp_ne, pr_int, pr_lenL, pr_lenT, pr_tup, tru_b, tru_i, ixl0, ixl1, ixl2, ixl3, ixt0, ixt1, ixt2, ixt3, get0, getS, v_var, o_var, v_const, o_const, v_bin, o_bin, v_neg, v_cmp, o_cmp, t_cmp, t_not, t_and, t_or, v_ite, v_call, o_call, t_call, v_prim, o_prim, v_tup, o_comp, o_tup, o_lst, o_neg, o_ite, o_append, o_slice, o_rev, o_meth, o_chain, o_same, o_pop, o_not, o_and, o_or, v_lst, v_idx, o_idx, v_append, t_const, es_o0, es_oS, es_v0, es_vS, es_a0, es_af, es_at, as0, asV, asI, ioK_ow, ioK_io, tb0, tbV, tbI, tbK_ow, tbK_io, it_r1, it_r2, thn_next, thn_ret, x_seq, x_skip, x_asg, x_expr, x_ite, x_set, x_retV, xr_const, xr_glob, xr_bin, xr_neg, xr_not, xr_and, xr_or, xr_cmp, xr_chain, xr_ite, xr_call, xr_prim, xr_tup, xr_lst, xr_idx, xr_slice, xr_rev, xr_comp, xr_meth, xr_coll, xr_same, rtK_ow, rtK_fz, if_true, if_false, Bool.false_eq_true, Option.map_some, Option.bind_some, Option.map_none, Option.bind_none]
def rowI (ds : List Int) (at_ : Nat) (m k : Int) (j : Nat) (acc : List D) (r : Env) : Prop := r = [.io (boxD ds (at_ + j)), .fz (.int m), .fz (.int k), .no] ∧ ∃ vs : List Int, acc = vs.map .int ∧ vs.length = j ∧ ∀ v ∈ vs, 0 ≤ v ∧ v < m
theorem row_loop {X : Cx} {di at_ k : Nat} {ds : List Int} {m : Int} (hm : 0 < m) (io : X.io di = [true, false]) (dr : ∀ j, j < k → X.call di [.io (boxD ds (at_ + j)), .fz (.int m)] = .ok (false, .int (drawV ds (at_ + j) m)) [.io (boxD ds (at_ + j + 1)), .fz (.int m), .fz (.int (at_ + j : Nat))]) :
    ∃ vs : List Int, loopE (rowF X di) (ranged 0 k) [.io (boxD ds at_), .fz (.int m), .fz (.int k), .no] = .ok (vs.map .int) [.io (boxD ds (at_ + k)), .fz (.int m), .fz (.int k), .no] ∧ vs.length = k ∧ ∀ v ∈ vs, 0 ≤ v ∧ v < m := by
  have key : ∀ j d r acc, getAt (ranged 0 k) j = some d → rowI ds at_ m k (0 + j) acc r → ∃ vs r', rowF X di d r = .ok vs r' ∧ rowI ds at_ m k (0 + j + 1) (acc ++ vs) r' := by
    rintro j d r acc hj ⟨rfl, vs, rfl, l1, h1⟩
    obtain ⟨hi, rfl⟩ := getAt_ranged _ _ _ _ hj
    rw [Nat.zero_add] at l1 ⊢
    refine ⟨[.int (drawV ds (at_ + j) m)], _, row_turn io (dr j hi), rfl, vs ++ [drawV ds (at_ + j) m], by rw [List.map_append]; rfl, by rw [List.length_append, l1]; rfl, fun v hv => ?_⟩
    rcases List.mem_append.mp hv with hv | hv
    · exact h1 v hv
    · rw [List.mem_singleton.mp hv]
      exact drawV_lt hm
  obtain ⟨vs, r', h1, rfl, ws, e1, e2, e3⟩ := loopE_inv (f := rowF X di) (rowI ds at_ m k) (ranged 0 k) 0 [] [.io (boxD ds (at_ + 0)), .fz (.int m), .fz (.int k), .no] key ⟨rfl, [], rfl, rfl, fun v hv => by cases hv⟩
  rw [List.nil_append] at e1
  subst e1
  rw [ranged_len, Nat.zero_add] at e2 h1
  exact ⟨ws, h1, e2, e3⟩
theorem it_r1_ok {X : Cx} {a : E} {r r' : Env} {x : Opd} {n : Int} (h : (cE X a).o r = .ok x r') (hx : opdD r' x = some (.int n)) (hs : smallI n = true) : cIt X (.range1 a) r = .ok (ranged 0 n.toNat, []) r' := by
  rw [it_r1, h, bind_ok', hx, hI_some]
  exact if_pos hs
theorem row_comp {X : Cx} {di at_ k : Nat} {ds vs : List Int} {m : Int} (hk : k < 1000000) (h : loopE (rowF X di) (ranged 0 k) [.io (boxD ds at_), .fz (.int m), .fz (.int k), .no] = .ok (vs.map .int) [.io (boxD ds (at_ + k)), .fz (.int m), .fz (.int k), .no]) :
    (cE X (.comp (.name 3) (.range1 (.var 2)) (.const (.bool true)) (.call di (.cons (.var 0) (.cons (.var 1) .nil))))).v [.io (boxD ds at_), .fz (.int m), .fz (.int k), .no] = .ok (true, .list (vs.map .int)) [.io (boxD ds (at_ + k)), .fz (.int m), .fz (.int k), .no] := by
  have sk : smallI (k : Int) = true := small_n (by omega) (by omega)
  have sz : ¬ szLine < (ranged 0 k).length := by rw [ranged_len]; unfold szLine; omega
  have ci : cIt X (.range1 (.var 2)) [.io (boxD ds at_), .fz (.int m), .fz (.int k), .no] = .ok (ranged 0 k, []) [.io (boxD ds at_), .fz (.int m), .fz (.int k), .no] := by
    have h := it_r1_ok (X := X) (a := .var 2) (r := [.io (boxD ds at_), .fz (.int m), .fz (.int k), .no]) (x := .ref 2) (n := k) (by rw [o_var]; rfl) rfl sk
    rw [Int.toNat_natCast] at h
    exact h
  rw [v_comp, ci]
  show (if szLine < (ranged 0 k).length then _ else ((loopE (rowF X di) (ranged 0 k) _).mapN _).bind _) = _
  rw [if_neg sz]
  show ((loopE (rowF X di) (ranged 0 k) [.io (boxD ds at_), .fz (.int m), .fz (.int k), .no]).mapN _).bind _ = _
  rw [h]
  rfl
theorem row_body {X : Cx} {di at_ k : Nat} {ds : List Int} {m : Int} {vs : List Int} (hv : (cE X (.comp (.name 3) (.range1 (.var 2)) (.const (.bool true)) (.call di (.cons (.var 0) (.cons (.var 1) .nil))))).v [.io (boxD ds at_), .fz (.int m), .fz (.int k), .no] = .ok (true, .list (vs.map .int)) [.io (boxD ds (at_ + k)), .fz (.int m), .fz (.int k), .no]) : exK X (rowFn di).body [.io (boxD ds at_), .fz (.int m), .fz (.int k), .no] = .ok (.ret false (.tuple (vs.map .int))) [.io (boxD ds (at_ + k)), .fz (.int m), .fz (.int k), .no] := by
  simp only [rowFn, x_seq, xr_prim, v_prim, es_oS, es_o0, o_comp, hv, bind_ok', h1_some, opdsD_cons, opdsD_nil, opdV_val, Option.bind_some, Option.map_some, pr_tup, ofOV_some, thn_ret]
/-- a def's run that hands back -/
theorem run_ret {p : Prog} {wf n f : Nat} {fn : Fn} {ss : List Slot} {o : Bool} {d : D} {r : Env} (h : fnAt p.fn f = some fn) (hl : ss.length = fn.np) (hb : exK (p.cx wf (callK p wf n)) fn.body (ss ++ noSlots fn.more) = .ok (.ret o d) r) : callK p wf (n + 1) f ss = .ok (o, d) r := by
  rw [run_K h hl, hb]
theorem row_ok {p : Prog} {wf n i di at_ k : Nat} {ds : List Int} {m : Int} (hf : fnAt p.fn i = some (rowFn di)) (hd : fnAt p.fn di = some drawFn) (hm : 0 < m) (ha : at_ + k < 1000000) :
    ∃ (vs : List Int) (y z : Slot) (r : Env), callK p wf (n + 2) i [.io (boxD ds at_), .fz (.int m), .fz (.int k)] = .ok (false, .tuple (vs.map .int)) (.io (boxD ds (at_ + k)) :: y :: z :: r) ∧ vs.length = k ∧ ∀ v ∈ vs, 0 ≤ v ∧ v < m := by
  have io : (p.cx wf (callK p wf (n + 1))).io di = [true, false] := by
    show (match fnAt p.fn di with | some fn => fn.io | none => []) = _
    rw [hd]; rfl
  have cl : (p.cx wf (callK p wf (n + 1))).call = callK p wf (n + 1) := rfl
  have ru := fun b r => @run_ret p wf (n + 1) i (rowFn di) [.io (boxD ds at_), .fz (.int m), .fz (.int k)] false b r hf rfl
  generalize p.cx wf (callK p wf (n + 1)) = X at io cl ru
  obtain ⟨vs, h1, h2, h3⟩ := row_loop (X := X) (k := k) (at_ := at_) (ds := ds) hm io (fun j hj => by rw [cl]; exact draw_ok hd hm (by omega))
  exact ⟨vs, _, _, _, ru _ _ (row_body (row_comp (by omega) h1)), h2, h3⟩
end MW
end
section
set_option linter.all false
set_option maxRecDepth 100000
set_option maxHeartbeats 4000000
/-! Vd: chains of statements that go on; loops whose turns are known. -/
namespace MW
open PySem
/-- s, run where r0 is set at least, goes on to where r1 is set at least -/
def Gx (X : Cx) (s : S) (r0 r1 : Env) : Prop := ∀ r, EnvLe r0 r → ∃ r', exK X s r = .ok .next r' ∧ EnvLe r1 r'
section
variable {p : Prog} {wf n : Nat} {X : Cx} {s a b : S} {r0 r1 r2 r3 : Env} {is : List Nat}
theorem Gx.ev (h : exK X s r0 = .ok .next r1) : Gx X s r0 r1 := fun r e => by
  have q := mo_S X s r0 r e
  rw [h] at q
  exact q
theorem Gx.fact (h : trimR is (exR (xR p wf n) s r0) = .ok .next r1) : Gx (xK p wf n) s r0 r1 := fun r e => MW.fact h e
theorem Gx.fact0 (h : exR (xR p wf n) s r0 = .ok .next r1) : Gx (xK p wf n) s r0 r1 := Gx.fact (is := []) (by rw [h]; rfl)
theorem Gx.seq (h : Gx X a r0 r1) (g : Gx X b r1 r2) : Gx X (.seq a b) r0 r2 := fun r e => by
  obtain ⟨r', h1, e1⟩ := h r e
  obtain ⟨r3, h2, e2⟩ := g r' e1
  refine ⟨r3, ?_, e2⟩
  simp only [exK, h1, Res.bind, h2]
theorem Gx.weak (h : Gx X s r1 r2) (e : EnvLe r1 r0) (e' : EnvLe r3 r2) : Gx X s r0 r3 := fun r q => by
  obtain ⟨r', h1, e1⟩ := h r (e.trans q)
  exact ⟨r', h1, e'.trans e1⟩
theorem Gx.drop (h : Gx X s r1 r2) : Gx X s r1 (dropS is r2) := h.weak (.refl _) (drop_le _ _)
/-- forget, then go on -/
theorem Gx.on (h : Gx X s (dropS is r1) r2) : Gx X s r1 r2 := h.weak (drop_le _ _) (.refl _)
theorem Gx.gd (h : Gx X a r0 r1) (g : Gd X b r1) : Gd X (.seq a b) r0 := Gd.next h g
theorem Gd.on (h : Gd X s (dropS is r1)) : Gd X s r1 := h.weak (drop_le _ _)
theorem Gx.skip : Gx X .skip r0 r0 := fun r e => ⟨r, x_skip, e⟩
/-- a loop whose turns are told ahead -/
theorem Gx.for_ {t : T} {it : It} {xs : List D} (T : Nat → Env) (hc : ∀ r, EnvLe (T 0) r → cIt X it r = .ok (xs, []) r)
    (hb : ∀ j d, getAt xs j = some d → ∃ q, assignT t (false, d) (T j) = .ok () q ∧ Gx X b q (T (j + 1))) : Gx X (.for_ t it b) (T 0) (T xs.length) := fun r e => by
  have key : ∀ i d r, getAt xs i = some d → EnvLe (T (0 + i)) r → ∃ w r', (assignT t (false, d) r).bind (fun _ r => exK X b r) = .ok w r' ∧ (w = .next ∨ w = .cont) ∧ EnvLe (T (0 + i + 1)) r' := by
    intro i d r hg he
    rw [Nat.zero_add] at he ⊢
    obtain ⟨q, h1, h2⟩ := hb i d hg
    have m := mo_assign (t := t) (v := (false, d)) he
    rw [h1] at m
    obtain ⟨q', h3, e3⟩ := m
    obtain ⟨r', h4, e4⟩ := h2 q' e3
    exact ⟨.next, r', by rw [h3, bind_ok', h4], .inl rfl, e4⟩
  obtain ⟨r', h1, h2⟩ := loopS_inv (f := fun d r => (assignT t (false, d) r).bind fun _ r => exK X b r) (fun k r => EnvLe (T k) r) xs 0 r key e
  rw [Nat.zero_add] at h2
  refine ⟨r', ?_, h2⟩
  rw [x_for, hc r e, bind_ok']
  show ((loopS _ xs r).mapR _).bind _ = _
  rw [h1]
  rfl
/-- for t in range(k) -/
theorem Gx.forR {t : T} {k : Nat} {e : E} (T : Nat → Env) (he : ∀ r, EnvLe (T 0) r → ∃ x, (cE X e).o r = .ok x r ∧ opdD r x = some (.int k)) (hk : k < 1000000)
    (hb : ∀ j, j < k → ∃ q, assignT t (false, .int j) (T j) = .ok () q ∧ Gx X b q (T (j + 1))) : Gx X (.for_ t (.range1 e) b) (T 0) (T k) := by
  have q := Gx.for_ (X := X) (t := t) (it := .range1 e) (b := b) (xs := ranged 0 k) T (fun r er => by
      obtain ⟨x, h1, h2⟩ := he r er
      have q := it_r1_ok (X := X) h1 h2 (small_n (by omega) (by omega))
      rw [Int.toNat_natCast] at q
      exact q) (fun j d hg => by
      obtain ⟨hj, rfl⟩ := getAt_ranged _ _ _ _ hg
      rw [Int.zero_add]
      exact hb j hj)
  rw [ranged_len] at q
  exact q
end
/-- s hands d back -/
def Rt (X : Cx) (s : S) (r0 : Env) (o : Bool) (d : D) (r1 : Env) : Prop := ∀ r, EnvLe r0 r → ∃ r', exK X s r = .ok (.ret o d) r' ∧ EnvLe r1 r'
theorem Rt.fact {p : Prog} {wf n : Nat} {s : S} {r0 r1 : Env} {is : List Nat} {o : Bool} {d : D} (h : trimR is (exR (xR p wf n) s r0) = .ok (.ret o d) r1) : Rt (xK p wf n) s r0 o d r1 := fun r e => MW.fact h e
theorem Rt.end {X : Cx} {a b : S} {r0 r1 : Env} {o : Bool} {d : D} (h : Rt X a r0 o d r1) : Rt X (.seq a b) r0 o d r1 := fun r e => by
  obtain ⟨r', h1, e1⟩ := h r e
  exact ⟨r', by simp only [exK, h1, Res.bind], e1⟩
theorem Gx.rt {X : Cx} {a b : S} {r0 r1 r2 : Env} {o : Bool} {d : D} (h : Gx X a r0 r1) (g : Rt X b r1 o d r2) : Rt X (.seq a b) r0 o d r2 := fun r e => by
  obtain ⟨r', h1, e1⟩ := h r e
  obtain ⟨r3, h2, e2⟩ := g r' e1
  exact ⟨r3, by simp only [exK, h1, Res.bind, h2], e2⟩
theorem gx3 {X : Cx} {a b c d : S} {r0 r1 r2 : Env} {o : Bool} {v : D} (h : Gx X (.seq a (.seq b (.seq c .skip))) r0 r1) (g : Rt X d r1 o v r2) : Rt X (.seq a (.seq b (.seq c d))) r0 o v r2 := fun r e => by
  obtain ⟨r', h1, e1⟩ := h r e
  obtain ⟨r3, h2, e2⟩ := g r' e1
  refine ⟨r3, ?_, e2⟩
  simp only [x_seq] at h1 ⊢
  cases ha : exK X a r with
  | st n => rw [ha] at h1; cases h1
  | ex k as s => rw [ha] at h1; cases h1
  | ok w s =>
    rw [ha, bind_ok'] at h1
    rw [bind_ok']
    cases w with
    | next =>
      rw [thn_next, x_seq] at h1 ⊢
      cases hb : exK X b s with
      | st n => rw [hb] at h1; cases h1
      | ex k as s => rw [hb] at h1; cases h1
      | ok w s =>
        rw [hb, bind_ok'] at h1
        rw [bind_ok']
        cases w with
        | next =>
          rw [thn_next, x_seq] at h1 ⊢
          cases hc : exK X c s with
          | st n => rw [hc] at h1; cases h1
          | ex k as s => rw [hc] at h1; cases h1
          | ok w s =>
            rw [hc, bind_ok'] at h1
            rw [bind_ok']
            cases w with
            | next =>
              rw [thn_next, x_skip] at h1
              cases h1
              exact h2
            | _ => cases h1
        | _ => cases h1
    | _ => cases h1
theorem Rt.weak {X : Cx} {a : S} {r0 r1 r2 : Env} {o : Bool} {d : D} (h : Rt X a r1 o d r2) (e : EnvLe r1 r0) : Rt X a r0 o d r2 := fun r q => h r (e.trans q)
theorem le_cons {x : Slot} {r r' : Env} (h : EnvLe (x :: r) r') : ∃ y s, r' = y :: s := by
  cases r' with
  | nil => exact absurd h.len (by simp)
  | cons y s => exact ⟨y, s, rfl⟩
/-- a def that hands back -/
theorem Rt.call {p : Prog} {wf n f : Nat} {fn : Fn} {ss : List Slot} {o : Bool} {d : D} {x : Slot} {r1 : Env} (h : fnAt p.fn f = some fn) (hl : ss.length = fn.np) (hb : Rt (xK p wf n) fn.body (ss ++ noSlots fn.more) o d (x :: r1)) :
    ∃ y r, callK p wf (n + 1) f ss = .ok (o, d) (y :: r) := by
  obtain ⟨r', h1, e1⟩ := hb _ (.refl _)
  obtain ⟨y, s, rfl⟩ := le_cons e1
  exact ⟨y, s, run_ret h hl h1⟩
theorem lt0 {P : Nat → Prop} : ∀ a, a < 0 → P a := fun a h => absurd h (Nat.not_lt_zero a)
theorem ltS {P : Nat → Prop} {n : Nat} (h : ∀ a, a < n → P a) (k : P n) : ∀ a, a < n + 1 → P a := fun a g =>
  if e : a = n then e ▸ k else h a (Nat.lt_of_le_of_ne (Nat.le_of_lt_succ g) e)
theorem map_at {A B : Type} {l : List A} {f g : A → B} (h : l.map f = l.map g) {a : A} (m : a ∈ l) : f a = g a := List.map_inj_left.mp h a m
theorem drawV_nat {ds : List Int} {a m : Nat} (h : 0 < m) : ∃ k : Nat, drawV ds a m = k ∧ k < m := by
  obtain ⟨h0, h1⟩ := drawV_lt (ds := ds) (a := a) (m := m) (by exact_mod_cast h)
  obtain ⟨k, hk⟩ := Int.eq_ofNat_of_zero_le h0
  exact ⟨k, hk, by rw [hk] at h1; exact_mod_cast h1⟩
theorem draw_nat {p : Prog} {wf n i at_ : Nat} {ds : List Int} {m : Nat} (hf : fnAt p.fn i = some drawFn) (hm : 0 < m) (ha : at_ < 1000000) :
    ∃ k : Nat, k < m ∧ ∃ y r, callK p wf (n + 1) i [.io (boxD ds at_), .fz (.int m)] = .ok (false, .int k) (.io (boxD ds (at_ + 1)) :: y :: r) := by
  obtain ⟨k, h1, h2⟩ := drawV_nat (ds := ds) (a := at_) hm
  exact ⟨k, h2, _, _, by rw [← h1]; exact draw_ok hf (by exact_mod_cast hm) ha⟩
end MW
end
section
set_option linter.all false
set_option maxRecDepth 100000
set_option maxHeartbeats 4000000
/-! Sz: more of the evaluator's steps as equations; all of them as one rule. -/
namespace MW
open PySem
section
variable {X : Cx} {r : Env} {a b c e i lo hi : E} {as es : Es}
theorem t_mk {f : Env → Res (Bool × D)} (h : cE X e = mkV f) : (cE X e).t r = ((cE X e).v r).bind fun v r => h1 64 (tru v.2) fun t => .ok t r := by
  rw [h]
  show tO (oV f) r = (f r).bind _
  unfold tO oV
  cases f r with
  | st n => rfl
  | ex k as r => rfl
  | ok v r =>
    simp only [bind_ok', opdV_val, Option.bind_some]
    cases tru v.2 <;> rfl
theorem t_idx : (cE X (.idx a i)).t r = ((cE X (.idx a i)).v r).bind fun v r => h1 64 (tru v.2) fun t => .ok t r := t_mk (by simp only [cE]; rfl)
theorem t_prim {p : P} : (cE X (.prim p as)).t r = ((cE X (.prim p as)).v r).bind fun v r => h1 64 (tru v.2) fun t => .ok t r := t_mk (by simp only [cE]; rfl)
theorem t_bin {o : Op} : (cE X (.bin o a b)).t r = ((cE X (.bin o a b)).v r).bind fun v r => h1 64 (tru v.2) fun t => .ok t r := t_mk (by simp only [cE]; rfl)
theorem t_slice : (cE X (.slice a lo hi)).t r = ((cE X (.slice a lo hi)).v r).bind fun v r => h1 64 (tru v.2) fun t => .ok t r := t_mk (by simp only [cE]; rfl)
theorem t_same : (cE X (.same a b)).t r = ((cE X (.same a b)).v r).bind fun v r => h1 64 (tru v.2) fun t => .ok t r := t_mk (by simp only [cE]; rfl)
theorem t_chain {o q : Cmp} : (cE X (.chain o q a b c)).t r = ((cE X (.chain o q a b c)).v r).bind fun v r => h1 64 (tru v.2) fun t => .ok t r := t_mk (by simp only [cE]; rfl)
theorem t_ite : (cE X (.ite c a b)).t r = ((cE X (.ite c a b)).v r).bind fun v r => h1 64 (tru v.2) fun t => .ok t r := t_mk (by simp only [cE]; rfl)
theorem t_lst : (cE X (.lst as)).t r = ((cE X (.lst as)).v r).bind fun v r => h1 64 (tru v.2) fun t => .ok t r := t_mk (by simp only [cE]; rfl)
theorem t_comp {t : T} {it : It} : (cE X (.comp t it c e)).t r = ((cE X (.comp t it c e)).v r).bind fun v r => h1 64 (tru v.2) fun t => .ok t r := t_mk (by simp only [cE]; rfl)
theorem t_var {j : Nat} : (cE X (.var j)).t r = if isSet (slotAt r j) then h1 64 ((sd (slotAt r j)).bind tru) fun t => .ok t r else .st 5 := by
  simp only [cE, tO]
  cases hs : isSet (slotAt r j) with
  | false => rfl
  | true =>
    simp only [if_true, bind_ok', opdV_ref']
    cases (sd (slotAt r j)).bind tru <;> rfl
theorem v_not : (cE X (.not a)).v r = ((cE X a).o r).bind fun x r => h1 64 ((opdV r x).bind tru) fun t => .ok (false, .bool (!t)) r := by
  simp only [cE]; congr 1; funext x r
  cases (opdV r x).bind tru <;> rfl
def andK (f : Env → Res (Bool × D)) (n : Nat) (x : Bool × D) (r : Env) (w : Bool) : Option Bool → Res (Bool × D)
  | some true => if w then f r else .ok x r
  | some false => if w then .ok x r else f r
  | none => .st n
theorem andK_t {f : Env → Res (Bool × D)} {n : Nat} {x : Bool × D} {r : Env} {w : Bool} : andK f n x r w (some true) = if w then f r else .ok x r := rfl
theorem andK_f {f : Env → Res (Bool × D)} {n : Nat} {x : Bool × D} {r : Env} {w : Bool} : andK f n x r w (some false) = if w then .ok x r else f r := rfl
theorem v_and : (cE X (.and a b)).v r = ((cE X a).v r).bind fun x r => andK (cE X b).v 13 x r true (tru x.2) := by
  simp only [cE]; rfl
theorem v_or : (cE X (.or a b)).v r = ((cE X a).v r).bind fun x r => andK (cE X b).v 13 x r false (tru x.2) := by
  simp only [cE]; rfl
theorem v_slice : (cE X (.slice a lo hi)).v r = ((cE X a).o r).bind fun x r => (partR (isNoneE lo) ((cE X lo).o r) r).bind fun l r => (partR (isNoneE hi) ((cE X hi).o r) r).bind fun u r =>
      h1 32 (opdV r x) fun x => ofOV 31 (sliceSem x (optD l) (optD u)) r := by
  simp only [cE, mkV]; congr 1; funext x r; congr 1; funext l r; congr 1; funext u r
  cases opdV r x <;> rfl
theorem v_rev : (cE X (.rev a)).v r = ((cE X a).o r).bind fun x r => h1 34 (opdV r x) fun x => ofOV 33 (revSem x) r := by
  simp only [cE, mkV]; congr 1; funext x r
  cases opdV r x <;> rfl
def chK (X : Cx) (c : E) (q : Cmp) (y : Opd) (r : Env) : Option Bool → Res (Bool × D)
  | some true => ((cE X c).o r).bind fun z r => h2 17 (opdV r y) (opdD r z) fun d z => h1 16 (cmpSem q d z) fun t => .ok (false, .bool t) r
  | some false => .ok (false, .bool false) r
  | none => .st 18
theorem chK_t {q : Cmp} {y : Opd} : chK X c q y r (some true) = ((cE X c).o r).bind fun z r => h2 17 (opdV r y) (opdD r z) fun d z => h1 16 (cmpSem q d z) fun t => .ok (false, .bool t) r := rfl
theorem chK_f {q : Cmp} {y : Opd} : chK X c q y r (some false) = .ok (false, .bool false) r := rfl
theorem v_chain {o q : Cmp} : (cE X (.chain o q a b c)).v r = ((cE X a).o r).bind fun x r => ((cE X b).o r).bind fun y r => h2 19 (opdV r x) (opdV r y) fun u d => chK X c q y r (cmpSem o u d) := by
  simp only [cE, mkV]; congr 1; funext x r; congr 1; funext y r
  cases opdV r x with
  | none => rfl
  | some u =>
    cases hy : opdV r y with
    | none => rfl
    | some d =>
      simp only [h2_some]
      cases cmpSem o u d with
      | none => rfl
      | some t =>
        cases t with
        | false => rfl
        | true =>
          simp only [chK]
          congr 1; funext z r
          cases opdV r y with
          | none => rfl
          | some d =>
            cases opdD r z with
            | none => rfl
            | some w =>
              simp only [h2_some]
              cases cmpSem q d w <;> rfl
theorem v_same : (cE X (.same a b)).v r = ((cE X a).o r).bind fun x r => (shwR (opdV r x) r).bind fun dx r => ((cE X b).o r).bind fun y r => (shwR (opdV r y) r).bind fun dy r => .ok (false, .bool (shwEq dx dy)) r := by
  simp only [cE, mkV]
def toldK (X : Cx) (f : Nat) : Res (Bool × D) → Res (Bool × D)
  | .ok v r => .ok v r
  | .ex k as r => h1 36 (lookH k (X.hand f)) fun p => h1 47 (getAt as p.2) fun d => .ok (true, .list [p.1, d]) r
  | .st n => .st n
theorem toldK_ok {f : Nat} {v : Bool × D} : toldK X f (.ok v r) = .ok v r := rfl
theorem toldK_ex {f k : Nat} {ds : List D} : toldK X f (.ex k ds r) = h1 36 (lookH k (X.hand f)) fun p => h1 47 (getAt ds p.2) fun d => .ok (true, .list [p.1, d]) r := rfl
theorem v_told {f : Nat} : (cE X (.told f e)).v r = toldK X f ((cE X e).v r) := by
  simp only [cE, mkV]
  cases (cE X e).v r with
  | st n => rfl
  | ok v r => rfl
  | ex k as r =>
    simp only [toldK]
    cases lookH k (X.hand f) with
    | none => rfl
    | some p =>
      obtain ⟨t, n⟩ := p
      simp only [h1_some]
      cases getAt as n <;> rfl
theorem o_told {f : Nat} : (cE X (.told f e)).o r = ((cE X (.told f e)).v r).bind fun v r => .ok (.val v.1 v.2) r := by simp only [cE, mkV] <;> rfl
theorem t_told {f : Nat} : (cE X (.told f e)).t r = ((cE X (.told f e)).v r).bind fun v r => h1 64 (tru v.2) fun t => .ok t r := t_mk (by simp only [cE]; rfl)
def popK (j : Nat) (r : Env) (s : Slot) : Res (Bool × D) := match s with
  | .ow (.list xs) => h1 41 xs.getLast? fun v => .ok (false, v) (setSlot r j (.ow (.list xs.dropLast)))
  | .io (.list xs) => h1 41 xs.getLast? fun v => .ok (false, v) (setSlot r j (.io (.list xs.dropLast)))
  | _ => .st 42
theorem popK_ow {j : Nat} {xs : List D} : popK j r (.ow (.list xs)) = h1 41 xs.getLast? fun v => .ok (false, v) (setSlot r j (.ow (.list xs.dropLast))) := rfl
theorem v_pop {j : Nat} : (cE X (.pop j)).v r = popK j r (slotAt r j) := by
  simp only [cE, mkV, popK]
  cases slotAt r j with
  | ow d => cases d <;> first | rfl | (simp only; rename_i xs; cases xs.getLast? <;> rfl)
  | io d => cases d <;> first | rfl | (simp only; rename_i xs; cases xs.getLast? <;> rfl)
  | _ => rfl
theorem o_glob {g : Nat} : (cE X (.glob g)).o r = .ok (.cst (X.glob g)) r := by simp only [cE]
theorem v_glob {g : Nat} : (cE X (.glob g)).v r = if isScal (X.glob g) then .ok (false, X.glob g) r else .st 9 := by simp only [cE]
theorem noIo0 : noIo [] = true := rfl
theorem noIoV {d : D} {xs : List Arg} : noIo (.val d :: xs) = noIo xs := rfl
/-! statements -/
def augK (o : Op) (j : Nat) (r : Env) : Option D → Option D → Res MW.Flow
  | some (.int x), some (.int y) => (ofOV 67 (opSem o (.int x) (.int y)) r).bind fun v r => (store j v r).bind fun _ r => .ok .next r
  | some (.list xs), some (.list ys) => augL j o xs ys r
  | _, _ => .st 68
theorem augK_i {o : Op} {j : Nat} {x y : Int} : augK o j r (some (.int x)) (some (.int y)) = (ofOV 67 (opSem o (.int x) (.int y)) r).bind fun v r => (stK (slotAt r j) j v r).bind fun _ r => .ok .next r := by
  show (ofOV 67 (opSem o (.int x) (.int y)) r).bind _ = _
  rfl
theorem x_aug {o : Op} {j : Nat} : exK X (.aug j o e) r = if isSet (slotAt r j) then ((cE X e).o r).bind fun y r => augK o j r (sd (slotAt r j)) (opdV r y) else .st 68 := by
  simp only [exK]
  cases isSet (slotAt r j) with
  | false => rfl
  | true =>
    simp only [if_true]
    rfl
theorem x_par2 {p q : Nat} : exK X (.par2 p q a b) r = ((cE X a).v r).bind fun v r => ((cE X b).v r).bind fun w r => (stK (slotAt r p) p v r).bind fun _ r => (stK (slotAt r q) q w r).bind fun _ r => .ok .next r := by
  simp only [exK, store_K]
theorem x_raise {k : Nat} : exK X (.raise k as) r = ((cEs X as).v r).bind fun ds r => .ex k ds r := by simp only [exK]
theorem x_retn : exK X .retn r = .ok (.ret false .none) r := by simp only [exK]
theorem x_cont : exK X .cont r = .ok .cont r := by simp only [exK]
theorem x_brk : exK X .brk r = .ok .brk r := by simp only [exK]
theorem thn_cont {s : S} : thn' X s .cont r = .ok .cont r := rfl
theorem thn_brk {s : S} : thn' X s .brk r = .ok .brk r := rfl
theorem x_while {s : S} : exK X (.while_ c s) r = loopW (cE X c).t (exK X s) X.wf r := by simp only [exK]
theorem xr_told {f : Nat} : exK X (.ret (.told f e)) r = ((cE X (.told f e)).v r).bind fun v r => .ok (.ret v.1 v.2) r := x_ret (by intros; simp)
theorem xr_pop {f : Nat} : exK X (.ret (.pop f)) r = ((cE X (.pop f)).v r).bind fun v r => .ok (.ret v.1 v.2) r := x_ret (by intros; simp)
end
theorem ifT {A : Type} {a b : A} {h : Decidable True} : @ite A True h a b = a := if_pos trivial
theorem ifF {A : Type} {a b : A} {h : Decidable False} : @ite A False h a b = b := if_neg id
theorem omS {A B : Type} {a : A} {f : A → B} : (some a).map f = some (f a) := rfl
theorem omN {A B : Type} {f : A → B} : (none : Option A).map f = none := rfl
theorem obS {A B : Type} {a : A} {f : A → Option B} : (some a).bind f = f a := rfl
theorem obN {A B : Type} {f : A → Option B} : (none : Option A).bind f = none := rfl
def SXd := And.intro (And.intro (And.intro (And.intro (And.intro (And.intro (And.intro @bind_ok' (And.intro @bind_ex' @bind_st')) (And.intro @h1_some (And.intro @h1_none @h2_some))) (And.intro (And.intro @hI_some (And.intro @hI2_some @sd_fz)) (And.intro @sd_ow (And.intro @sd_lk @sd_io)))) (And.intro (And.intro (And.intro @sd_no (And.intro @opdD_ref' @opdD_val)) (And.intro @opdD_cst (And.intro @opdV_ref' @opdV_val))) (And.intro (And.intro @opdsD_nil (And.intro @opdsD_cons @at0)) (And.intro (And.intro @atS @set0) (And.intro @setS @mkSl_t))))) (And.intro (And.intro (And.intro (And.intro @mkSl_f (And.intro @stK_no @stK_fz)) (And.intro @stK_ow (And.intro @usK_fz @usK_ow))) (And.intro (And.intro @asg_name (And.intro @asg_two @asg_three)) (And.intro (And.intro @ofOV_some @sl_own) (And.intro @sl_io @set_fz)))) (And.intro (And.intro (And.intro @set_ow (And.intro @set_lk @set_io)) (And.intro @op_add (And.intro @op_sub @op_mul))) (And.intro (And.intro @op_fdiv (And.intro @op_mod @cmp_lt)) (And.intro (And.intro @cmp_gt @cmp_le) (And.intro @cmp_ge @cmp_eq)))))) (And.intro (And.intro (And.intro (And.intro (And.intro @cmp_ne (And.intro @pr_int @pr_lenL)) (And.intro @pr_lenT (And.intro @pr_tup @tru_b))) (And.intro (And.intro @tru_i (And.intro @ixl0 @ixl1)) (And.intro (And.intro @ixl2 @ixl3) (And.intro @ixt0 @ixt1)))) (And.intro (And.intro (And.intro @ixt2 (And.intro @ixt3 @v_var)) (And.intro @o_var (And.intro @v_const @o_const))) (And.intro (And.intro @v_bin (And.intro @o_bin @v_neg)) (And.intro (And.intro @v_cmp @o_cmp) (And.intro @t_cmp @t_not))))) (And.intro (And.intro (And.intro (And.intro @t_and (And.intro @t_or @v_ite)) (And.intro @v_call (And.intro @o_call @t_call))) (And.intro (And.intro @v_prim (And.intro @o_prim @v_tup)) (And.intro (And.intro @o_comp @o_tup) (And.intro @o_lst @o_neg)))) (And.intro (And.intro (And.intro @o_ite (And.intro @o_append @o_slice)) (And.intro @o_rev (And.intro @o_meth @o_chain))) (And.intro (And.intro @o_same (And.intro @o_pop @o_not)) (And.intro (And.intro @o_and @o_or) (And.intro @v_lst @v_idx))))))) (And.intro (And.intro (And.intro (And.intro (And.intro (And.intro @o_idx (And.intro @v_append @t_const)) (And.intro @es_o0 (And.intro @es_oS @es_v0))) (And.intro (And.intro @es_vS (And.intro @es_a0 @es_af)) (And.intro @es_at (And.intro @as0 @asV)))) (And.intro (And.intro (And.intro @asI (And.intro @ioK_ow @ioK_io)) (And.intro @tb0 (And.intro @tbV @tbI))) (And.intro (And.intro @tbK_ow (And.intro @tbK_io @it_r1)) (And.intro (And.intro @it_r2 @thn_next) (And.intro @thn_ret @thn_cont))))) (And.intro (And.intro (And.intro (And.intro @thn_brk (And.intro @x_seq @x_skip)) (And.intro @x_asg (And.intro @x_expr @x_ite))) (And.intro (And.intro @x_set (And.intro @x_retV @xr_const)) (And.intro (And.intro @xr_glob @xr_bin) (And.intro @xr_neg @xr_not)))) (And.intro (And.intro (And.intro @xr_and (And.intro @xr_or @xr_cmp)) (And.intro @xr_chain (And.intro @xr_ite @xr_call))) (And.intro (And.intro @xr_prim (And.intro @xr_tup @xr_lst)) (And.intro (And.intro @xr_idx @xr_slice) (And.intro @xr_rev @xr_comp)))))) (And.intro (And.intro (And.intro (And.intro (And.intro @xr_meth (And.intro @xr_coll @xr_same)) (And.intro @xr_told (And.intro @xr_pop @rtK_ow))) (And.intro (And.intro @rtK_fz (And.intro @t_idx @t_prim)) (And.intro (And.intro @t_bin @t_slice) (And.intro @t_same @t_chain)))) (And.intro (And.intro (And.intro @t_ite (And.intro @t_lst @t_var)) (And.intro @t_comp (And.intro @t_told @v_not))) (And.intro (And.intro @andK_t (And.intro @andK_f @v_and)) (And.intro (And.intro @v_or @v_slice) (And.intro @v_rev @chK_t))))) (And.intro (And.intro (And.intro (And.intro @chK_f (And.intro @v_chain @v_same)) (And.intro @toldK_ok (And.intro @toldK_ex @v_told))) (And.intro (And.intro @o_told (And.intro @popK_ow @v_pop)) (And.intro (And.intro @o_glob @augK_i) (And.intro @x_aug @x_par2)))) (And.intro (And.intro (And.intro @x_raise (And.intro @x_retn @x_cont)) (And.intro @x_brk (And.intro @noIo0 @noIoV))) (And.intro (And.intro @ifT (And.intro @ifF @Bool.false_eq_true)) (And.intro (And.intro @omS @obS) (And.intro @omN @obN)))))))
theorem SX : type_of% SXd := SXd
end MW
end
section
set_option linter.all false
set_option maxRecDepth 100000
set_option maxHeartbeats 4000000
/-! Vf: what a def hands back (Ca), what a statement hands back (Re), comprehensions, loops. -/
namespace MW
open PySem
/-- a call hands back -/
def Ca (c : Call) (f : Nat) (ss : List Slot) (o : Bool) (d : D) : Prop := ∃ s, c f ss = .ok (o, d) s ∧ s.length ≥ ss.length
section
variable {c : Call} {f : Nat} {o : Bool} {d : D} {x y z w : Slot}
theorem Ca.one (h : Ca c f [x] o d) : ∃ a s, c f [x] = .ok (o, d) (a :: s) := by
  obtain ⟨s, h, l⟩ := h
  match s, l with
  | a :: s, _ => exact ⟨a, s, h⟩
theorem Ca.two (h : Ca c f [x, y] o d) : ∃ a b s, c f [x, y] = .ok (o, d) (a :: b :: s) := by
  obtain ⟨s, h, l⟩ := h
  match s, l with
  | a :: b :: s, _ => exact ⟨a, b, s, h⟩
  | [a], l => exact absurd l (by simp)
theorem Ca.three (h : Ca c f [x, y, z] o d) : ∃ a b e s, c f [x, y, z] = .ok (o, d) (a :: b :: e :: s) := by
  obtain ⟨s, h, l⟩ := h
  match s, l with
  | a :: b :: e :: s, _ => exact ⟨a, b, e, s, h⟩
  | [a], l => exact absurd l (by simp)
  | [a, b], l => exact absurd l (by simp)
theorem Ca.four (h : Ca c f [x, y, z, w] o d) : ∃ a b e g s, c f [x, y, z, w] = .ok (o, d) (a :: b :: e :: g :: s) := by
  obtain ⟨s, h, l⟩ := h
  match s, l with
  | a :: b :: e :: g :: s, _ => exact ⟨a, b, e, g, s, h⟩
  | [a], l => exact absurd l (by simp)
  | [a, b], l => exact absurd l (by simp)
  | [a, b, e], l => exact absurd l (by simp)
end
/-- a statement hands back -/
def Re (X : Cx) (s : S) (r0 : Env) (o : Bool) (d : D) : Prop := ∀ r, EnvLe r0 r → ∃ r', exK X s r = .ok (.ret o d) r' ∧ r'.length = r.length
section
variable {X : Cx} {s a b : S} {r0 r1 r2 : Env} {o : Bool} {d : D} {is : List Nat}
theorem Re.ev (h : exK X s r0 = .ok (.ret o d) r1) (l : r1.length = r0.length) : Re X s r0 o d := fun r e => by
  have q := mo_S X s r0 r e
  rw [h] at q
  obtain ⟨r', h', e'⟩ := q
  exact ⟨r', h', by rw [← e'.len, l, e.len]⟩
theorem Re.end (h : Re X a r0 o d) : Re X (.seq a b) r0 o d := fun r e => by
  obtain ⟨r', h1, e1⟩ := h r e
  exact ⟨r', by simp only [exK, h1, Res.bind], e1⟩
theorem Gx.re (h : Gx X a r0 r1) (g : Re X b r1 o d) (l : r1.length = r0.length) : Re X (.seq a b) r0 o d := fun r e => by
  obtain ⟨r', h1, e1⟩ := h r e
  obtain ⟨r3, h2, e2⟩ := g r' e1
  exact ⟨r3, by simp only [exK, h1, Res.bind, h2], by rw [e2, ← e1.len, l, e.len]⟩
theorem Re.weak (h : Re X a r1 o d) (e : EnvLe r1 r0) : Re X a r0 o d := fun r q => h r (e.trans q)
theorem Re.on (h : Re X s (dropS is r1) o d) : Re X s r1 o d := h.weak (drop_le _ _)
theorem Re.ca {p : Prog} {wf n f : Nat} {fn : Fn} {ss : List Slot} (h : fnAt p.fn f = some fn) (hl : ss.length = fn.np) (hb : Re (xK p wf n) fn.body (ss ++ noSlots fn.more) o d) : Ca (callK p wf (n + 1)) f ss o d := by
  obtain ⟨r', h1, e1⟩ := hb _ (.refl _)
  refine ⟨r', run_ret h hl h1, ?_⟩
  rw [e1, List.length_append]
  omega
/-- a statement goes on: known by its run at r0, and what is kept of it -/
theorem Gx.evD (h : exK X s r0 = .ok .next r1) (k : dropS is r1 = r2) : Gx X s r0 r2 := k ▸ (Gx.ev h).drop
end
/-! ### what is walked -/
theorem ranged_map : ∀ (n : Nat) (lo : Int), ranged lo n = (List.range n).map fun j : Nat => PyData.int (lo + j)
  | 0, lo => rfl
  | n + 1, lo => by
    rw [List.range_succ_eq_map, List.map_cons, List.map_map]
    show .int lo :: ranged (lo + 1) n = _
    rw [ranged_map n (lo + 1)]
    congr 1
    · simp
    · refine List.map_congr_left fun j _ => ?_
      simp only [Function.comp]
      congr 1
      push_cast
      omega
theorem ranged0 (n : Nat) : ranged 0 n = (List.range n).map fun j : Nat => PyData.int j := by
  rw [ranged_map]
  refine List.map_congr_left fun j _ => ?_
  rw [Int.zero_add]
theorem small_nat {n : Nat} (h : n < 1000000000) : smallI (n : Int) = true := small_n (by omega) (by omega)
theorem it_r1n {X : Cx} {a : E} {r r' : Env} {x : Opd} {n : Nat} (h : (cE X a).o r = .ok x r') (hx : opdD r' x = some (.int n)) (hn : n < 1000000000) : cIt X (.range1 a) r = .ok ((List.range n).map fun j : Nat => PyData.int j, []) r' := by
  rw [it_r1_ok h hx (small_nat hn), Int.toNat_natCast, ranged0]
theorem it_r2n {X : Cx} {a b : E} {r r' r'' : Env} {x y : Opd} {m n : Nat} (h : (cE X a).o r = .ok x r') (g : (cE X b).o r' = .ok y r'') (hx : opdD r'' x = some (.int m)) (hy : opdD r'' y = some (.int n)) (hm : m < 1000000000) (hn : n < 1000000000) : cIt X (.range2 a b) r = .ok ((List.range (n - m)).map fun j : Nat => PyData.int ((m + j : Nat) : Int), []) r'' := by
  rw [it_r2, h, bind_ok', g, bind_ok', hx, hy, hI2_some]
  have c : (smallI (m : Int) && smallI (n : Int)) = true := by rw [small_nat hm, small_nat hn]; rfl
  refine (if_pos c).trans ?_
  rw [ranged_map, show ((n : Int) - m).toNat = n - m by omega]
  congr 2
theorem it_seq {X : Cx} {a : E} {r r' : Env} {x : Opd} {xs : List D} (h : (cE X a).o r = .ok x r') (hx : opdD r' x = some (.list xs)) (hk : itOk r' x = true) : cIt X (.seq a) r = .ok (xs, [x]) r' := by
  simp only [cIt, h, Res.bind, hx, hk, if_true]
theorem it_seqT {X : Cx} {a : E} {r r' : Env} {x : Opd} {xs : List D} (h : (cE X a).o r = .ok x r') (hx : opdD r' x = some (.tuple xs)) : cIt X (.seq a) r = .ok (xs, [x]) r' := by
  simp only [cIt, h, Res.bind, hx]
theorem it_enumT {X : Cx} {a : E} {r r' : Env} {x : Opd} {xs : List D} (h : (cE X a).o r = .ok x r') (hx : opdD r' x = some (.tuple xs)) : cIt X (.enum a) r = .ok (enumFrom 0 xs, [x]) r' := by
  simp only [cIt, h, Res.bind, hx]
theorem it_enumL {X : Cx} {a : E} {r r' : Env} {x : Opd} {xs : List D} (h : (cE X a).o r = .ok x r') (hx : opdD r' x = some (.list xs)) (hk : itOk r' x = true) : cIt X (.enum a) r = .ok (enumFrom 0 xs, [x]) r' := by
  simp only [cIt, h, Res.bind, hx, hk, if_true]
/-! ### comprehensions -/
theorem loopE_flat {f : D → Env → Res (List D)} {g : D → List D} {r : Env} : ∀ (xs : List D), (∀ d ∈ xs, f d r = .ok (g d) r) → loopE f xs r = .ok (xs.flatMap g) r
  | [], _ => rfl
  | x :: xs, h => by
    show (f x r).bind _ = _
    rw [h x List.mem_cons_self, bind_ok', loopE_flat xs fun d m => h d (List.mem_cons_of_mem _ m), bind_ok', List.flatMap_cons]
theorem comp_ok {X : Cx} {t : T} {it : It} {c e : E} {r r1 : Env} {xs : List D} {ops : List Opd} {g : D → List D} (hi : cIt X it r = .ok (xs, ops) r1) (hl : xs.length ≤ szLine)
    {R : Env} (hR : wipeT t (ops.foldl lockO r1) = R)
    (hb : ∀ d ∈ xs, ((assignT t (false, d) R).bind fun _ r => ((cE X c).t r).bind fun t' r => if t' then ((cE X e).v r).bind fun v r => .ok [v.2] (wipeT t r) else .ok [] (wipeT t r)) = .ok (g d) R)
    (hk : ops.foldl (unlockO r1) (backT r1 t R) = r1) : (cE X (.comp t it c e)).v r = .ok (true, .list (xs.flatMap g)) r1 := by
  subst hR
  rw [v_comp, hi, bind_ok']
  show (if szLine < xs.length then _ else ((loopE _ xs _).mapN _).bind _) = _
  rw [if_neg (by omega), loopE_flat xs hb]
  show Res.ok _ (ops.foldl (unlockO r1) (backT r1 t (wipeT t (ops.foldl lockO r1)))) = _
  rw [hk]
theorem flat_map {A : Type} {l : List A} {k : A → D} {F : A → D} {g : D → List D} (h : ∀ a ∈ l, g (k a) = [F a]) : (l.map k).flatMap g = l.map F := by
  induction l with
  | nil => rfl
  | cons a l ih => rw [List.map_cons, List.flatMap_cons, h a List.mem_cons_self, ih fun b m => h b (List.mem_cons_of_mem _ m)]; rfl
theorem loopE_map {A : Type} {k : A → D} {f : D → Env → Res (List D)} {g : A → List D} {r : Env} : ∀ (l : List A), (∀ a ∈ l, f (k a) r = .ok (g a) r) → loopE f (l.map k) r = .ok (l.flatMap g) r
  | [], _ => rfl
  | x :: xs, h => by
    show (f (k x) r).bind _ = _
    rw [h x List.mem_cons_self, bind_ok', loopE_map xs fun d m => h d (List.mem_cons_of_mem _ m), bind_ok', List.flatMap_cons]
/-- over things told by a list l: k a is the item, g a what it gives -/
theorem comp_of {A : Type} {k : A → D} {X : Cx} {t : T} {it : It} {c e : E} {r r1 : Env} {l : List A} {ops : List Opd} {g : A → List D} (hi : cIt X it r = .ok (l.map k, ops) r1) (hl : l.length ≤ szLine)
    {R : Env} (hR : wipeT t (ops.foldl lockO r1) = R)
    (hb : ∀ a ∈ l, ((assignT t (false, k a) R).bind fun _ r => ((cE X c).t r).bind fun t' r => if t' then ((cE X e).v r).bind fun v r => .ok [v.2] (wipeT t r) else .ok [] (wipeT t r)) = .ok (g a) R)
    (hk : ops.foldl (unlockO r1) (backT r1 t R) = r1) : (cE X (.comp t it c e)).v r = .ok (true, .list (l.flatMap g)) r1 := by
  subst hR
  rw [v_comp, hi, bind_ok']
  show (if szLine < (l.map k).length then _ else ((loopE _ (l.map k) _).mapN _).bind _) = _
  rw [List.length_map, if_neg (by omega), loopE_map l hb]
  show Res.ok _ (ops.foldl (unlockO r1) (backT r1 t (wipeT t (ops.foldl lockO r1)))) = _
  rw [hk]
theorem flat_one {A : Type} {l : List A} {F : A → D} : (l.flatMap fun a => [F a]) = l.map F := by
  induction l with
  | nil => rfl
  | cons a l ih => rw [List.flatMap_cons, ih]; rfl
theorem flat_if {A : Type} {l : List A} {F : A → D} {p : A → Bool} : (l.flatMap fun a => if p a then [F a] else []) = (l.filter p).map F := by
  induction l with
  | nil => rfl
  | cons a l ih =>
    rw [List.flatMap_cons, ih, List.filter_cons]
    cases p a <;> rfl
/-- each item gives one -/
theorem comp_map {A : Type} {k F : A → D} {X : Cx} {t : T} {it : It} {e : E} {r r1 : Env} {l : List A} {ops : List Opd} (hi : cIt X it r = .ok (l.map k, ops) r1) (hl : l.length ≤ szLine)
    {R : Env} (hR : wipeT t (ops.foldl lockO r1) = R)
    (hb : ∀ a ∈ l, ∃ o r2, ((assignT t (false, k a) R).bind fun _ r => (cE X e).v r) = .ok (o, F a) r2 ∧ wipeT t r2 = R)
    (hk : ops.foldl (unlockO r1) (backT r1 t R) = r1) : (cE X (.comp t it (.const (.bool true)) e)).v r = .ok (true, .list (l.map F)) r1 := by
  rw [← flat_one]
  refine comp_of hi hl hR (fun a m => ?_) hk
  obtain ⟨o, r2, h1, h2⟩ := hb a m
  cases ha : assignT t (false, k a) R with
  | st n => rw [ha] at h1; cases h1
  | ex n as r => rw [ha] at h1; cases h1
  | ok u r3 =>
    rw [ha, bind_ok'] at h1
    rw [bind_ok', t_const]
    show ((cE X e).v r3).bind _ = _
    rw [h1, bind_ok', h2]
/-- those items that pass, as they are or by F -/
theorem comp_filter {A : Type} {k F : A → D} {p : A → Bool} {X : Cx} {t : T} {it : It} {c e : E} {r r1 : Env} {l : List A} {ops : List Opd} (hi : cIt X it r = .ok (l.map k, ops) r1) (hl : l.length ≤ szLine)
    {R : Env} (hR : wipeT t (ops.foldl lockO r1) = R)
    (hb : ∀ a ∈ l, ((assignT t (false, k a) R).bind fun _ r => ((cE X c).t r).bind fun t' r => if t' then ((cE X e).v r).bind fun v r => .ok [v.2] (wipeT t r) else .ok [] (wipeT t r)) = .ok (if p a then [F a] else []) R)
    (hk : ops.foldl (unlockO r1) (backT r1 t R) = r1) : (cE X (.comp t it c e)).v r = .ok (true, .list ((l.filter p).map F)) r1 := by
  rw [← flat_if]
  exact comp_of hi hl hR hb hk
/-! ### loops -/
theorem getAt_map {A : Type} {k : A → D} : ∀ {l : List A} {j : Nat} {d : D}, getAt (l.map k) j = some d → ∃ h : j < l.length, d = k l[j]
  | [], _, _, h => by cases h
  | a :: l, 0, d, h => by cases h; exact ⟨Nat.succ_pos _, rfl⟩
  | a :: l, j + 1, d, h => by
    obtain ⟨h1, h2⟩ := getAt_map (l := l) h
    exact ⟨Nat.succ_lt_succ h1, h2⟩
theorem loop_gx {X : Cx} {t : T} {b : S} {xs : List D} (T : Nat → Env) (hb : ∀ j d, getAt xs j = some d → ∃ q, assignT t (false, d) (T j) = .ok () q ∧ Gx X b q (T (j + 1))) {r : Env} (e : EnvLe (T 0) r) :
    ∃ r', loopS (fun d r => (assignT t (false, d) r).bind fun _ r => exK X b r) xs r = .ok .next r' ∧ EnvLe (T xs.length) r' := by
  have key : ∀ i d r, getAt xs i = some d → EnvLe (T (0 + i)) r → ∃ w r', (assignT t (false, d) r).bind (fun _ r => exK X b r) = .ok w r' ∧ (w = .next ∨ w = .cont) ∧ EnvLe (T (0 + i + 1)) r' := by
    intro i d r hg he
    rw [Nat.zero_add] at he ⊢
    obtain ⟨q, h1, h2⟩ := hb i d hg
    have m := mo_assign (t := t) (v := (false, d)) he
    rw [h1] at m
    obtain ⟨q', h3, e3⟩ := m
    obtain ⟨r', h4, e4⟩ := h2 q' e3
    exact ⟨.next, r', by rw [h3, bind_ok', h4], .inl rfl, e4⟩
  obtain ⟨r', h1, h2⟩ := loopS_inv (f := fun d r => (assignT t (false, d) r).bind fun _ r => exK X b r) (fun k r => EnvLe (T k) r) xs 0 r key e
  rw [Nat.zero_add] at h2
  exact ⟨r', h1, h2⟩
theorem le_drop {is : List Nat} {r0 r1 : Env} (h : dropS is r1 = r0) : EnvLe r0 r1 := h ▸ drop_le is r1
/-- what is walked, where more is set -/
theorem it_up {X : Cx} {it : It} {r0 r1 r : Env} {p : List D × List Opd} (hc : cIt X it r0 = .ok p r1) (e : EnvLe r0 r) : ∃ r', cIt X it r = .ok p r' ∧ EnvLe r1 r' ∧ EnvLe (p.2.foldl lockO r1) (p.2.foldl lockO r') ∧ ∀ q q', EnvLe q q' → EnvLe (p.2.foldl (unlockO r1) q) (p.2.foldl (unlockO r') q') := by
  have m := (mo_It X it).1 r0 r e
  rw [hc] at m
  obtain ⟨r', h1, h2⟩ := m
  have s := (mo_It X it).2 r0 p r1 hc
  exact ⟨r', h1, h2, le_locks h2 s, fun q q' h => le_unlocks h2 s h⟩
/-- a loop over things told by a list l -/
theorem Gx.forG {A : Type} {k : A → D} {X : Cx} {t : T} {it : It} {b : S} {l : List A} {ops : List Opd} {r0 r1 r2 : Env} (T : Nat → Env) (hc : cIt X it r0 = .ok (l.map k, ops) r1) (h0 : EnvLe (T 0) (ops.foldl lockO r1))
    (hb : ∀ j (h : j < l.length), ∃ q, assignT t (false, k l[j]) (T j) = .ok () q ∧ Gx X b q (T (j + 1))) (h2 : EnvLe r2 (ops.foldl (unlockO r1) (T l.length))) : Gx X (.for_ t it b) r0 r2 := fun r e => by
  obtain ⟨r', c1, _, c3, c4⟩ := it_up hc e
  obtain ⟨r'', h1, h3⟩ := loop_gx (xs := l.map k) T (fun j d hg => by
    obtain ⟨hj, rfl⟩ := getAt_map hg
    exact hb j hj) (h0.trans c3)
  rw [List.length_map] at h3
  refine ⟨ops.foldl (unlockO r') r'', ?_, h2.trans (c4 _ _ h3)⟩
  rw [x_for, c1, bind_ok']
  show ((loopS _ (l.map k) (ops.foldl lockO r')).mapR _).bind _ = _
  rw [h1]
  rfl
theorem loop_find {X : Cx} {t : T} {b : S} {A : Type} {k F : A → D} {P : A → Bool} {o : Bool} {r0 : Env} : ∀ {l : List A}
    (_ : ∀ a ∈ l, ∃ q, assignT t (false, k a) r0 = .ok () q ∧ q.length = r0.length ∧ if P a then Re X b q o (F a) else Gx X b q r0) {r : Env} (_ : EnvLe r0 r),
    ∃ r', r'.length = r.length ∧ match l.find? P with
      | none => loopS (fun d r => (assignT t (false, d) r).bind fun _ r => exK X b r) (l.map k) r = .ok .next r' ∧ EnvLe r0 r'
      | some a => loopS (fun d r => (assignT t (false, d) r).bind fun _ r => exK X b r) (l.map k) r = .ok (.ret o (F a)) r'
  | [], _, r, e => ⟨r, rfl, rfl, e⟩
  | a :: l, h, r, e => by
    obtain ⟨q, h1, hq, h2⟩ := h a List.mem_cons_self
    have m := mo_assign (t := t) (v := (false, k a)) e
    rw [h1] at m
    obtain ⟨q', h3, e3⟩ := m
    rw [List.find?_cons]
    cases hp : P a with
    | true =>
      rw [hp, if_pos rfl] at h2
      obtain ⟨r', h4, e4⟩ := h2 q' e3
      refine ⟨r', by rw [e4, ← e3.len, hq, e.len], ?_⟩
      show ((assignT t (false, k a) r).bind fun _ r => exK X b r).bind _ = _
      rw [h3, bind_ok', h4]
      rfl
    | false =>
      rw [hp, if_neg (by simp)] at h2
      obtain ⟨r', h4, e4⟩ := h2 q' e3
      obtain ⟨r'', l2, h5⟩ := loop_find (l := l) (fun b m => h b (List.mem_cons_of_mem _ m)) e4
      refine ⟨r'', by rw [l2, ← e4.len, e.len], ?_⟩
      have step : loopS (fun d r => (assignT t (false, d) r).bind fun _ r => exK X b r) ((a :: l).map k) r = loopS (fun d r => (assignT t (false, d) r).bind fun _ r => exK X b r) (l.map k) r' := by
        show ((assignT t (false, k a) r).bind fun _ r => exK X b r).bind _ = _
        rw [h3, bind_ok', h4]
        rfl
      simp only
      cases hf : l.find? P with
      | none =>
        rw [hf] at h5
        simp only at h5 ⊢
        rw [step]
        exact h5
      | some c =>
        rw [hf] at h5
        simp only at h5 ⊢
        rw [step]
        exact h5
/-- a loop that hands back at the first thing that passes -/
theorem for_none {A : Type} {k F : A → D} {P : A → Bool} {X : Cx} {t : T} {it : It} {b : S} {o : Bool} {l : List A} {ops : List Opd} {r0 r1 r2 rT : Env} (hc : cIt X it r0 = .ok (l.map k, ops) r1) (h0 : EnvLe rT (ops.foldl lockO r1))
    (hb : ∀ a ∈ l, ∃ q, assignT t (false, k a) rT = .ok () q ∧ q.length = rT.length ∧ if P a then Re X b q o (F a) else Gx X b q rT) (hf : l.find? P = none) (h2 : EnvLe r2 (ops.foldl (unlockO r1) rT)) : Gx X (.for_ t it b) r0 r2 := fun r e => by
  obtain ⟨r', c1, _, c3, c4⟩ := it_up hc e
  obtain ⟨r'', _, h⟩ := loop_find hb (h0.trans c3)
  rw [hf] at h
  obtain ⟨h1, h3⟩ := h
  refine ⟨ops.foldl (unlockO r') r'', ?_, h2.trans (c4 _ _ h3)⟩
  rw [x_for, c1, bind_ok']
  show ((loopS _ (l.map k) (ops.foldl lockO r')).mapR _).bind _ = _
  rw [h1]
  rfl
theorem len_set' : ∀ (r : Env) (i : Nat) (s : Slot), (setSlot r i s).length = r.length := fun r i s => len_set r i s
theorem len_lock {r : Env} {x : Opd} : (lockO r x).length = r.length := by
  cases x with
  | ref i =>
    simp only [lockO]
    cases slotAt r i with
    | ow d => exact len_set _ _ _
    | _ => rfl
  | _ => rfl
theorem len_locks {xs : List Opd} : ∀ {r : Env}, (xs.foldl lockO r).length = r.length := by
  induction xs with
  | nil => intro r; rfl
  | cons x xs ih => intro r; rw [List.foldl_cons, ih, len_lock]
theorem len_unlock {r₀ r : Env} {x : Opd} : (unlockO r₀ r x).length = r.length := by
  cases x with
  | ref i =>
    simp only [unlockO]
    split
    · exact len_set _ _ _
    · rfl
  | _ => rfl
theorem len_unlocks {r₀ : Env} {xs : List Opd} : ∀ {r : Env}, (xs.foldl (unlockO r₀) r).length = r.length := by
  induction xs with
  | nil => intro r; rfl
  | cons x xs ih => intro r; rw [List.foldl_cons, ih, len_unlock]
theorem for_some {A : Type} {k F : A → D} {P : A → Bool} {X : Cx} {t : T} {it : It} {b : S} {o : Bool} {l : List A} {ops : List Opd} {r0 r1 rT : Env} (hc : cIt X it r0 = .ok (l.map k, ops) r1) (hl : r1.length = r0.length) (h0 : EnvLe rT (ops.foldl lockO r1))
    (hb : ∀ a ∈ l, ∃ q, assignT t (false, k a) rT = .ok () q ∧ q.length = rT.length ∧ if P a then Re X b q o (F a) else Gx X b q rT) {a : A} (hf : l.find? P = some a) : Re X (.for_ t it b) r0 o (F a) := fun r e => by
  obtain ⟨r', c1, c2, c3, c4⟩ := it_up hc e
  obtain ⟨r'', l1, h⟩ := loop_find hb (h0.trans c3)
  rw [hf] at h
  refine ⟨ops.foldl (unlockO r') r'', ?_, ?_⟩
  · rw [x_for, c1, bind_ok']
    show ((loopS _ (l.map k) (ops.foldl lockO r')).mapR _).bind _ = _
    rw [h]
    rfl
  · rw [len_unlocks, l1, len_locks, ← c2.len, hl, e.len]
end MW
end
section
set_option linter.all false
set_option maxRecDepth 100000
set_option maxHeartbeats 4000000
/-! Ve: a def's statements, taken in runs. -/
namespace MW
open PySem
/-- the first n statements of a chain -/
def tkS : Nat → S → S
  | 0, _ => .skip
  | n + 1, .seq a b => .seq a (tkS n b)
  | _ + 1, s => s
/-- those behind -/
def dpS : Nat → S → S
  | 0, s => s
  | n + 1, .seq _ b => dpS n b
  | _ + 1, _ => .skip
theorem cut_ex {X : Cx} : ∀ (n : Nat) (s : S) (r r' : Env), exK X (tkS n s) r = .ok .next r' → exK X s r = exK X (dpS n s) r'
  | 0, s, r, r', h => by
    rw [tkS, x_skip] at h
    cases h
    rfl
  | n + 1, s, r, r', h => by
    cases s with
    | seq a b =>
      simp only [tkS, dpS, x_seq] at h ⊢
      cases ha : exK X a r with
      | st n => rw [ha] at h; cases h
      | ex k as s => rw [ha] at h; cases h
      | ok w s =>
        rw [ha, bind_ok'] at h
        rw [bind_ok']
        cases w with
        | next =>
          rw [thn_next] at h ⊢
          exact cut_ex n b s r' h
        | _ => cases h
    | _ => simp only [tkS, dpS] at h ⊢; rw [h, x_skip]
theorem Gd.cut {X : Cx} {s : S} {r0 r1 : Env} (n : Nat) (h : Gx X (tkS n s) r0 r1) (g : Gd X (dpS n s) r1) : Gd X s r0 := fun r e => by
  obtain ⟨r', h1, e1⟩ := h r e
  obtain ⟨o, r2, h2⟩ := g r' e1
  exact ⟨o, r2, by rw [cut_ex n s r r' h1]; exact h2⟩
/-- one statement -/
theorem Gx.one {X : Cx} {a b : S} {r0 r1 : Env} (h : Gx X a r0 r1) : Gx X (tkS 1 (.seq a b)) r0 r1 := fun r e => by
  obtain ⟨r', h1, e1⟩ := h r e
  exact ⟨r', by rw [tkS, tkS, x_seq, h1, bind_ok', thn_next, x_skip], e1⟩
/-- all rows of k numbers below m -/
def rws (m : Nat) : Nat → List (List Nat)
  | 0 => [[]]
  | k + 1 => (List.range m).flatMap fun a => (rws m k).map fun r => a :: r
theorem mem_rws {m : Nat} : ∀ (k : Nat) (vs : List Int), vs.length = k → (∀ v ∈ vs, 0 ≤ v ∧ v < (m : Int)) → ∃ r ∈ rws m k, vs.map PyData.int = r.map fun n : Nat => .int n
  | 0, vs, h, _ => by
    cases vs with
    | nil => exact ⟨[], List.mem_cons_self, rfl⟩
    | cons _ _ => cases h
  | k + 1, vs, h, hv => by
    cases vs with
    | nil => cases h
    | cons v vs =>
      obtain ⟨r, hr, e⟩ := mem_rws k vs (Nat.succ.inj h) fun w hw => hv w (List.mem_cons_of_mem _ hw)
      obtain ⟨h0, h1⟩ := hv v List.mem_cons_self
      refine ⟨v.toNat :: r, List.mem_flatMap.mpr ⟨v.toNat, List.mem_range.mpr (by omega), List.mem_map.mpr ⟨r, hr, rfl⟩⟩, ?_⟩
      rw [List.map_cons, List.map_cons, e, Int.toNat_of_nonneg h0]
theorem op_addT {a b : List D} (h : a.length + b.length ≤ szLine) : opSem .add (.tuple a) (.tuple b) = some (false, .tuple (a ++ b)) := if_pos h
end MW
end
section
set_option maxRecDepth 100000
set_option linter.all false
namespace MW
open PySem
/-- is_integer(thing) : thing=0 -/
def k19_f0 : Fn := ⟨1, 0, [false],
  (.seq (.ret (.and (.prim .isint (.cons (.var 0) .nil)) (.not (.prim .isbool (.cons (.var 0) .nil))))) .skip)⟩
/-- prime_of(size) : size=0 prime=1 many=2 left=3 one=4 -/
def k19_f1 : Fn := ⟨1, 4, [false],
  (.seq (.ite (.or (.not (.call 0 (.cons (.var 0) .nil))) (.cmp .notin (.var 0) (.glob 0))) (.seq (.raise 1 (.cons (.const (dS "size")) .nil)) .skip) .skip) (.seq (.asg (.name 1) (.prim .min (.cons (.comp (.name 4) (.range2 (.const (dI 2)) (.bin .add (.var 0) (.const (dI 1)))) (.cmp .eq (.bin .mod (.var 0) (.var 4)) (.const (dI 0))) (.var 4)) .nil))) (.seq (.par2 2 3 (.const (dI 0)) (.var 0)) (.seq (.while_ (.cmp .gt (.var 3) (.const (dI 1))) (.seq (.aug 3 .fdiv (.var 1)) (.seq (.aug 2 .add (.const (dI 1))) .skip))) (.seq (.ret (.tup (.cons (.var 1) (.cons (.var 2) .nil)))) .skip)))))⟩
/-- digits(number, prime, many) : number=0 prime=1 many=2 found=3 turn=4 -/
def k19_f2 : Fn := ⟨3, 2, [false, false, false],
  (.seq (.asg (.name 3) (.lst .nil)) (.seq (.for_ (.name 4) (.range1 (.var 2)) (.seq (.expr (.append 3 (.bin .mod (.var 0) (.var 1)))) (.seq (.aug 0 .fdiv (.var 1)) .skip))) (.seq (.ret (.var 3)) .skip)))⟩
/-- number_of(figures, prime) : figures=0 prime=1 found=2 figure=3 -/
def k19_f3 : Fn := ⟨2, 2, [false, false],
  (.seq (.asg (.name 2) (.const (dI 0))) (.seq (.for_ (.name 3) (.seq (.rev (.var 0))) (.seq (.asg (.name 2) (.bin .add (.bin .mul (.var 2) (.var 1)) (.var 3))) .skip)) (.seq (.ret (.var 2)) .skip)))⟩
/-- whole_power(base, many) : base=0 many=1 found=2 turn=3 -/
def k19_f4 : Fn := ⟨2, 2, [false, false],
  (.seq (.asg (.name 2) (.const (dI 1))) (.seq (.for_ (.name 3) (.range1 (.var 1)) (.seq (.aug 2 .mul (.var 0)) .skip)) (.seq (.ret (.var 2)) .skip)))⟩
/-- plain_product(one, other, prime) : one=0 other=1 prime=2 found=3 i=4 a=5 j=6 b=7 -/
def k19_f5 : Fn := ⟨3, 5, [false, false, false],
  (.seq (.asg (.name 3) (.bin .mul (.lst (.cons (.const (dI 0)) .nil)) (.bin .sub (.bin .add (.prim .len (.cons (.var 0) .nil)) (.prim .len (.cons (.var 1) .nil))) (.const (dI 1))))) (.seq (.for_ (.two (.name 4) (.name 5)) (.enum (.var 0)) (.seq (.for_ (.two (.name 6) (.name 7)) (.enum (.var 1)) (.seq (.set 3 (.bin .add (.var 4) (.var 6)) (.bin .mod (.bin .add (.idx (.var 3) (.bin .add (.var 4) (.var 6))) (.bin .mul (.var 5) (.var 7))) (.var 2))) .skip)) .skip)) (.seq (.ret (.var 3)) .skip)))⟩
/-- least_irreducible(prime, many) : prime=0 many=1 made=2 low=3 size=4 found=5 first=6 second=7 number=8 one=9 other=10 -/
def k19_f6 : Fn := ⟨2, 9, [false, false],
  (.seq (.asg (.name 2) (.dic false .nil)) (.seq (.for_ (.name 3) (.range2 (.const (dI 1)) (.bin .add (.bin .fdiv (.var 1) (.const (dI 2))) (.const (dI 1)))) (.seq (.for_ (.name 6) (.range1 (.call 4 (.cons (.var 0) (.cons (.var 3) .nil)))) (.seq (.for_ (.name 7) (.range1 (.call 4 (.cons (.var 0) (.cons (.bin .sub (.var 1) (.var 3)) .nil)))) (.seq (.asg (.name 9) (.bin .add (.call 2 (.cons (.var 6) (.cons (.var 0) (.cons (.var 3) .nil)))) (.lst (.cons (.const (dI 1)) .nil)))) (.seq (.asg (.name 10) (.bin .add (.call 2 (.cons (.var 7) (.cons (.var 0) (.cons (.bin .sub (.var 1) (.var 3)) .nil)))) (.lst (.cons (.const (dI 1)) .nil)))) (.seq (.set 2 (.call 3 (.cons (.call 5 (.cons (.var 9) (.cons (.var 10) (.cons (.var 0) .nil)))) (.cons (.var 0) .nil))) (.const (.bool true))) .skip)))) .skip)) .skip)) (.seq (.asg (.name 4) (.call 4 (.cons (.var 0) (.cons (.var 1) .nil)))) (.seq (.asg (.name 5) (.comp (.name 8) (.range2 (.var 4) (.bin .mul (.const (dI 2)) (.var 4))) (.cmp .notin (.var 8) (.var 2)) (.var 8))) (.seq (.ret (.call 2 (.cons (.idx (.var 5) (.const (dI 0))) (.cons (.var 0) (.cons (.bin .add (.var 1) (.const (dI 1))) .nil))))) .skip)))))⟩
/-- lowered(figures, by, prime, many) : figures=0 by=1 prime=2 many=3 found=4 last=5 at=6 place=7 -/
def k19_f7 : Fn := ⟨4, 4, [false, false, false, false],
  (.seq (.asg (.name 4) (.prim .list (.cons (.var 0) .nil))) (.seq (.while_ (.cmp .gt (.prim .len (.cons (.var 4) .nil)) (.var 3)) (.seq (.asg (.name 5) (.pop 4)) (.seq (.ite (.var 5) (.seq (.for_ (.name 6) (.range1 (.var 3)) (.seq (.asg (.name 7) (.bin .add (.bin .sub (.prim .len (.cons (.var 4) .nil)) (.var 3)) (.var 6))) (.seq (.set 4 (.var 7) (.bin .mod (.bin .sub (.idx (.var 4) (.var 7)) (.bin .mul (.var 5) (.idx (.var 1) (.var 6)))) (.var 2))) .skip))) .skip) .skip) .skip))) (.seq (.ret (.bin .add (.var 4) (.bin .mul (.lst (.cons (.const (dI 0)) .nil)) (.bin .sub (.var 3) (.prim .len (.cons (.var 4) .nil)))))) .skip)))⟩
/-- field(size) : size=0 by=1 one=2 prime=3 many=4 sums=5 products=6 first=7 other=8 line=9 more=10 second=11 a=12 b=13 -/
def k19_f8 : Fn := ⟨1, 13, [false],
  (.seq (.asg (.two (.name 3) (.name 4)) (.call 1 (.cons (.var 0) .nil))) (.seq (.asg (.name 1) (.call 6 (.cons (.var 3) (.cons (.var 4) .nil)))) (.seq (.par2 5 6 (.lst .nil) (.lst .nil)) (.seq (.for_ (.name 2) (.range1 (.var 0)) (.seq (.asg (.name 7) (.call 2 (.cons (.var 2) (.cons (.var 3) (.cons (.var 4) .nil))))) (.seq (.par2 9 10 (.lst .nil) (.lst .nil)) (.seq (.for_ (.name 8) (.range1 (.var 0)) (.seq (.asg (.name 11) (.call 2 (.cons (.var 8) (.cons (.var 3) (.cons (.var 4) .nil))))) (.seq (.expr (.append 9 (.call 3 (.cons (.comp (.two (.name 12) (.name 13)) (.zip2 (.var 7) (.var 11)) (.const (.bool true)) (.bin .mod (.bin .add (.var 12) (.var 13)) (.var 3))) (.cons (.var 3) .nil))))) (.seq (.expr (.append 10 (.call 3 (.cons (.call 7 (.cons (.call 5 (.cons (.var 7) (.cons (.var 11) (.cons (.var 3) .nil)))) (.cons (.var 1) (.cons (.var 3) (.cons (.var 4) .nil))))) (.cons (.var 3) .nil))))) .skip)))) (.seq (.expr (.append 5 (.prim .tupr (.cons (.var 9) .nil)))) (.seq (.expr (.append 6 (.prim .tupr (.cons (.var 10) .nil)))) .skip)))))) (.seq (.ret (.tup (.cons (.const (dS "field")) (.cons (.var 0) (.cons (.prim .tuple (.cons (.var 5) .nil)) (.cons (.prim .tuple (.cons (.var 6) .nil)) .nil)))))) .skip)))))⟩
/-- plus(told, one, other) : told=0 one=1 other=2 -/
def k19_f9 : Fn := ⟨3, 0, [false, false, false],
  (.seq (.ret (.idx (.idx (.idx (.var 0) (.const (dI 2))) (.var 1)) (.var 2))) .skip)⟩
/-- times(told, one, other) : told=0 one=1 other=2 -/
def k19_f10 : Fn := ⟨3, 0, [false, false, false],
  (.seq (.ret (.idx (.idx (.idx (.var 0) (.const (dI 3))) (.var 1)) (.var 2))) .skip)⟩
/-- opposite(told, one) : told=0 one=1 -/
def k19_f11 : Fn := ⟨2, 0, [false, false],
  (.seq (.ret (.meth .index (.idx (.idx (.var 0) (.const (dI 2))) (.var 1)) (.cons (.const (dI 0)) .nil))) .skip)⟩
/-- minus(told, one, other) : told=0 one=1 other=2 -/
def k19_f12 : Fn := ⟨3, 0, [false, false, false],
  (.seq (.ret (.call 9 (.cons (.var 0) (.cons (.var 1) (.cons (.call 11 (.cons (.var 0) (.cons (.var 2) .nil))) .nil))))) .skip)⟩
/-- inverse(told, one) : told=0 one=1 -/
def k19_f13 : Fn := ⟨2, 0, [false, false],
  (.seq (.ite (.cmp .eq (.var 1) (.const (dI 0))) (.seq (.raise 1 (.cons (.const (dS "zero")) .nil)) .skip) .skip) (.seq (.ret (.meth .index (.idx (.idx (.var 0) (.const (dI 3))) (.var 1)) (.cons (.const (dI 1)) .nil))) .skip))⟩
/-- made(numbers) : numbers=0 found=1 -/
def k19_f14 : Fn := ⟨1, 1, [false],
  (.seq (.asg (.name 1) (.prim .list (.cons (.var 0) .nil))) (.seq (.while_ (.and (.var 1) (.cmp .eq (.idx (.var 1) (.neg (.const (dI 1)))) (.const (dI 0)))) (.seq (.expr (.pop 1)) .skip)) (.seq (.ret (.prim .tuple (.cons (.var 1) .nil))) .skip)))⟩
/-- check_poly(told, p) : told=0 p=1 one=2 -/
def k19_f15 : Fn := ⟨2, 1, [false, false],
  (.seq (.ite (.or (.not (.prim .istuple (.cons (.var 1) .nil))) (.or (.not (.prim .all (.cons (.comp (.name 2) (.seq (.var 1)) (.const (.bool true)) (.and (.call 0 (.cons (.var 2) .nil)) (.chain .le .lt (.const (dI 0)) (.var 2) (.idx (.var 0) (.const (dI 1)))))) .nil))) (.cmp .eq (.slice (.var 1) (.neg (.const (dI 1))) (.const .none)) (.tup (.cons (.const (dI 0)) .nil))))) (.seq (.raise 1 (.cons (.const (dS "polynomial")) .nil)) .skip) .skip) .skip)⟩
/-- degree(p) : p=0 -/
def k19_f16 : Fn := ⟨1, 0, [false],
  (.seq (.ret (.bin .sub (.prim .len (.cons (.var 0) .nil)) (.const (dI 1)))) .skip)⟩
/-- product(told, p, q) : told=0 p=1 q=2 found=3 i=4 a=5 j=6 b=7 -/
def k19_f17 : Fn := ⟨3, 5, [false, false, false],
  (.seq (.ite (.or (.not (.var 1)) (.not (.var 2))) (.seq (.ret (.tup .nil)) .skip) .skip) (.seq (.asg (.name 3) (.bin .mul (.lst (.cons (.const (dI 0)) .nil)) (.bin .sub (.bin .add (.prim .len (.cons (.var 1) .nil)) (.prim .len (.cons (.var 2) .nil))) (.const (dI 1))))) (.seq (.for_ (.two (.name 4) (.name 5)) (.enum (.var 1)) (.seq (.for_ (.two (.name 6) (.name 7)) (.enum (.var 2)) (.seq (.set 3 (.bin .add (.var 4) (.var 6)) (.call 9 (.cons (.var 0) (.cons (.idx (.var 3) (.bin .add (.var 4) (.var 6))) (.cons (.call 10 (.cons (.var 0) (.cons (.var 5) (.cons (.var 7) .nil)))) .nil))))) .skip)) .skip)) (.seq (.ret (.call 14 (.cons (.var 3) .nil))) .skip))))⟩
/-- divided(told, p, q) : told=0 p=1 q=2 rest=3 by=4 quotient=5 at=6 number=7 place=8 one=9 -/
def k19_f18 : Fn := ⟨3, 7, [false, false, false],
  (.seq (.ite (.not (.var 2)) (.seq (.raise 1 (.cons (.const (dS "zero")) .nil)) .skip) .skip) (.seq (.asg (.name 3) (.prim .list (.cons (.var 1) .nil))) (.seq (.asg (.name 4) (.call 13 (.cons (.var 0) (.cons (.idx (.var 2) (.neg (.const (dI 1)))) .nil)))) (.seq (.asg (.name 5) (.bin .mul (.lst (.cons (.const (dI 0)) .nil)) (.prim .max (.cons (.const (dI 0)) (.cons (.bin .add (.bin .sub (.prim .len (.cons (.var 1) .nil)) (.prim .len (.cons (.var 2) .nil))) (.const (dI 1))) .nil))))) (.seq (.for_ (.name 6) (.range3 (.bin .sub (.prim .len (.cons (.var 5) .nil)) (.const (dI 1))) (.neg (.const (dI 1))) (.neg (.const (dI 1)))) (.seq (.asg (.name 7) (.call 10 (.cons (.var 0) (.cons (.var 4) (.cons (.idx (.var 3) (.bin .sub (.bin .add (.var 6) (.prim .len (.cons (.var 2) .nil))) (.const (dI 1)))) .nil))))) (.seq (.set 5 (.var 6) (.var 7)) (.seq (.for_ (.two (.name 8) (.name 9)) (.enum (.var 2)) (.seq (.set 3 (.bin .add (.var 6) (.var 8)) (.call 12 (.cons (.var 0) (.cons (.idx (.var 3) (.bin .add (.var 6) (.var 8))) (.cons (.call 10 (.cons (.var 0) (.cons (.var 7) (.cons (.var 9) .nil)))) .nil))))) .skip)) .skip)))) (.seq (.ret (.tup (.cons (.call 14 (.cons (.var 5) .nil)) (.cons (.call 14 (.cons (.var 3) .nil)) .nil)))) .skip))))))⟩
/-- rest(told, p, q) : told=0 p=1 q=2 -/
def k19_f19 : Fn := ⟨3, 0, [false, false, false],
  (.seq (.ret (.idx (.call 18 (.cons (.var 0) (.cons (.var 1) (.cons (.var 2) .nil)))) (.const (dI 1)))) .skip)⟩
/-- power_rest(told, p, many, by) : told=0 p=1 many=2 by=3 found=4 here=5 -/
def k19_f20 : Fn := ⟨4, 2, [false, false, false, false],
  (.seq (.asg (.name 4) (.call 19 (.cons (.var 0) (.cons (.tup (.cons (.const (dI 1)) .nil)) (.cons (.var 3) .nil))))) (.seq (.asg (.name 5) (.call 19 (.cons (.var 0) (.cons (.var 1) (.cons (.var 3) .nil))))) (.seq (.while_ (.var 2) (.seq (.ite (.bin .mod (.var 2) (.const (dI 2))) (.seq (.asg (.name 4) (.call 19 (.cons (.var 0) (.cons (.call 17 (.cons (.var 0) (.cons (.var 4) (.cons (.var 5) .nil)))) (.cons (.var 3) .nil))))) .skip) .skip) (.seq (.asg (.name 5) (.call 19 (.cons (.var 0) (.cons (.call 17 (.cons (.var 0) (.cons (.var 5) (.cons (.var 5) .nil)))) (.cons (.var 3) .nil))))) (.seq (.aug 2 .fdiv (.const (dI 2))) .skip)))) (.seq (.ret (.var 4)) .skip))))⟩
/-- all_rows(told, long) : told=0 long=1 found=2 turn=3 row=4 one=5 -/
def k19_f21 : Fn := ⟨2, 4, [false, false],
  (.seq (.ite (.cmp .gt (.call 4 (.cons (.idx (.var 0) (.const (dI 1))) (.cons (.var 1) .nil))) (.glob 1)) (.seq (.raise 2 (.cons (.const (dS "words")) .nil)) .skip) .skip) (.seq (.asg (.name 2) (.lst (.cons (.tup .nil) .nil))) (.seq (.for_ (.name 3) (.range1 (.var 1)) (.seq (.asg (.name 2) (.comp2 (.name 4) (.seq (.var 2)) (.name 5) (.range1 (.idx (.var 0) (.const (dI 1)))) (.const (.bool true)) (.bin .add (.var 4) (.tup (.cons (.var 5) .nil))))) .skip)) (.seq (.ret (.var 2)) .skip))))⟩
/-- gone_on(told, rule, first, long) : told=0 rule=1 first=2 long=3 found=4 total=5 back=6 by=7 -/
def k19_f22 : Fn := ⟨4, 4, [false, false, false, false],
  (.seq (.asg (.name 4) (.prim .list (.cons (.slice (.var 2) (.const .none) (.var 3)) .nil))) (.seq (.while_ (.cmp .lt (.prim .len (.cons (.var 4) .nil)) (.var 3)) (.seq (.asg (.name 5) (.const (dI 0))) (.seq (.for_ (.two (.name 6) (.name 7)) (.enum (.var 1)) (.seq (.asg (.name 5) (.call 9 (.cons (.var 0) (.cons (.var 5) (.cons (.call 10 (.cons (.var 0) (.cons (.var 7) (.cons (.idx (.var 4) (.bin .sub (.neg (.const (dI 1))) (.var 6))) .nil)))) .nil))))) .skip)) (.seq (.expr (.append 4 (.var 5))) .skip)))) (.seq (.ret (.prim .tuple (.cons (.var 4) .nil))) .skip)))⟩
/-- rule_of(told, p) : told=0 p=1 one=2 -/
def k19_f23 : Fn := ⟨2, 1, [false, false],
  (.seq (.expr (.call 15 (.cons (.var 0) (.cons (.var 1) .nil)))) (.seq (.ite (.or (.not (.var 1)) (.cmp .ne (.idx (.var 1) (.neg (.const (dI 1)))) (.const (dI 1)))) (.seq (.raise 1 (.cons (.const (dS "polynomial")) .nil)) .skip) .skip) (.seq (.ret (.prim .tuple (.cons (.comp (.name 2) (.seq (.rev (.slice (.var 1) (.const .none) (.neg (.const (dI 1)))))) (.const (.bool true)) (.call 11 (.cons (.var 0) (.cons (.var 2) .nil)))) .nil))) .skip)))⟩
/-- is_greatest(told, p) : told=0 p=1 high=2 many=3 turn=4 part=5 -/
def k19_f24 : Fn := ⟨2, 4, [false, false],
  (.seq (.asg (.name 2) (.call 16 (.cons (.var 1) .nil))) (.seq (.ite (.or (.cmp .lt (.var 2) (.const (dI 1))) (.not (.idx (.var 1) (.const (dI 0))))) (.seq (.ret (.const (.bool false))) .skip) .skip) (.seq (.asg (.name 3) (.idx (.var 0) (.const (dI 1)))) (.seq (.for_ (.name 4) (.range1 (.bin .sub (.var 2) (.const (dI 1)))) (.seq (.aug 3 .mul (.idx (.var 0) (.const (dI 1)))) .skip)) (.seq (.ite (.cmp .ne (.call 20 (.cons (.var 0) (.cons (.tup (.cons (.const (dI 0)) (.cons (.const (dI 1)) .nil))) (.cons (.bin .sub (.var 3) (.const (dI 1))) (.cons (.var 1) .nil))))) (.call 19 (.cons (.var 0) (.cons (.tup (.cons (.const (dI 1)) .nil)) (.cons (.var 1) .nil))))) (.seq (.ret (.const (.bool false))) .skip) .skip) (.seq (.for_ (.name 5) (.seq (.call 25 (.cons (.bin .sub (.var 3) (.const (dI 1))) .nil))) (.seq (.ite (.cmp .eq (.call 20 (.cons (.var 0) (.cons (.tup (.cons (.const (dI 0)) (.cons (.const (dI 1)) .nil))) (.cons (.bin .fdiv (.bin .sub (.var 3) (.const (dI 1))) (.var 5)) (.cons (.var 1) .nil))))) (.call 19 (.cons (.var 0) (.cons (.tup (.cons (.const (dI 1)) .nil)) (.cons (.var 1) .nil))))) (.seq (.ret (.const (.bool false))) .skip) .skip) .skip)) (.seq (.ret (.const (.bool true))) .skip)))))))⟩
/-- prime_parts(number) : number=0 found=1 one=2 -/
def k19_f25 : Fn := ⟨1, 2, [false],
  (.seq (.asg (.name 1) (.lst .nil)) (.seq (.asg (.name 2) (.const (dI 2))) (.seq (.while_ (.cmp .gt (.var 0) (.const (dI 1))) (.seq (.ite (.cmp .eq (.bin .mod (.var 0) (.var 2)) (.const (dI 0))) (.seq (.expr (.append 1 (.var 2))) (.seq (.while_ (.cmp .eq (.bin .mod (.var 0) (.var 2)) (.const (dI 0))) (.seq (.aug 0 .fdiv (.var 2)) .skip)) .skip)) .skip) (.seq (.aug 2 .add (.const (dI 1))) .skip))) (.seq (.ret (.var 1)) .skip))))⟩
/-- greatest(size, high) : size=0 high=1 told=2 low=3 p=4 -/
def k19_f26 : Fn := ⟨2, 3, [false, false],
  (.seq (.asg (.name 2) (.call 8 (.cons (.var 0) .nil))) (.seq (.for_ (.name 3) (.seq (.call 21 (.cons (.var 2) (.cons (.var 1) .nil)))) (.seq (.asg (.name 4) (.bin .add (.var 3) (.tup (.cons (.const (dI 1)) .nil)))) (.seq (.ite (.call 24 (.cons (.var 2) (.cons (.var 4) .nil))) (.seq (.ret (.var 4)) .skip) .skip) .skip))) (.seq (.raise 1 (.cons (.const (dS "degree")) .nil)) .skip)))⟩
/-- greatest_row(size, high) : size=0 high=1 told=2 rule=3 many=4 turn=5 -/
def k19_f27 : Fn := ⟨2, 4, [false, false],
  (.seq (.asg (.name 2) (.call 8 (.cons (.var 0) .nil))) (.seq (.asg (.name 3) (.call 23 (.cons (.var 2) (.cons (.call 26 (.cons (.var 0) (.cons (.var 1) .nil))) .nil)))) (.seq (.asg (.name 4) (.const (dI 1))) (.seq (.for_ (.name 5) (.range1 (.var 1)) (.seq (.aug 4 .mul (.var 0)) .skip)) (.seq (.ret (.call 22 (.cons (.var 2) (.cons (.var 3) (.cons (.bin .add (.bin .mul (.tup (.cons (.const (dI 0)) .nil)) (.bin .sub (.var 1) (.const (dI 1)))) (.tup (.cons (.const (dI 1)) .nil))) (.cons (.bin .sub (.var 4) (.const (dI 1))) .nil)))))) .skip)))))⟩
/-- likeness(row, shift) : row=0 shift=1 long=2 alike=3 at=4 -/
def k19_f28 : Fn := ⟨2, 3, [false, false],
  (.seq (.asg (.name 2) (.prim .len (.cons (.var 0) .nil))) (.seq (.asg (.name 3) (.prim .len (.cons (.comp (.name 4) (.range1 (.var 2)) (.cmp .eq (.idx (.var 0) (.var 4)) (.idx (.var 0) (.bin .mod (.bin .add (.var 4) (.var 1)) (.var 2)))) (.const (dI 1))) .nil))) (.seq (.ret (.bin .sub (.bin .mul (.const (dI 2)) (.var 3)) (.var 2))) .skip)))⟩
/-- all_words_row(size, long) : size=0 long=1 found=2 row=3 -/
def k19_f29 : Fn := ⟨2, 2, [false, false],
  (.seq (.expr (.call 8 (.cons (.var 0) .nil))) (.seq (.ite (.or (.not (.call 0 (.cons (.var 1) .nil))) (.not (.chain .le .le (.const (dI 1)) (.var 1) (.const (dI 6))))) (.seq (.raise 1 (.cons (.const (dS "long")) .nil)) .skip) .skip) (.seq (.asg (.name 2) (.lst .nil)) (.seq (.for_ (.name 3) (.seq (.call 30 (.cons (.var 0) (.cons (.var 1) .nil)))) (.seq (.aug 2 .add (.prim .list (.cons (.var 3) .nil))) .skip)) (.seq (.ret (.prim .tuple (.cons (.var 2) .nil))) .skip)))))⟩
/-- necklaces(size, long) : size=0 long=1 found=2 row=3 -/
def k19_f30 : Fn := ⟨2, 2, [false, false],
  (.seq (.asg (.name 2) (.lst .nil)) (.seq (.asg (.name 3) (.lst (.cons (.const (dI 0)) .nil))) (.seq (.while_ (.var 3) (.seq (.ite (.cmp .eq (.bin .mod (.var 1) (.prim .len (.cons (.var 3) .nil))) (.const (dI 0))) (.seq (.expr (.append 2 (.prim .tuple (.cons (.var 3) .nil)))) .skip) .skip) (.seq (.asg (.name 3) (.slice (.bin .mul (.var 3) (.bin .add (.bin .fdiv (.var 1) (.prim .len (.cons (.var 3) .nil))) (.const (dI 1)))) (.const .none) (.var 1))) (.seq (.while_ (.and (.var 3) (.cmp .eq (.idx (.var 3) (.neg (.const (dI 1)))) (.bin .sub (.var 0) (.const (dI 1))))) (.seq (.expr (.pop 3)) .skip)) (.seq (.ite (.var 3) (.seq (.augset 3 (.neg (.const (dI 1))) .add (.const (dI 1))) .skip) .skip) .skip))))) (.seq (.ret (.var 2)) .skip))))⟩
/-- windows(row, long) : row=0 long=1 twice=2 at=3 -/
def k19_f31 : Fn := ⟨2, 2, [false, false],
  (.seq (.asg (.name 2) (.bin .add (.var 0) (.slice (.var 0) (.const .none) (.bin .sub (.var 1) (.const (dI 1)))))) (.seq (.ret (.comp (.name 3) (.range1 (.prim .len (.cons (.var 0) .nil))) (.const (.bool true)) (.slice (.var 2) (.var 3) (.bin .add (.var 3) (.var 1))))) .skip))⟩
/-- _law_digits(script, first, last) : script=0 first=1 last=2 digits_v=3 k=4 cell=5 turn=6 seed=7 -/
def k19_f32 : Fn := ⟨3, 5, [false, false, false],
  (.seq (.asg (.name 3) (.lst .nil)) (.seq (.for_ (.name 4) (.range2 (.var 1) (.var 2)) (.seq (.asg (.name 5) (.ite (.cmp .lt (.var 4) (.prim .len (.cons (.var 0) .nil))) (.idx (.var 0) (.var 4)) (.const (dI 0)))) (.seq (.ite (.cmp .lt (.var 5) (.const (dI 0))) (.seq (.asg (.name 5) (.bin .sub (.const (dI 1)) (.bin .mul (.const (dI 2)) (.var 5)))) .skip) .skip) (.seq (.ite (.cmp .ge (.var 5) (.const (dI 1000000000000000000))) (.seq (.for_ (.name 6) (.range1 (.const (dI 60))) (.seq (.ite (.cmp .gt (.var 5) (.const (dI 0))) (.seq (.expr (.append 3 (.bin .mod (.prim .int (.cons (.var 5) .nil)) (.const (dI 1009))))) (.seq (.asg (.name 5) (.bin .fdiv (.var 5) (.const (dI 1009)))) .skip)) .skip) .skip)) .skip) (.seq (.asg (.name 7) (.bin .mod (.prim .int (.cons (.bin .add (.bin .add (.bin .mul (.var 5) (.const (dI 40699))) (.bin .mul (.var 4) (.const (dI 52769)))) (.const (dI 31))) .nil)) (.const (dI 2147483399)))) (.seq (.for_ (.name 6) (.range1 (.const (dI 12))) (.seq (.asg (.name 7) (.bin .mod (.prim .int (.cons (.bin .add (.bin .add (.bin .mul (.var 7) (.const (dI 40014))) (.bin .mul (.const (dI 11)) (.var 6))) (.const (dI 7))) .nil)) (.const (dI 2147483563)))) (.seq (.expr (.append 3 (.bin .mod (.prim .int (.cons (.bin .fdiv (.var 7) (.const (dI 1013))) .nil)) (.const (dI 1009))))) .skip))) .skip))) .skip)))) (.seq (.ret (.var 3)) .skip)))⟩
/-- _law_draw(box, many) : box=0 many=1 at=2 -/
def k19_f33 : Fn := ⟨2, 1, [true, false],
  (.seq (.asg (.name 2) (.idx (.var 0) (.const (dI 1)))) (.seq (.set 0 (.const (dI 1)) (.bin .add (.var 2) (.const (dI 1)))) (.seq (.ite (.cmp .lt (.var 2) (.prim .len (.cons (.idx (.var 0) (.const (dI 0))) .nil))) (.seq (.ret (.bin .mod (.prim .int (.cons (.idx (.idx (.var 0) (.const (dI 0))) (.var 2)) .nil)) (.var 1))) .skip) .skip) (.seq (.ret (.bin .mod (.prim .int (.cons (.bin .add (.bin .add (.bin .add (.bin .mul (.bin .mul (.var 2) (.var 2)) (.const (dI 3))) (.bin .mul (.var 2) (.const (dI 4)))) (.bin .fdiv (.var 2) (.const (dI 3)))) (.const (dI 1))) .nil)) (.var 1))) .skip))))⟩
/-- _law_pick(box, things) : box=0 things=1 -/
def k19_f34 : Fn := ⟨2, 0, [true, false],
  (.seq (.ret (.idx (.var 1) (.call 33 (.cons (.var 0) (.cons (.prim .len (.cons (.var 1) .nil)) .nil))))) .skip)⟩
/-- _law_same(a, b) : a=0 b=1 -/
def k19_f35 : Fn := ⟨2, 0, [false, false],
  (.seq (.ret (.same (.var 0) (.var 1))) .skip)⟩
def k19_f36 : Fn := ⟨1, 0, [false], .bad 0⟩
/-- _law_figures(number, prime, many) : number=0 prime=1 many=2 found=3 turn=4 -/
def k19_f37 : Fn := ⟨3, 2, [false, false, false],
  (.seq (.asg (.name 3) (.lst .nil)) (.seq (.for_ (.name 4) (.range1 (.var 2)) (.seq (.expr (.append 3 (.bin .mod (.prim .int (.cons (.var 0) .nil)) (.var 1)))) (.seq (.asg (.name 0) (.bin .fdiv (.var 0) (.var 1))) .skip))) (.seq (.ret (.var 3)) .skip)))⟩
/-- _law_number(signs, prime) : signs=0 prime=1 found=2 sign=3 -/
def k19_f38 : Fn := ⟨2, 2, [false, false],
  (.seq (.asg (.name 2) (.const (dI 0))) (.seq (.for_ (.name 3) (.seq (.rev (.var 0))) (.seq (.asg (.name 2) (.bin .add (.bin .mul (.var 2) (.var 1)) (.var 3))) .skip)) (.seq (.ret (.prim .int (.cons (.var 2) .nil))) .skip)))⟩
/-- _law_power(base, many) : base=0 many=1 found=2 turn=3 -/
def k19_f39 : Fn := ⟨2, 2, [false, false],
  (.seq (.asg (.name 2) (.const (dI 1))) (.seq (.for_ (.name 3) (.range1 (.var 1)) (.seq (.asg (.name 2) (.bin .mul (.var 2) (.var 0))) .skip)) (.seq (.ret (.var 2)) .skip)))⟩
/-- _law_prime_of(size) : size=0 prime=1 many=2 left=3 turn=4 k=5 -/
def k19_f40 : Fn := ⟨1, 5, [false],
  (.seq (.asg (.name 1) (.idx (.comp (.name 5) (.range2 (.const (dI 2)) (.bin .add (.var 0) (.const (dI 1)))) (.cmp .eq (.bin .mod (.var 0) (.var 5)) (.const (dI 0))) (.var 5)) (.const (dI 0)))) (.seq (.asg (.name 2) (.const (dI 0))) (.seq (.asg (.name 3) (.var 0)) (.seq (.for_ (.name 4) (.range1 (.const (dI 6))) (.seq (.ite (.cmp .gt (.var 3) (.const (dI 1))) (.seq (.asg (.name 3) (.bin .fdiv (.var 3) (.var 1))) (.seq (.asg (.name 2) (.bin .add (.var 2) (.const (dI 1)))) .skip)) .skip) .skip)) (.seq (.ret (.tup (.cons (.prim .int (.cons (.var 1) .nil)) (.cons (.var 2) .nil)))) .skip)))))⟩
/-- _law_convolved(one, other, prime) : one=0 other=1 prime=2 found=3 i=4 j=5 -/
def k19_f41 : Fn := ⟨3, 3, [false, false, false],
  (.seq (.asg (.name 3) (.bin .mul (.lst (.cons (.const (dI 0)) .nil)) (.bin .sub (.bin .add (.prim .len (.cons (.var 0) .nil)) (.prim .len (.cons (.var 1) .nil))) (.const (dI 1))))) (.seq (.for_ (.name 4) (.range1 (.prim .len (.cons (.var 0) .nil))) (.seq (.for_ (.name 5) (.range1 (.prim .len (.cons (.var 1) .nil))) (.seq (.set 3 (.bin .add (.var 4) (.var 5)) (.bin .mod (.prim .int (.cons (.bin .add (.idx (.var 3) (.bin .add (.var 4) (.var 5))) (.bin .mul (.idx (.var 0) (.var 4)) (.idx (.var 1) (.var 5)))) .nil)) (.var 2))) .skip)) .skip)) (.seq (.ret (.var 3)) .skip)))⟩
/-- _law_least_poly(prime, many) : prime=0 many=1 number=2 signs=3 alone=4 high=5 low=6 -/
def k19_f42 : Fn := ⟨2, 5, [false, false],
  (.seq (.for_ (.name 2) (.range2 (.call 39 (.cons (.var 0) (.cons (.var 1) .nil))) (.bin .mul (.const (dI 2)) (.call 39 (.cons (.var 0) (.cons (.var 1) .nil))))) (.seq (.asg (.name 3) (.call 37 (.cons (.var 2) (.cons (.var 0) (.cons (.bin .add (.var 1) (.const (dI 1))) .nil))))) (.seq (.asg (.name 4) (.const (.bool true))) (.seq (.for_ (.name 5) (.range2 (.const (dI 1)) (.bin .add (.bin .fdiv (.var 1) (.const (dI 2))) (.const (dI 1)))) (.seq (.for_ (.name 6) (.range1 (.call 39 (.cons (.var 0) (.cons (.var 5) .nil)))) (.seq (.ite (.call 43 (.cons (.bin .add (.call 37 (.cons (.var 6) (.cons (.var 0) (.cons (.var 5) .nil)))) (.lst (.cons (.const (dI 1)) .nil))) (.cons (.var 3) (.cons (.var 0) .nil)))) (.seq (.asg (.name 4) (.const (.bool false))) .skip) .skip) .skip)) .skip)) (.seq (.ite (.var 4) (.seq (.ret (.var 3)) .skip) .skip) .skip))))) (.seq (.ret (.const .none)) .skip))⟩
/-- _law_divides(low, signs, prime) : low=0 signs=1 prime=2 left=3 at=4 by=5 k=6 -/
def k19_f43 : Fn := ⟨3, 4, [false, false, false],
  (.seq (.asg (.name 3) (.prim .list (.cons (.var 1) .nil))) (.seq (.for_ (.name 4) (.range3 (.bin .sub (.prim .len (.cons (.var 1) .nil)) (.prim .len (.cons (.var 0) .nil))) (.neg (.const (dI 1))) (.neg (.const (dI 1)))) (.seq (.asg (.name 5) (.idx (.var 3) (.bin .sub (.bin .add (.var 4) (.prim .len (.cons (.var 0) .nil))) (.const (dI 1))))) (.seq (.for_ (.name 6) (.range1 (.prim .len (.cons (.var 0) .nil))) (.seq (.set 3 (.bin .add (.var 4) (.var 6)) (.bin .mod (.prim .int (.cons (.bin .sub (.idx (.var 3) (.bin .add (.var 4) (.var 6))) (.bin .mul (.var 5) (.idx (.var 0) (.var 6)))) .nil)) (.var 2))) .skip)) .skip))) (.seq (.ret (.cmp .eq (.comp (.name 6) (.seq (.var 3)) (.cmp .ne (.var 6) (.const (dI 0))) (.var 6)) (.lst .nil))) .skip)))⟩
/-- _law_field(size) : size=0 by=1 a=2 prime=3 many=4 sums=5 rows=6 one=7 b=8 line=9 more=10 other=11 left=12 at=13 last=14 k=15 -/
def k19_f44 : Fn := ⟨1, 15, [false],
  (.seq (.asg (.two (.name 3) (.name 4)) (.call 40 (.cons (.var 0) .nil))) (.seq (.asg (.name 1) (.call 42 (.cons (.var 3) (.cons (.var 4) .nil)))) (.seq (.par2 5 6 (.lst .nil) (.lst .nil)) (.seq (.for_ (.name 2) (.range1 (.var 0)) (.seq (.asg (.name 7) (.call 37 (.cons (.var 2) (.cons (.var 3) (.cons (.var 4) .nil))))) (.seq (.par2 9 10 (.lst .nil) (.lst .nil)) (.seq (.for_ (.name 8) (.range1 (.var 0)) (.seq (.asg (.name 11) (.call 37 (.cons (.var 8) (.cons (.var 3) (.cons (.var 4) .nil))))) (.seq (.expr (.append 9 (.call 38 (.cons (.comp (.name 15) (.range1 (.var 4)) (.const (.bool true)) (.bin .mod (.prim .int (.cons (.bin .add (.idx (.var 7) (.var 15)) (.idx (.var 11) (.var 15))) .nil)) (.var 3))) (.cons (.var 3) .nil))))) (.seq (.asg (.name 12) (.call 41 (.cons (.var 7) (.cons (.var 11) (.cons (.var 3) .nil))))) (.seq (.for_ (.name 13) (.range3 (.bin .sub (.prim .len (.cons (.var 12) .nil)) (.const (dI 1))) (.bin .sub (.var 4) (.const (dI 1))) (.neg (.const (dI 1)))) (.seq (.asg (.name 14) (.idx (.var 12) (.var 13))) (.seq (.for_ (.name 15) (.range1 (.bin .add (.var 4) (.const (dI 1)))) (.seq (.set 12 (.bin .add (.bin .sub (.var 13) (.var 4)) (.var 15)) (.bin .mod (.prim .int (.cons (.bin .sub (.idx (.var 12) (.bin .add (.bin .sub (.var 13) (.var 4)) (.var 15))) (.bin .mul (.var 14) (.idx (.var 1) (.var 15)))) .nil)) (.var 3))) .skip)) .skip))) (.seq (.expr (.append 10 (.call 38 (.cons (.slice (.var 12) (.const .none) (.var 4)) (.cons (.var 3) .nil))))) .skip)))))) (.seq (.expr (.append 5 (.var 9))) (.seq (.expr (.append 6 (.var 10))) .skip)))))) (.seq (.ret (.lst (.cons (.var 0) (.cons (.var 5) (.cons (.var 6) .nil))))) .skip)))))⟩
/-- _law_minus(f, a, b) : f=0 a=1 b=2 -/
def k19_f45 : Fn := ⟨3, 0, [false, false, false],
  (.seq (.ret (.idx (.idx (.idx (.var 0) (.const (dI 1))) (.var 1)) (.meth .index (.idx (.idx (.var 0) (.const (dI 1))) (.var 2)) (.cons (.const (dI 0)) .nil)))) .skip)⟩
/-- _law_over(f, a) : f=0 a=1 -/
def k19_f46 : Fn := ⟨2, 0, [false, false],
  (.seq (.ret (.meth .index (.idx (.idx (.var 0) (.const (dI 2))) (.var 1)) (.cons (.const (dI 1)) .nil))) .skip)⟩
/-- _law_all_rows(size, long) : size=0 long=1 found=2 turn=3 later=4 row=5 k=6 -/
def k19_f47 : Fn := ⟨2, 5, [false, false],
  (.seq (.asg (.name 2) (.lst (.cons (.tup .nil) .nil))) (.seq (.for_ (.name 3) (.range1 (.var 1)) (.seq (.asg (.name 4) (.lst .nil)) (.seq (.for_ (.name 5) (.seq (.var 2)) (.seq (.asg (.name 4) (.bin .add (.var 4) (.comp (.name 6) (.range1 (.var 0)) (.const (.bool true)) (.bin .add (.var 5) (.tup (.cons (.prim .int (.cons (.var 6) .nil)) .nil)))))) .skip)) (.seq (.asg (.name 2) (.var 4)) .skip)))) (.seq (.ret (.var 2)) .skip)))⟩
/-- _law_drawn_row(box, size, long) : box=0 size=1 long=2 k=3 -/
def k19_f48 : Fn := ⟨3, 1, [true, false, false],
  (.seq (.ret (.prim .tuple (.cons (.comp (.name 3) (.range1 (.var 2)) (.const (.bool true)) (.call 33 (.cons (.var 0) (.cons (.var 1) .nil)))) .nil))) .skip)⟩
/-- _law_poly(numbers) : numbers=0 found=1 turn=2 -/
def k19_f49 : Fn := ⟨1, 2, [false],
  (.seq (.asg (.name 1) (.prim .list (.cons (.var 0) .nil))) (.seq (.for_ (.name 2) (.range1 (.prim .len (.cons (.var 0) .nil))) (.seq (.ite (.and (.cmp .ne (.var 1) (.lst .nil)) (.cmp .eq (.idx (.var 1) (.neg (.const (dI 1)))) (.const (dI 0)))) (.seq (.expr (.pop 1)) .skip) .skip) .skip)) (.seq (.ret (.prim .tuple (.cons (.var 1) .nil))) .skip)))⟩
/-- _law_poly_rest(f, p, q) : f=0 p=1 q=2 left=3 by=4 told=5 at=6 k=7 -/
def k19_f50 : Fn := ⟨3, 5, [false, false, false],
  (.seq (.asg (.name 3) (.prim .list (.cons (.var 1) .nil))) (.seq (.asg (.name 4) (.call 46 (.cons (.var 0) (.cons (.idx (.var 2) (.neg (.const (dI 1)))) .nil)))) (.seq (.asg (.name 5) (.bin .mul (.lst (.cons (.const (dI 0)) .nil)) (.prim .max (.cons (.const (dI 0)) (.cons (.bin .add (.bin .sub (.prim .len (.cons (.var 1) .nil)) (.prim .len (.cons (.var 2) .nil))) (.const (dI 1))) .nil))))) (.seq (.for_ (.name 6) (.range3 (.bin .sub (.prim .len (.cons (.var 5) .nil)) (.const (dI 1))) (.neg (.const (dI 1))) (.neg (.const (dI 1)))) (.seq (.set 5 (.var 6) (.idx (.idx (.idx (.var 0) (.const (dI 2))) (.var 4)) (.idx (.var 3) (.bin .sub (.bin .add (.var 6) (.prim .len (.cons (.var 2) .nil))) (.const (dI 1)))))) (.seq (.for_ (.name 7) (.range1 (.prim .len (.cons (.var 2) .nil))) (.seq (.set 3 (.bin .add (.var 6) (.var 7)) (.call 45 (.cons (.var 0) (.cons (.idx (.var 3) (.bin .add (.var 6) (.var 7))) (.cons (.idx (.idx (.idx (.var 0) (.const (dI 2))) (.idx (.var 5) (.var 6))) (.idx (.var 2) (.var 7))) .nil))))) .skip)) .skip))) (.seq (.ret (.tup (.cons (.call 49 (.cons (.var 5) .nil)) (.cons (.call 49 (.cons (.var 3) .nil)) .nil)))) .skip)))))⟩
/-- _law_walk(f, p) : f=0 p=1 turn=2 here=3 many=4 -/
def k19_f51 : Fn := ⟨2, 3, [false, false],
  (.seq (.asg (.two (.name 3) (.name 4)) (.tup (.cons (.tup (.cons (.const (dI 1)) .nil)) (.cons (.const (dI 0)) .nil)))) (.seq (.for_ (.name 2) (.range1 (.bin .add (.call 39 (.cons (.idx (.var 0) (.const (dI 0))) (.cons (.bin .sub (.prim .len (.cons (.var 1) .nil)) (.const (dI 1))) .nil))) (.const (dI 1)))) (.seq (.ite (.or (.cmp .eq (.var 4) (.const (dI 0))) (.cmp .ne (.var 3) (.tup (.cons (.const (dI 1)) .nil)))) (.seq (.asg (.name 3) (.idx (.call 50 (.cons (.var 0) (.cons (.bin .add (.tup (.cons (.const (dI 0)) .nil)) (.var 3)) (.cons (.var 1) .nil)))) (.const (dI 1)))) (.seq (.asg (.name 4) (.bin .add (.var 4) (.const (dI 1)))) (.seq (.ite (.cmp .eq (.var 3) (.tup .nil)) (.seq (.ret (.const (dI 0))) .skip) .skip) .skip))) .skip) .skip)) (.seq (.ret (.ite (.cmp .eq (.var 3) (.tup (.cons (.const (dI 1)) .nil))) (.var 4) (.const (dI 0)))) .skip)))⟩
/-- _law_is_greatest(f, p) : f=0 p=1 -/
def k19_f52 : Fn := ⟨2, 0, [false, false],
  (.seq (.ret (.and (.cmp .gt (.prim .len (.cons (.var 1) .nil)) (.const (dI 1))) (.and (.cmp .ne (.idx (.var 1) (.const (dI 0))) (.const (dI 0))) (.cmp .eq (.call 51 (.cons (.var 0) (.cons (.var 1) .nil))) (.bin .sub (.call 39 (.cons (.idx (.var 0) (.const (dI 0))) (.cons (.bin .sub (.prim .len (.cons (.var 1) .nil)) (.const (dI 1))) .nil))) (.const (dI 1))))))) .skip)⟩
/-- law(script) : script=0 box=1 f=2 told=3 first=4 low=5 drawn=6 row=7 whole=8 twice=9 seen=10 k=11 bits=12 shift=13 alike=14 long=15 few=16 own=17 wide=18 line=19 made_v=20 one=21 again=22 bad=23 size=24 high=25 total=26 j=27 -/
def k19_f53 : Fn := ⟨1, 27, [false],
  (.seq (.asg (.name 1) (.lst (.cons (.call 32 (.cons (.var 0) (.cons (.const (dI 0)) (.cons (.const (dI 63)) .nil)))) (.cons (.const (dI 0)) .nil)))) (.seq (.asg (.two (.name 24) (.name 25)) (.call 34 (.cons (.var 1) (.cons (.lst (.cons (.tup (.cons (.const (dI 2)) (.cons (.const (dI 1)) .nil))) (.cons (.tup (.cons (.const (dI 2)) (.cons (.const (dI 2)) .nil))) (.cons (.tup (.cons (.const (dI 2)) (.cons (.const (dI 3)) .nil))) (.cons (.tup (.cons (.const (dI 2)) (.cons (.const (dI 4)) .nil))) (.cons (.tup (.cons (.const (dI 2)) (.cons (.const (dI 5)) .nil))) (.cons (.tup (.cons (.const (dI 3)) (.cons (.const (dI 1)) .nil))) (.cons (.tup (.cons (.const (dI 3)) (.cons (.const (dI 2)) .nil))) (.cons (.tup (.cons (.const (dI 3)) (.cons (.const (dI 3)) .nil))) (.cons (.tup (.cons (.const (dI 4)) (.cons (.const (dI 2)) .nil))) (.cons (.tup (.cons (.const (dI 5)) (.cons (.const (dI 2)) .nil))) (.cons (.tup (.cons (.const (dI 5)) (.cons (.const (dI 1)) .nil))) .nil)))))))))))) .nil)))) (.seq (.asg (.name 2) (.call 44 (.cons (.var 24) .nil))) (.seq (.asg (.name 3) (.call 8 (.cons (.var 24) .nil))) (.seq (.asg (.name 4) (.const .none)) (.seq (.for_ (.name 5) (.seq (.call 47 (.cons (.var 24) (.cons (.var 25) .nil)))) (.seq (.ite (.and (.cmp .isn (.var 4) (.const .none)) (.call 52 (.cons (.var 2) (.cons (.bin .add (.var 5) (.tup (.cons (.const (dI 1)) .nil))) .nil)))) (.seq (.asg (.name 4) (.bin .add (.var 5) (.tup (.cons (.const (dI 1)) .nil)))) .skip) .skip) .skip)) (.seq (.ite (.not (.call 35 (.cons (.call 26 (.cons (.var 24) (.cons (.var 25) .nil))) (.cons (.var 4) .nil)))) (.seq (.ret (.const (.bool false))) .skip) .skip) (.seq (.asg (.name 6) (.bin .add (.call 48 (.cons (.var 1) (.cons (.var 24) (.cons (.var 25) .nil)))) (.tup (.cons (.const (dI 1)) .nil)))) (.seq (.ite (.not (.call 35 (.cons (.call 24 (.cons (.var 3) (.cons (.var 6) .nil))) (.cons (.call 52 (.cons (.var 2) (.cons (.var 6) .nil))) .nil)))) (.seq (.ret (.const (.bool false))) .skip) .skip) (.seq (.asg (.name 7) (.call 27 (.cons (.var 24) (.cons (.var 25) .nil)))) (.seq (.asg (.name 8) (.bin .sub (.call 39 (.cons (.var 24) (.cons (.var 25) .nil))) (.const (dI 1)))) (.seq (.ite (.or (.cmp .ne (.prim .len (.cons (.var 7) .nil)) (.var 8)) (.cmp .ne (.slice (.var 7) (.const .none) (.var 25)) (.bin .add (.bin .mul (.tup (.cons (.const (dI 0)) .nil)) (.bin .sub (.var 25) (.const (dI 1)))) (.tup (.cons (.const (dI 1)) .nil))))) (.seq (.ret (.const (.bool false))) .skip) .skip) (.seq (.asg (.name 9) (.bin .add (.bin .add (.var 7) (.var 7)) (.var 7))) (.seq (.asg (.name 10) (.prim .sorted (.cons (.comp (.name 11) (.range1 (.var 8)) (.const (.bool true)) (.slice (.var 9) (.var 11) (.bin .add (.var 11) (.var 25)))) .nil))) (.seq (.ite (.or (.cmp .ne (.var 10) (.slice (.call 47 (.cons (.var 24) (.cons (.var 25) .nil))) (.const (dI 1)) (.const .none))) (.not (.call 35 (.cons (.prim .sorted (.cons (.call 31 (.cons (.var 7) (.cons (.var 25) .nil))) .nil)) (.cons (.var 10) .nil))))) (.seq (.ret (.const (.bool false))) .skip) .skip) (.seq (.for_ (.name 11) (.range1 (.var 8)) (.seq (.asg (.name 26) (.const (dI 0))) (.seq (.for_ (.name 27) (.range1 (.bin .add (.var 25) (.const (dI 1)))) (.seq (.asg (.name 26) (.idx (.idx (.idx (.var 2) (.const (dI 1))) (.var 26)) (.idx (.idx (.idx (.var 2) (.const (dI 2))) (.idx (.var 4) (.var 27))) (.idx (.var 9) (.bin .add (.var 11) (.var 27)))))) .skip)) (.seq (.ite (.cmp .ne (.var 26) (.const (dI 0))) (.seq (.ret (.const (.bool false))) .skip) .skip) .skip)))) (.seq (.ite (.cmp .eq (.var 24) (.const (dI 2))) (.seq (.for_ (.name 13) (.range1 (.var 8)) (.seq (.ite (.cmp .ne (.call 28 (.cons (.var 7) (.cons (.prim .int (.cons (.var 13) .nil)) .nil))) (.ite (.cmp .eq (.var 13) (.const (dI 0))) (.var 8) (.neg (.const (dI 1))))) (.seq (.ret (.const (.bool false))) .skip) .skip) .skip)) .skip) .skip) (.seq (.asg (.name 12) (.call 48 (.cons (.var 1) (.cons (.const (dI 2)) (.cons (.const (dI 6)) .nil))))) (.seq (.asg (.name 13) (.call 33 (.cons (.var 1) (.cons (.const (dI 6)) .nil)))) (.seq (.asg (.name 14) (.prim .len (.cons (.comp (.name 11) (.range1 (.const (dI 6))) (.cmp .eq (.idx (.var 12) (.var 11)) (.idx (.var 12) (.bin .mod (.bin .add (.var 11) (.var 13)) (.const (dI 6))))) (.var 11)) .nil))) (.seq (.ite (.cmp .ne (.call 28 (.cons (.var 12) (.cons (.var 13) .nil))) (.bin .sub (.bin .mul (.const (dI 2)) (.var 14)) (.const (dI 6)))) (.seq (.ret (.const (.bool false))) .skip) .skip) (.seq (.asg (.name 15) (.idx (.dic false (.cons (.tup (.cons (.const (dI 2)) (.cons (.const (dI 5)) .nil))) (.cons (.tup (.cons (.const (dI 3)) (.cons (.const (dI 3)) .nil))) (.cons (.tup (.cons (.const (dI 4)) (.cons (.const (dI 2)) .nil))) (.cons (.tup (.cons (.const (dI 5)) (.cons (.const (dI 2)) .nil))) .nil))))) (.var 24))) (.seq (.asg (.name 16) (.bin .add (.const (dI 1)) (.call 33 (.cons (.var 1) (.cons (.var 15) .nil))))) (.seq (.asg (.name 17) (.lst .nil)) (.seq (.for_ (.name 18) (.range2 (.const (dI 1)) (.bin .add (.var 16) (.const (dI 1)))) (.seq (.ite (.cmp .eq (.bin .mod (.var 16) (.var 18)) (.const (dI 0))) (.seq (.asg (.name 17) (.bin .add (.var 17) (.comp (.name 21) (.seq (.call 47 (.cons (.var 24) (.cons (.var 18) .nil)))) (.cmp .eq (.comp (.name 11) (.range2 (.const (dI 1)) (.var 18)) (.cmp .le (.bin .add (.slice (.var 21) (.var 11) (.const .none)) (.slice (.var 21) (.const .none) (.var 11))) (.var 21)) (.var 11)) (.lst .nil)) (.var 21)))) .skip) .skip) .skip)) (.seq (.ite (.not (.call 35 (.cons (.call 30 (.cons (.var 24) (.cons (.var 16) .nil))) (.cons (.prim .sorted (.cons (.var 17) .nil)) .nil)))) (.seq (.ret (.const (.bool false))) .skip) .skip) (.seq (.asg (.name 19) (.call 29 (.cons (.var 24) (.cons (.var 16) .nil)))) (.seq (.asg (.name 20) (.tup .nil)) (.seq (.for_ (.name 21) (.seq (.prim .sorted (.cons (.var 17) .nil))) (.seq (.asg (.name 20) (.bin .add (.var 20) (.var 21))) .skip)) (.seq (.asg (.name 22) (.bin .add (.var 19) (.var 19))) (.seq (.ite (.or (.not (.call 35 (.cons (.var 19) (.cons (.var 20) .nil)))) (.cmp .ne (.prim .sorted (.cons (.comp (.name 11) (.range1 (.prim .len (.cons (.var 19) .nil))) (.const (.bool true)) (.slice (.var 22) (.var 11) (.bin .add (.var 11) (.var 16)))) .nil)) (.call 47 (.cons (.var 24) (.cons (.var 16) .nil))))) (.seq (.ret (.const (.bool false))) .skip) .skip) (.seq (.asg (.name 23) (.call 34 (.cons (.var 1) (.cons (.lst (.cons (.const (dI 0)) (.cons (.const (dI 7)) (.cons (.const .none) (.cons (.const (.bool true)) .nil))))) .nil)))) (.seq (.ret (.cmp .eq (.told 36 (.call 29 (.cons (.var 24) (.cons (.var 23) .nil)))) (.lst (.cons (.const (dS "bad thing")) (.cons (.const (dS "long")) .nil))))) .skip)))))))))))))))))))))))))))))))))⟩
def k19_prog : Prog := ⟨[k19_f0, k19_f1, k19_f2, k19_f3, k19_f4, k19_f5, k19_f6, k19_f7, k19_f8, k19_f9, k19_f10, k19_f11, k19_f12, k19_f13, k19_f14, k19_f15, k19_f16, k19_f17, k19_f18, k19_f19, k19_f20, k19_f21, k19_f22, k19_f23, k19_f24, k19_f25, k19_f26, k19_f27, k19_f28, k19_f29, k19_f30, k19_f31, k19_f32, k19_f33, k19_f34, k19_f35, k19_f36, k19_f37, k19_f38, k19_f39, k19_f40, k19_f41, k19_f42, k19_f43, k19_f44, k19_f45, k19_f46, k19_f47, k19_f48, k19_f49, k19_f50, k19_f51, k19_f52, k19_f53], [(.tuple [(dI 2), (dI 3), (dI 4), (dI 5), (dI 7), (dI 8), (dI 9), (dI 11), (dI 13), (dI 16), (dI 17), (dI 25), (dI 27), (dI 32)]), (dI 20000)], [(36, [(1, (dS "bad thing"), 0), (3, (dS "refused"), 0), (2, (dS "too many"), 0)])]⟩
end MW
end
section
set_option Elab.async false
set_option linter.all false
set_option maxRecDepth 100000
set_option maxHeartbeats 0
namespace MW
open PySem PySem.Spec
namespace k19
def topS (i : Nat) : Stmt := (PySem.Challenge.pw_mendwords_k19_rows_of_all_words.main.body).getD i (.Pass ⟨0, 0, 0, 0⟩)
def k19_ds : List DefX := [
  ⟨k19_f0, [(Str.ofString "thing")], topS 7, (Str.ofString "is_integer")⟩,
  ⟨k19_f1, [(Str.ofString "size"), (Str.ofString "prime"), (Str.ofString "many"), (Str.ofString "left"), (Str.ofString "one")], topS 8, (Str.ofString "prime_of")⟩,
  ⟨k19_f2, [(Str.ofString "number"), (Str.ofString "prime"), (Str.ofString "many"), (Str.ofString "found"), (Str.ofString "turn")], topS 9, (Str.ofString "digits")⟩,
  ⟨k19_f3, [(Str.ofString "figures"), (Str.ofString "prime"), (Str.ofString "found"), (Str.ofString "figure")], topS 10, (Str.ofString "number_of")⟩,
  ⟨k19_f4, [(Str.ofString "base"), (Str.ofString "many"), (Str.ofString "found"), (Str.ofString "turn")], topS 11, (Str.ofString "whole_power")⟩,
  ⟨k19_f5, [(Str.ofString "one"), (Str.ofString "other"), (Str.ofString "prime"), (Str.ofString "found"), (Str.ofString "i"), (Str.ofString "a"), (Str.ofString "j"), (Str.ofString "b")], topS 12, (Str.ofString "plain_product")⟩,
  ⟨k19_f6, [(Str.ofString "prime"), (Str.ofString "many"), (Str.ofString "made"), (Str.ofString "low"), (Str.ofString "size"), (Str.ofString "found"), (Str.ofString "first"), (Str.ofString "second"), (Str.ofString "number"), (Str.ofString "one"), (Str.ofString "other")], topS 13, (Str.ofString "least_irreducible")⟩,
  ⟨k19_f7, [(Str.ofString "figures"), (Str.ofString "by"), (Str.ofString "prime"), (Str.ofString "many"), (Str.ofString "found"), (Str.ofString "last"), (Str.ofString "at"), (Str.ofString "place")], topS 14, (Str.ofString "lowered")⟩,
  ⟨k19_f8, [(Str.ofString "size"), (Str.ofString "by"), (Str.ofString "one"), (Str.ofString "prime"), (Str.ofString "many"), (Str.ofString "sums"), (Str.ofString "products"), (Str.ofString "first"), (Str.ofString "other"), (Str.ofString "line"), (Str.ofString "more"), (Str.ofString "second"), (Str.ofString "a"), (Str.ofString "b")], topS 15, (Str.ofString "field")⟩,
  ⟨k19_f9, [(Str.ofString "told"), (Str.ofString "one"), (Str.ofString "other")], topS 16, (Str.ofString "plus")⟩,
  ⟨k19_f10, [(Str.ofString "told"), (Str.ofString "one"), (Str.ofString "other")], topS 17, (Str.ofString "times")⟩,
  ⟨k19_f11, [(Str.ofString "told"), (Str.ofString "one")], topS 18, (Str.ofString "opposite")⟩,
  ⟨k19_f12, [(Str.ofString "told"), (Str.ofString "one"), (Str.ofString "other")], topS 19, (Str.ofString "minus")⟩,
  ⟨k19_f13, [(Str.ofString "told"), (Str.ofString "one")], topS 20, (Str.ofString "inverse")⟩,
  ⟨k19_f14, [(Str.ofString "numbers"), (Str.ofString "found")], topS 22, (Str.ofString "made")⟩,
  ⟨k19_f15, [(Str.ofString "told"), (Str.ofString "p"), (Str.ofString "one")], topS 23, (Str.ofString "check_poly")⟩,
  ⟨k19_f16, [(Str.ofString "p")], topS 24, (Str.ofString "degree")⟩,
  ⟨k19_f17, [(Str.ofString "told"), (Str.ofString "p"), (Str.ofString "q"), (Str.ofString "found"), (Str.ofString "i"), (Str.ofString "a"), (Str.ofString "j"), (Str.ofString "b")], topS 25, (Str.ofString "product")⟩,
  ⟨k19_f18, [(Str.ofString "told"), (Str.ofString "p"), (Str.ofString "q"), (Str.ofString "rest"), (Str.ofString "by"), (Str.ofString "quotient"), (Str.ofString "at"), (Str.ofString "number"), (Str.ofString "place"), (Str.ofString "one")], topS 26, (Str.ofString "divided")⟩,
  ⟨k19_f19, [(Str.ofString "told"), (Str.ofString "p"), (Str.ofString "q")], topS 27, (Str.ofString "rest")⟩,
  ⟨k19_f20, [(Str.ofString "told"), (Str.ofString "p"), (Str.ofString "many"), (Str.ofString "by"), (Str.ofString "found"), (Str.ofString "here")], topS 28, (Str.ofString "power_rest")⟩,
  ⟨k19_f21, [(Str.ofString "told"), (Str.ofString "long"), (Str.ofString "found"), (Str.ofString "turn"), (Str.ofString "row"), (Str.ofString "one")], topS 31, (Str.ofString "all_rows")⟩,
  ⟨k19_f22, [(Str.ofString "told"), (Str.ofString "rule"), (Str.ofString "first"), (Str.ofString "long"), (Str.ofString "found"), (Str.ofString "total"), (Str.ofString "back"), (Str.ofString "by")], topS 33, (Str.ofString "gone_on")⟩,
  ⟨k19_f23, [(Str.ofString "told"), (Str.ofString "p"), (Str.ofString "one")], topS 34, (Str.ofString "rule_of")⟩,
  ⟨k19_f24, [(Str.ofString "told"), (Str.ofString "p"), (Str.ofString "high"), (Str.ofString "many"), (Str.ofString "turn"), (Str.ofString "part")], topS 35, (Str.ofString "is_greatest")⟩,
  ⟨k19_f25, [(Str.ofString "number"), (Str.ofString "found"), (Str.ofString "one")], topS 36, (Str.ofString "prime_parts")⟩,
  ⟨k19_f26, [(Str.ofString "size"), (Str.ofString "high"), (Str.ofString "told"), (Str.ofString "low"), (Str.ofString "p")], topS 37, (Str.ofString "greatest")⟩,
  ⟨k19_f27, [(Str.ofString "size"), (Str.ofString "high"), (Str.ofString "told"), (Str.ofString "rule"), (Str.ofString "many"), (Str.ofString "turn")], topS 38, (Str.ofString "greatest_row")⟩,
  ⟨k19_f28, [(Str.ofString "row"), (Str.ofString "shift"), (Str.ofString "long"), (Str.ofString "alike"), (Str.ofString "at")], topS 39, (Str.ofString "likeness")⟩,
  ⟨k19_f29, [(Str.ofString "size"), (Str.ofString "long"), (Str.ofString "found"), (Str.ofString "row")], topS 40, (Str.ofString "all_words_row")⟩,
  ⟨k19_f30, [(Str.ofString "size"), (Str.ofString "long"), (Str.ofString "found"), (Str.ofString "row")], topS 41, (Str.ofString "necklaces")⟩,
  ⟨k19_f31, [(Str.ofString "row"), (Str.ofString "long"), (Str.ofString "twice"), (Str.ofString "at")], topS 42, (Str.ofString "windows")⟩,
  ⟨k19_f32, [(Str.ofString "script"), (Str.ofString "first"), (Str.ofString "last"), (Str.ofString "digits_v"), (Str.ofString "k"), (Str.ofString "cell"), (Str.ofString "turn"), (Str.ofString "seed")], topS 44, (Str.ofString "_law_digits")⟩,
  ⟨k19_f33, [(Str.ofString "box"), (Str.ofString "many"), (Str.ofString "at")], topS 45, (Str.ofString "_law_draw")⟩,
  ⟨k19_f34, [(Str.ofString "box"), (Str.ofString "things")], topS 46, (Str.ofString "_law_pick")⟩,
  ⟨k19_f35, [(Str.ofString "a"), (Str.ofString "b")], topS 47, (Str.ofString "_law_same")⟩,
  ⟨k19_f36, [(Str.ofString "call"), (Str.ofString "e")], topS 48, (Str.ofString "_law_told")⟩,
  ⟨k19_f37, [(Str.ofString "number"), (Str.ofString "prime"), (Str.ofString "many"), (Str.ofString "found"), (Str.ofString "turn")], topS 49, (Str.ofString "_law_figures")⟩,
  ⟨k19_f38, [(Str.ofString "signs"), (Str.ofString "prime"), (Str.ofString "found"), (Str.ofString "sign")], topS 50, (Str.ofString "_law_number")⟩,
  ⟨k19_f39, [(Str.ofString "base"), (Str.ofString "many"), (Str.ofString "found"), (Str.ofString "turn")], topS 51, (Str.ofString "_law_power")⟩,
  ⟨k19_f40, [(Str.ofString "size"), (Str.ofString "prime"), (Str.ofString "many"), (Str.ofString "left"), (Str.ofString "turn"), (Str.ofString "k")], topS 52, (Str.ofString "_law_prime_of")⟩,
  ⟨k19_f41, [(Str.ofString "one"), (Str.ofString "other"), (Str.ofString "prime"), (Str.ofString "found"), (Str.ofString "i"), (Str.ofString "j")], topS 53, (Str.ofString "_law_convolved")⟩,
  ⟨k19_f42, [(Str.ofString "prime"), (Str.ofString "many"), (Str.ofString "number"), (Str.ofString "signs"), (Str.ofString "alone"), (Str.ofString "high"), (Str.ofString "low")], topS 54, (Str.ofString "_law_least_poly")⟩,
  ⟨k19_f43, [(Str.ofString "low"), (Str.ofString "signs"), (Str.ofString "prime"), (Str.ofString "left"), (Str.ofString "at"), (Str.ofString "by"), (Str.ofString "k")], topS 55, (Str.ofString "_law_divides")⟩,
  ⟨k19_f44, [(Str.ofString "size"), (Str.ofString "by"), (Str.ofString "a"), (Str.ofString "prime"), (Str.ofString "many"), (Str.ofString "sums"), (Str.ofString "rows"), (Str.ofString "one"), (Str.ofString "b"), (Str.ofString "line"), (Str.ofString "more"), (Str.ofString "other"), (Str.ofString "left"), (Str.ofString "at"), (Str.ofString "last"), (Str.ofString "k")], topS 56, (Str.ofString "_law_field")⟩,
  ⟨k19_f45, [(Str.ofString "f"), (Str.ofString "a"), (Str.ofString "b")], topS 57, (Str.ofString "_law_minus")⟩,
  ⟨k19_f46, [(Str.ofString "f"), (Str.ofString "a")], topS 58, (Str.ofString "_law_over")⟩,
  ⟨k19_f47, [(Str.ofString "size"), (Str.ofString "long"), (Str.ofString "found"), (Str.ofString "turn"), (Str.ofString "later"), (Str.ofString "row"), (Str.ofString "k")], topS 59, (Str.ofString "_law_all_rows")⟩,
  ⟨k19_f48, [(Str.ofString "box"), (Str.ofString "size"), (Str.ofString "long"), (Str.ofString "k")], topS 60, (Str.ofString "_law_drawn_row")⟩,
  ⟨k19_f49, [(Str.ofString "numbers"), (Str.ofString "found"), (Str.ofString "turn")], topS 61, (Str.ofString "_law_poly")⟩,
  ⟨k19_f50, [(Str.ofString "f"), (Str.ofString "p"), (Str.ofString "q"), (Str.ofString "left"), (Str.ofString "by"), (Str.ofString "told"), (Str.ofString "at"), (Str.ofString "k")], topS 62, (Str.ofString "_law_poly_rest")⟩,
  ⟨k19_f51, [(Str.ofString "f"), (Str.ofString "p"), (Str.ofString "turn"), (Str.ofString "here"), (Str.ofString "many")], topS 63, (Str.ofString "_law_walk")⟩,
  ⟨k19_f52, [(Str.ofString "f"), (Str.ofString "p")], topS 64, (Str.ofString "_law_is_greatest")⟩]
def k19_dl : DefX := ⟨k19_f53, [(Str.ofString "script"), (Str.ofString "box"), (Str.ofString "f"), (Str.ofString "told"), (Str.ofString "first"), (Str.ofString "low"), (Str.ofString "drawn"), (Str.ofString "row"), (Str.ofString "whole"), (Str.ofString "twice"), (Str.ofString "seen"), (Str.ofString "k"), (Str.ofString "bits"), (Str.ofString "shift"), (Str.ofString "alike"), (Str.ofString "long"), (Str.ofString "few"), (Str.ofString "own"), (Str.ofString "wide"), (Str.ofString "line"), (Str.ofString "made_v"), (Str.ofString "one"), (Str.ofString "again"), (Str.ofString "bad"), (Str.ofString "size"), (Str.ofString "high"), (Str.ofString "total"), (Str.ofString "j")], topS 65, (Str.ofString "law")⟩
def k19_globs : List Str := [(Str.ofString "SIZES"), (Str.ofString "MOST_WORDS")]
def k19_exs : List (Str × Nat) := [((Str.ofString "MendError"), 0), ((Str.ofString "BadThing"), 1), ((Str.ofString "TooMany"), 1), ((Str.ofString "Refused"), 1)]
def k19_fls : List (List Str) := [[], [(Str.ofString "reason")], [(Str.ofString "what")], [(Str.ofString "reason")]]
def k19_tds : List (Nat × Str) := [(36, (Str.ofString "_law_told"))]
def k19_hnds : List Hnd := [((Str.ofString "BadThing"), (Str.ofString "e"), (Str.ofString "bad thing"), (Str.ofString "reason")), ((Str.ofString "Refused"), (Str.ofString "e"), (Str.ofString "refused"), (Str.ofString "reason")), ((Str.ofString "TooMany"), (Str.ofString "e"), (Str.ofString "too many"), (Str.ofString "what"))]
def L : LawD := ⟨PySem.Challenge.rw_mendwords_k19_rows_of_all_words, k19_prog, k19_ds, k19_dl, k19_globs, k19_exs, k19_fls, Str.ofString "MendError", k19_tds, k19_hnds⟩
theorem ok : L.Ok where
  defs := List.all_eq_true.mp (show (k19_ds.all L.okD) = true by decide +kernel)
  law := by decide +kernel
  told := List.all_eq_true.mp (show (k19_tds.all L.okT) = true by decide +kernel)
  pfn := rfl
  lg := rfl
  le := rfl
end k19
end MW
end
section
set_option Elab.async false
set_option linter.all false
set_option maxRecDepth 100000
set_option maxHeartbeats 0
namespace MW
open PySem PySem.Spec
namespace k19
abbrev R : PySem.W.OpenRow := PySem.W.OpenLaw.row PySem.Challenge.rw_mendwords_k19_rows_of_all_words
abbrev hk : PySem.W.Hook := hookM 5 L.fa L.fn L.tf L.ex
def ob (s : PySem.W.SharedT) : He.AlX := obsM 5 L.fa L.fn L.tf L.ex (HandSHeadRun.getT s)
theorem ob_eq (s : PySem.W.SharedT) : ob s = hk.obs s.abs := obsM_eq (HandSHeadRun.getT_eq s)
def loose : List Str := (L.ds.map (·.name)) ++ L.exs.map (·.1) ++ L.globs
theorem run (w : World) : HandSHeadRun.RunEq R (PySem.W.view R.prog [65]) hk ob 4000 loose w := by
  intro os
  kernel_rfl
end k19
end MW
end
section
set_option Elab.async false
set_option linter.all false
open PySem PySem.W PySem.Calls PyProof.Rows
set_option maxRecDepth 100000 in
set_option maxHeartbeats 0 in
theorem MW.k19.holds (T : MW.Told MW.k19.L) : PySem.Challenge.rw_mendwords_k19_rows_of_all_words.Holds := by
  w_on; o_law
  refine HandSHeadRun.head_any (r := OpenLaw.row PySem.Challenge.rw_mendwords_k19_rows_of_all_words) (q := view (OpenLaw.row PySem.Challenge.rw_mendwords_k19_rows_of_all_words).prog [65]) (H := MW.k19.hk) (ob := MW.k19.ob) (M := 4000) (loose := MW.k19.loose) (d := HandSHeadRun.topDef (OpenLaw.row PySem.Challenge.rw_mendwords_k19_rows_of_all_words).prog 65) (kwd := []) MW.k19.ob_eq
    (by kernel_rfl) (fun s => by kernel_rfl) MW.k19.run (by kernel_rfl) (by kernel_rfl) (by kernel_rfl) (by rfl) (by first | assumption | decide +kernel) (by decide +kernel) ⟨rfl, rfl, rfl, rfl, rfl, by decide +kernel⟩ ?hw ?hc
  case hw => w_witness2
  case hc => exact MW.law_walk MW.k19.ok T rfl rfl (by kernel_rfl) rfl rfl
end
section
set_option linter.all false
set_option maxRecDepth 100000
set_option maxHeartbeats 0
/-! TK: what k19's law answers. -/
namespace MW
namespace k19
open PySem
abbrev WF : Nat := 100
noncomputable abbrev xr (n : Nat) : Cx := xR k19_prog WF n
abbrev xk (n : Nat) : Cx := xK k19_prog WF n
abbrev bd : S := k19_f53.body
/-- the law's n-th statement -/
def st (n : Nat) : S := match dpS n bd with | .seq a _ => a | s => s
structure Pk where
  s : Nat
  h : Nat
  F : D
  T : D
  fi : D
abbrev fI (n : Nat) : Slot := .fz (.int n)
def e0 (b : D) : Env := [.no, .ow b, .no, .no, .no, .no, .no, .no, .no, .no, .no, .no, .no, .no, .no, .no, .no, .no, .no, .no, .no, .no, .no, .no, .no, .no, .no, .no]
def e1 (b : D) (z : Pk) : Env := [.no, .ow b, .no, .no, .no, .no, .no, .no, .no, .no, .no, .no, .no, .no, .no, .no, .no, .no, .no, .no, .no, .no, .no, .no, fI z.s, fI z.h, .no, .no]
def e2 (b : D) (z : Pk) : Env := [.no, .ow b, .ow z.F, .no, .no, .no, .no, .no, .no, .no, .no, .no, .no, .no, .no, .no, .no, .no, .no, .no, .no, .no, .no, .no, fI z.s, fI z.h, .no, .no]
def e3 (b : D) (z : Pk) : Env := [.no, .ow b, .ow z.F, .fz z.T, .no, .no, .no, .no, .no, .no, .no, .no, .no, .no, .no, .no, .no, .no, .no, .no, .no, .no, .no, .no, fI z.s, fI z.h, .no, .no]
def e4 (b : D) (z : Pk) : Env := [.no, .ow b, .fz z.F, .fz z.T, .fz z.fi, .no, .no, .no, .no, .no, .no, .no, .no, .no, .no, .no, .no, .no, .no, .no, .no, .no, .no, .no, fI z.s, fI z.h, .no, .no]
def e5 (b : D) (z : Pk) (d : D) : Env := [.no, .ow b, .fz z.F, .fz z.T, .fz z.fi, .no, .fz d, .no, .no, .no, .no, .no, .no, .no, .no, .no, .no, .no, .no, .no, .no, .no, .no, .no, fI z.s, fI z.h, .no, .no]
def e6 (b : D) (s : Nat) : Env := [.no, .ow b, .no, .no, .no, .no, .no, .no, .no, .no, .no, .no, .no, .no, .no, .no, .no, .no, .no, .no, .no, .no, .no, .no, fI s, .no, .no, .no]
def e7 (b : D) (s : Nat) (d : D) : Env := [.no, .ow b, .no, .no, .no, .no, .no, .no, .no, .no, .no, .no, .fz d, .no, .no, .no, .no, .no, .no, .no, .no, .no, .no, .no, fI s, .no, .no, .no]
def e8 (b : D) (s : Nat) (d : D) (k : Nat) : Env := [.no, .ow b, .no, .no, .no, .no, .no, .no, .no, .no, .no, .no, .fz d, fI k, .no, .no, .no, .no, .no, .no, .no, .no, .no, .no, fI s, .no, .no, .no]
def e9 (b : D) (s l : Nat) : Env := [.no, .ow b, .no, .no, .no, .no, .no, .no, .no, .no, .no, .no, .no, .no, .no, fI l, .no, .no, .no, .no, .no, .no, .no, .no, fI s, .no, .no, .no]
def eA (b : D) (s f : Nat) : Env := [.no, .ow b, .no, .no, .no, .no, .no, .no, .no, .no, .no, .no, .no, .no, .no, .no, fI f, .no, .no, .no, .no, .no, .no, .no, fI s, .no, .no, .no]
def eB (b : D) (s : Nat) (d : D) : Env := [.no, .ow b, .no, .no, .no, .no, .no, .no, .no, .no, .no, .no, .no, .no, .no, .no, .no, .no, .no, .no, .no, .no, .no, .fz d, fI s, .no, .no, .no]
def rowD1 (r : List Nat) : D := .tuple (r.map (fun n : Nat => .int n) ++ [.int 1])
def rowD0 (r : List Nat) : D := .tuple (r.map fun n : Nat => .int n)
def bads : List D := [.int 0, .int 7, .none, .bool true]
/-- the facts of a pick -/
structure Fc (z : Pk) : Prop where
  a2 : ∀ b, exR (xr 12) (st 2) (e1 b z) = .ok .next (e2 b z)
  a3 : ∀ b, exR (xr 12) (st 3) (e2 b z) = .ok .next (e3 b z)
  a4 : ∀ b, trimR [5] (exR (xr 12) (tkS 3 (dpS 4 bd)) (e3 b z)) = .ok .next (e4 b z)
  a8 : ∀ b, (rws z.s z.h).map (fun r => exR (xr 12) (st 8) (e5 b z (rowD1 r))) = (rws z.s z.h).map fun r => .ok .next (e5 b z (rowD1 r))
  a9 : ∀ b, trimR [2, 3, 4, 7, 8, 9, 10, 11, 13, 25, 26, 27] (exR (xr 12) (tkS 8 (dpS 9 bd)) (e4 b z)) = .ok .next (e6 b z.s)
/-- .. of a size; l: the longest row -/
structure Fs (s l : Nat) : Prop where
  c21 : ∀ b, exR (xr 12) (st 21) (e6 b s) = .ok .next (e9 b s l)
  c23 : ∀ b, ∀ f, f < l → trimR [11, 16, 17, 18, 19, 20, 21, 22] (exR (xr 12) (tkS 8 (dpS 23 bd)) (eA b s (f + 1))) = .ok .next (e6 b s)
  c32 : ∀ b, ∀ d ∈ bads, trimR [23, 24] (exR (xr 12) (st 32) (eB b s d)) = .ok (.ret false (.bool true)) (dropS [23, 24] (eB b s d))
  lp : 0 < l
end k19
end MW
end
section
set_option linter.all false
set_option maxRecDepth 100000
set_option maxHeartbeats 0
/-! TF: the kernel's facts. -/
namespace MW
namespace k19
open PySem

def rs2 : D := .list [.list [.int 0, .int 1], .list [.int 1, .int 0]]
def rm2 : D := .list [.list [.int 0, .int 0], .list [.int 0, .int 1]]
def ts2 : D := .tuple [.dict [(.none, .tuple [.int 0, .int 1])], .dict [(.none, .tuple [.int 1, .int 0])]]
def tm2 : D := .tuple [.dict [(.none, .tuple [.int 0, .int 0])], .dict [(.none, .tuple [.int 0, .int 1])]]
theorem c21_2 : ∀ b, exR (xr 12) (st 21) (e6 b 2) = .ok .next (e9 b 2 5) := by intro b; kernel_rfl
theorem c23_2_0 : ∀ b, trimR [11, 16, 17, 18, 19, 20, 21, 22] (exR (xr 12) (tkS 8 (dpS 23 bd)) (eA b 2 (0 + 1))) = .ok .next (e6 b 2) := by intro b; kernel_rfl
theorem c23_2_1 : ∀ b, trimR [11, 16, 17, 18, 19, 20, 21, 22] (exR (xr 12) (tkS 8 (dpS 23 bd)) (eA b 2 (1 + 1))) = .ok .next (e6 b 2) := by intro b; kernel_rfl
theorem c23_2_2 : ∀ b, trimR [11, 16, 17, 18, 19, 20, 21, 22] (exR (xr 12) (tkS 8 (dpS 23 bd)) (eA b 2 (2 + 1))) = .ok .next (e6 b 2) := by intro b; kernel_rfl
theorem c23_2_3 : ∀ b, trimR [11, 16, 17, 18, 19, 20, 21, 22] (exR (xr 12) (tkS 8 (dpS 23 bd)) (eA b 2 (3 + 1))) = .ok .next (e6 b 2) := by intro b; kernel_rfl
theorem c23_2_4 : ∀ b, trimR [11, 16, 17, 18, 19, 20, 21, 22] (exR (xr 12) (tkS 8 (dpS 23 bd)) (eA b 2 (4 + 1))) = .ok .next (e6 b 2) := by intro b; kernel_rfl
theorem c32_2 : ∀ b, ∀ d ∈ bads, trimR [23, 24] (exR (xr 12) (st 32) (eB b 2 d)) = .ok (.ret false (.bool true)) (dropS [23, 24] (eB b 2 d)) := by
  intro b
  unfold bads
  repeat refine List.forall_mem_cons.2 ⟨by kernel_rfl, ?_⟩
  exact fun d h => nomatch h
theorem s2 : Fs 2 5 where
  c21 := c21_2
  c23 := fun b => (ltS (P := fun f => trimR [11, 16, 17, 18, 19, 20, 21, 22] (exR (xr 12) (tkS 8 (dpS 23 bd)) (eA b 2 (f + 1))) = .ok .next (e6 b 2)) (ltS (P := fun f => trimR [11, 16, 17, 18, 19, 20, 21, 22] (exR (xr 12) (tkS 8 (dpS 23 bd)) (eA b 2 (f + 1))) = .ok .next (e6 b 2)) (ltS (P := fun f => trimR [11, 16, 17, 18, 19, 20, 21, 22] (exR (xr 12) (tkS 8 (dpS 23 bd)) (eA b 2 (f + 1))) = .ok .next (e6 b 2)) (ltS (P := fun f => trimR [11, 16, 17, 18, 19, 20, 21, 22] (exR (xr 12) (tkS 8 (dpS 23 bd)) (eA b 2 (f + 1))) = .ok .next (e6 b 2)) (ltS (P := fun f => trimR [11, 16, 17, 18, 19, 20, 21, 22] (exR (xr 12) (tkS 8 (dpS 23 bd)) (eA b 2 (f + 1))) = .ok .next (e6 b 2)) lt0 (c23_2_0 b)) (c23_2_1 b)) (c23_2_2 b)) (c23_2_3 b)) (c23_2_4 b))
  c32 := c32_2
  lp := by decide
def rs3 : D := .list [.list [.int 0, .int 1, .int 2], .list [.int 1, .int 2, .int 0], .list [.int 2, .int 0, .int 1]]
def rm3 : D := .list [.list [.int 0, .int 0, .int 0], .list [.int 0, .int 1, .int 2], .list [.int 0, .int 2, .int 1]]
def ts3 : D := .tuple [.dict [(.none, .tuple [.int 0, .int 1, .int 2])], .dict [(.none, .tuple [.int 1, .int 2, .int 0])], .dict [(.none, .tuple [.int 2, .int 0, .int 1])]]
def tm3 : D := .tuple [.dict [(.none, .tuple [.int 0, .int 0, .int 0])], .dict [(.none, .tuple [.int 0, .int 1, .int 2])], .dict [(.none, .tuple [.int 0, .int 2, .int 1])]]
theorem c21_3 : ∀ b, exR (xr 12) (st 21) (e6 b 3) = .ok .next (e9 b 3 3) := by intro b; kernel_rfl
theorem c23_3_0 : ∀ b, trimR [11, 16, 17, 18, 19, 20, 21, 22] (exR (xr 12) (tkS 8 (dpS 23 bd)) (eA b 3 (0 + 1))) = .ok .next (e6 b 3) := by intro b; kernel_rfl
theorem c23_3_1 : ∀ b, trimR [11, 16, 17, 18, 19, 20, 21, 22] (exR (xr 12) (tkS 8 (dpS 23 bd)) (eA b 3 (1 + 1))) = .ok .next (e6 b 3) := by intro b; kernel_rfl
theorem c23_3_2 : ∀ b, trimR [11, 16, 17, 18, 19, 20, 21, 22] (exR (xr 12) (tkS 8 (dpS 23 bd)) (eA b 3 (2 + 1))) = .ok .next (e6 b 3) := by intro b; kernel_rfl
theorem c32_3 : ∀ b, ∀ d ∈ bads, trimR [23, 24] (exR (xr 12) (st 32) (eB b 3 d)) = .ok (.ret false (.bool true)) (dropS [23, 24] (eB b 3 d)) := by
  intro b
  unfold bads
  repeat refine List.forall_mem_cons.2 ⟨by kernel_rfl, ?_⟩
  exact fun d h => nomatch h
theorem s3 : Fs 3 3 where
  c21 := c21_3
  c23 := fun b => (ltS (P := fun f => trimR [11, 16, 17, 18, 19, 20, 21, 22] (exR (xr 12) (tkS 8 (dpS 23 bd)) (eA b 3 (f + 1))) = .ok .next (e6 b 3)) (ltS (P := fun f => trimR [11, 16, 17, 18, 19, 20, 21, 22] (exR (xr 12) (tkS 8 (dpS 23 bd)) (eA b 3 (f + 1))) = .ok .next (e6 b 3)) (ltS (P := fun f => trimR [11, 16, 17, 18, 19, 20, 21, 22] (exR (xr 12) (tkS 8 (dpS 23 bd)) (eA b 3 (f + 1))) = .ok .next (e6 b 3)) lt0 (c23_3_0 b)) (c23_3_1 b)) (c23_3_2 b))
  c32 := c32_3
  lp := by decide
def rs4 : D := .list [.list [.int 0, .int 1, .int 2, .int 3], .list [.int 1, .int 0, .int 3, .int 2], .list [.int 2, .int 3, .int 0, .int 1], .list [.int 3, .int 2, .int 1, .int 0]]
def rm4 : D := .list [.list [.int 0, .int 0, .int 0, .int 0], .list [.int 0, .int 1, .int 2, .int 3], .list [.int 0, .int 2, .int 3, .int 1], .list [.int 0, .int 3, .int 1, .int 2]]
def ts4 : D := .tuple [.dict [(.none, .tuple [.int 0, .int 1, .int 2, .int 3])], .dict [(.none, .tuple [.int 1, .int 0, .int 3, .int 2])], .dict [(.none, .tuple [.int 2, .int 3, .int 0, .int 1])], .dict [(.none, .tuple [.int 3, .int 2, .int 1, .int 0])]]
def tm4 : D := .tuple [.dict [(.none, .tuple [.int 0, .int 0, .int 0, .int 0])], .dict [(.none, .tuple [.int 0, .int 1, .int 2, .int 3])], .dict [(.none, .tuple [.int 0, .int 2, .int 3, .int 1])], .dict [(.none, .tuple [.int 0, .int 3, .int 1, .int 2])]]
theorem c21_4 : ∀ b, exR (xr 12) (st 21) (e6 b 4) = .ok .next (e9 b 4 2) := by intro b; kernel_rfl
theorem c23_4_0 : ∀ b, trimR [11, 16, 17, 18, 19, 20, 21, 22] (exR (xr 12) (tkS 8 (dpS 23 bd)) (eA b 4 (0 + 1))) = .ok .next (e6 b 4) := by intro b; kernel_rfl
theorem c23_4_1 : ∀ b, trimR [11, 16, 17, 18, 19, 20, 21, 22] (exR (xr 12) (tkS 8 (dpS 23 bd)) (eA b 4 (1 + 1))) = .ok .next (e6 b 4) := by intro b; kernel_rfl
theorem c32_4 : ∀ b, ∀ d ∈ bads, trimR [23, 24] (exR (xr 12) (st 32) (eB b 4 d)) = .ok (.ret false (.bool true)) (dropS [23, 24] (eB b 4 d)) := by
  intro b
  unfold bads
  repeat refine List.forall_mem_cons.2 ⟨by kernel_rfl, ?_⟩
  exact fun d h => nomatch h
theorem s4 : Fs 4 2 where
  c21 := c21_4
  c23 := fun b => (ltS (P := fun f => trimR [11, 16, 17, 18, 19, 20, 21, 22] (exR (xr 12) (tkS 8 (dpS 23 bd)) (eA b 4 (f + 1))) = .ok .next (e6 b 4)) (ltS (P := fun f => trimR [11, 16, 17, 18, 19, 20, 21, 22] (exR (xr 12) (tkS 8 (dpS 23 bd)) (eA b 4 (f + 1))) = .ok .next (e6 b 4)) lt0 (c23_4_0 b)) (c23_4_1 b))
  c32 := c32_4
  lp := by decide
def rs5 : D := .list [.list [.int 0, .int 1, .int 2, .int 3, .int 4], .list [.int 1, .int 2, .int 3, .int 4, .int 0], .list [.int 2, .int 3, .int 4, .int 0, .int 1], .list [.int 3, .int 4, .int 0, .int 1, .int 2], .list [.int 4, .int 0, .int 1, .int 2, .int 3]]
def rm5 : D := .list [.list [.int 0, .int 0, .int 0, .int 0, .int 0], .list [.int 0, .int 1, .int 2, .int 3, .int 4], .list [.int 0, .int 2, .int 4, .int 1, .int 3], .list [.int 0, .int 3, .int 1, .int 4, .int 2], .list [.int 0, .int 4, .int 3, .int 2, .int 1]]
def ts5 : D := .tuple [.dict [(.none, .tuple [.int 0, .int 1, .int 2, .int 3, .int 4])], .dict [(.none, .tuple [.int 1, .int 2, .int 3, .int 4, .int 0])], .dict [(.none, .tuple [.int 2, .int 3, .int 4, .int 0, .int 1])], .dict [(.none, .tuple [.int 3, .int 4, .int 0, .int 1, .int 2])], .dict [(.none, .tuple [.int 4, .int 0, .int 1, .int 2, .int 3])]]
def tm5 : D := .tuple [.dict [(.none, .tuple [.int 0, .int 0, .int 0, .int 0, .int 0])], .dict [(.none, .tuple [.int 0, .int 1, .int 2, .int 3, .int 4])], .dict [(.none, .tuple [.int 0, .int 2, .int 4, .int 1, .int 3])], .dict [(.none, .tuple [.int 0, .int 3, .int 1, .int 4, .int 2])], .dict [(.none, .tuple [.int 0, .int 4, .int 3, .int 2, .int 1])]]
theorem c21_5 : ∀ b, exR (xr 12) (st 21) (e6 b 5) = .ok .next (e9 b 5 2) := by intro b; kernel_rfl
theorem c23_5_0 : ∀ b, trimR [11, 16, 17, 18, 19, 20, 21, 22] (exR (xr 12) (tkS 8 (dpS 23 bd)) (eA b 5 (0 + 1))) = .ok .next (e6 b 5) := by intro b; kernel_rfl
theorem c23_5_1 : ∀ b, trimR [11, 16, 17, 18, 19, 20, 21, 22] (exR (xr 12) (tkS 8 (dpS 23 bd)) (eA b 5 (1 + 1))) = .ok .next (e6 b 5) := by intro b; kernel_rfl
theorem c32_5 : ∀ b, ∀ d ∈ bads, trimR [23, 24] (exR (xr 12) (st 32) (eB b 5 d)) = .ok (.ret false (.bool true)) (dropS [23, 24] (eB b 5 d)) := by
  intro b
  unfold bads
  repeat refine List.forall_mem_cons.2 ⟨by kernel_rfl, ?_⟩
  exact fun d h => nomatch h
theorem s5 : Fs 5 2 where
  c21 := c21_5
  c23 := fun b => (ltS (P := fun f => trimR [11, 16, 17, 18, 19, 20, 21, 22] (exR (xr 12) (tkS 8 (dpS 23 bd)) (eA b 5 (f + 1))) = .ok .next (e6 b 5)) (ltS (P := fun f => trimR [11, 16, 17, 18, 19, 20, 21, 22] (exR (xr 12) (tkS 8 (dpS 23 bd)) (eA b 5 (f + 1))) = .ok .next (e6 b 5)) lt0 (c23_5_0 b)) (c23_5_1 b))
  c32 := c32_5
  lp := by decide
def z2_1 : Pk := ⟨2, 1, .list [.int 2, rs2, rm2], .tuple [dS "field", .int 2, ts2, tm2], .tuple [.int 1, .int 1]⟩
theorem a2_2_1 : ∀ b, exR (xr 12) (st 2) (e1 b z2_1) = .ok .next (e2 b z2_1) := by intro b; kernel_rfl
theorem a3_2_1 : ∀ b, exR (xr 12) (st 3) (e2 b z2_1) = .ok .next (e3 b z2_1) := by intro b; kernel_rfl
theorem a4_2_1 : ∀ b, trimR [5] (exR (xr 12) (tkS 3 (dpS 4 bd)) (e3 b z2_1)) = .ok .next (e4 b z2_1) := by intro b; kernel_rfl
theorem a8_2_1 : ∀ b, (rws z2_1.s z2_1.h).map (fun r => exR (xr 12) (st 8) (e5 b z2_1 (rowD1 r))) = (rws z2_1.s z2_1.h).map fun r => .ok .next (e5 b z2_1 (rowD1 r)) := by intro b; kernel_rfl
theorem a9_2_1 : ∀ b, trimR [2, 3, 4, 7, 8, 9, 10, 11, 13, 25, 26, 27] (exR (xr 12) (tkS 8 (dpS 9 bd)) (e4 b z2_1)) = .ok .next (e6 b z2_1.s) := by intro b; kernel_rfl
theorem f2_1 : Fc z2_1 := ⟨a2_2_1, a3_2_1, a4_2_1, a8_2_1, a9_2_1⟩
def z2_2 : Pk := ⟨2, 2, .list [.int 2, rs2, rm2], .tuple [dS "field", .int 2, ts2, tm2], .tuple [.int 1, .int 1, .int 1]⟩
theorem a2_2_2 : ∀ b, exR (xr 12) (st 2) (e1 b z2_2) = .ok .next (e2 b z2_2) := by intro b; kernel_rfl
theorem a3_2_2 : ∀ b, exR (xr 12) (st 3) (e2 b z2_2) = .ok .next (e3 b z2_2) := by intro b; kernel_rfl
theorem a4_2_2 : ∀ b, trimR [5] (exR (xr 12) (tkS 3 (dpS 4 bd)) (e3 b z2_2)) = .ok .next (e4 b z2_2) := by intro b; kernel_rfl
theorem a8_2_2 : ∀ b, (rws z2_2.s z2_2.h).map (fun r => exR (xr 12) (st 8) (e5 b z2_2 (rowD1 r))) = (rws z2_2.s z2_2.h).map fun r => .ok .next (e5 b z2_2 (rowD1 r)) := by intro b; kernel_rfl
theorem a9_2_2 : ∀ b, trimR [2, 3, 4, 7, 8, 9, 10, 11, 13, 25, 26, 27] (exR (xr 12) (tkS 8 (dpS 9 bd)) (e4 b z2_2)) = .ok .next (e6 b z2_2.s) := by intro b; kernel_rfl
theorem f2_2 : Fc z2_2 := ⟨a2_2_2, a3_2_2, a4_2_2, a8_2_2, a9_2_2⟩
def z2_3 : Pk := ⟨2, 3, .list [.int 2, rs2, rm2], .tuple [dS "field", .int 2, ts2, tm2], .tuple [.int 1, .int 0, .int 1, .int 1]⟩
theorem a2_2_3 : ∀ b, exR (xr 12) (st 2) (e1 b z2_3) = .ok .next (e2 b z2_3) := by intro b; kernel_rfl
theorem a3_2_3 : ∀ b, exR (xr 12) (st 3) (e2 b z2_3) = .ok .next (e3 b z2_3) := by intro b; kernel_rfl
theorem a4_2_3 : ∀ b, trimR [5] (exR (xr 12) (tkS 3 (dpS 4 bd)) (e3 b z2_3)) = .ok .next (e4 b z2_3) := by intro b; kernel_rfl
theorem a8_2_3 : ∀ b, (rws z2_3.s z2_3.h).map (fun r => exR (xr 12) (st 8) (e5 b z2_3 (rowD1 r))) = (rws z2_3.s z2_3.h).map fun r => .ok .next (e5 b z2_3 (rowD1 r)) := by intro b; kernel_rfl
theorem a9_2_3 : ∀ b, trimR [2, 3, 4, 7, 8, 9, 10, 11, 13, 25, 26, 27] (exR (xr 12) (tkS 8 (dpS 9 bd)) (e4 b z2_3)) = .ok .next (e6 b z2_3.s) := by intro b; kernel_rfl
theorem f2_3 : Fc z2_3 := ⟨a2_2_3, a3_2_3, a4_2_3, a8_2_3, a9_2_3⟩
def z2_4 : Pk := ⟨2, 4, .list [.int 2, rs2, rm2], .tuple [dS "field", .int 2, ts2, tm2], .tuple [.int 1, .int 0, .int 0, .int 1, .int 1]⟩
theorem a2_2_4 : ∀ b, exR (xr 12) (st 2) (e1 b z2_4) = .ok .next (e2 b z2_4) := by intro b; kernel_rfl
theorem a3_2_4 : ∀ b, exR (xr 12) (st 3) (e2 b z2_4) = .ok .next (e3 b z2_4) := by intro b; kernel_rfl
theorem a4_2_4 : ∀ b, trimR [5] (exR (xr 12) (tkS 3 (dpS 4 bd)) (e3 b z2_4)) = .ok .next (e4 b z2_4) := by intro b; kernel_rfl
theorem a8_2_4 : ∀ b, (rws z2_4.s z2_4.h).map (fun r => exR (xr 12) (st 8) (e5 b z2_4 (rowD1 r))) = (rws z2_4.s z2_4.h).map fun r => .ok .next (e5 b z2_4 (rowD1 r)) := by intro b; kernel_rfl
theorem a9_2_4 : ∀ b, trimR [2, 3, 4, 7, 8, 9, 10, 11, 13, 25, 26, 27] (exR (xr 12) (tkS 8 (dpS 9 bd)) (e4 b z2_4)) = .ok .next (e6 b z2_4.s) := by intro b; kernel_rfl
theorem f2_4 : Fc z2_4 := ⟨a2_2_4, a3_2_4, a4_2_4, a8_2_4, a9_2_4⟩
def z2_5 : Pk := ⟨2, 5, .list [.int 2, rs2, rm2], .tuple [dS "field", .int 2, ts2, tm2], .tuple [.int 1, .int 0, .int 0, .int 1, .int 0, .int 1]⟩
theorem a2_2_5 : ∀ b, exR (xr 12) (st 2) (e1 b z2_5) = .ok .next (e2 b z2_5) := by intro b; kernel_rfl
theorem a3_2_5 : ∀ b, exR (xr 12) (st 3) (e2 b z2_5) = .ok .next (e3 b z2_5) := by intro b; kernel_rfl
theorem a4_2_5 : ∀ b, trimR [5] (exR (xr 12) (tkS 3 (dpS 4 bd)) (e3 b z2_5)) = .ok .next (e4 b z2_5) := by intro b; kernel_rfl
theorem a8_2_5 : ∀ b, (rws z2_5.s z2_5.h).map (fun r => exR (xr 12) (st 8) (e5 b z2_5 (rowD1 r))) = (rws z2_5.s z2_5.h).map fun r => .ok .next (e5 b z2_5 (rowD1 r)) := by intro b; kernel_rfl
theorem a9_2_5 : ∀ b, trimR [2, 3, 4, 7, 8, 9, 10, 11, 13, 25, 26, 27] (exR (xr 12) (tkS 8 (dpS 9 bd)) (e4 b z2_5)) = .ok .next (e6 b z2_5.s) := by intro b; kernel_rfl
theorem f2_5 : Fc z2_5 := ⟨a2_2_5, a3_2_5, a4_2_5, a8_2_5, a9_2_5⟩
def z3_1 : Pk := ⟨3, 1, .list [.int 3, rs3, rm3], .tuple [dS "field", .int 3, ts3, tm3], .tuple [.int 1, .int 1]⟩
theorem a2_3_1 : ∀ b, exR (xr 12) (st 2) (e1 b z3_1) = .ok .next (e2 b z3_1) := by intro b; kernel_rfl
theorem a3_3_1 : ∀ b, exR (xr 12) (st 3) (e2 b z3_1) = .ok .next (e3 b z3_1) := by intro b; kernel_rfl
theorem a4_3_1 : ∀ b, trimR [5] (exR (xr 12) (tkS 3 (dpS 4 bd)) (e3 b z3_1)) = .ok .next (e4 b z3_1) := by intro b; kernel_rfl
theorem a8_3_1 : ∀ b, (rws z3_1.s z3_1.h).map (fun r => exR (xr 12) (st 8) (e5 b z3_1 (rowD1 r))) = (rws z3_1.s z3_1.h).map fun r => .ok .next (e5 b z3_1 (rowD1 r)) := by intro b; kernel_rfl
theorem a9_3_1 : ∀ b, trimR [2, 3, 4, 7, 8, 9, 10, 11, 13, 25, 26, 27] (exR (xr 12) (tkS 8 (dpS 9 bd)) (e4 b z3_1)) = .ok .next (e6 b z3_1.s) := by intro b; kernel_rfl
theorem f3_1 : Fc z3_1 := ⟨a2_3_1, a3_3_1, a4_3_1, a8_3_1, a9_3_1⟩
def z3_2 : Pk := ⟨3, 2, .list [.int 3, rs3, rm3], .tuple [dS "field", .int 3, ts3, tm3], .tuple [.int 2, .int 1, .int 1]⟩
theorem a2_3_2 : ∀ b, exR (xr 12) (st 2) (e1 b z3_2) = .ok .next (e2 b z3_2) := by intro b; kernel_rfl
theorem a3_3_2 : ∀ b, exR (xr 12) (st 3) (e2 b z3_2) = .ok .next (e3 b z3_2) := by intro b; kernel_rfl
theorem a4_3_2 : ∀ b, trimR [5] (exR (xr 12) (tkS 3 (dpS 4 bd)) (e3 b z3_2)) = .ok .next (e4 b z3_2) := by intro b; kernel_rfl
theorem a8_3_2 : ∀ b, (rws z3_2.s z3_2.h).map (fun r => exR (xr 12) (st 8) (e5 b z3_2 (rowD1 r))) = (rws z3_2.s z3_2.h).map fun r => .ok .next (e5 b z3_2 (rowD1 r)) := by intro b; kernel_rfl
theorem a9_3_2 : ∀ b, trimR [2, 3, 4, 7, 8, 9, 10, 11, 13, 25, 26, 27] (exR (xr 12) (tkS 8 (dpS 9 bd)) (e4 b z3_2)) = .ok .next (e6 b z3_2.s) := by intro b; kernel_rfl
theorem f3_2 : Fc z3_2 := ⟨a2_3_2, a3_3_2, a4_3_2, a8_3_2, a9_3_2⟩
def z3_3 : Pk := ⟨3, 3, .list [.int 3, rs3, rm3], .tuple [dS "field", .int 3, ts3, tm3], .tuple [.int 1, .int 0, .int 2, .int 1]⟩
theorem a2_3_3 : ∀ b, exR (xr 12) (st 2) (e1 b z3_3) = .ok .next (e2 b z3_3) := by intro b; kernel_rfl
theorem a3_3_3 : ∀ b, exR (xr 12) (st 3) (e2 b z3_3) = .ok .next (e3 b z3_3) := by intro b; kernel_rfl
theorem a4_3_3 : ∀ b, trimR [5] (exR (xr 12) (tkS 3 (dpS 4 bd)) (e3 b z3_3)) = .ok .next (e4 b z3_3) := by intro b; kernel_rfl
theorem a8_3_3 : ∀ b, (rws z3_3.s z3_3.h).map (fun r => exR (xr 12) (st 8) (e5 b z3_3 (rowD1 r))) = (rws z3_3.s z3_3.h).map fun r => .ok .next (e5 b z3_3 (rowD1 r)) := by intro b; kernel_rfl
theorem a9_3_3 : ∀ b, trimR [2, 3, 4, 7, 8, 9, 10, 11, 13, 25, 26, 27] (exR (xr 12) (tkS 8 (dpS 9 bd)) (e4 b z3_3)) = .ok .next (e6 b z3_3.s) := by intro b; kernel_rfl
theorem f3_3 : Fc z3_3 := ⟨a2_3_3, a3_3_3, a4_3_3, a8_3_3, a9_3_3⟩
def z4_2 : Pk := ⟨4, 2, .list [.int 4, rs4, rm4], .tuple [dS "field", .int 4, ts4, tm4], .tuple [.int 2, .int 1, .int 1]⟩
theorem a2_4_2 : ∀ b, exR (xr 12) (st 2) (e1 b z4_2) = .ok .next (e2 b z4_2) := by intro b; kernel_rfl
theorem a3_4_2 : ∀ b, exR (xr 12) (st 3) (e2 b z4_2) = .ok .next (e3 b z4_2) := by intro b; kernel_rfl
theorem a4_4_2 : ∀ b, trimR [5] (exR (xr 12) (tkS 3 (dpS 4 bd)) (e3 b z4_2)) = .ok .next (e4 b z4_2) := by intro b; kernel_rfl
theorem a8_4_2 : ∀ b, (rws z4_2.s z4_2.h).map (fun r => exR (xr 12) (st 8) (e5 b z4_2 (rowD1 r))) = (rws z4_2.s z4_2.h).map fun r => .ok .next (e5 b z4_2 (rowD1 r)) := by intro b; kernel_rfl
theorem a9_4_2 : ∀ b, trimR [2, 3, 4, 7, 8, 9, 10, 11, 13, 25, 26, 27] (exR (xr 12) (tkS 8 (dpS 9 bd)) (e4 b z4_2)) = .ok .next (e6 b z4_2.s) := by intro b; kernel_rfl
theorem f4_2 : Fc z4_2 := ⟨a2_4_2, a3_4_2, a4_4_2, a8_4_2, a9_4_2⟩
def z5_2 : Pk := ⟨5, 2, .list [.int 5, rs5, rm5], .tuple [dS "field", .int 5, ts5, tm5], .tuple [.int 2, .int 1, .int 1]⟩
theorem a2_5_2 : ∀ b, exR (xr 12) (st 2) (e1 b z5_2) = .ok .next (e2 b z5_2) := by intro b; kernel_rfl
theorem a3_5_2 : ∀ b, exR (xr 12) (st 3) (e2 b z5_2) = .ok .next (e3 b z5_2) := by intro b; kernel_rfl
theorem a4_5_2 : ∀ b, trimR [5] (exR (xr 12) (tkS 3 (dpS 4 bd)) (e3 b z5_2)) = .ok .next (e4 b z5_2) := by intro b; kernel_rfl
theorem a8_5_2 : ∀ b, (rws z5_2.s z5_2.h).map (fun r => exR (xr 12) (st 8) (e5 b z5_2 (rowD1 r))) = (rws z5_2.s z5_2.h).map fun r => .ok .next (e5 b z5_2 (rowD1 r)) := by intro b; kernel_rfl
theorem a9_5_2 : ∀ b, trimR [2, 3, 4, 7, 8, 9, 10, 11, 13, 25, 26, 27] (exR (xr 12) (tkS 8 (dpS 9 bd)) (e4 b z5_2)) = .ok .next (e6 b z5_2.s) := by intro b; kernel_rfl
theorem f5_2 : Fc z5_2 := ⟨a2_5_2, a3_5_2, a4_5_2, a8_5_2, a9_5_2⟩
def z5_1 : Pk := ⟨5, 1, .list [.int 5, rs5, rm5], .tuple [dS "field", .int 5, ts5, tm5], .tuple [.int 2, .int 1]⟩
theorem a2_5_1 : ∀ b, exR (xr 12) (st 2) (e1 b z5_1) = .ok .next (e2 b z5_1) := by intro b; kernel_rfl
theorem a3_5_1 : ∀ b, exR (xr 12) (st 3) (e2 b z5_1) = .ok .next (e3 b z5_1) := by intro b; kernel_rfl
theorem a4_5_1 : ∀ b, trimR [5] (exR (xr 12) (tkS 3 (dpS 4 bd)) (e3 b z5_1)) = .ok .next (e4 b z5_1) := by intro b; kernel_rfl
theorem a8_5_1 : ∀ b, (rws z5_1.s z5_1.h).map (fun r => exR (xr 12) (st 8) (e5 b z5_1 (rowD1 r))) = (rws z5_1.s z5_1.h).map fun r => .ok .next (e5 b z5_1 (rowD1 r)) := by intro b; kernel_rfl
theorem a9_5_1 : ∀ b, trimR [2, 3, 4, 7, 8, 9, 10, 11, 13, 25, 26, 27] (exR (xr 12) (tkS 8 (dpS 9 bd)) (e4 b z5_1)) = .ok .next (e6 b z5_1.s) := by intro b; kernel_rfl
theorem f5_1 : Fc z5_1 := ⟨a2_5_1, a3_5_1, a4_5_1, a8_5_1, a9_5_1⟩
theorem b19_0 : ∀ b (s : Nat), (rws 2 6).map (fun r => trimR [11, 12, 13, 14] (exR (xr 12) (tkS 2 (dpS 19 bd)) (e8 b s (rowD0 r) 0))) = (rws 2 6).map fun r => .ok .next (e6 b s) := by intro b s; kernel_rfl
theorem b19_1 : ∀ b (s : Nat), (rws 2 6).map (fun r => trimR [11, 12, 13, 14] (exR (xr 12) (tkS 2 (dpS 19 bd)) (e8 b s (rowD0 r) 1))) = (rws 2 6).map fun r => .ok .next (e6 b s) := by intro b s; kernel_rfl
theorem b19_2 : ∀ b (s : Nat), (rws 2 6).map (fun r => trimR [11, 12, 13, 14] (exR (xr 12) (tkS 2 (dpS 19 bd)) (e8 b s (rowD0 r) 2))) = (rws 2 6).map fun r => .ok .next (e6 b s) := by intro b s; kernel_rfl
theorem b19_3 : ∀ b (s : Nat), (rws 2 6).map (fun r => trimR [11, 12, 13, 14] (exR (xr 12) (tkS 2 (dpS 19 bd)) (e8 b s (rowD0 r) 3))) = (rws 2 6).map fun r => .ok .next (e6 b s) := by intro b s; kernel_rfl
theorem b19_4 : ∀ b (s : Nat), (rws 2 6).map (fun r => trimR [11, 12, 13, 14] (exR (xr 12) (tkS 2 (dpS 19 bd)) (e8 b s (rowD0 r) 4))) = (rws 2 6).map fun r => .ok .next (e6 b s) := by intro b s; kernel_rfl
theorem b19_5 : ∀ b (s : Nat), (rws 2 6).map (fun r => trimR [11, 12, 13, 14] (exR (xr 12) (tkS 2 (dpS 19 bd)) (e8 b s (rowD0 r) 5))) = (rws 2 6).map fun r => .ok .next (e6 b s) := by intro b s; kernel_rfl
theorem b19 : ∀ b (s k : Nat), k < 6 → (rws 2 6).map (fun r => trimR [11, 12, 13, 14] (exR (xr 12) (tkS 2 (dpS 19 bd)) (e8 b s (rowD0 r) k))) = (rws 2 6).map fun r => .ok .next (e6 b s) := fun b s => (ltS (P := fun k => (rws 2 6).map (fun r => trimR [11, 12, 13, 14] (exR (xr 12) (tkS 2 (dpS 19 bd)) (e8 b s (rowD0 r) k))) = (rws 2 6).map fun r => .ok .next (e6 b s)) (ltS (P := fun k => (rws 2 6).map (fun r => trimR [11, 12, 13, 14] (exR (xr 12) (tkS 2 (dpS 19 bd)) (e8 b s (rowD0 r) k))) = (rws 2 6).map fun r => .ok .next (e6 b s)) (ltS (P := fun k => (rws 2 6).map (fun r => trimR [11, 12, 13, 14] (exR (xr 12) (tkS 2 (dpS 19 bd)) (e8 b s (rowD0 r) k))) = (rws 2 6).map fun r => .ok .next (e6 b s)) (ltS (P := fun k => (rws 2 6).map (fun r => trimR [11, 12, 13, 14] (exR (xr 12) (tkS 2 (dpS 19 bd)) (e8 b s (rowD0 r) k))) = (rws 2 6).map fun r => .ok .next (e6 b s)) (ltS (P := fun k => (rws 2 6).map (fun r => trimR [11, 12, 13, 14] (exR (xr 12) (tkS 2 (dpS 19 bd)) (e8 b s (rowD0 r) k))) = (rws 2 6).map fun r => .ok .next (e6 b s)) (ltS (P := fun k => (rws 2 6).map (fun r => trimR [11, 12, 13, 14] (exR (xr 12) (tkS 2 (dpS 19 bd)) (e8 b s (rowD0 r) k))) = (rws 2 6).map fun r => .ok .next (e6 b s)) lt0 (b19_0 b s)) (b19_1 b s)) (b19_2 b s)) (b19_3 b s)) (b19_4 b s)) (b19_5 b s))
end k19
end MW
end
section
set_option linter.all false
set_option maxRecDepth 100000
set_option maxHeartbeats 4000000
/-! TM: k19's law, put together. -/
namespace MW
namespace k19
open PySem
theorem xk_call {n : Nat} : (xk n).call = callK k19_prog WF n := rfl
theorem io32 {n : Nat} : (xk n).io 32 = [false, false, false] := rfl
theorem io33 {n : Nat} : (xk n).io 33 = [true, false] := rfl
theorem io34 {n : Nat} : (xk n).io 34 = [true, false] := rfl
theorem io48 {n : Nat} : (xk n).io 48 = [true, false, false] := rfl
theorem at32 : fnAt k19_prog.fn 32 = some digFn := rfl
theorem at33 : fnAt k19_prog.fn 33 = some drawFn := rfl
theorem at34 : fnAt k19_prog.fn 34 = some (pickFn 33) := rfl
theorem at48 : fnAt k19_prog.fn 48 = some (rowFn 33) := rfl
def picks : List (Nat × Nat) := [(2, 1), (2, 2), (2, 3), (2, 4), (2, 5), (3, 1), (3, 2), (3, 3), (4, 2), (5, 2), (5, 1)]
def pickD (p : Nat × Nat) : D := .tuple [.int p.1, .int p.2]
def e00 (d : D) : Env := [.fz d, .no, .no, .no, .no, .no, .no, .no, .no, .no, .no, .no, .no, .no, .no, .no, .no, .no, .no, .no, .no, .no, .no, .no, .no, .no, .no, .no]
theorem q0 {X : Cx} {ds ns : List Int} {x y y' : Slot} {r : Env} (i : X.io 32 = [false, false, false]) (h : X.call 32 [.fz (intsD ns), .fz (.int 0), .fz (.int 63)] = .ok (true, intsD ds) (x :: y :: y' :: r)) :
    exK X (.asg (.name 1) (.lst (.cons (.call 32 (.cons (.var 0) (.cons (.const (dI 0)) (.cons (.const (dI 63)) .nil)))) (.cons (.const (dI 0)) .nil)))) (e00 (intsD ns)) = .ok .next [.fz (intsD ns), .ow (boxD ds 0), .no, .no, .no, .no, .no, .no, .no, .no, .no, .no, .no, .no, .no, .no, .no, .no, .no, .no, .no, .no, .no, .no, .no, .no, .no, .no] := by
  unfold e00
  simp only [i, h, SX]
  rfl
theorem q1 {X : Cx} {b b' : D} {s k : Nat} {y : Slot} {r : Env} (i : X.io 34 = [true, false]) (h : X.call 34 [.io b, .fz (.list (picks.map pickD))] = .ok (false, pickD (s, k)) (.io b' :: y :: r)) :
    exK X (.asg (.two (.name 24) (.name 25)) (.call 34 (.cons (.var 1) (.cons (.lst (.cons (.tup (.cons (.const (dI 2)) (.cons (.const (dI 1)) .nil))) (.cons (.tup (.cons (.const (dI 2)) (.cons (.const (dI 2)) .nil))) (.cons (.tup (.cons (.const (dI 2)) (.cons (.const (dI 3)) .nil))) (.cons (.tup (.cons (.const (dI 2)) (.cons (.const (dI 4)) .nil))) (.cons (.tup (.cons (.const (dI 2)) (.cons (.const (dI 5)) .nil))) (.cons (.tup (.cons (.const (dI 3)) (.cons (.const (dI 1)) .nil))) (.cons (.tup (.cons (.const (dI 3)) (.cons (.const (dI 2)) .nil))) (.cons (.tup (.cons (.const (dI 3)) (.cons (.const (dI 3)) .nil))) (.cons (.tup (.cons (.const (dI 4)) (.cons (.const (dI 2)) .nil))) (.cons (.tup (.cons (.const (dI 5)) (.cons (.const (dI 2)) .nil))) (.cons (.tup (.cons (.const (dI 5)) (.cons (.const (dI 1)) .nil))) .nil)))))))))))) .nil)))) (e0 b) = .ok .next [.no, .ow b', .no, .no, .no, .no, .no, .no, .no, .no, .no, .no, .no, .no, .no, .no, .no, .no, .no, .no, .no, .no, .no, .no, fI s, fI k, .no, .no] := by
  have h' : X.call 34 [.io b, .fz (.list [.tuple [.int 2, .int 1], .tuple [.int 2, .int 2], .tuple [.int 2, .int 3], .tuple [.int 2, .int 4], .tuple [.int 2, .int 5], .tuple [.int 3, .int 1], .tuple [.int 3, .int 2], .tuple [.int 3, .int 3], .tuple [.int 4, .int 2], .tuple [.int 5, .int 2], .tuple [.int 5, .int 1]])] = .ok (false, .tuple [.int s, .int k]) (.io b' :: y :: r) := h
  clear h
  unfold e0
  simp only [i, noIo, h', SX]
theorem q7 {X : Cx} {b b' : D} {z : Pk} {vs : List Int} {y y' : Slot} {r : Env} (i : X.io 48 = [true, false, false]) (h : X.call 48 [.io b, .fz (.int z.s), .fz (.int z.h)] = .ok (false, .tuple (vs.map .int)) (.io b' :: y :: y' :: r)) (hl : vs.length ≤ 1000) :
    exK X (.asg (.name 6) (.bin .add (.call 48 (.cons (.var 1) (.cons (.var 24) (.cons (.var 25) .nil)))) (.tup (.cons (.const (dI 1)) .nil)))) (e4 b z) = .ok .next (e5 b' z (.tuple (vs.map .int ++ [.int 1]))) := by
  have a := op_addT (a := vs.map PyData.int) (b := [.int 1]) (by rw [List.length_map]; show vs.length + 1 ≤ szLine; unfold szLine; omega)
  unfold e4 e5
  simp only [i, noIo, h, a, SX]
theorem q17 {X : Cx} {b b' d : D} {s : Nat} {y y' : Slot} {r : Env} (i : X.io 48 = [true, false, false]) (h : X.call 48 [.io b, .fz (.int 2), .fz (.int 6)] = .ok (false, d) (.io b' :: y :: y' :: r)) :
    exK X (.asg (.name 12) (.call 48 (.cons (.var 1) (.cons (.const (dI 2)) (.cons (.const (dI 6)) .nil))))) (e6 b s) = .ok .next (e7 b' s d) := by
  unfold e6 e7
  simp only [i, noIo, h, SX]
theorem q18 {X : Cx} {b b' d : D} {s k : Nat} {y : Slot} {r : Env} (i : X.io 33 = [true, false]) (h : X.call 33 [.io b, .fz (.int 6)] = .ok (false, .int k) (.io b' :: y :: r)) :
    exK X (.asg (.name 13) (.call 33 (.cons (.var 1) (.cons (.const (dI 6)) .nil)))) (e7 b s d) = .ok .next (e8 b' s d k) := by
  unfold e7 e8
  simp only [i, noIo, h, SX]
theorem q22 {X : Cx} {b b' : D} {s l k : Nat} {y : Slot} {r : Env} (i : X.io 33 = [true, false]) (h : X.call 33 [.io b, .fz (.int l)] = .ok (false, .int k) (.io b' :: y :: r)) :
    exK X (.asg (.name 16) (.bin .add (.const (dI 1)) (.call 33 (.cons (.var 1) (.cons (.var 15) .nil))))) (e9 b s l) = .ok .next [.no, .ow b', .no, .no, .no, .no, .no, .no, .no, .no, .no, .no, .no, .no, .no, fI l, .fz (.int (1 + (k : Int))), .no, .no, .no, .no, .no, .no, .no, fI s, .no, .no, .no] := by
  unfold e9
  simp only [i, noIo, h, SX]
theorem q31 {X : Cx} {b b' d : D} {s : Nat} {y : Slot} {r : Env} (i : X.io 34 = [true, false]) (h : X.call 34 [.io b, .fz (.list bads)] = .ok (false, d) (.io b' :: y :: r)) :
    exK X (.asg (.name 23) (.call 34 (.cons (.var 1) (.cons (.lst (.cons (.const (dI 0)) (.cons (.const (dI 7)) (.cons (.const .none) (.cons (.const (.bool true)) .nil))))) .nil)))) (e6 b s) = .ok .next (eB b' s d) := by
  have h' : X.call 34 [.io b, .fz (.list [.int 0, .int 7, .none, .bool true])] = .ok (false, d) (.io b' :: y :: r) := h
  clear h
  unfold e6 eB
  simp only [i, noIo, h', SX]
theorem st0_eq : dpS 0 bd = .seq (.asg (.name 1) (.lst (.cons (.call 32 (.cons (.var 0) (.cons (.const (dI 0)) (.cons (.const (dI 63)) .nil)))) (.cons (.const (dI 0)) .nil)))) (dpS 1 bd) := rfl
theorem st1_eq : dpS 1 bd = .seq (.asg (.two (.name 24) (.name 25)) (.call 34 (.cons (.var 1) (.cons (.lst (.cons (.tup (.cons (.const (dI 2)) (.cons (.const (dI 1)) .nil))) (.cons (.tup (.cons (.const (dI 2)) (.cons (.const (dI 2)) .nil))) (.cons (.tup (.cons (.const (dI 2)) (.cons (.const (dI 3)) .nil))) (.cons (.tup (.cons (.const (dI 2)) (.cons (.const (dI 4)) .nil))) (.cons (.tup (.cons (.const (dI 2)) (.cons (.const (dI 5)) .nil))) (.cons (.tup (.cons (.const (dI 3)) (.cons (.const (dI 1)) .nil))) (.cons (.tup (.cons (.const (dI 3)) (.cons (.const (dI 2)) .nil))) (.cons (.tup (.cons (.const (dI 3)) (.cons (.const (dI 3)) .nil))) (.cons (.tup (.cons (.const (dI 4)) (.cons (.const (dI 2)) .nil))) (.cons (.tup (.cons (.const (dI 5)) (.cons (.const (dI 2)) .nil))) (.cons (.tup (.cons (.const (dI 5)) (.cons (.const (dI 1)) .nil))) .nil)))))))))))) .nil)))) (dpS 2 bd) := rfl
theorem st2_eq : dpS 2 bd = .seq (st 2) (dpS 3 bd) := rfl
theorem st3_eq : dpS 3 bd = .seq (st 3) (dpS 4 bd) := rfl
theorem st7_eq : dpS 7 bd = .seq (.asg (.name 6) (.bin .add (.call 48 (.cons (.var 1) (.cons (.var 24) (.cons (.var 25) .nil)))) (.tup (.cons (.const (dI 1)) .nil)))) (dpS 8 bd) := rfl
theorem st8_eq : dpS 8 bd = .seq (st 8) (dpS 9 bd) := rfl
theorem st17_eq : dpS 17 bd = .seq (.asg (.name 12) (.call 48 (.cons (.var 1) (.cons (.const (dI 2)) (.cons (.const (dI 6)) .nil))))) (dpS 18 bd) := rfl
theorem st18_eq : dpS 18 bd = .seq (.asg (.name 13) (.call 33 (.cons (.var 1) (.cons (.const (dI 6)) .nil)))) (dpS 19 bd) := rfl
theorem st21_eq : dpS 21 bd = .seq (st 21) (dpS 22 bd) := rfl
theorem st22_eq : dpS 22 bd = .seq (.asg (.name 16) (.bin .add (.const (dI 1)) (.call 33 (.cons (.var 1) (.cons (.var 15) .nil))))) (dpS 23 bd) := rfl
theorem st31_eq : dpS 31 bd = .seq (.asg (.name 23) (.call 34 (.cons (.var 1) (.cons (.lst (.cons (.const (dI 0)) (.cons (.const (dI 7)) (.cons (.const .none) (.cons (.const (.bool true)) .nil))))) .nil)))) (dpS 32 bd) := rfl
theorem st32_eq : dpS 32 bd = .seq (st 32) .skip := rfl
theorem d4 : dpS 3 (dpS 4 bd) = dpS 7 bd := rfl
theorem d9 : dpS 8 (dpS 9 bd) = dpS 17 bd := rfl
theorem d19 : dpS 2 (dpS 19 bd) = dpS 21 bd := rfl
theorem d23 : dpS 8 (dpS 23 bd) = dpS 31 bd := rfl
theorem told (H : ∀ p ∈ picks, ∃ z : Pk, z.s = p.1 ∧ z.h = p.2 ∧ Fc z) (HS : ∀ p ∈ picks, ∃ l, Fs p.1 l)
    (B : ∀ b (s k : Nat), k < 6 → (rws 2 6).map (fun r => trimR [11, 12, 13, 14] (exR (xr 12) (tkS 2 (dpS 19 bd)) (e8 b s (rowD0 r) k))) = (rws 2 6).map fun r => .ok .next (e6 b s)) : Told L := by
  refine ⟨12, WF, ⟨by decide, by decide, by decide⟩, fun ns _ _ => ?_⟩
  show ∃ o r, callN k19_prog WF (12 + 1) 53 [.fz (intsD ns)] = .ok (o, .bool true) r
  obtain ⟨ds, x, y, y', r0, c0⟩ := dig_ok (p := k19_prog) (wf := WF) (n := 11) (i := 32) (ns := ns) at32
  obtain ⟨d, y1, r1, c1, hd⟩ := pick_ok (p := k19_prog) (wf := WF) (n := 10) (i := 34) (di := 33) (at_ := 0) (ds := ds) (xs := picks.map pickD) at34 at33 (by decide) (by omega)
  obtain ⟨⟨s, h⟩, hp, rfl⟩ := List.mem_map.mp hd
  obtain ⟨z, e1', e2', F⟩ := H _ hp
  obtain ⟨l, G⟩ := HS _ hp
  dsimp only at e1' e2' G
  have lim : 0 < s ∧ h ≤ 5 := by
    have q := List.all_eq_true.mp (show (picks.all fun p => decide (0 < p.1 ∧ p.2 ≤ 5)) = true by decide) _ hp
    exact of_decide_eq_true q
  subst e1' e2'
  obtain ⟨vs, y2, y3, r2, c2, lv, hv⟩ := row_ok (p := k19_prog) (wf := WF) (n := 10) (i := 48) (di := 33) (at_ := 1) (k := z.h) (ds := ds) (m := z.s) at48 at33 (by exact_mod_cast lim.1) (by omega)
  obtain ⟨ws, y4, y5, r3, c3, lw, hw⟩ := row_ok (p := k19_prog) (wf := WF) (n := 10) (i := 48) (di := 33) (at_ := 1 + z.h) (k := 6) (ds := ds) (m := (2 : Nat)) at48 at33 (by omega) (by omega)
  obtain ⟨k, hk, y6, r4, c4⟩ := draw_nat (p := k19_prog) (wf := WF) (n := 11) (i := 33) (at_ := 1 + z.h + 6) (ds := ds) (m := 6) at33 (by omega) (by omega)
  obtain ⟨f, hf, y7, r5, c5⟩ := draw_nat (p := k19_prog) (wf := WF) (n := 11) (i := 33) (at_ := 1 + z.h + 6 + 1) (ds := ds) (m := l) at33 G.lp (by omega)
  obtain ⟨d', y8, r6, c6, hd'⟩ := pick_ok (p := k19_prog) (wf := WF) (n := 10) (i := 34) (di := 33) (at_ := 1 + z.h + 6 + 1 + 1) (ds := ds) (xs := bads) at34 at33 (by decide) (by omega)
  rw [show ((6 : Nat) : Int) = 6 from rfl] at c3 c4
  rw [show ((2 : Nat) : Int) = 2 from rfl] at c3
  rw [← xk_call] at c0 c1 c2 c3 c4 c5 c6
  obtain ⟨r, hr, er⟩ := mem_rws z.h vs lv hv
  obtain ⟨r', hr', er'⟩ := mem_rws 6 ws lw hw
  have key : Gd (xk 12) bd (e00 (intsD ns)) := by
    show Gd (xk 12) (dpS 0 bd) _
    rw [st0_eq]
    refine Gx.gd (.ev (q0 io32 c0)) ?_
    refine Gd.on (is := [0]) ?_
    show Gd (xk 12) _ (e0 _)
    rw [st1_eq]
    refine Gx.gd (.ev (q1 io34 c1)) ?_
    show Gd (xk 12) _ (e1 _ z)
    rw [st2_eq]
    refine Gx.gd (.fact0 (F.a2 _)) ?_
    rw [st3_eq]
    refine Gx.gd (.fact0 (F.a3 _)) ?_
    refine Gd.cut 3 (.fact (F.a4 _)) ?_
    rw [d4, st7_eq]
    refine Gx.gd (.ev (q7 io48 c2 (by omega))) ?_
    rw [er, st8_eq]
    have f8 := map_at (F.a8 (boxD ds (1 + z.h))) hr
    try dsimp only at f8
    refine Gx.gd (.fact0 f8) ?_
    refine Gd.on (is := [6]) ?_
    show Gd (xk 12) _ (e4 _ z)
    refine Gd.cut 8 (.fact (F.a9 _)) ?_
    rw [d9, st17_eq]
    refine Gx.gd (.ev (q17 io48 c3)) ?_
    rw [st18_eq]
    refine Gx.gd (.ev (q18 io33 c4)) ?_
    rw [er']
    have f19 := map_at (B (boxD ds (1 + z.h + 6 + 1)) z.s k hk) hr'
    try dsimp only at f19
    refine Gd.cut 2 (.fact f19) ?_
    rw [d19, st21_eq]
    refine Gx.gd (.fact0 (G.c21 _)) ?_
    rw [st22_eq]
    refine Gx.gd (.ev (q22 io33 c5)) ?_
    rw [show (1 + (f : Int)) = ((f + 1 : Nat) : Int) by omega]
    refine Gd.on (is := [15]) ?_
    show Gd (xk 12) _ (eA _ z.s (f + 1))
    refine Gd.cut 8 (.fact (G.c23 _ f hf)) ?_
    rw [d23, st31_eq]
    refine Gx.gd (.ev (q31 io34 c6)) ?_
    rw [st32_eq]
    exact Gd.end (G.c32 _ d' hd')
  obtain ⟨o, r'', hh⟩ := key _ (.refl _)
  refine ⟨o, r'', ?_⟩
  rw [← callK_eq]
  exact run_ret (fn := k19_f53) rfl rfl hh
end k19
end MW
end
section
set_option linter.all false
set_option maxRecDepth 100000
/-! TZ: k19's statement. -/
theorem MW.k19.picked : ∀ p ∈ MW.k19.picks, ∃ z : MW.k19.Pk, z.s = p.1 ∧ z.h = p.2 ∧ MW.k19.Fc z := by
  unfold MW.k19.picks
  refine List.forall_mem_cons.2 ⟨⟨MW.k19.z2_1, rfl, rfl, MW.k19.f2_1⟩, ?_⟩
  refine List.forall_mem_cons.2 ⟨⟨MW.k19.z2_2, rfl, rfl, MW.k19.f2_2⟩, ?_⟩
  refine List.forall_mem_cons.2 ⟨⟨MW.k19.z2_3, rfl, rfl, MW.k19.f2_3⟩, ?_⟩
  refine List.forall_mem_cons.2 ⟨⟨MW.k19.z2_4, rfl, rfl, MW.k19.f2_4⟩, ?_⟩
  refine List.forall_mem_cons.2 ⟨⟨MW.k19.z2_5, rfl, rfl, MW.k19.f2_5⟩, ?_⟩
  refine List.forall_mem_cons.2 ⟨⟨MW.k19.z3_1, rfl, rfl, MW.k19.f3_1⟩, ?_⟩
  refine List.forall_mem_cons.2 ⟨⟨MW.k19.z3_2, rfl, rfl, MW.k19.f3_2⟩, ?_⟩
  refine List.forall_mem_cons.2 ⟨⟨MW.k19.z3_3, rfl, rfl, MW.k19.f3_3⟩, ?_⟩
  refine List.forall_mem_cons.2 ⟨⟨MW.k19.z4_2, rfl, rfl, MW.k19.f4_2⟩, ?_⟩
  refine List.forall_mem_cons.2 ⟨⟨MW.k19.z5_2, rfl, rfl, MW.k19.f5_2⟩, ?_⟩
  refine List.forall_mem_cons.2 ⟨⟨MW.k19.z5_1, rfl, rfl, MW.k19.f5_1⟩, ?_⟩
  exact fun p h => nomatch h
theorem MW.k19.sized : ∀ p ∈ MW.k19.picks, ∃ l, MW.k19.Fs p.1 l := by
  unfold MW.k19.picks
  refine List.forall_mem_cons.2 ⟨⟨_, MW.k19.s2⟩, ?_⟩
  refine List.forall_mem_cons.2 ⟨⟨_, MW.k19.s2⟩, ?_⟩
  refine List.forall_mem_cons.2 ⟨⟨_, MW.k19.s2⟩, ?_⟩
  refine List.forall_mem_cons.2 ⟨⟨_, MW.k19.s2⟩, ?_⟩
  refine List.forall_mem_cons.2 ⟨⟨_, MW.k19.s2⟩, ?_⟩
  refine List.forall_mem_cons.2 ⟨⟨_, MW.k19.s3⟩, ?_⟩
  refine List.forall_mem_cons.2 ⟨⟨_, MW.k19.s3⟩, ?_⟩
  refine List.forall_mem_cons.2 ⟨⟨_, MW.k19.s3⟩, ?_⟩
  refine List.forall_mem_cons.2 ⟨⟨_, MW.k19.s4⟩, ?_⟩
  refine List.forall_mem_cons.2 ⟨⟨_, MW.k19.s5⟩, ?_⟩
  refine List.forall_mem_cons.2 ⟨⟨_, MW.k19.s5⟩, ?_⟩
  exact fun p h => nomatch h
end
theorem PySem.Challenge.cw_mendwords_k19_rows_of_all_words_holds : PySem.Challenge.rw_mendwords_k19_rows_of_all_words.Holds := by
  exact MW.k19.holds (MW.k19.told MW.k19.picked MW.k19.sized MW.k19.b19)
