import PyProof.Rows.All
import Wide.All
import OpenK.AllK
import Wide.FinOn
import HandS.ForMost
import HandS.ForExc
import HandS.TupAny
import HandS.TupMul
import HandS.Wide
import HandS.Deep
import HandS.Ends
import HandS.CallSlots
import HandS.Defaults
import HandS.Flow
import HandS.Style
import HandS.Strs
import HandS.SortInts
import HandS.Conv
import HandS.IsInst
import KE.KSortedM
import HandS.WordsDict
import HandS.Iter
import HandS.Walk
import HandS.Zip
import KE.GoesMore
import HandS.Small
import HandS.NoneIn
import HandS.Comp
import HandS.Dict
import HandS.SetFor
import OpenK.KMore
import HandS.SortRule
import PyProof.ReprReads
import PyProof.ReprBulk
import PyProof.FitsInt
import HandS.SetKeys
import KE.KExcSuper
import KE.OsGo
import HandS.ForSpec
import KE.KExcIs
import HandS.Codes
import HandS.WordsExc
import HandS.Head0
import HandS.Head1
import HandS.Head2
import HandS.HeadEnd
import HandS.HeadHook1
import HandS.HeadHook2
import PySem.Challenge.RW_tornwebs_k00_whole_webs
set_option Elab.async false
set_option linter.all false
section
/-! values as trees, expressions, statements, and what they reckon (no heap) -/
namespace TW
open PySem (Str PyData)
abbrev Key := L2.Key
/-- a value as a tree; o: it is had by one holder alone, and may change -/
inductive D where
  | non | bl (b : Bool) | int (i : Int) | str (s : Str)
  | tup (xs : List D)
  | lst (o : Bool) (xs : List D)
  | dic (o : Bool) (kvs : List (Key × D))
  | ins (o : Bool) (c : Str) (fs : List (Str × D))
  | exc (c : Str) (v : D)
  | scr (ns : List Int)
  | hole
deriving Inhabited
mutual
/-- something in it may change -/
def D.own : D → Bool
  | .lst o xs => o || ownL xs
  | .dic o kvs => o || ownK kvs
  | .ins o _ fs => o || ownF fs
  | .tup xs => ownL xs
  | .hole => true
  | _ => false
def ownL : List D → Bool
  | [] => false
  | d :: ds => d.own || ownL ds
def ownK : List (Key × D) → Bool
  | [] => false
  | (_, d) :: ds => d.own || ownK ds
def ownF : List (Str × D) → Bool
  | [] => false
  | (_, d) :: ds => d.own || ownF ds
end
mutual
/-- the same, to change no more -/
def D.share : D → D
  | .lst _ xs => .lst false (shareL xs)
  | .dic _ kvs => .dic false (shareK kvs)
  | .ins _ c fs => .ins false c (shareF fs)
  | .tup xs => .tup (shareL xs)
  | d => d
def shareL : List D → List D
  | [] => []
  | d :: ds => d.share :: shareL ds
def shareK : List (Key × D) → List (Key × D)
  | [] => []
  | (k, d) :: ds => (k, d.share) :: shareK ds
def shareF : List (Str × D) → List (Str × D)
  | [] => []
  | (k, d) :: ds => (k, d.share) :: shareF ds
end
mutual
/-- data that can be compared -/
def D.py : D → Option PyData
  | .non => some .none
  | .bl b => some (.bool b)
  | .int i => some (.int i)
  | .str s => some (.str s)
  | .tup xs => match pyL xs with
    | some ds => some (.tuple ds)
    | none => none
  | .lst _ xs => match pyL xs with
    | some ds => some (.list ds)
    | none => none
  | _ => none
def pyL : List D → Option (List PyData)
  | [] => some []
  | d :: ds => match d.py, pyL ds with
    | some a, some as => some (a :: as)
    | _, _ => none
end
/-- slots -/
abbrev Sl := List (Option D)
inductive RE where
  | ok (d : D) (r : Sl) | brw (d : D) (r : Sl) | exc (c : Str) (v : D) (r : Sl) | bad
inductive CR where
  | ok (d : D) (as : List D) | exc (c : Str) (v : D) (as : List D) | bad
inductive Acc where
  | f (x : Str) | i (j : Nat)
  deriving DecidableEq
structure Pth where
  s : Nat
  r : List Acc
  deriving DecidableEq
inductive AV where
  | v (d : D) | l (p : Pth)
inductive RA where
  | ok (as : List AV) (r : Sl) | exc (c : Str) (v : D) (r : Sl) | bad
inductive REs where
  | ok (as : List D) (r : Sl) | exc (c : Str) (v : D) (r : Sl) | bad
inductive RI where
  | ok (items : List D) (held : List (Nat × D)) (r : Sl) | exc (c : Str) (v : D) (r : Sl) | bad
inductive Fl where
  | nx | rt (d : D) | bk | ct
inductive RS where
  | ok (f : Fl) (r : Sl) | exc (c : Str) (v : D) (r : Sl) | bad

/-! ### syntax -/
inductive Bop | add | sub | mul | fdiv | mod | pow | xor
  deriving DecidableEq
inductive Cop | eq | ne | lt | le | gt | ge | isN | notN | isin | notin
  deriving DecidableEq
inductive Uop | neg
  deriving DecidableEq
/-- built-ins of one argument -/
inductive B1 | len | abs | sum | min | max | sorted | list | tuple | int | any | all | bool | set | repr | str
  deriving DecidableEq
inductive Mut0 | append | pop | popAt | extend | insert | remove
  deriving DecidableEq
mutual
inductive E where
  | non | bl (b : Bool) | int (i : Int) | str (s : Str)
  | glb (x : Str)
  | rd (p : P)
  | sh (p : P)
  | mv (i : Nat)
  | bin (op : Bop) (a b : E)
  | un (op : Uop) (a : E)
  | not (a : E)
  | and (a b : E) | or (a b : E)
  | cmp (op : Cop) (a b : E)
  | chain (o1 o2 : Cop) (a b c : E)
  | ite (c a b : E)
  | tup (es : Es)
  | lst (es : Es)
  | dic (ks : List Key) (vs : Es)
  | idx (a i : E)
  | slc (a : E) (lo hi : E)
  | rev (a : E)
  | call (f : Str) (as : As)
  | callk (f : Str) (as : As) (kws : List Str)
  | meth (c m : Str) (p : P) (as : As)
  | new (c : Str) (as : As)
  | b1 (b : B1) (a : E)
  | min2 (a b : E) | max2 (a b : E)
  | isi (a : E) (t : Str)
  | bm (m : Mut0) (p : P) (es : Es)
  | index (a x : E)
  | get1 (a k : E) | get2 (a k d : E)
  | lc (elt : E) (tg : Tg) (it : It) (cond : E) (own : List Nat)
  | dc (k v : E) (tg : Tg) (it : It) (cond : E) (own : List Nat)
  | rg1 (t : Bool) (a : E) | rg2 (t : Bool) (a b : E)
  | srs (a : E)
  | efld (i : Nat) (f : Str)
  | eisi (i : Nat) (c : Str)
  /-- a new thing, to change no more -/
  | shv (e : E)
  /-- p.setdefault(k, []).append(x) -/
  | sda (p : P) (k x : E)
inductive P where
  | var (i : Nat)
  | fld (p : P) (f : Str)
  | sub (p : P) (e : E)
inductive Es where
  | nil | cons (e : E) (es : Es)
inductive As where
  | nil | v (e : E) (as : As) | l (p : P) (as : As)
inductive Lf where
  | pl (p : P) | ex (e : E)
inductive It where
  | one (l : Lf) | rng1 (a : E) | rng2 (a b : E) | rngD (a b : E)
  | enu (l : Lf) | zip (l k : Lf) | itm (l : Lf) | val (l : Lf)
inductive Tg where
  | v (i : Nat) | t (ts : Tgs) | s (p : P) (e : E) | f (p : P) (x : Str)
inductive Tgs where
  | nil | cons (t : Tg) (ts : Tgs)
end
/-- a blank for the parts that are not there (no end of a slice, no condition) -/
abbrev E.no : E := .non
inductive S where
  | ex (e : E)
  | asg (t : Tg) (e : E)
  | par (ts : Tgs) (es : Es)
  | aug (p : P) (op : Bop) (e : E)
  | ret (e : E)
  | retN
  | ite (c : E) (a b : S)
  | whl (c : E) (b : S)
  | for (t : Tg) (it : It) (b : S)
  | brk | cont | pass
  | rse (c : Str) (e : E)
  | try (b hs : S)
  | hd (c : Str) (i : Option Nat) (h more : S)
  | hnil
  | sda (p : P) (k x : E)
  | seq (a b : S)
end TW
end

section
/-! what expressions and statements reckon -/
namespace TW
open PySem (Str PyData)
def LINE : Nat := 16777216
/-! ### operators -/
def D.add : D → D → Option D
  | .int i, .int j => some (.int (i + j))
  | .str x, .str y => if x.length + y.length ≤ LINE then some (.str (x ++ y)) else none
  | .tup xs, .tup ys => if xs.length + ys.length ≤ LINE then some (.tup (xs ++ ys)) else none
  | .lst _ xs, .lst _ ys => if ownL xs || ownL ys then none else if xs.length + ys.length ≤ LINE then some (.lst true (xs ++ ys)) else none
  | _, _ => none
def D.sub : D → D → Option D
  | .int i, .int j => some (.int (i - j))
  | _, _ => none
/-- products of numbers of some thousand figures -/
def wideOk (i j : Int) : Bool := decide (i.natAbs < 2 ^ 3000) && decide (j.natAbs < 2 ^ 3000)
def D.mul : D → D → Option D
  | .int i, .int j => if wideOk i j then some (.int (i * j)) else none
  | .lst _ xs, .int k => if ownL xs then none else if decide (k < 2 ^ 62) && decide (-(2 ^ 62) < k) && decide (xs.length * k.toNat ≤ LINE) then some (.lst true (List.replicate k.toNat xs).flatten) else none
  | .tup xs, .int k => if decide (2 ≤ k) && decide (k ≤ 1000) && decide (xs.length ≤ 1000) then some (.tup (List.replicate k.toNat xs).flatten) else none
  | _, _ => none
def D.fdiv : D → D → Option D
  | .int i, .int j => if decide (0 < j) && decide (j.natAbs < 2 ^ 3000) then some (.int (i / j)) else if decide (j < 0) && decide (j.natAbs < 1073741824) then some (.int (i.fdiv j)) else none
  | _, _ => none
def D.mod : D → D → Option D
  | .int i, .int j => if j = 0 then none else some (.int (i.fmod j))
  | _, _ => none
def D.pow : D → D → Option D
  | .int i, .int j => if decide (0 ≤ j) && decide (j ≤ 1000) && decide (i.natAbs < 2 ^ 64) then some (.int (i ^ j.toNat)) else none
  | _, _ => none
def D.xor : D → D → Option D
  | .int i, .int j => some (.int (PySem.Builtin.bitXor i j))
  | _, _ => none
def Bop.run : Bop → D → D → Option D
  | .add => D.add | .sub => D.sub | .mul => D.mul | .fdiv => D.fdiv | .mod => D.mod | .pow => D.pow | .xor => D.xor
def Uop.run : Uop → D → Option D
  | .neg, .int i => some (.int (-i))
  | _, _ => none
/-- by truth -/
def D.tru : D → Option Bool
  | .non => some false
  | .bl b => some b
  | .int i => some (i != 0)
  | .tup xs => some (!xs.isEmpty)
  | .lst _ xs => some (!xs.isEmpty)
  | .dic _ xs => some (!xs.isEmpty)
  | _ => none
def D.eqP (a b : D) : Option Bool := match a.py, b.py with
  | some x, some y => if PySem.SeqAt.shaped x && PySem.SeqAt.shaped y then some (PyData.eqv x y) else none
  | _, _ => none
def D.eqv (a b : D) : Option Bool := match a, b with
  | .str s, .str t => some (s == t)
  | a, b => a.eqP b
mutual
/-- what can be told by repr -/
def D.plain : D → Bool
  | .non => true | .bl _ => true
  | .int i => decide (i.natAbs < 2 ^ 200)
  | .str s => s.cps.toList.all fun c => decide (c < 16 ^ 8)
  | .tup xs => plainL xs
  | .lst _ xs => plainL xs
  | _ => false
def plainL : List D → Bool
  | [] => true
  | d :: ds => d.plain && plainL ds
end
mutual
def D.bulk : D → Nat
  | .str s => s.length
  | .tup xs => bulkL xs
  | .lst _ xs => bulkL xs
  | _ => 0
def bulkL : List D → Nat
  | [] => 0
  | d :: ds => d.bulk + 1 + bulkL ds
end
mutual
def D.deep : D → Nat
  | .tup xs => deepL xs + 1
  | .lst _ xs => deepL xs + 1
  | _ => 0
def deepL : List D → Nat
  | [] => 0
  | d :: ds => max d.deep (deepL ds)
end
def D.told (d : D) : Bool := d.plain && decide (d.bulk ≤ 3000) && decide (d.deep ≤ 50)
def D.shown (d : D) : Str := match d.py with
  | some p => p.shown
  | none => ""
def D.key : D → Option Key
  | .int i => some (.inl i)
  | .str s => some (.inr s)
  | _ => none
def lookK {α : Type} (k : Key) : List (Key × α) → Option α
  | [] => none
  | (j, v) :: r => if j = k then some v else lookK k r
def putKD (k : Key) (v : D) : List (Key × D) → List (Key × D)
  | [] => [(k, v)]
  | (j, w) :: r => if j = k then (j, v) :: r else (j, w) :: putKD k v r
def lookF {α : Type} (k : Str) : List (Str × α) → Option α
  | [] => none
  | (j, v) :: r => if j = k then some v else lookF k r
def putFD (k : Str) (v : D) : List (Str × D) → List (Str × D)
  | [] => [(k, v)]
  | (j, w) :: r => if j = k then (j, v) :: r else (j, w) :: putFD k v r
/-- numbers, texts, None -/
def D.flat : D → Bool
  | .non => true | .bl _ => true | .int _ => true | .str _ => true | _ => false
def D.eqF : D → D → Bool
  | .non, .non => true
  | .bl a, .bl b => a == b
  | .bl a, .int b => (if a then 1 else 0) == b
  | .int a, .bl b => a == (if b then 1 else 0)
  | .int a, .int b => a == b
  | .str a, .str b => a == b
  | _, _ => false
/-- x in xs -/
def D.isin : D → D → Option Bool
  | x, .lst _ ys => if x.flat && ys.all D.flat then some (ys.any fun y => y.eqF x) else (match x.py, pyL ys with
    | some d, some ds => if PySem.SeqAt.shaped d && PySem.SeqAt.shaped (.list ds) then some (ds.any fun z => PyData.eqv z d) else none
    | _, _ => none)
  | x, .tup ys => if x.flat && ys.all D.flat then some (ys.any fun y => y.eqF x) else none
  | x, .dic _ kvs => match x.key with
    | some k => some (lookK k kvs).isSome
    | none => none
  | _, _ => none
def D.isNon : D → Option Bool
  | .non => some true
  | .hole => none
  | .exc _ _ => none
  | _ => some false
def Cop.run : Cop → D → D → Option D
  | .eq, a, b => (a.eqv b).map .bl
  | .ne, a, b => (a.eqv b).map fun z => .bl (!z)
  | .lt, .int i, .int j => some (.bl (decide (i < j)))
  | .le, .int i, .int j => some (.bl (decide (i ≤ j)))
  | .gt, .int i, .int j => some (.bl (decide (j < i)))
  | .ge, .int i, .int j => some (.bl (decide (j ≤ i)))
  | .isN, a, .non => a.isNon.map .bl
  | .notN, a, .non => a.isNon.map fun z => .bl (!z)
  | .isin, a, b => (a.isin b).map .bl
  | .notin, a, b => (a.isin b).map fun z => .bl (!z)
  | _, _, _ => none
/-- the place in n that an index means -/
def ixD (n : Nat) (i : Int) : Option Nat := L2.ixN n i
def D.ix : D → D → Option D
  | .lst _ xs, .int i => match ixD xs.length i with
    | some j => xs[j]?
    | none => none
  | .tup xs, .int i => match ixD xs.length i with
    | some j => xs[j]?
    | none => none
  | .dic _ kvs, k => match k.key with
    | some j => lookK j kvs
    | none => none
  | _, _ => none
/-- one that may not change any more, or none -/
def fixed (o : Option D) : Option D := match o with
  | some d => if d.own then none else some d
  | none => none
def cutD (xs : List D) (lo hi : Option Int) : List D := (xs.drop (HT.sIx xs.length 0 lo)).take (HT.sIx xs.length xs.length hi - HT.sIx xs.length 0 lo)
def partE : E → D → Option (Option Int)
  | .non, _ => some none
  | _, .int i => some (some i)
  | _, _ => none
def D.slc (a : D) (l h : Option Int) : Option D := match a with
  | .tup xs => some (.tup (cutD xs l h))
  | .lst _ xs => if ownL xs then none else some (.lst true (cutD xs l h))
  | _ => none
def D.rev : D → Option D
  | .lst _ xs => if ownL xs then none else some (.lst true xs.reverse)
  | _ => none
/-- whole numbers alone -/
def intsD : List D → Option (List Int)
  | [] => some []
  | .int i :: r => (intsD r).map (i :: ·)
  | _ => none
def blsD : List D → Option (List Bool)
  | [] => some []
  | .bl i :: r => (blsD r).map (i :: ·)
  | _ => none
def D.items : D → Option (List D)
  | .lst _ xs => some xs
  | .tup xs => some xs
  | .scr ns => some (ns.map .int)
  | _ => none
def insI (i : Int) : List Int → List Int
  | [] => [i]
  | j :: r => if i ≤ j then i :: j :: r else j :: insI i r
def sortI : List Int → List Int
  | [] => []
  | i :: r => insI i (sortI r)
/-- tuples of whole numbers, in order -/
def leL : List Int → List Int → Bool
  | [], _ => true
  | _ :: _, [] => false
  | x :: xs, y :: ys => if x = y then leL xs ys else decide (x < y)
def insT (i : List Int) : List (List Int) → List (List Int)
  | [] => [i]
  | j :: r => if leL i j then i :: j :: r else j :: insT i r
def sortT : List (List Int) → List (List Int)
  | [] => []
  | i :: r => insT i (sortT r)
def tupsD : List D → Option (List (List Int))
  | [] => some []
  | .tup xs :: r => match intsD xs, tupsD r with
    | some a, some b => some (a :: b)
    | _, _ => none
  | _ => none
def D.sorted : D → Option D
  | .lst _ xs => (match intsD xs with
    | some is => some (.lst true ((sortI is).map .int))
    | none => (match tupsD xs with
      | some ts => if ts.all fun t => !t.isEmpty then some (.lst true ((sortT ts).map fun t => .tup (t.map .int))) else none
      | none => none))
  | _ => none
def maxI : List Int → Option Int
  | [] => none
  | i :: r => some (r.foldl max i)
def minI : List Int → Option Int
  | [] => none
  | i :: r => some (r.foldl min i)
def B1.run : B1 → D → Option D
  | .len, .lst _ xs => some (.int xs.length)
  | .len, .tup xs => some (.int xs.length)
  | .len, .dic _ xs => some (.int xs.length)
  | .abs, .int i => some (.int (if i < 0 then -i else i))
  | .sum, d => (d.items.bind intsD).map fun is => .int is.sum
  | .max, d => (d.items.bind intsD).bind fun is => (maxI is).map .int
  | .min, d => (d.items.bind intsD).bind fun is => (minI is).map .int
  | .sorted, d => d.sorted
  | .list, d => match d.items with
    | some xs => if ownL xs then none else some (.lst true xs)
    | none => none
  | .tuple, d => match d.items with
    | some xs => if ownL xs then none else some (.tup xs)
    | none => none
  | .int, .int i => some (.int i)
  | .int, .bl b => some (.int (if b then 1 else 0))
  | .repr, d => if d.told then some (.str d.shown) else none
  | .any, .lst _ xs => (blsD xs).map fun bs => .bl (bs.any id)
  | .all, .lst _ xs => (blsD xs).map fun bs => .bl (bs.all id)
  | _, _ => none
/-- isinstance of a built-in type -/
def D.isi (t : Str) : D → Option Bool
  | .non => some false
  | .bl _ => some (t == "int" || t == "bool")
  | .int _ => some (t == "int")
  | .str _ => some (t == "str")
  | .tup _ => some (t == "tuple")
  | .lst _ _ => some (t == "list")
  | .dic _ _ => some (t == "dict")
  | _ => none
def D.index (a x : D) : Option D := match a with
  | .lst _ ys => if x.flat && ys.all D.flat then (match ys.findIdx? fun y => y.eqF x with
      | some j => some (.int j)
      | none => none) else none
  | _ => none
def D.get (a k d : D) : Option D := match a, k.key with
  | .dic _ kvs, some j => some ((lookK j kvs).getD d)
  | _, _ => none
def Mut0.run : Mut0 → List D → List D → Option (D × List D)
  | .append, xs, [x] => if xs.length < LINE then some (.non, xs ++ [x]) else none
  | .pop, xs, [] => match xs.getLast? with
    | some x => if x.own then none else some (x, xs.dropLast)
    | none => none
  | _, _, _ => none
def D.min2 : D → D → Option D
  | .int i, .int j => some (.int (if j < i then j else i))
  | _, _ => none
def D.max2 : D → D → Option D
  | .int i, .int j => some (.int (if j > i then j else i))
  | _, _ => none
def rangeD (a : Int) (n : Nat) : List D := (List.range n).map fun (k : Nat) => .int (a + k)
/-- list(range(..)), tuple(range(..)) -/
def rgD (t : Bool) : D → D → Option D
  | .int a, .int b => if decide (-LINE ≤ a) && decide (a ≤ LINE) && decide (-LINE ≤ b) && decide (b ≤ LINE) && decide (b - a ≤ LINE) then some (if t then .tup (rangeD a (b - a).toNat) else .lst true (rangeD a (b - a).toNat)) else none
  | _, _ => none
/-- each once -/
def uniqI : List Int → List Int
  | [] => []
  | i :: r => i :: (uniqI r).filter (· != i)
/-- sorted(set(a)) -/
def D.srs : D → Option D
  | .tup xs => (match intsD xs with
    | some ns => if ns.length < 64 then some (.lst true ((sortI (uniqI ns)).map .int)) else none
    | none => none)
  | _ => none
/-! ### places -/
def accD : D → Acc → Option D
  | .ins _ _ fs, .f x => lookF x fs
  | .lst _ xs, .i j => xs[j]?
  | .tup xs, .i j => xs[j]?
  | .dic _ kvs, .i j => (kvs[j]?).map (·.2)
  | _, _ => none
def getA : D → List Acc → Option D
  | d, [] => some d
  | d, a :: r => match accD d a with
    | some e => getA e r
    | none => none
def getP (ρ : Sl) (p : Pth) : Option D := match ρ[p.s]? with
  | some (some (.exc _ _)) => none
  | some (some d) => getA d p.r
  | _ => none
/-- e in the place of what stands at r; only within what is had alone -/
def setA : D → List Acc → D → Option D
  | _, [], e => some e
  | .ins true c fs, .f x :: r, e => match lookF x fs with
    | some d => (setA d r e).map fun d' => .ins true c (putFD x d' fs)
    | none => none
  | .lst true xs, .i j :: r, e => match xs[j]? with
    | some d => (setA d r e).map fun d' => .lst true (xs.set j d')
    | none => none
  | .dic true kvs, .i j :: r, e => match kvs[j]? with
    | some (k, d) => (setA d r e).map fun d' => .dic true (kvs.set j (k, d'))
    | none => none
  | _, _, _ => none
def setP (ρ : Sl) (p : Pth) (e : D) : Option Sl := match ρ[p.s]? with
  | some (some (.exc _ _)) => none
  | some (some d) => (setA d p.r e).map fun d' => ρ.set p.s (some d')
  | _ => none
def posK (k : Key) : List (Key × D) → Option Nat
  | [] => none
  | (j, _) :: r => if j = k then some 0 else (posK k r).map (· + 1)
/-- the step that an index means at a thing -/
def accOf (d i : D) : Option Acc := match d, i with
  | .lst _ xs, .int k => (ixD xs.length k).map .i
  | .tup xs, .int k => (ixD xs.length k).map .i
  | .dic _ kvs, k => (k.key).bind fun j => (posK j kvs).map .i
  | _, _ => none
/-! ### what is fixed through a run -/
structure G where
  call : Str → List D → CR
  /-- the slots of arguments that are lent: stored by none -/
  prot : List Nat
  /-- a constant of the module -/
  con : Str → Option D
  /-- a def's parameters -/
  ps : Str → List Str
  /-- the classes of errors: one and those it is one of -/
  sub : Str → Str → Bool
  /-- what isinstance answers of an error -/
  isk : Str → Str → Option Bool
  /-- the field of an error -/
  fld : Str → Str
  /-- a while, by its turn -/
  wl : (Sl → Option (Sum Sl RS)) → Sl → RS
mutual
def pur : E → Bool
  | .non | .bl _ | .int _ | .str _ | .glb _ => true
  | .rd p => purP p
  | .bin _ a b => pur a && pur b
  | .un _ a => pur a
  | .not a => pur a
  | .and a b => pur a && pur b
  | .or a b => pur a && pur b
  | .cmp _ a b => pur a && pur b
  | .chain _ _ a b c => pur a && pur b && pur c
  | .ite c a b => pur c && pur a && pur b
  | .idx a i => pur a && pur i
  | .b1 _ a => pur a
  | .min2 a b => pur a && pur b
  | .max2 a b => pur a && pur b
  | .isi a _ => pur a
  | .get1 a k => pur a && pur k
  | .get2 a k d => pur a && pur k && pur d
  | .index a x => pur a && pur x
  | .tup es => purEs es
  | .lst es => purEs es
  | .slc a l h => pur a && pur l && pur h
  | .rg1 _ a => pur a
  | .rg2 _ a b => pur a && pur b
  | .srs a => pur a
  | .rev a => pur a
  | .shv a => pur a
  | _ => false
def purP : P → Bool
  | .var _ => true
  | .fld p _ => purP p
  | .sub p e => purP p && pur e
def purEs : Es → Bool
  | .nil => true
  | .cons e es => pur e && purEs es
end
def purAs : As → Bool
  | .nil => true
  | .v e as => pur e && purAs as
  | .l _ as => purAs as
def P.bare : P → Bool
  | .var _ => true
  | _ => false
def RE.lift (o : Option D) (ρ : Sl) : RE := match o with
  | some d => .ok d ρ
  | none => .bad
/-- a value, to be kept -/
def RE.v (r : RE) (k : D → Sl → RE) : RE := match r with
  | .ok d ρ => k d ρ
  | .exc c v ρ => .exc c v ρ
  | _ => .bad
/-- a value, to be looked at -/
def RE.o (r : RE) (p : Bool) (k : D → Sl → RE) : RE := match r with
  | .ok d ρ => k d ρ
  | .brw d ρ => if p then k d ρ else .bad
  | .exc c v ρ => .exc c v ρ
  | .bad => .bad
def REs.cons (d : D) (r : REs) : REs := match r with
  | .ok as ρ => .ok (d :: as) ρ
  | r => r
def RA.cons (d : AV) (r : RA) : RA := match r with
  | .ok as ρ => .ok (d :: as) ρ
  | r => r
/-- the arguments handed over: what is lent leaves a hole -/
def lend : List AV → Sl → Option (List D × Sl)
  | [], ρ => some ([], ρ)
  | .v d :: r, ρ => (lend r ρ).map fun x => (d.share :: x.1, x.2)
  | .l p :: r, ρ => match getP ρ p with
    | some d => if d.own then (match setP ρ p .hole with
        | some ρ' => (lend r ρ').map fun x => (d :: x.1, x.2)
        | none => none)
      else (lend r ρ).map fun x => (d :: x.1, x.2)
    | none => none
/-- .. and given back -/
def giveBack : List AV → List D → Sl → Option Sl
  | [], [], ρ => some ρ
  | .v _ :: r, _ :: ds, ρ => giveBack r ds ρ
  | .l p :: r, d :: ds, ρ => match getP ρ p with
    | some .hole => (match setP ρ p d with
      | some ρ' => giveBack r ds ρ'
      | none => none)
    | some _ => giveBack r ds ρ
    | none => none
  | _, _, _ => none
/-- what was lent can be given back -/
def lentOk : List AV → Sl → Bool
  | [], _ => true
  | .v _ :: r, ρ => lentOk r ρ
  | .l p :: r, ρ => (getP ρ p).isSome && lentOk r ρ
def doCall (g : G) (f : Str) (as : List AV) (ρ : Sl) : RE := match lend as ρ with
  | some (ds, ρ1) => if lentOk as ρ1 then (match g.call f ds with
    | .ok d ds' => (match giveBack as ds' ρ1 with
      | some ρ2 => .ok d ρ2
      | none => .bad)
    | .exc c v ds' => (match giveBack as ds' ρ1 with
      | some ρ2 => .exc c v ρ2
      | none => .bad)
    | .bad => .bad) else .bad
  | none => .bad

/-- what stands under the name p, and the rest -/
def takeN {α : Type} (p : Str) : List Str → List α → Option (α × List Str × List α)
  | k :: ks, v :: vs => if k = p then some (v, ks, vs) else (takeN p ks vs).map fun q => (q.1, k :: q.2.1, v :: q.2.2)
  | _, _ => none
/-- what stands under names ks, in the order ps -/
def reord {α : Type} : List Str → List Str → List α → Option (List α)
  | [], [], [] => some []
  | p :: ps, ks, vs => (takeN p ks vs).bind fun q => (reord ps q.2.1 q.2.2).map (q.1 :: ·)
  | _, _, _ => none
def byName (ps kws : List Str) (as : List AV) : Option (List AV) := reord ps kws as
def wipeS : Sl → List Nat → Sl
  | ρ, [] => ρ
  | ρ, i :: is => (wipeS ρ is).set i none
def restore (old : Sl) : Sl → List Nat → Sl
  | ρ, [] => ρ
  | ρ, i :: is => (restore old ρ is).set i (old[i]?.getD none)
/-- the slots hold nothing that may change -/
def calmAt (ρ : Sl) : List Nat → Bool
  | [] => true
  | i :: is => (match ρ[i]? with
    | some (some d) => !d.own
    | some none => true
    | none => false) && calmAt ρ is
def putHeld : List (Nat × D) → Sl → Option Sl
  | [], ρ => some ρ
  | (i, d) :: r, ρ => match ρ[i]? with
    | some (some .hole) => putHeld r (ρ.set i (some d))
    | _ => none
def enumD : Nat → List D → List D
  | _, [] => []
  | n, d :: r => .tup [.int n, d] :: enumD (n + 1) r
def zipD : List D → List D → List D
  | x :: xs, y :: ys => .tup [x, y] :: zipD xs ys
  | _, _ => []
def K2D : Key → D
  | .inl i => .int i
  | .inr s => .str s
/-- the turns of a comprehension -/
def lcLoop (step : D → Sl → Option (Option D × Sl)) : List D → Sl → Option (List D × Sl)
  | [], ρ => some ([], ρ)
  | d :: r, ρ => match step d ρ with
    | some (some x, ρ1) => (lcLoop step r ρ1).map fun z => (x :: z.1, z.2)
    | some (none, ρ1) => lcLoop step r ρ1
    | none => none
def dcLoop (step : D → Sl → Option (Option (Key × D) × Sl)) : List D → List (Key × D) → Sl → Option (List (Key × D) × Sl)
  | [], acc, ρ => some (acc, ρ)
  | d :: r, acc, ρ => match step d ρ with
    | some (some x, ρ1) => dcLoop step r (putKD x.1 x.2 acc) ρ1
    | some (none, ρ1) => dcLoop step r acc ρ1
    | none => none
mutual
def ev (g : G) : E → Sl → RE
  | .non, ρ => .ok .non ρ
  | .bl b, ρ => .ok (.bl b) ρ
  | .int i, ρ => .ok (.int i) ρ
  | .str s, ρ => .ok (.str s) ρ
  | .glb x, ρ => .lift (g.con x) ρ
  | .rd p, ρ => match evP g p ρ with
    | some r => (match getP ρ r with
      | some d => if d.own then .brw d ρ else .ok d ρ
      | none => .bad)
    | none => .bad
  | .sh p, ρ => match evP g p ρ with
    | some r => (match getP ρ r with
      | some d => (match setP ρ r d.share with
        | some ρ' => .ok d.share ρ'
        | none => .bad)
      | none => .bad)
    | none => .bad
  | .mv i, ρ => match ρ[i]? with
    | some (some (.exc _ _)) => .bad
    | some (some .hole) => .bad
    | some (some d) => if g.prot.contains i then .bad else .ok d (ρ.set i none)
    | _ => .bad
  | .bin op a b, ρ => (ev g a ρ).o (pur b) fun x ρ1 => (ev g b ρ1).o true fun y ρ2 => .lift (op.run x y) ρ2
  | .un op a, ρ => (ev g a ρ).o true fun x ρ1 => .lift (op.run x) ρ1
  | .not a, ρ => (ev g a ρ).o true fun x ρ1 => match x.tru with
    | some b => .ok (.bl (!b)) ρ1
    | none => .bad
  | .and a b, ρ => (ev g a ρ).v fun x ρ1 => match x with
    | .bl true => ev g b ρ1
    | .bl false => .ok (.bl false) ρ1
    | _ => .bad
  | .or a b, ρ => (ev g a ρ).v fun x ρ1 => match x with
    | .bl false => ev g b ρ1
    | .bl true => .ok (.bl true) ρ1
    | _ => .bad
  | .cmp op a b, ρ => (ev g a ρ).o (pur b) fun x ρ1 => (ev g b ρ1).o true fun y ρ2 => .lift (op.run x y) ρ2
  | .chain o1 o2 a b c, ρ => (ev g a ρ).v fun x ρ1 => (ev g b ρ1).v fun y ρ2 => match y with
    | .int j => (match o1.run x (.int j) with
      | some (.bl true) => (ev g c ρ2).o true fun z ρ3 => .lift (o2.run (.int j) z) ρ3
      | some (.bl false) => .ok (.bl false) ρ2
      | _ => .bad)
    | _ => .bad
  | .ite c a b, ρ => (ev g c ρ).o true fun x ρ1 => match x.tru with
    | some true => ev g a ρ1
    | some false => ev g b ρ1
    | none => .bad
  | .tup es, ρ => match evEs g es ρ with
    | .ok as ρ1 => .ok (.tup (shareL as)) ρ1
    | .exc c v ρ1 => .exc c v ρ1
    | .bad => .bad
  | .lst es, ρ => match evEs g es ρ with
    | .ok as ρ1 => .ok (.lst true as) ρ1
    | .exc c v ρ1 => .exc c v ρ1
    | .bad => .bad
  | .dic ks vs, ρ => match evEs g vs ρ with
    | .ok as ρ1 => if ks.length = as.length then .ok (.dic true (ks.zip as)) ρ1 else .bad
    | .exc c v ρ1 => .exc c v ρ1
    | .bad => .bad
  | .idx a i, ρ => (ev g a ρ).o (pur i) fun x ρ1 => (ev g i ρ1).o true fun y ρ2 => .lift (fixed (x.ix y)) ρ2
  | .slc a lo hi, ρ => if pur lo && pur hi then (ev g a ρ).o true fun x ρ1 => match ev g lo ρ1, ev g hi ρ1 with
      | .ok y _, .ok z _ => (match partE lo y, partE hi z with
        | some l, some h => .lift (x.slc l h) ρ1
        | _, _ => .bad)
      | _, _ => .bad
    else .bad
  | .rev a, ρ => (ev g a ρ).o true fun x ρ1 => .lift x.rev ρ1
  | .call f as, ρ => match evAs g as ρ with
    | .ok vs ρ1 => doCall g f vs ρ1
    | .exc c v ρ1 => .exc c v ρ1
    | .bad => .bad
  | .callk f as kws, ρ => match evAs g as ρ with
    | .ok vs ρ1 => (match byName (g.ps f) kws vs with
      | some ws => doCall g f ws ρ1
      | none => .bad)
    | .exc c v ρ1 => .exc c v ρ1
    | .bad => .bad
  | .meth c m p as, ρ => match evP g p ρ with
    | some r => (match getP ρ r with
      | some (.ins _ c' _) => if c' = c ∧ (p.bare || purAs as) = true then (match evAs g as ρ with
        | .ok vs ρ1 => doCall g m (.l r :: vs) ρ1
        | .exc c v ρ1 => .exc c v ρ1
        | .bad => .bad) else .bad
      | _ => .bad)
    | none => .bad
  | .new c as, ρ => match evAs g as ρ with
    | .ok vs ρ1 => (match lend vs ρ1 with
      | some (ds, ρ2) => if lentOk vs ρ2 then (match g.call (c ++ (".__init__" : Str)) (.ins true c [] :: ds) with
        | .ok .non (self :: ds') => (match giveBack vs ds' ρ2 with
          | some ρ3 => .ok self ρ3
          | none => .bad)
        | .exc e v (_ :: ds') => (match giveBack vs ds' ρ2 with
          | some ρ3 => .exc e v ρ3
          | none => .bad)
        | _ => .bad) else .bad
      | none => .bad)
    | .exc c v ρ1 => .exc c v ρ1
    | .bad => .bad
  | .b1 b a, ρ => (ev g a ρ).o true fun x ρ1 => .lift (b.run x) ρ1
  | .min2 a b, ρ => (ev g a ρ).o (pur b) fun x ρ1 => (ev g b ρ1).o true fun y ρ2 => .lift (x.min2 y) ρ2
  | .max2 a b, ρ => (ev g a ρ).o (pur b) fun x ρ1 => (ev g b ρ1).o true fun y ρ2 => .lift (x.max2 y) ρ2
  | .isi a t, ρ => (ev g a ρ).o true fun x ρ1 => .lift ((x.isi t).map .bl) ρ1
  | .bm m p es, ρ => if p.bare || purEs es then (match evP g p ρ with
    | some r => (match getP ρ r with
      | some (.lst true _) => (match evEs g es ρ with
        | .ok as ρ1 => (match getP ρ1 r with
          | some (.lst true xs) => (match m.run xs as with
            | some (x, xs') => (match setP ρ1 r (.lst true xs') with
              | some ρ2 => .ok x ρ2
              | none => .bad)
            | none => .bad)
          | _ => .bad)
        | .exc c v ρ1 => .exc c v ρ1
        | .bad => .bad)
      | _ => .bad)
    | none => .bad) else .bad
  | .index a x, ρ => (ev g a ρ).o (pur x) fun y ρ1 => match y with
    | .lst _ _ => (ev g x ρ1).o true fun z ρ2 => .lift (y.index z) ρ2
    | _ => .bad
  | .rg1 t a, ρ => (ev g a ρ).o true fun x ρ1 => .lift (rgD t (.int 0) x) ρ1
  | .rg2 t a b, ρ => (ev g a ρ).o (pur b) fun x ρ1 => (ev g b ρ1).o true fun y ρ2 => .lift (rgD t x y) ρ2
  | .srs a, ρ => (ev g a ρ).o true fun x ρ1 => .lift x.srs ρ1
  | .get1 a k, ρ => (ev g a ρ).o (pur k) fun x ρ1 => match x with
    | .dic _ _ => (ev g k ρ1).o true fun y ρ2 => .lift (fixed (x.get y .non)) ρ2
    | _ => .bad
  | .get2 a k d, ρ => if pur k && pur d then (ev g a ρ).o true fun x ρ1 => match x with
    | .dic _ _ => (match ev g k ρ1, ev g d ρ1 with
      | .ok y _, .ok z _ => .lift (fixed (x.get y z)) ρ1
      | _, _ => .bad)
    | _ => .bad
    else .bad
  | .lc elt tg it cond own, ρ => match evIt g it ρ with
    | .ok items held ρ1 => if calmAt ρ1 own && decide (items.length ≤ LINE) then (match lcLoop (fun d ρ2 => match asg g tg d (wipeS ρ2 own) with
        | some ρ3 => (match ev g cond ρ3 with
          | .ok c ρ4 | .brw c ρ4 => (match c.tru with
            | some true => (match ev g elt ρ4 with
              | .ok x ρ5 => some (some x, ρ5)
              | _ => none)
            | some false => some (none, ρ4)
            | none => none)
          | _ => none)
        | none => none) items ρ1 with
      | some (xs, ρ6) => (match putHeld held (restore ρ1 (wipeS ρ6 own) own) with
        | some ρ7 => .ok (.lst true xs) ρ7
        | none => .bad)
      | none => .bad) else .bad
    | .exc c v ρ1 => .exc c v ρ1
    | .bad => .bad
  | .dc k v tg it cond own, ρ => match evIt g it ρ with
    | .ok items held ρ1 => if calmAt ρ1 own && decide (items.length < LINE) then (match dcLoop (fun d ρ2 => match asg g tg d (wipeS ρ2 own) with
        | some ρ3 => (match ev g cond ρ3 with
          | .ok c ρ4 | .brw c ρ4 => (match c.tru with
            | some true => (match ev g k ρ4 with
              | .ok y ρ5 => (match y.key, ev g v ρ5 with
                | some j, .ok x ρ6 => some (some (j, x), ρ6)
                | _, _ => none)
              | _ => none)
            | some false => some (none, ρ4)
            | none => none)
          | _ => none)
        | none => none) items [] ρ1 with
      | some (xs, ρ6) => (match putHeld held (restore ρ1 (wipeS ρ6 own) own) with
        | some ρ7 => .ok (.dic true xs) ρ7
        | none => .bad)
      | none => .bad) else .bad
    | .exc c v ρ1 => .exc c v ρ1
    | .bad => .bad
  | .shv e, ρ => (ev g e ρ).v fun d ρ1 => .ok d.share ρ1
  | .sda p k x, ρ => if pur k && pur x then (match evP g p ρ with
    | some r => (match getP ρ r with
      | some (.dic true kvs) => (match ev g k ρ with
        | .ok kd _ => (match kd.key with
          | some j => if kvs.length < LINE then (match (match lookK j kvs with
              | some _ => some ρ
              | none => setP ρ r (.dic true (putKD j (.lst true []) kvs))) with
            | some ρ1 => (match getP ρ1 r with
              | some (.dic true kvs1) => (match posK j kvs1 with
                | some n => (match getP ρ1 ⟨r.s, r.r ++ [.i n]⟩, ev g x ρ1 with
                  | some (.lst true xs), .ok d _ => if xs.length < LINE then (match setP ρ1 ⟨r.s, r.r ++ [.i n]⟩ (.lst true (xs ++ [d])) with
                      | some ρ2 => .ok .non ρ2
                      | none => .bad) else .bad
                  | _, _ => .bad)
                | none => .bad)
              | _ => .bad)
            | none => .bad) else .bad
          | none => .bad)
        | _ => .bad)
      | _ => .bad)
    | none => .bad) else .bad
  | .efld i f, ρ => match ρ[i]? with
    | some (some (.exc c v)) => if g.fld c = f then .ok v ρ else .bad
    | _ => .bad
  | .eisi i c', ρ => match ρ[i]? with
    | some (some (.exc c _)) => .lift ((g.isk c c').map .bl) ρ
    | _ => .bad
def evP (g : G) : P → Sl → Option Pth
  | .var i, _ => some ⟨i, []⟩
  | .fld p f, ρ => (evP g p ρ).map fun r => ⟨r.s, r.r ++ [.f f]⟩
  | .sub p e, ρ => if pur e then (match evP g p ρ with
    | some r => (match getP ρ r with
      | some d => (match ev g e ρ with
        | .ok i _ => (accOf d i).map fun a => ⟨r.s, r.r ++ [a]⟩
        | _ => none)
      | none => none)
    | none => none) else none
def evEs (g : G) : Es → Sl → REs
  | .nil, ρ => .ok [] ρ
  | .cons e es, ρ => match ev g e ρ with
    | .ok d ρ1 => .cons d (evEs g es ρ1)
    | .exc c v ρ1 => .exc c v ρ1
    | _ => .bad
def evAs (g : G) : As → Sl → RA
  | .nil, ρ => .ok [] ρ
  | .v e as, ρ => match ev g e ρ with
    | .ok d ρ1 => .cons (.v d) (evAs g as ρ1)
    | .exc c v ρ1 => .exc c v ρ1
    | _ => .bad
  | .l p as, ρ => if p.bare || purAs as then (match evP g p ρ with
    | some r => (match getP ρ r with
      | some _ => .cons (.l r) (evAs g as ρ)
      | none => .bad)
    | none => .bad) else .bad
def evLf (g : G) : Lf → Sl → RI
  | .pl p, ρ => match evP g p ρ with
    | some r => (match getP ρ r with
      | some d => if d.own then (match p with
          | .var i => (match d with
            | .hole => .bad
            | _ => .ok [d] [(i, d)] (ρ.set i (some .hole)))
          | _ => .bad) else .ok [d] [] ρ
      | none => .bad)
    | none => .bad
  | .ex e, ρ => match ev g e ρ with
    | .ok d ρ1 => .ok [d] [] ρ1
    | .exc c v ρ1 => .exc c v ρ1
    | _ => .bad
def evIt (g : G) : It → Sl → RI
  | .one l, ρ => match evLf g l ρ with
    | .ok [d] h ρ1 => (match d with
      | .lst _ xs => if ownL xs then .bad else .ok xs h ρ1
      | .tup xs => .ok xs h ρ1
      | .scr ns => .ok (ns.map .int) h ρ1
      | _ => .bad)
    | .exc c v ρ1 => .exc c v ρ1
    | _ => .bad
  | .rng1 a, ρ => match ev g a ρ with
    | .ok (.int n) ρ1 => if decide (-LINE ≤ n) && decide (n ≤ LINE) then .ok (rangeD 0 n.toNat) [] ρ1 else .bad
    | .exc c v ρ1 => .exc c v ρ1
    | _ => .bad
  | .rng2 a b, ρ => match ev g a ρ with
    | .ok (.int m) ρ1 => (match ev g b ρ1 with
      | .ok (.int n) ρ2 => if decide (-LINE ≤ m) && decide (m ≤ LINE) && decide (-LINE ≤ n) && decide (n ≤ LINE) then .ok (rangeD m (n - m).toNat) [] ρ2 else .bad
      | .exc c v ρ2 => .exc c v ρ2
      | _ => .bad)
    | .exc c v ρ1 => .exc c v ρ1
    | _ => .bad
  | .enu l, ρ => match evLf g l ρ with
    | .ok [d] h ρ1 => (match d with
      | .lst _ xs => if ownL xs then .bad else .ok (enumD 0 xs) h ρ1
      | .tup xs => .ok (enumD 0 xs) h ρ1
      | _ => .bad)
    | .exc c v ρ1 => .exc c v ρ1
    | _ => .bad
  | .zip l k, ρ => match evLf g l ρ with
    | .ok [d] h ρ1 => (match evLf g k ρ1 with
      | .ok [e] h2 ρ2 => (match d, e with
        | .lst _ xs, .lst _ ys => if ownL xs || ownL ys then .bad else .ok (zipD xs ys) (h ++ h2) ρ2
        | .tup xs, .tup ys => .ok (zipD xs ys) (h ++ h2) ρ2
        | _, _ => .bad)
      | .exc c v ρ2 => .exc c v ρ2
      | _ => .bad)
    | .exc c v ρ1 => .exc c v ρ1
    | _ => .bad
  | .itm _, _ => .bad
  | .val (.pl (.var i)), ρ => match ρ[i]? with
    | some (some (.dic true kvs)) => if g.prot.contains i then .bad else .ok ((shareK kvs).map (·.2)) [] (ρ.set i none)
    | _ => .bad
  | .val _, _ => .bad
  | .rngD _ _, _ => .bad
def asg (g : G) : Tg → D → Sl → Option Sl
  | .v i, d, ρ => if g.prot.contains i then none else if i < ρ.length then some (ρ.set i (some d)) else none
  | .t ts, d, ρ => match d with
    | .tup xs => asgs g ts xs ρ
    | .lst _ xs => asgs g ts xs ρ
    | _ => none
  | .s p e, d, ρ => if pur e then (match evP g p ρ with
    | some r => (match getP ρ r with
      | some (.lst true xs) => (match ev g e ρ with
        | .ok (.int k) _ => (match ixD xs.length k with
          | some j => setP ρ r (.lst true (xs.set j d))
          | none => none)
        | _ => none)
      | some (.dic true kvs) => (match ev g e ρ with
        | .ok k _ => (match k.key with
          | some j => if kvs.length < LINE then setP ρ r (.dic true (putKD j d kvs)) else none
          | none => none)
        | _ => none)
      | _ => none)
    | none => none) else none
  | .f p x, d, ρ => match evP g p ρ with
    | some r => (match getP ρ r with
      | some (.ins true c fs) => if fs.length < 1000 then setP ρ r (.ins true c (putFD x d fs)) else none
      | _ => none)
    | none => none
def asgs (g : G) : Tgs → List D → Sl → Option Sl
  | .nil, [], ρ => some ρ
  | .cons t ts, d :: ds, ρ => match asg g t d ρ with
    | some ρ1 => asgs g ts ds ρ1
    | none => none
  | _, _, _ => none
end
/-! ### statements -/
def RS.seq (r : RS) (k : Sl → RS) : RS := match r with
  | .ok .nx ρ => k ρ
  | r => r
def RE.s (r : RE) (k : D → Sl → RS) : RS := match r with
  | .ok d ρ => k d ρ
  | .exc c v ρ => .exc c v ρ
  | _ => .bad
/-- a test -/
def RE.t (r : RE) (k : Bool → Sl → RS) : RS := match r with
  | .ok d ρ => (match d.tru with
    | some b => k b ρ
    | none => .bad)
  | .brw d ρ => (match d.tru with
    | some b => k b ρ
    | none => .bad)
  | .exc c v ρ => .exc c v ρ
  | .bad => .bad
def forL (step : D → Sl → RS) : List D → Sl → RS
  | [], ρ => .ok .nx ρ
  | d :: r, ρ => match step d ρ with
    | .ok .nx ρ1 => forL step r ρ1
    | .ok .ct ρ1 => forL step r ρ1
    | .ok .bk ρ1 => .ok .nx ρ1
    | x => x
def RS.back (h : List (Nat × D)) : RS → RS
  | .ok f ρ => (match putHeld h ρ with
    | some ρ1 => .ok f ρ1
    | none => .bad)
  | .exc c v ρ => (match putHeld h ρ with
    | some ρ1 => .exc c v ρ1
    | none => .bad)
  | .bad => .bad
/-- a turn of a while -/
def RS.turn (r : RS) : Option (Sum Sl RS) := match r with
  | .ok .nx ρ => some (.inl ρ)
  | .ok .ct ρ => some (.inl ρ)
  | .ok .bk ρ => some (.inr (.ok .nx ρ))
  | .bad => none
  | r => some (.inr r)
def setO (ρ : Sl) (i : Option Nat) (d : Option D) : Sl := match i with
  | some j => ρ.set j d
  | none => ρ
def RS.clr (i : Option Nat) : RS → RS
  | .ok f ρ => .ok f (setO ρ i none)
  | .exc c v ρ => .exc c v (setO ρ i none)
  | .bad => .bad
mutual
def ex : S → G → Sl → RS
  | .ex e, g, ρ => (ev g e ρ).s fun _ ρ1 => .ok .nx ρ1
  | .asg t e, g, ρ => (ev g e ρ).s fun d ρ1 => match asg g t d ρ1 with
    | some ρ2 => .ok .nx ρ2
    | none => .bad
  | .par ts es, g, ρ => match evEs g es ρ with
    | .ok as ρ1 => (match asgs g ts as ρ1 with
      | some ρ2 => .ok .nx ρ2
      | none => .bad)
    | .exc c v ρ1 => .exc c v ρ1
    | .bad => .bad
  | .aug p op e, g, ρ => (ev g (.rd p) ρ).s fun x ρ1 => (ev g e ρ1).s fun y ρ2 => match x, op.run x y with
    | .int _, some z => (match (match p with
      | .var i => asg g (.v i) z ρ2
      | .sub q i => asg g (.s q i) z ρ2
      | .fld q x => asg g (.f q x) z ρ2) with
      | some ρ3 => .ok .nx ρ3
      | none => .bad)
    | _, _ => .bad
  | .ret e, g, ρ => (ev g e ρ).s fun d ρ1 => .ok (.rt d) ρ1
  | .retN, g, ρ => .ok (.rt .non) ρ
  | .ite c a b, g, ρ => (ev g c ρ).t fun k ρ1 => if k then ex a g ρ1 else ex b g ρ1
  | .whl c b, g, ρ => g.wl (fun ρ => match ev g c ρ with
    | .ok d ρ1 | .brw d ρ1 => (match d.tru with
      | some true => (ex b g ρ1).turn
      | some false => some (.inr (.ok .nx ρ1))
      | none => none)
    | .exc n v ρ1 => some (.inr (.exc n v ρ1))
    | .bad => none) ρ
  | .for t it b, g, ρ => match evIt g it ρ with
    | .ok items held ρ1 => (forL (fun d ρ2 => match asg { g with prot := held.map (·.1) ++ g.prot } t d ρ2 with
      | some ρ3 => ex b { g with prot := held.map (·.1) ++ g.prot } ρ3
      | none => .bad) items ρ1).back held
    | .exc c v ρ1 => .exc c v ρ1
    | .bad => .bad
  | .brk, g, ρ => .ok .bk ρ
  | .cont, g, ρ => .ok .ct ρ
  | .pass, g, ρ => .ok .nx ρ
  | .rse c e, g, ρ => (ev g e ρ).s fun d ρ1 => .exc c d.share ρ1
  | .try b hs, g, ρ => match ex b g ρ with
    | .exc c v ρ1 => exH hs g c v ρ1
    | r => r
  | .sda p k x, g, ρ => if pur k && pur x then (match evP g p ρ with
    | some r => (match getP ρ r with
      | some (.dic true kvs) => (ev g k ρ).s fun kd _ => (ev g x ρ).s fun d _ => match kd.key with
        | some j => (match lookK j kvs with
          | some (.lst true xs) => if xs.length < LINE then (match setP ρ r (.dic true (putKD j (.lst true (xs ++ [d])) kvs)) with
              | some ρ1 => .ok .nx ρ1
              | none => .bad) else .bad
          | none => if kvs.length < LINE then (match setP ρ r (.dic true (putKD j (.lst true [d]) kvs)) with
              | some ρ1 => .ok .nx ρ1
              | none => .bad) else .bad
          | _ => .bad)
        | none => .bad
      | _ => .bad)
    | none => .bad) else .bad
  | .seq a b, g, ρ => (ex a g ρ).seq (ex b g)
  | .hd _ _ _ _, g, _ => .bad
  | .hnil, g, _ => .bad
def exH : S → G → Str → D → Sl → RS
  | .hd c' i h more, g, c, v, ρ => if g.sub c c = true then (if g.sub c c' = true then (if i.any g.prot.contains then .bad else match ex h g (setO ρ i (some (.exc c v))) with
      | .exc _ _ _ => .bad
      | r => r.clr i) else exH more g c v ρ) else .bad
  | _, _, c, v, ρ => .exc c v ρ
end
/-- a while by turns -/
def wlN (step : Sl → Option (Sum Sl RS)) : Nat → Sl → Option RS
  | 0, _ => none
  | n + 1, ρ => match step ρ with
    | none => some .bad
    | some (.inl ρ') => wlN step n ρ'
    | some (.inr r) => some r
/-! ### defs -/
structure Fn where
  np : Nat
  ns : Nat
  body : S
def finals : List D → Sl → Option (List D)
  | [], _ => some []
  | d :: ds, ρ => match ρ with
    | x :: ρ' => if d.own then (match x with
        | some e => (finals ds ρ').map (e :: ·)
        | none => none) else (finals ds ρ').map (d :: ·)
    | [] => none
def lentAt : Nat → List D → List Nat
  | _, [] => []
  | n, d :: ds => if d.own then n :: lentAt (n + 1) ds else lentAt (n + 1) ds
def finish (as : List D) : RS → CR
  | .ok f ρ => (match finals as ρ with
    | some ds => (match f with
      | .rt d => .ok d ds
      | .nx => .ok .non ds
      | _ => .bad)
    | none => .bad)
  | .exc c v ρ => (match finals as ρ with
    | some ds => .exc c v ds
    | none => .bad)
  | .bad => .bad
def startD (F : Fn) (as : List D) : Sl := as.map some ++ List.replicate (F.ns - F.np) none
def run (T : Str → Option Fn) (g : G) : Nat → Str → List D → CR
  | 0, _, _ => .bad
  | n + 1, f, as => match T f with
    | some F => if as.length = F.np then finish as (ex F.body { g with call := run T g n, prot := lentAt 0 as } (startD F as)) else .bad
    | none => .bad
end TW
end

section
/-! trees and the abstract heap -/
namespace TW
open PySem (Str Addr)
open L2 (V HO Hp Rd upd upd_same upd_ne)
/-- what is fixed: the module's written part, the classes by their names -/
structure C0 where
  K : PySem.W.Frag
  cls : Str → Option Addr
  /-- errors -/
  ecl : Str → Option Addr
/-- a list that changes no more -/
def SL (C : C0) (H : Hp) (Z : Addr → Prop) (a : Addr) (vs : List V) : Prop :=
  (Rd H a (.lst vs) ∧ Z a) ∨ ∃ o its n, List.lookup a C.K = some o ∧ o.cls = PySem.Value.type "list" ∧ o.dict = none ∧ o.data = PySem.Data.seq its n ∧ its.size ≤ PySem.sizeLine ∧ L2.Vals vs its.toList
theorem SL.sq {C : C0} {H : Hp} {Z : Addr → Prop} {a : Addr} {vs : List V} (h : SL C H Z a vs) : L2.SqL C.K H a vs := by
  rcases h with ⟨h, _⟩ | h
  · exact .inl h
  · exact .inr h
mutual
/-- x is the tree d in H; Z: what changes no more; f: what it alone has -/
def R (C : C0) (H : Hp) (Z : Addr → Prop) : D → V → List Addr → Prop
  | .non, x, f => x = .non ∧ f = []
  | .bl b, x, f => x = .bl b ∧ f = []
  | .int i, x, f => x = .int i ∧ f = []
  | .str s, x, f => x = .str s ∧ f = []
  | .tup ds, x, f => f = [] ∧ ∃ a vs, x = .ref a ∧ H a = some (.tup vs) ∧ Z a ∧ RL C H Z ds vs []
  | .lst o ds, x, f => match o with
    | true => ∃ a vs g, x = .ref a ∧ H a = some (.lst vs) ∧ RL C H Z ds vs g ∧ f = a :: g
    | false => f = [] ∧ ∃ a vs, x = .ref a ∧ H a = some (.lst vs) ∧ Z a ∧ RL C H Z ds vs []
  | .dic o kvs, x, f => match o with
    | true => ∃ a vs g, x = .ref a ∧ H a = some (.dK vs) ∧ (vs.map (·.1)).Nodup ∧ RK C H Z kvs vs g ∧ f = a :: g
    | false => f = [] ∧ ∃ a vs, x = .ref a ∧ H a = some (.dK vs) ∧ Z a ∧ (vs.map (·.1)).Nodup ∧ RK C H Z kvs vs []
  | .ins o c fs, x, f => match o with
    | true => ∃ a A dx vs g, x = .ref a ∧ C.cls c = some A ∧ H a = some (.ins A dx vs) ∧ RF C H Z fs vs g ∧ f = a :: g
    | false => f = [] ∧ ∃ a A dx vs, x = .ref a ∧ C.cls c = some A ∧ H a = some (.ins A dx vs) ∧ Z a ∧ RF C H Z fs vs []
  | .exc _ _, _, _ => False
  | .scr ns, x, f => f = [] ∧ ∃ a, x = .ref a ∧ SL C H Z a (ns.map V.int)
  | .hole, _, f => f = []
def RL (C : C0) (H : Hp) (Z : Addr → Prop) : List D → List V → List Addr → Prop
  | [], vs, f => vs = [] ∧ f = []
  | d :: ds, vs, f => ∃ v vr f1 f2, vs = v :: vr ∧ R C H Z d v f1 ∧ RL C H Z ds vr f2 ∧ f = f1 ++ f2
def RK (C : C0) (H : Hp) (Z : Addr → Prop) : List (Key × D) → List (Key × V) → List Addr → Prop
  | [], vs, f => vs = [] ∧ f = []
  | (k, d) :: ds, vs, f => ∃ v vr f1 f2, vs = (k, v) :: vr ∧ R C H Z d v f1 ∧ RK C H Z ds vr f2 ∧ f = f1 ++ f2
def RF (C : C0) (H : Hp) (Z : Addr → Prop) : List (Str × D) → List (Str × V) → List Addr → Prop
  | [], vs, f => vs = [] ∧ f = []
  | (k, d) :: ds, vs, f => ∃ v vr f1 f2, vs = (k, v) :: vr ∧ R C H Z d v f1 ∧ RF C H Z ds vr f2 ∧ f = f1 ++ f2
end
variable {C : C0} {H H' : Hp} {Z Z' : Addr → Prop}
/-- H' is as H at f and where nothing changes -/
def Kp (H H' : Hp) (Z Z' : Addr → Prop) (f : List Addr) : Prop := (∀ a, Z a → Z' a) ∧ ∀ a o, (a ∈ f ∨ Z a) → H a = some o → H' a = some o
theorem Kp.sub {f g : List Addr} (k : Kp H H' Z Z' f) (h : ∀ a ∈ g, a ∈ f) : Kp H H' Z Z' g :=
  ⟨k.1, fun a o q e => k.2 a o (q.elim (fun z => .inl (h a z)) .inr) e⟩
theorem SL.mono {a : Addr} {vs : List V} {f : List Addr} (k : Kp H H' Z Z' f) (h : SL C H Z a vs) : SL C H' Z' a vs := by
  rcases h with ⟨h | ⟨o, h⟩, z⟩ | h
  · exact .inl ⟨.inl (k.2 a _ (.inr z) h), k.1 a z⟩
  · exact .inl ⟨.inr ⟨o, k.2 a _ (.inr z) h⟩, k.1 a z⟩
  · exact .inr h
mutual
theorem R.mono : ∀ {d : D} {x : V} {f : List Addr}, R C H Z d x f → Kp H H' Z Z' f → R C H' Z' d x f
  | .non, _, _, h, _ => h
  | .bl _, _, _, h, _ => h
  | .int _, _, _, h, _ => h
  | .str _, _, _, h, _ => h
  | .tup ds, x, f, h, k => by
    obtain ⟨e, a, vs, e1, e2, e3, e4⟩ := h
    exact ⟨e, a, vs, e1, k.2 a _ (.inr e3) e2, k.1 a e3, e4.mono (k.sub (fun _ z => nomatch z))⟩
  | .lst true ds, x, f, h, k => by
    obtain ⟨a, vs, g, e1, e2, e3, e4⟩ := h
    subst e4
    exact ⟨a, vs, g, e1, k.2 a _ (.inl List.mem_cons_self) e2, e3.mono (k.sub fun _ z => List.mem_cons_of_mem _ z), rfl⟩
  | .lst false ds, x, f, h, k => by
    obtain ⟨e, a, vs, e1, e2, ez, e3⟩ := h
    exact ⟨e, a, vs, e1, k.2 a _ (.inr ez) e2, k.1 a ez, e3.mono (k.sub (fun _ z => nomatch z))⟩
  | .dic true ds, x, f, h, k => by
    obtain ⟨a, vs, g, e1, e2, nd, e3, e4⟩ := h
    subst e4
    exact ⟨a, vs, g, e1, k.2 a _ (.inl List.mem_cons_self) e2, nd, e3.mono (k.sub fun _ z => List.mem_cons_of_mem _ z), rfl⟩
  | .dic false ds, x, f, h, k => by
    obtain ⟨e, a, vs, e1, e2, ez, nd, e3⟩ := h
    exact ⟨e, a, vs, e1, k.2 a _ (.inr ez) e2, k.1 a ez, nd, e3.mono (k.sub (fun _ z => nomatch z))⟩
  | .ins true c ds, x, f, h, k => by
    obtain ⟨a, A, dx, vs, g, e1, ec, e2, e3, e4⟩ := h
    subst e4
    exact ⟨a, A, dx, vs, g, e1, ec, k.2 a _ (.inl List.mem_cons_self) e2, e3.mono (k.sub fun _ z => List.mem_cons_of_mem _ z), rfl⟩
  | .ins false c ds, x, f, h, k => by
    obtain ⟨e, a, A, dx, vs, e1, ec, e2, ez, e3⟩ := h
    exact ⟨e, a, A, dx, vs, e1, ec, k.2 a _ (.inr ez) e2, k.1 a ez, e3.mono (k.sub (fun _ z => nomatch z))⟩
  | .exc _ _, _, _, h, _ => h
  | .scr ns, x, f, h, k => by
    obtain ⟨e, a, e1, e2⟩ := h
    exact ⟨e, a, e1, e2.mono k⟩
  | .hole, _, _, h, _ => h
theorem RL.mono : ∀ {ds : List D} {vs : List V} {f : List Addr}, RL C H Z ds vs f → Kp H H' Z Z' f → RL C H' Z' ds vs f
  | [], _, _, h, _ => h
  | d :: ds, vs, f, h, k => by
    obtain ⟨v, vr, f1, f2, e, h1, h2, ef⟩ := h
    subst ef
    exact ⟨v, vr, f1, f2, e, h1.mono (k.sub fun _ z => List.mem_append_left _ z), h2.mono (k.sub fun _ z => List.mem_append_right _ z), rfl⟩
theorem RK.mono : ∀ {ds : List (Key × D)} {vs : List (Key × V)} {f : List Addr}, RK C H Z ds vs f → Kp H H' Z Z' f → RK C H' Z' ds vs f
  | [], _, _, h, _ => h
  | (_, d) :: ds, vs, f, h, k => by
    obtain ⟨v, vr, f1, f2, e, h1, h2, ef⟩ := h
    subst ef
    exact ⟨v, vr, f1, f2, e, h1.mono (k.sub fun _ z => List.mem_append_left _ z), h2.mono (k.sub fun _ z => List.mem_append_right _ z), rfl⟩
theorem RF.mono : ∀ {ds : List (Str × D)} {vs : List (Str × V)} {f : List Addr}, RF C H Z ds vs f → Kp H H' Z Z' f → RF C H' Z' ds vs f
  | [], _, _, h, _ => h
  | (_, d) :: ds, vs, f, h, k => by
    obtain ⟨v, vr, f1, f2, e, h1, h2, ef⟩ := h
    subst ef
    exact ⟨v, vr, f1, f2, e, h1.mono (k.sub fun _ z => List.mem_append_left _ z), h2.mono (k.sub fun _ z => List.mem_append_right _ z), rfl⟩
end
mutual
/-- what may not change has nothing of its own -/
theorem R.noown : ∀ {d : D} {x : V} {f : List Addr}, R C H Z d x f → d.own = false → f = []
  | .non, _, _, h, _ => h.2
  | .bl _, _, _, h, _ => h.2
  | .int _, _, _, h, _ => h.2
  | .str _, _, _, h, _ => h.2
  | .tup ds, x, f, h, _ => h.1
  | .lst true ds, x, f, h, k => by simp [D.own] at k
  | .lst false ds, x, f, h, k => h.1
  | .dic true ds, x, f, h, k => by simp [D.own] at k
  | .dic false ds, x, f, h, k => h.1
  | .ins true c ds, x, f, h, k => by simp [D.own] at k
  | .ins false c ds, x, f, h, k => h.1
  | .exc _ _, _, _, h, _ => h.elim
  | .scr ns, _, _, h, _ => h.1
  | .hole, _, _, h, _ => h
theorem RL.noown : ∀ {ds : List D} {vs : List V} {f : List Addr}, RL C H Z ds vs f → ownL ds = false → f = []
  | [], _, _, h, _ => h.2
  | d :: ds, vs, f, h, k => by
    obtain ⟨v, vr, f1, f2, e, h1, h2, ef⟩ := h
    simp only [ownL, Bool.or_eq_false_iff] at k
    rw [ef, h1.noown k.1, h2.noown k.2]; rfl
theorem RK.noown : ∀ {ds : List (Key × D)} {vs : List (Key × V)} {f : List Addr}, RK C H Z ds vs f → ownK ds = false → f = []
  | [], _, _, h, _ => h.2
  | (_, d) :: ds, vs, f, h, k => by
    obtain ⟨v, vr, f1, f2, e, h1, h2, ef⟩ := h
    simp only [ownK, Bool.or_eq_false_iff] at k
    rw [ef, h1.noown k.1, h2.noown k.2]; rfl
end
/-- Z and f -/
def Zf (Z : Addr → Prop) (f : List Addr) : Addr → Prop := fun a => Z a ∨ a ∈ f
theorem kp_zf {f g : List Addr} : Kp H H Z (Zf Z f) g := ⟨fun _ z => .inl z, fun _ _ _ e => e⟩
theorem kp_zs {f f' g : List Addr} (h : ∀ a ∈ f, a ∈ f') : Kp H H (Zf Z f) (Zf Z f') g := ⟨fun _ z => z.elim .inl fun q => .inr (h _ q), fun _ _ _ e => e⟩
mutual
/-- from now on it changes no more -/
theorem R.share : ∀ {d : D} {x : V} {f : List Addr}, R C H Z d x f → R C H (Zf Z f) d.share x []
  | .non, _, _, h => ⟨h.1, rfl⟩
  | .bl _, _, _, h => ⟨h.1, rfl⟩
  | .int _, _, _, h => ⟨h.1, rfl⟩
  | .str _, _, _, h => ⟨h.1, rfl⟩
  | .tup ds, x, f, h => by
    obtain ⟨e, a, vs, e1, e2, e3, e4⟩ := h
    exact ⟨rfl, a, vs, e1, e2, .inl e3, (e4.share).mono (kp_zs (fun _ z => nomatch z))⟩
  | .lst true ds, x, f, h => by
    obtain ⟨a, vs, g, e1, e2, e3, e4⟩ := h
    subst e4
    exact ⟨rfl, a, vs, e1, e2, .inr List.mem_cons_self, (e3.share).mono (kp_zs fun _ z => List.mem_cons_of_mem _ z)⟩
  | .lst false ds, x, f, h => by
    obtain ⟨e, a, vs, e1, e2, ez, e3⟩ := h
    exact ⟨rfl, a, vs, e1, e2, .inl ez, (e3.share).mono (kp_zs (fun _ z => nomatch z))⟩
  | .dic true ds, x, f, h => by
    obtain ⟨a, vs, g, e1, e2, nd, e3, e4⟩ := h
    subst e4
    exact ⟨rfl, a, vs, e1, e2, .inr List.mem_cons_self, nd, (e3.share).mono (kp_zs fun _ z => List.mem_cons_of_mem _ z)⟩
  | .dic false ds, x, f, h => by
    obtain ⟨e, a, vs, e1, e2, ez, nd, e3⟩ := h
    exact ⟨rfl, a, vs, e1, e2, .inl ez, nd, (e3.share).mono (kp_zs (fun _ z => nomatch z))⟩
  | .ins true c ds, x, f, h => by
    obtain ⟨a, A, dx, vs, g, e1, ec, e2, e3, e4⟩ := h
    subst e4
    exact ⟨rfl, a, A, dx, vs, e1, ec, e2, .inr List.mem_cons_self, (e3.share).mono (kp_zs fun _ z => List.mem_cons_of_mem _ z)⟩
  | .ins false c ds, x, f, h => by
    obtain ⟨e, a, A, dx, vs, e1, ec, e2, ez, e3⟩ := h
    exact ⟨rfl, a, A, dx, vs, e1, ec, e2, .inl ez, (e3.share).mono (kp_zs (fun _ z => nomatch z))⟩
  | .exc _ _, _, _, h => h.elim
  | .scr ns, x, f, h => by
    obtain ⟨e, a, e1, e2⟩ := h
    exact ⟨rfl, a, e1, e2.mono (f := []) kp_zf⟩
  | .hole, _, _, h => rfl
theorem RL.share : ∀ {ds : List D} {vs : List V} {f : List Addr}, RL C H Z ds vs f → RL C H (Zf Z f) (shareL ds) vs []
  | [], _, _, h => ⟨h.1, rfl⟩
  | d :: ds, vs, f, h => by
    obtain ⟨v, vr, f1, f2, e, h1, h2, ef⟩ := h
    subst ef
    exact ⟨v, vr, [], [], e, (h1.share).mono (kp_zs fun _ z => List.mem_append_left _ z), (h2.share).mono (kp_zs fun _ z => List.mem_append_right _ z), rfl⟩
theorem RK.share : ∀ {ds : List (Key × D)} {vs : List (Key × V)} {f : List Addr}, RK C H Z ds vs f → RK C H (Zf Z f) (shareK ds) vs []
  | [], _, _, h => ⟨h.1, rfl⟩
  | (_, d) :: ds, vs, f, h => by
    obtain ⟨v, vr, f1, f2, e, h1, h2, ef⟩ := h
    subst ef
    exact ⟨v, vr, [], [], e, (h1.share).mono (kp_zs fun _ z => List.mem_append_left _ z), (h2.share).mono (kp_zs fun _ z => List.mem_append_right _ z), rfl⟩
theorem RF.share : ∀ {ds : List (Str × D)} {vs : List (Str × V)} {f : List Addr}, RF C H Z ds vs f → RF C H (Zf Z f) (shareF ds) vs []
  | [], _, _, h => ⟨h.1, rfl⟩
  | (_, d) :: ds, vs, f, h => by
    obtain ⟨v, vr, f1, f2, e, h1, h2, ef⟩ := h
    subst ef
    exact ⟨v, vr, [], [], e, (h1.share).mono (kp_zs fun _ z => List.mem_append_left _ z), (h2.share).mono (kp_zs fun _ z => List.mem_append_right _ z), rfl⟩
end
end TW
end

section
/-! slots, places, steps -/
namespace TW
open PySem (Str Addr)
open L2 (V HO Hp Rd upd upd_same upd_ne)
/-- the exception at hand in an except suite: its slot, its address, its dict -/
structure Xo where
  s : Nat
  a : Addr
  d : Addr
  n : Str
  fl : Str
def RX (C : C0) (H : Hp) (Z : Addr → Prop) (xo : Option Xo) (n : Nat) : D → V → List Addr → Prop
  | .exc m v, x, f => f = [] ∧ ∃ o w, xo = some o ∧ (o.s = n ∧ o.n = m) ∧ x = .ref o.a ∧ H o.d = some (.xd [(o.fl, w)]) ∧ Z o.d ∧ R C H Z v w []
  | d, x, f => R C H Z d x f
def RSt (C : C0) (H : Hp) (Z : Addr → Prop) (xo : Option Xo) : Nat → Sl → L2.St → List Addr → Prop
  | _, [], s, f => s = [] ∧ f = []
  | n, none :: r, s, f => ∃ y s', s = y :: s' ∧ RSt C H Z xo (n + 1) r s' f
  | n, some d :: r, s, f => ∃ x s' f1 f2, s = some x :: s' ∧ RX C H Z xo n d x f1 ∧ RSt C H Z xo (n + 1) r s' f2 ∧ f = f1 ++ f2
variable {C : C0} {H H' H1 H2 : Hp} {Z Z' Z1 Z2 : Addr → Prop} {xo : Option Xo}
theorem RX.of {n : Nat} {d : D} {x : V} {f : List Addr} (h : R C H Z d x f) : RX C H Z xo n d x f := by
  cases d <;> first | exact h | exact h.elim
theorem RX.mono {n : Nat} {d : D} {x : V} {f : List Addr} (h : RX C H Z xo n d x f) (k : Kp H H' Z Z' f) : RX C H' Z' xo n d x f := by
  cases d with
  | exc c v =>
    obtain ⟨e, o, w, e1, e2, e3, e4, e5, e6⟩ := h
    exact ⟨e, o, w, e1, e2, e3, k.2 _ _ (.inr e5) e4, k.1 _ e5, e6.mono (k.sub (fun _ z => nomatch z))⟩
  | _ => exact R.mono h k
theorem RSt.mono : ∀ {r : Sl} {n : Nat} {s : L2.St} {f : List Addr}, RSt C H Z xo n r s f → Kp H H' Z Z' f → RSt C H' Z' xo n r s f
  | [], _, _, _, h, _ => h
  | none :: r, n, s, f, h, k => by
    obtain ⟨y, s', e, h⟩ := h
    exact ⟨y, s', e, h.mono k⟩
  | some d :: r, n, s, f, h, k => by
    obtain ⟨x, s', f1, f2, e, h1, h2, ef⟩ := h
    subst ef
    exact ⟨x, s', f1, f2, e, h1.mono (k.sub fun _ z => List.mem_append_left _ z), h2.mono (k.sub fun _ z => List.mem_append_right _ z), rfl⟩
theorem RSt.len : ∀ {r : Sl} {n : Nat} {s : L2.St} {f : List Addr}, RSt C H Z xo n r s f → s.length = r.length
  | [], _, _, _, h => by rw [h.1]; rfl
  | none :: r, n, s, f, h => by
    obtain ⟨y, s', e, h⟩ := h
    rw [e, List.length_cons, List.length_cons, h.len]
  | some d :: r, n, s, f, h => by
    obtain ⟨x, s', f1, f2, e, h1, h2, ef⟩ := h
    rw [e, List.length_cons, List.length_cons, h2.len]
/-- one slot of the state, and what may be put into it -/
theorem RSt.focus : ∀ {r : Sl} {n : Nat} {s : L2.St} {f : List Addr} (i : Nat), RSt C H Z xo n r s f → i < r.length →
    ∃ p g q, f = p ++ g ++ q ∧ (∀ d, r[i]? = some (some d) → ∃ x, s[i]? = some (some x) ∧ RX C H Z xo (n + i) d x g) ∧
      (∀ H' Z', Kp H H' Z Z' (p ++ q) → (∀ d' x' g', RX C H' Z' xo (n + i) d' x' g' → RSt C H' Z' xo n (r.set i (some d')) (s.set i (some x')) (p ++ g' ++ q)) ∧
        (∀ y, RSt C H' Z' xo n (r.set i none) (s.set i y) (p ++ q)) ∧ RSt C H' Z' xo n (r.set i none) s (p ++ q))
  | [], _, _, _, i, _, hi => by simp at hi
  | none :: r, n, s, f, 0, h, hi => by
    obtain ⟨y, s', e, h⟩ := h
    refine ⟨[], [], f, rfl, fun d e => by simp at e, fun H' Z' k => ?_⟩
    subst e
    have h' := h.mono k
    refine ⟨fun d' x' g' hr => ⟨x', s', g', f, rfl, hr, h', rfl⟩, fun y => ⟨y, s', rfl, h'⟩, ⟨y, s', rfl, h'⟩⟩
  | none :: r, n, s, f, i + 1, h, hi => by
    obtain ⟨y, s', e, h⟩ := h
    subst e
    obtain ⟨p, g, q, e1, e2, e3⟩ := h.focus i (by simpa using hi)
    have en : n + 1 + i = n + (i + 1) := by omega
    rw [en] at e2 e3
    refine ⟨p, g, q, e1, fun d e => e2 d (by simpa using e), fun H' Z' k => ?_⟩
    obtain ⟨a, b, c⟩ := e3 H' Z' k
    exact ⟨fun d' x' g' hr => ⟨y, _, rfl, a d' x' g' hr⟩, fun z => ⟨y, _, rfl, b z⟩, ⟨y, _, rfl, c⟩⟩
  | some d :: r, n, s, f, 0, h, hi => by
    obtain ⟨x, s', f1, f2, e, h1, h2, ef⟩ := h
    subst ef
    subst e
    refine ⟨[], f1, f2, rfl, fun d' e => ?_, fun H' Z' k => ?_⟩
    · have e' : d = d' := by simpa using e
      subst e'
      exact ⟨x, rfl, h1⟩
    · have h' := h2.mono k
      exact ⟨fun d' x' g' hr => ⟨x', s', g', f2, rfl, hr, h', rfl⟩, fun y => ⟨y, s', rfl, h'⟩, ⟨some x, s', rfl, h'⟩⟩
  | some d :: r, n, s, f, i + 1, h, hi => by
    obtain ⟨x, s', f1, f2, e, h1, h2, ef⟩ := h
    subst ef
    subst e
    obtain ⟨p, g, q, e1, e2, e3⟩ := h2.focus i (by simpa using hi)
    have en : n + 1 + i = n + (i + 1) := by omega
    rw [en] at e2 e3
    refine ⟨f1 ++ p, g, q, by rw [e1]; simp, fun d e => e2 d (by simpa using e), fun H' Z' k => ?_⟩
    obtain ⟨a, b, c⟩ := e3 H' Z' (k.sub fun z hz => by simp only [List.mem_append] at hz ⊢; rcases hz with z | z <;> simp [z])
    have h1' := h1.mono (k.sub fun z hz => by simp [hz])
    refine ⟨fun d' x' g' hr => ⟨x, _, f1, _, rfl, h1', a d' x' g' hr, by simp⟩, fun z => ⟨x, _, f1, _, rfl, h1', b z, by simp⟩, ⟨x, _, f1, _, rfl, h1', c, by simp⟩⟩

/-! ### one thing of a list, of pairs -/
theorem RL.at : ∀ {ds : List D} {vs : List V} {f : List Addr} {j : Nat} {d : D}, RL C H Z ds vs f → ds[j]? = some d →
    ∃ v p g q, vs[j]? = some v ∧ f = p ++ g ++ q ∧ R C H Z d v g ∧ ∀ H' Z', Kp H H' Z Z' (p ++ q) → ∀ d' v' g', R C H' Z' d' v' g' → RL C H' Z' (ds.set j d') (vs.set j v') (p ++ g' ++ q)
  | [], _, _, _, _, _, e => by simp at e
  | d :: ds, vs, f, 0, d', h, e => by
    obtain ⟨v, vr, f1, f2, e1, h1, h2, ef⟩ := h
    have e' : d = d' := by simpa using e
    subst e' e1 ef
    exact ⟨v, [], f1, f2, rfl, rfl, h1, fun H' Z' k d' v' g' hr => ⟨v', vr, g', f2, rfl, hr, h2.mono k, rfl⟩⟩
  | d :: ds, vs, f, j + 1, d', h, e => by
    obtain ⟨v, vr, f1, f2, e1, h1, h2, ef⟩ := h
    subst e1 ef
    obtain ⟨w, p, g, q, a1, a2, a3, a4⟩ := h2.at (j := j) (by simpa using e)
    refine ⟨w, f1 ++ p, g, q, by simpa using a1, by rw [a2]; simp, a3, fun H' Z' k d' v' g' hr => ?_⟩
    exact ⟨v, _, f1, _, rfl, h1.mono (k.sub fun z hz => by simp [hz]), a4 H' Z' (k.sub fun z hz => by simp only [List.mem_append] at hz ⊢; rcases hz with z | z <;> simp [z]) d' v' g' hr, by simp⟩
theorem RK.at : ∀ {ds : List (Key × D)} {vs : List (Key × V)} {f : List Addr} {j : Nat} {k : Key} {d : D}, RK C H Z ds vs f → ds[j]? = some (k, d) →
    ∃ v p g q, vs[j]? = some (k, v) ∧ f = p ++ g ++ q ∧ R C H Z d v g ∧ ∀ H' Z', Kp H H' Z Z' (p ++ q) → ∀ d' v' g', R C H' Z' d' v' g' → RK C H' Z' (ds.set j (k, d')) (vs.set j (k, v')) (p ++ g' ++ q)
  | [], _, _, _, _, _, _, e => by simp at e
  | (k0, d) :: ds, vs, f, 0, k, d', h, e => by
    obtain ⟨v, vr, f1, f2, e1, h1, h2, ef⟩ := h
    have e' : k0 = k ∧ d = d' := by simpa using e
    obtain ⟨rfl, rfl⟩ := e'
    subst e1 ef
    exact ⟨v, [], f1, f2, rfl, rfl, h1, fun H' Z' k d' v' g' hr => ⟨v', vr, g', f2, rfl, hr, h2.mono k, rfl⟩⟩
  | (k0, d) :: ds, vs, f, j + 1, k, d', h, e => by
    obtain ⟨v, vr, f1, f2, e1, h1, h2, ef⟩ := h
    subst e1 ef
    obtain ⟨w, p, g, q, a1, a2, a3, a4⟩ := h2.at (j := j) (by simpa using e)
    refine ⟨w, f1 ++ p, g, q, by simpa using a1, by rw [a2]; simp, a3, fun H' Z' k d' v' g' hr => ?_⟩
    exact ⟨v, _, f1, _, rfl, h1.mono (k.sub fun z hz => by simp [hz]), a4 H' Z' (k.sub fun z hz => by simp only [List.mem_append] at hz ⊢; rcases hz with z | z <;> simp [z]) d' v' g' hr, by simp⟩
/-- the field of a name: read, put -/
theorem RF.at : ∀ {ds : List (Str × D)} {vs : List (Str × V)} {f : List Addr} {n : Str} {d : D}, RF C H Z ds vs f → lookF n ds = some d →
    ∃ v p g q, vs.lookup n = some v ∧ f = p ++ g ++ q ∧ R C H Z d v g ∧ ∀ H' Z', Kp H H' Z Z' (p ++ q) → ∀ d' v' g', R C H' Z' d' v' g' → RF C H' Z' (putFD n d' ds) (L2.putF n v' vs) (p ++ g' ++ q)
  | [], _, _, _, _, _, e => by simp [lookF] at e
  | (k0, d) :: ds, vs, f, n, d', h, e => by
    obtain ⟨v, vr, f1, f2, e1, h1, h2, ef⟩ := h
    subst e1 ef
    by_cases hk : k0 = n
    · subst hk
      have e' : d = d' := by simpa [lookF] using e
      subst e'
      refine ⟨v, [], f1, f2, by simp [List.lookup], rfl, h1, fun H' Z' k d' v' g' hr => ?_⟩
      simp only [putFD, L2.putF, if_true]
      exact ⟨v', vr, g', f2, rfl, hr, h2.mono k, rfl⟩
    · have e' : lookF n ds = some d' := by simpa [lookF, hk] using e
      obtain ⟨w, p, g, q, a1, a2, a3, a4⟩ := h2.at e'
      refine ⟨w, f1 ++ p, g, q, ?_, by rw [a2]; simp, a3, fun H' Z' k d' v' g' hr => ?_⟩
      · have hb : (n == k0) = false := beq_eq_false_iff_ne.mpr fun z => hk z.symm
        simp only [List.lookup, hb]
        exact a1
      · simp only [putFD, L2.putF, if_neg hk]
        exact ⟨v, _, f1, _, rfl, h1.mono (k.sub fun z hz => by simp [hz]), a4 H' Z' (k.sub fun z hz => by simp only [List.mem_append] at hz ⊢; rcases hz with z | z <;> simp [z]) d' v' g' hr, by simp⟩
theorem RF.nolook : ∀ {ds : List (Str × D)} {vs : List (Str × V)} {f : List Addr} {n : Str}, RF C H Z ds vs f → lookF n ds = none → vs.lookup n = none
  | [], _, _, _, h, _ => by rw [h.1]; rfl
  | (k0, d) :: ds, vs, f, n, h, e => by
    obtain ⟨v, vr, f1, f2, e1, h1, h2, ef⟩ := h
    subst e1
    by_cases hk : k0 = n
    · simp [lookF, hk] at e
    · have hb : (n == k0) = false := beq_eq_false_iff_ne.mpr fun z => hk z.symm
      simp only [List.lookup, hb]
      exact h2.nolook (by simpa [lookF, hk] using e)
/-- a new field -/
theorem RF.put : ∀ {ds : List (Str × D)} {vs : List (Str × V)} {f : List Addr} {n : Str} {d' : D} {v' : V} {g' : List Addr}, RF C H Z ds vs f → R C H Z d' v' g' → lookF n ds = none →
    RF C H Z (putFD n d' ds) (L2.putF n v' vs) (f ++ g')
  | [], vs, f, n, d', v', g', h, hr, _ => by
    obtain ⟨rfl, rfl⟩ := h
    exact ⟨v', [], g', [], rfl, hr, ⟨rfl, rfl⟩, by simp⟩
  | (k0, d) :: ds, vs, f, n, d', v', g', h, hr, e => by
    obtain ⟨v, vr, f1, f2, e1, h1, h2, ef⟩ := h
    subst e1 ef
    by_cases hk : k0 = n
    · simp [lookF, hk] at e
    · simp only [putFD, L2.putF, if_neg hk]
      exact ⟨v, _, f1, _, rfl, h1, RF.put h2 hr (by simpa [lookF, hk] using e), by simp⟩
theorem RL.len : ∀ {ds : List D} {vs : List V} {f : List Addr}, RL C H Z ds vs f → vs.length = ds.length
  | [], _, _, h => by rw [h.1]; rfl
  | d :: ds, vs, f, h => by
    obtain ⟨v, vr, f1, f2, e1, h1, h2, ef⟩ := h
    rw [e1, List.length_cons, List.length_cons, h2.len]
theorem RK.len : ∀ {ds : List (Key × D)} {vs : List (Key × V)} {f : List Addr}, RK C H Z ds vs f → vs.length = ds.length
  | [], _, _, h => by rw [h.1]; rfl
  | (_, d) :: ds, vs, f, h => by
    obtain ⟨v, vr, f1, f2, e1, h1, h2, ef⟩ := h
    rw [e1, List.length_cons, List.length_cons, h2.len]
theorem RF.len : ∀ {ds : List (Str × D)} {vs : List (Str × V)} {f : List Addr}, RF C H Z ds vs f → vs.length = ds.length
  | [], _, _, h => by rw [h.1]; rfl
  | (_, d) :: ds, vs, f, h => by
    obtain ⟨v, vr, f1, f2, e1, h1, h2, ef⟩ := h
    rw [e1, List.length_cons, List.length_cons, h2.len]
theorem RK.keys : ∀ {ds : List (Key × D)} {vs : List (Key × V)} {f : List Addr}, RK C H Z ds vs f → vs.map (·.1) = ds.map (·.1)
  | [], _, _, h => by rw [h.1]; rfl
  | (_, d) :: ds, vs, f, h => by
    obtain ⟨v, vr, f1, f2, e1, h1, h2, ef⟩ := h
    rw [e1, List.map_cons, List.map_cons, h2.keys]
/-! ### dicts: look, put -/
theorem lookK_none {α : Type} {k : Key} : ∀ {l : List (Key × α)}, lookK k l = none → k ∉ l.map (·.1)
  | [], _ => by simp
  | (j, v) :: r, h => by
    by_cases e : j = k
    · simp [lookK, e] at h
    · have := lookK_none (l := r) (by simpa [lookK, e] using h)
      simp only [List.map_cons, List.mem_cons, not_or]
      exact ⟨fun z => e z.symm, this⟩
theorem valV_eq {k : Key} : ∀ {vs : List (Key × V)}, L2.valV vs k = lookK k vs
  | [] => rfl
  | (j, v) :: r => by
    by_cases e : j = k
    · rw [L2.valV_pos (p := (j, v)) e]
      simp [lookK, e]
    · rw [L2.valV_neg (p := (j, v)) e, valV_eq]
      simp [lookK, e]
def putKV (k : Key) (v : V) : List (Key × V) → List (Key × V)
  | [] => [(k, v)]
  | (j, w) :: r => if j = k then (j, v) :: r else (j, w) :: putKV k v r
theorem putK_eq {k : Key} {v : V} : ∀ {vs : List (Key × V)}, (vs.map (·.1)).Nodup → L2.putK vs k v = putKV k v vs
  | [], _ => by simp [L2.putK, putKV]
  | (j, w) :: r, h => by
    simp only [List.map_cons, List.nodup_cons] at h
    by_cases e : j = k
    · subst e
      have hm : r.map (fun kv => if kv.1 = j then (kv.1, v) else kv) = r := by
        rw [List.map_congr_left (g := id)]
        · simp
        · intro a ha
          have : a.1 ≠ j := fun z => h.1 (by rw [← z]; exact List.mem_map_of_mem ha)
          simp [this]
      simp only [L2.putK, putKV, List.any_cons, decide_true, Bool.true_or, if_true, List.map_cons, hm]
    · have ih := putK_eq (k := k) (v := v) h.2
      simp only [L2.putK] at ih
      simp only [L2.putK, putKV, List.any_cons, decide_eq_false e, Bool.false_or, if_neg e, List.map_cons]
      rw [← ih]
      split <;> simp
theorem putKV_keys {k : Key} {v : V} : ∀ {vs : List (Key × V)}, (k ∈ vs.map (·.1) ∧ ((putKV k v vs).map (·.1)) = vs.map (·.1)) ∨ (k ∉ vs.map (·.1) ∧ ((putKV k v vs).map (·.1)) = vs.map (·.1) ++ [k])
  | [] => by simp [putKV]
  | (j, w) :: r => by
    by_cases e : j = k
    · simp [putKV, e]
    · have e' : ¬ k = j := fun z => e z.symm
      rcases putKV_keys (k := k) (v := v) (vs := r) with ⟨h1, h2⟩ | ⟨h1, h2⟩
      · left
        simp only [putKV, if_neg e, List.map_cons, h2, List.mem_cons]
        exact ⟨.inr h1, trivial⟩
      · right
        simp only [putKV, if_neg e, List.map_cons, h2, List.mem_cons, not_or]
        exact ⟨⟨e', h1⟩, rfl⟩
theorem putKV_nodup {k : Key} {v : V} {vs : List (Key × V)} (h : (vs.map (·.1)).Nodup) : ((putKV k v vs).map (·.1)).Nodup := by
  rcases putKV_keys (k := k) (v := v) (vs := vs) with ⟨h1, h2⟩ | ⟨h1, h2⟩
  · rw [h2]; exact h
  · rw [h2, List.nodup_append]
    exact ⟨h, by simp, fun a ha b hb e => h1 (by rw [List.mem_singleton] at hb; rw [← hb, ← e]; exact ha)⟩
theorem RK.look : ∀ {ds : List (Key × D)} {vs : List (Key × V)} {f : List Addr} {n : Key} {d : D}, RK C H Z ds vs f → lookK n ds = some d →
    ∃ v p g q, lookK n vs = some v ∧ f = p ++ g ++ q ∧ R C H Z d v g ∧ ∀ H' Z', Kp H H' Z Z' (p ++ q) → ∀ d' v' g', R C H' Z' d' v' g' → RK C H' Z' (putKD n d' ds) (putKV n v' vs) (p ++ g' ++ q)
  | [], _, _, _, _, _, e => by simp [lookK] at e
  | (k0, d) :: ds, vs, f, n, d', h, e => by
    obtain ⟨v, vr, f1, f2, e1, h1, h2, ef⟩ := h
    subst e1 ef
    by_cases hk : k0 = n
    · subst hk
      have e' : d = d' := by simpa [lookK] using e
      subst e'
      refine ⟨v, [], f1, f2, by simp [lookK], rfl, h1, fun H' Z' k d' v' g' hr => ?_⟩
      simp only [putKD, putKV, if_true]
      exact ⟨v', vr, g', f2, rfl, hr, h2.mono k, rfl⟩
    · have e' : lookK n ds = some d' := by simpa [lookK, hk] using e
      obtain ⟨w, p, g, q, a1, a2, a3, a4⟩ := h2.look e'
      refine ⟨w, f1 ++ p, g, q, by simpa [lookK, hk] using a1, by rw [a2]; simp, a3, fun H' Z' k d' v' g' hr => ?_⟩
      simp only [putKD, putKV, if_neg hk]
      exact ⟨v, _, f1, _, rfl, h1.mono (k.sub fun z hz => by simp [hz]), a4 H' Z' (k.sub fun z hz => by simp only [List.mem_append] at hz ⊢; rcases hz with z | z <;> simp [z]) d' v' g' hr, by simp⟩
theorem RK.nolook : ∀ {ds : List (Key × D)} {vs : List (Key × V)} {f : List Addr} {n : Key}, RK C H Z ds vs f → lookK n ds = none → lookK n vs = none
  | [], _, _, _, h, _ => by rw [h.1]; rfl
  | (k0, d) :: ds, vs, f, n, h, e => by
    obtain ⟨v, vr, f1, f2, e1, h1, h2, ef⟩ := h
    subst e1
    by_cases hk : k0 = n
    · simp [lookK, hk] at e
    · simpa [lookK, hk] using h2.nolook (n := n) (by simpa [lookK, hk] using e)
theorem RK.put : ∀ {ds : List (Key × D)} {vs : List (Key × V)} {f : List Addr} {n : Key} {d' : D} {v' : V} {g' : List Addr}, RK C H Z ds vs f → R C H Z d' v' g' → lookK n ds = none →
    RK C H Z (putKD n d' ds) (putKV n v' vs) (f ++ g')
  | [], vs, f, n, d', v', g', h, hr, _ => by
    obtain ⟨rfl, rfl⟩ := h
    exact ⟨v', [], g', [], rfl, hr, ⟨rfl, rfl⟩, by simp⟩
  | (k0, d) :: ds, vs, f, n, d', v', g', h, hr, e => by
    obtain ⟨v, vr, f1, f2, e1, h1, h2, ef⟩ := h
    subst e1 ef
    by_cases hk : k0 = n
    · simp [lookK, hk] at e
    · simp only [putKD, putKV, if_neg hk]
      exact ⟨v, _, f1, _, rfl, h1, h2.put hr (by simpa [lookK, hk] using e), by simp⟩
end TW
end

section
/-! places in the state; steps -/
namespace TW
open PySem (Str Addr)
open L2 (V HO Hp Rd upd upd_same upd_ne)
variable {C : C0} {H H' H1 H2 : Hp} {Z Z' Z1 Z2 : Addr → Prop} {xo : Option Xo} {r r' : Sl} {s : L2.St} {F F' F1 F2 f g p q : List Addr}
structure Iv (H : Hp) (Z : Addr → Prop) (F : List Addr) : Prop where
  nd : F.Nodup
  nz : ∀ a ∈ F, ¬ Z a
  th : ∀ a ∈ F, H a ≠ none
  zh : ∀ a, Z a → H a ≠ none
structure Stp (H : Hp) (Z : Addr → Prop) (F : List Addr) (H' : Hp) (Z' : Addr → Prop) (F' : List Addr) : Prop where
  z : ∀ a, Z a → Z' a
  keep : ∀ a o, H a = some o → a ∉ F → H' a = some o
  f : ∀ a ∈ F', a ∈ F ∨ H a = none
  zz : ∀ a, Z' a → Z a ∨ a ∈ F ∨ H a = none
  there : ∀ a, H a ≠ none → H' a ≠ none
  iv : Iv H' Z' F'
theorem Stp.refl (i : Iv H Z F) : Stp H Z F H Z F := ⟨fun _ z => z, fun _ _ e _ => e, fun _ h => .inl h, fun _ h => .inl h, fun _ h => h, i⟩
theorem Stp.trans (a : Stp H Z F H1 Z1 F1) (b : Stp H1 Z1 F1 H2 Z2 F2) : Stp H Z F H2 Z2 F2 where
  z := fun x h => b.z x (a.z x h)
  keep := fun x o e n => b.keep x o (a.keep x o e n) fun h => by
    rcases a.f x h with z | z
    · exact n z
    · rw [e] at z; cases z
  f := fun x h => by
    rcases b.f x h with z | z
    · exact a.f x z
    · refine .inr ?_
      cases e : H x with
      | none => rfl
      | some o => exact absurd z (a.there x (by rw [e]; simp))
  zz := fun x h => by
    rcases b.zz x h with z | z | z
    · exact a.zz x z
    · rcases a.f x z with q | q
      · exact .inr (.inl q)
      · exact .inr (.inr q)
    · refine .inr (.inr ?_)
      cases e : H x with
      | none => rfl
      | some o => exact absurd z (a.there x (by rw [e]; simp))
  there := fun x h => b.there x (a.there x h)
  iv := b.iv
/-- what lies beside is kept -/
theorem Stp.kp (a : Stp H Z F H' Z' F') (i : Iv H Z F) (h : ∀ x ∈ g, x ∉ F) : Kp H H' Z Z' g :=
  ⟨a.z, fun x o q e => a.keep x o e fun z => q.elim (fun y => h x y z) fun y => i.nz x z y⟩
/-- .. and had beside it as before -/
theorem Stp.frame (a : Stp H Z F H' Z' F') (i : Iv H Z (g ++ F)) : Stp H Z (g ++ F) H' Z' (g ++ F') := by
  have nd := List.nodup_append.mp i.nd
  have dis : ∀ x ∈ g, x ∉ F := fun x h z => nd.2.2 x h x z rfl
  have gH : ∀ x ∈ g, H x ≠ none := fun x h => i.th x (List.mem_append_left _ h)
  have gn : ∀ x ∈ g, x ∉ F' := fun x h z => by
    rcases a.f x z with q | q
    · exact dis x h q
    · exact gH x h q
  refine ⟨a.z, fun x o e n => a.keep x o e fun z => n (List.mem_append_right _ z), fun x h => ?_, fun x h => ?_, a.there, ⟨?_, fun x h z => ?_, fun x h => ?_, a.iv.zh⟩⟩
  · rcases List.mem_append.mp h with z | z
    · exact .inl (List.mem_append_left _ z)
    · exact (a.f x z).imp (List.mem_append_right _) id
  · rcases a.zz x h with z | z | z
    · exact .inl z
    · exact .inr (.inl (List.mem_append_right _ z))
    · exact .inr (.inr z)
  · rw [List.nodup_append]
    exact ⟨nd.1, a.iv.nd, fun x hx y hy e => gn x hx (e ▸ hy)⟩
  · rcases List.mem_append.mp h with y | y
    · rcases a.zz x z with q | q | q
      · exact i.nz x (List.mem_append_left _ y) q
      · exact dis x y q
      · exact gH x y q
    · exact a.iv.nz x y z
  · rcases List.mem_append.mp h with y | y
    · exact a.there x (gH x y)
    · exact a.iv.th x y
theorem Iv.perm (i : Iv H Z F) (h : F.Perm F') : Iv H Z F' := ⟨h.nodup_iff.mp i.nd, fun a z => i.nz a (h.mem_iff.mpr z), fun a z => i.th a (h.mem_iff.mpr z), i.zh⟩
theorem Iv.sub (i : Iv H Z F) (h : F'.Sublist F) : Iv H Z F' := ⟨h.nodup i.nd, fun a z => i.nz a (h.subset z), fun a z => i.th a (h.subset z), i.zh⟩
/-- forgetting what is had, another order -/
theorem Stp.out (a : Stp H Z F H' Z' F') (h : Iv H' Z' F2) (hs : ∀ x ∈ F2, x ∈ F') : Stp H Z F H' Z' F2 := ⟨a.z, a.keep, fun x z => a.f x (hs x z), a.zz, a.there, h⟩
theorem Stp.perm (a : Stp H Z F H' Z' F') (h : F'.Perm F2) : Stp H Z F H' Z' F2 := a.out (a.iv.perm h) fun _ z => h.mem_iff.mpr z
theorem Stp.sub (a : Stp H Z F H' Z' F') (h : F2.Sublist F') : Stp H Z F H' Z' F2 := a.out (a.iv.sub h) fun _ z => h.subset z
theorem Stp.permL (a : Stp H Z F H' Z' F') (h : F.Perm F1) : Stp H Z F1 H' Z' F' := ⟨a.z, fun x o e n => a.keep x o e fun z => n (h.mem_iff.mp z), fun x z => (a.f x z).imp (h.mem_iff.mp ·) id, fun x z => (a.zz x z).imp id fun y => y.imp (h.mem_iff.mp ·) id, a.there, a.iv⟩
/-- a new thing, had alone -/
theorem Stp.new {a : Addr} {o : HO} (i : Iv H Z F) (hn : H a = none) : Stp H Z F (upd H a o) Z (a :: F) where
  z := fun _ z => z
  keep := fun x u e _ => by rw [upd_ne (L2.ne_of_none e hn)]; exact e
  f := fun x h => by
    rcases List.mem_cons.mp h with rfl | h
    · exact .inr hn
    · exact .inl h
  zz := fun _ z => .inl z
  there := fun x h => by
    unfold upd
    split
    · simp
    · exact h
  iv := ⟨List.nodup_cons.mpr ⟨fun z => i.th a z hn, i.nd⟩, fun x h z => by
      rcases List.mem_cons.mp h with rfl | h
      · exact i.zh x z hn
      · exact i.nz x h z, fun x h => by
      unfold upd
      split
      · simp
      · rcases List.mem_cons.mp h with e | h
        · exact absurd e ‹_›
        · exact i.th x h, fun x h => by
      unfold upd
      split
      · simp
      · exact i.zh x h⟩
/-- a new thing that changes no more -/
theorem Stp.newZ {a : Addr} {o : HO} (i : Iv H Z F) (hn : H a = none) : Stp H Z F (upd H a o) (Zf Z [a]) F where
  z := fun _ z => .inl z
  keep := fun x u e _ => by rw [upd_ne (L2.ne_of_none e hn)]; exact e
  f := fun x h => .inl h
  zz := fun x z => z.elim .inl fun e => .inr (.inr (by rw [List.mem_singleton.mp e]; exact hn))
  there := fun x h => by
    unfold upd
    split
    · simp
    · exact h
  iv := ⟨i.nd, fun x h z => z.elim (i.nz x h) fun e => i.th x h (by rw [List.mem_singleton.mp e]; exact hn), fun x h => by
      unfold upd
      split
      · simp
      · exact i.th x h, fun x h => by
      unfold upd
      split
      · simp
      · exact h.elim (i.zh x) fun e => absurd (List.mem_singleton.mp e) ‹_›⟩
/-- a thing had alone is written -/
theorem Stp.write {a : Addr} {o : HO} (i : Iv H Z F) (ha : a ∈ F) : Stp H Z F (upd H a o) Z F where
  z := fun _ z => z
  keep := fun x u e n => by rw [upd_ne (fun z => n (by rw [z]; exact ha))]; exact e
  f := fun x h => .inl h
  zz := fun _ z => .inl z
  there := fun x h => by
    unfold upd
    split
    · simp
    · exact h
  iv := ⟨i.nd, i.nz, fun x h => by
      unfold upd
      split
      · simp
      · exact i.th x h, fun x h => by
      unfold upd
      split
      · simp
      · exact i.zh x h⟩
/-- what is had alone is so no more -/
theorem Stp.shared (i : Iv H Z (g ++ F)) : Stp H Z (g ++ F) H (Zf Z g) F where
  z := fun _ z => .inl z
  keep := fun _ _ e _ => e
  f := fun _ h => .inl (List.mem_append_right _ h)
  zz := fun _ h => h.elim .inl fun z => .inr (.inl (List.mem_append_left _ z))
  there := fun _ h => h
  iv := ⟨(List.nodup_append.mp i.nd).2.1, fun x h z => z.elim (i.nz x (List.mem_append_right _ h)) fun y => (List.nodup_append.mp i.nd).2.2 x y x h rfl, fun x h => i.th x (List.mem_append_right _ h), fun x h => h.elim (i.zh x) fun z => i.th x (List.mem_append_left _ z)⟩
theorem Stp.drop (i : Iv H Z F) (h : F'.Sublist F) : Stp H Z F H Z F' := (Stp.refl i).sub h

/-! ### the thing at a place -/
/-- what stands at a place, by the heap alone -/
def vget (H : Hp) : V → List Acc → Option V
  | x, [] => some x
  | .ref a, .f n :: r => match H a with
    | some (.ins _ _ fs) => (match fs.lookup n with
      | some y => vget H y r
      | none => none)
    | _ => none
  | .ref a, .i j :: r => match H a with
    | some (.lst vs) => (match vs[j]? with
      | some y => vget H y r
      | none => none)
    | some (.tup vs) => (match vs[j]? with
      | some y => vget H y r
      | none => none)
    | some (.dK vs) => (match vs[j]? with
      | some y => vget H y.2 r
      | none => none)
    | _ => none
  | _, _ => none
def vgS (H : Hp) (s : L2.St) (w : Pth) : Option V := match s[w.s]? with
  | some (some x) => vget H x w.r
  | _ => none
theorem vget_snoc {H : Hp} : ∀ {w : List Acc} {x y : V} {a : Acc}, vget H x w = some y → vget H x (w ++ [a]) = vget H y [a]
  | [], x, y, a, h => by
    have : x = y := by simpa [vget] using h
    rw [this]; rfl
  | .f n :: w, x, y, a, h => by
    cases x with
    | ref b =>
      simp only [List.cons_append, vget] at h ⊢
      cases hH : H b with
      | none => simp only [hH] at h; cases h
      | some o =>
        simp only [hH] at h ⊢
        cases o with
        | ins C dx fs =>
          simp only at h ⊢
          cases hz : fs.lookup n with
          | none => simp only [hz] at h; cases h
          | some z => simp only [hz] at h ⊢; exact vget_snoc h
        | _ => cases h
    | _ => simp [vget] at h
  | .i j :: w, x, y, a, h => by
    cases x with
    | ref b =>
      simp only [List.cons_append, vget] at h ⊢
      cases hH : H b with
      | none => simp only [hH] at h; cases h
      | some o =>
        simp only [hH] at h ⊢
        cases o with
        | lst vs =>
          simp only at h ⊢
          cases hz : vs[j]? with
          | none => simp only [hz] at h; cases h
          | some z => simp only [hz] at h ⊢; exact vget_snoc h
        | tup vs =>
          simp only at h ⊢
          cases hz : vs[j]? with
          | none => simp only [hz] at h; cases h
          | some z => simp only [hz] at h ⊢; exact vget_snoc h
        | dK vs =>
          simp only at h ⊢
          cases hz : vs[j]? with
          | none => simp only [hz] at h; cases h
          | some z => simp only [hz] at h ⊢; exact vget_snoc h
        | _ => cases h
    | _ => simp [vget] at h
theorem vgS_snoc {w : Pth} {x : V} {a : Acc} (h : vgS H s w = some x) : vgS H s ⟨w.s, w.r ++ [a]⟩ = vget H x [a] := by
  unfold vgS at h ⊢
  simp only
  split at h
  · exact vget_snoc h
  · cases h
/-- x is the thing d that stands at the place w; and what may be put in its stead -/
structure Foc (C : C0) (H : Hp) (Z : Addr → Prop) (xo : Option Xo) (r : Sl) (s : L2.St) (F : List Addr) (w : Pth) (d : D) (x : V) (p g q : List Addr) : Prop where
  eq : F = p ++ g ++ q
  at_ : R C H Z d x g
  gt : getP r w = some d
  vg : ∀ H' Z', Kp H H' Z Z' (p ++ q) → vgS H' s w = some x
  put : ∀ H' Z', Kp H H' Z Z' (p ++ q) → ∀ d' g', R C H' Z' d' x g' → ∀ r', setP r w d' = some r' → RSt C H' Z' xo 0 r' s (p ++ g' ++ q)
theorem getA_snoc : ∀ {w : List Acc} {d : D} {a : Acc}, getA d (w ++ [a]) = (getA d w).bind fun e => accD e a
  | [], d, a => by
    simp only [List.nil_append, getA, Option.bind_some]
    cases accD d a <;> rfl
  | b :: w, d, a => by
    simp only [List.cons_append, getA]
    cases accD d b with
    | none => rfl
    | some e => exact getA_snoc
theorem setA_snoc : ∀ {w : List Acc} {d : D} {a : Acc} {e : D}, setA d (w ++ [a]) e = (getA d w).bind fun z => (setA z [a] e).bind fun y => setA d w y
  | [], d, a, e => by
    simp only [List.nil_append, getA, Option.bind_some]
    cases setA d [a] e <;> simp [setA]
  | b :: w, d, a, e => by
    cases d with
    | lst o xs =>
      cases b with
      | f n => cases o <;> simp [setA, getA, accD]
      | i j =>
        cases o with
        | false =>
          simp only [List.cons_append, setA, getA, accD]
          cases xs[j]? with
          | none => rfl
          | some z => cases h : getA z w with
            | none => simp
            | some y => cases h2 : setA y [a] e <;> simp [h2]
        | true =>
          simp only [List.cons_append, setA, getA, accD]
          cases xs[j]? with
          | none => rfl
          | some z =>
            simp only [setA_snoc (d := z)]
            cases getA z w with
            | none => rfl
            | some y =>
              simp only [Option.bind_some]
              cases setA y [a] e with
              | none => rfl
              | some u => rfl
    | dic o xs =>
      cases b with
      | f n => cases o <;> simp [setA, getA, accD]
      | i j =>
        cases o with
        | false =>
          simp only [List.cons_append, setA, getA, accD]
          cases xs[j]? with
          | none => rfl
          | some z =>
            simp only [Option.map_some]
            cases h : getA z.2 w with
            | none => simp
            | some y => cases h2 : setA y [a] e <;> simp [h2]
        | true =>
          simp only [List.cons_append, setA, getA, accD]
          cases xs[j]? with
          | none => rfl
          | some z =>
            obtain ⟨k, z⟩ := z
            simp only [Option.map_some, setA_snoc (d := z)]
            cases getA z w with
            | none => rfl
            | some y =>
              simp only [Option.bind_some]
              cases setA y [a] e with
              | none => rfl
              | some u => rfl
    | ins o c fs =>
      cases b with
      | i j => cases o <;> simp [setA, getA, accD]
      | f n =>
        cases o with
        | false =>
          simp only [List.cons_append, setA, getA, accD]
          cases lookF n fs with
          | none => rfl
          | some z => cases h : getA z w with
            | none => simp
            | some y => cases h2 : setA y [a] e <;> simp [h2]
        | true =>
          simp only [List.cons_append, setA, getA, accD]
          cases lookF n fs with
          | none => rfl
          | some z =>
            simp only [setA_snoc (d := z)]
            cases getA z w with
            | none => rfl
            | some y =>
              simp only [Option.bind_some]
              cases setA y [a] e with
              | none => rfl
              | some u => rfl
    | tup xs =>
      cases b with
      | f n => simp [setA, getA, accD]
      | i j =>
        simp only [List.cons_append, setA, getA, accD]
        cases xs[j]? with
        | none => rfl
        | some z => cases h : getA z w with
          | none => simp
          | some y => cases h2 : setA y [a] e <;> simp [h2]
    | non => cases b <;> simp [setA, getA, accD]
    | bl _ => cases b <;> simp [setA, getA, accD]
    | int _ => cases b <;> simp [setA, getA, accD]
    | str _ => cases b <;> simp [setA, getA, accD]
    | exc _ _ => cases b <;> simp [setA, getA, accD]
    | hole => cases b <;> simp [setA, getA, accD]
    | scr _ => cases b <;> simp [setA, getA, accD]
theorem setP_snoc {w : Pth} {a : Acc} {e d : D} {r' : Sl} (hg : getP r w = some d) (h : setP r ⟨w.s, w.r ++ [a]⟩ e = some r') : ∃ d', setA d [a] e = some d' ∧ setP r w d' = some r' := by
  unfold getP at hg
  unfold setP at h ⊢
  simp only at h
  split at hg
  · cases hg
  · rename_i d0 hn hr
    rw [hr] at h
    cases d0 with
    | exc c v => exact (hn c v rfl).elim
    | _ =>
      simp only [setA_snoc, hg, Option.bind_some] at h ⊢
      cases hs : setA d [a] e with
      | none => rw [hs] at h; simp at h
      | some d' =>
        rw [hs] at h
        exact ⟨d', rfl, h⟩
  · cases hg
theorem getP_snoc {w : Pth} {a : Acc} {d e : D} (hg : getP r w = some d) (h : accD d a = some e) : getP r ⟨w.s, w.r ++ [a]⟩ = some e := by
  unfold getP at hg ⊢
  simp only
  split at hg
  · cases hg
  · rename_i d0 hn hr
    cases d0 with
    | exc c v => exact (hn c v rfl).elim
    | _ =>
      simp only [getA_snoc, hg, Option.bind_some]
      exact h
  · cases hg
theorem Foc.root {i : Nat} {d : D} (h : RSt C H Z xo 0 r s F) (hg : getP r ⟨i, []⟩ = some d) : ∃ x p g q, s[i]? = some (some x) ∧ Foc C H Z xo r s F ⟨i, []⟩ d x p g q := by
  have hg0 := hg
  unfold getP at hg
  simp only at hg
  split at hg
  · cases hg
  · rename_i d0 hn hr
    have e : d0 = d := by simpa [getA] using hg
    subst e
    have hi : i < r.length := (List.getElem?_eq_some_iff.mp hr).1
    obtain ⟨p, g, q, e1, e2, e3⟩ := h.focus i hi
    obtain ⟨x, hx, hR⟩ := e2 d0 hr
    have hR' : R C H Z d0 x g := by
      cases d0 with
      | exc c v => exact (hn c v rfl).elim
      | _ => exact hR
    refine ⟨x, p, g, q, hx, e1, hR', hg0, fun H' Z' k => by simp [vgS, hx, vget], fun H' Z' k d' g' hd r' hs => ?_⟩
    have hs' : r' = r.set i (some d') := by
      unfold setP at hs
      simp only at hs
      rw [hr] at hs
      cases d0 with
      | exc c v => exact (hn c v rfl).elim
      | _ => simpa [setA] using hs.symm
    rw [hs']
    have hss : s.set i (some x) = s := by
      obtain ⟨h1, h2⟩ := List.getElem?_eq_some_iff.mp hx
      rw [← h2]; exact List.set_getElem_self h1
    have := (e3 H' Z' k).1 d' x g' (RX.of hd)
    rw [hss] at this
    exact this
  · cases hg
theorem set_self {α : Type} {l : List α} {j : Nat} {y : α} (h : l[j]? = some y) : l.set j y = l := by
  obtain ⟨h1, h2⟩ := List.getElem?_eq_some_iff.mp h
  rw [← h2]; exact List.set_getElem_self h1
/-- a place within a list -/
theorem Foc.lst {w : Pth} {o : Bool} {ds : List D} {x : V} {j : Nat} {e : D} (h : Foc C H Z xo r s F w (.lst o ds) x p g q) (he : ds[j]? = some e) :
    ∃ a vs y p' g' q', x = .ref a ∧ L2.SqL C.K H a vs ∧ vs[j]? = some y ∧ vs.length = ds.length ∧ Foc C H Z xo r s F ⟨w.s, w.r ++ [.i j]⟩ e y p' g' q' := by
  have gs := getP_snoc h.gt (a := .i j) (show accD (.lst o ds) (.i j) = some e from he)
  cases o with
  | true =>
    obtain ⟨a, vs, g0, e1, e2, e3, e4⟩ := h.at_
    obtain ⟨y, p1, g1, q1, a1, a2, a3, a4⟩ := e3.at he
    refine ⟨a, vs, y, p ++ a :: p1, g1, q1 ++ q, e1, .inl (.inl e2), a1, e3.len, ⟨by rw [h.eq, e4, a2]; simp, a3, gs, fun H' Z' k => by
      rw [vgS_snoc (h.vg H' Z' (k.sub fun z hz => by simp only [List.mem_append, List.mem_cons] at hz ⊢; rcases hz with z | z <;> simp [z])), e1]
      simp only [vget, k.2 a _ (.inl (by simp)) e2, a1], fun H' Z' k d' g' hd r' hs => ?_⟩⟩
    obtain ⟨d2, hd2, hs2⟩ := setP_snoc h.gt hs
    have hd2' : d2 = .lst true (ds.set j d') := by simp [setA, he] at hd2; exact hd2.symm
    subst hd2'
    have hL := a4 H' Z' (k.sub fun z hz => by simp only [List.mem_append, List.mem_cons] at hz ⊢; rcases hz with z | z <;> simp [z]) d' y g' hd
    rw [set_self a1] at hL
    have := h.put H' Z' (k.sub fun z hz => by simp only [List.mem_append, List.mem_cons] at hz ⊢; rcases hz with z | z <;> simp [z]) (.lst true (ds.set j d')) (a :: (p1 ++ g' ++ q1)) ⟨a, vs, _, e1, k.2 a _ (.inl (by simp)) e2, hL, rfl⟩ r' hs2
    simpa using this
  | false =>
    obtain ⟨e0, a, vs, e1, e2, ez, e3⟩ := h.at_
    obtain ⟨y, p1, g1, q1, a1, a2, a3, a4⟩ := e3.at he
    have hg1 : g1 = [] := by
      have := congrArg List.length a2
      simp at this
      exact List.eq_nil_of_length_eq_zero (by omega)
    subst hg1
    refine ⟨a, vs, y, p, [], q, e1, .inl (.inl e2), a1, e3.len, ⟨by rw [h.eq, e0], a3, gs, fun H' Z' k => by
      rw [vgS_snoc (h.vg H' Z' k), e1]
      simp only [vget, k.2 a _ (.inr ez) e2, a1], fun H' Z' k d' g' hd r' hs => ?_⟩⟩
    obtain ⟨d2, hd2, hs2⟩ := setP_snoc h.gt hs
    simp [setA] at hd2
theorem Foc.tup {w : Pth} {ds : List D} {x : V} {j : Nat} {e : D} (h : Foc C H Z xo r s F w (.tup ds) x p g q) (he : ds[j]? = some e) :
    ∃ a vs y p' g' q', x = .ref a ∧ L2.SqT C.K H a vs ∧ vs[j]? = some y ∧ vs.length = ds.length ∧ Foc C H Z xo r s F ⟨w.s, w.r ++ [.i j]⟩ e y p' g' q' := by
  have gs := getP_snoc h.gt (a := .i j) (show accD (.tup ds) (.i j) = some e from he)
  obtain ⟨e0, a, vs, e1, e2, ez, e3⟩ := h.at_
  obtain ⟨y, p1, g1, q1, a1, a2, a3, a4⟩ := e3.at he
  have hg1 : g1 = [] := by
    have := congrArg List.length a2
    simp at this
    exact List.eq_nil_of_length_eq_zero (by omega)
  subst hg1
  refine ⟨a, vs, y, p, [], q, e1, .inl (.inl e2), a1, e3.len, ⟨by rw [h.eq, e0], a3, gs, fun H' Z' k => by
      rw [vgS_snoc (h.vg H' Z' k), e1]
      simp only [vget, k.2 a _ (.inr ez) e2, a1], fun H' Z' k d' g' hd r' hs => ?_⟩⟩
  obtain ⟨d2, hd2, hs2⟩ := setP_snoc h.gt hs
  simp [setA] at hd2
theorem posK_at {k : Key} : ∀ {l : List (Key × D)} {j : Nat}, posK k l = some j → ∃ d, l[j]? = some (k, d) ∧ lookK k l = some d
  | [], _, h => by simp [posK] at h
  | (k0, d) :: r, j, h => by
    by_cases e : k0 = k
    · subst e
      have : j = 0 := by simpa [posK] using h.symm
      subst this
      exact ⟨d, rfl, by simp [lookK]⟩
    · simp only [posK, if_neg e] at h
      cases hp : posK k r with
      | none => rw [hp] at h; simp at h
      | some i =>
        rw [hp] at h
        have : j = i + 1 := by simpa using h.symm
        subst this
        obtain ⟨d', h1, h2⟩ := posK_at hp
        exact ⟨d', h1, by simp [lookK, e, h2]⟩
theorem nd_look {α : Type} {k : Key} {y : α} : ∀ {vs : List (Key × α)} {j : Nat}, (vs.map (·.1)).Nodup → vs[j]? = some (k, y) → lookK k vs = some y
  | [], _, _, h => by simp at h
  | (k0, v) :: r, 0, _, h => by
    have e : k0 = k ∧ v = y := by simpa using h
    simp [lookK, e.1, e.2]
  | (k0, v) :: r, j + 1, nd, h => by
    simp only [List.map_cons, List.nodup_cons] at nd
    have h' : r[j]? = some (k, y) := by simpa using h
    have : ¬ k0 = k := fun e => nd.1 (by rw [e]; exact List.mem_map_of_mem (f := fun x : Key × α => x.1) (List.mem_of_getElem? h'))
    simp only [lookK, if_neg this]
    exact nd_look nd.2 h'
theorem Foc.dic {w : Pth} {o : Bool} {ds : List (Key × D)} {x : V} {j : Nat} {k : Key} (h : Foc C H Z xo r s F w (.dic o ds) x p g q) (hp : posK k ds = some j) :
    ∃ a vs e y p' g' q', x = .ref a ∧ H a = some (.dK vs) ∧ accD (.dic o ds) (.i j) = some e ∧ L2.valV vs k = some y ∧ Foc C H Z xo r s F ⟨w.s, w.r ++ [.i j]⟩ e y p' g' q' := by
  obtain ⟨e, he, hl⟩ := posK_at hp
  have ha : accD (.dic o ds) (.i j) = some e := by simp [accD, he]
  have gs := getP_snoc h.gt ha
  cases o with
  | true =>
    obtain ⟨a, vs, g0, e1, e2, nd, e3, e4⟩ := h.at_
    obtain ⟨y, p1, g1, q1, a1, a2, a3, a4⟩ := e3.at he
    obtain ⟨y2, _, _, _, b1, _⟩ := e3.look hl
    have hy : y2 = y := Option.some.inj (b1.symm.trans (nd_look nd a1))
    subst hy
    refine ⟨a, vs, e, y2, p ++ a :: p1, g1, q1 ++ q, e1, e2, ha, by rw [valV_eq]; exact b1, ⟨by rw [h.eq, e4, a2]; simp, a3, gs, fun H' Z' k' => by
      rw [vgS_snoc (h.vg H' Z' (k'.sub fun z hz => by simp only [List.mem_append, List.mem_cons] at hz ⊢; rcases hz with z | z <;> simp [z])), e1]
      simp only [vget, k'.2 a _ (.inl (by simp)) e2, a1], fun H' Z' k' d' g' hd r' hs => ?_⟩⟩
    obtain ⟨d2, hd2, hs2⟩ := setP_snoc h.gt hs
    have hd2' : d2 = .dic true (ds.set j (k, d')) := by simp [setA, he] at hd2; exact hd2.symm
    subst hd2'
    have hL := a4 H' Z' (k'.sub fun z hz => by simp only [List.mem_append, List.mem_cons] at hz ⊢; rcases hz with z | z <;> simp [z]) d' y2 g' hd
    rw [set_self a1] at hL
    have := h.put H' Z' (k'.sub fun z hz => by simp only [List.mem_append, List.mem_cons] at hz ⊢; rcases hz with z | z <;> simp [z]) (.dic true (ds.set j (k, d'))) (a :: (p1 ++ g' ++ q1)) ⟨a, vs, _, e1, k'.2 a _ (.inl (by simp)) e2, nd, hL, rfl⟩ r' hs2
    simpa using this
  | false =>
    obtain ⟨e0, a, vs, e1, e2, ez, nd, e3⟩ := h.at_
    obtain ⟨y2, p1, g1, q1, a1, a2, a3, a4⟩ := e3.at he
    have b1 := nd_look nd a1
    have hg1 : g1 = [] := by
      have := congrArg List.length a2
      simp at this
      exact List.eq_nil_of_length_eq_zero (by omega)
    subst hg1
    refine ⟨a, vs, e, y2, p, [], q, e1, e2, ha, by rw [valV_eq]; exact b1, ⟨by rw [h.eq, e0], a3, gs, fun H' Z' k' => by
      rw [vgS_snoc (h.vg H' Z' k'), e1]
      simp only [vget, k'.2 a _ (.inr ez) e2, a1], fun H' Z' k d' g' hd r' hs => ?_⟩⟩
    obtain ⟨d2, hd2, hs2⟩ := setP_snoc h.gt hs
    simp [setA] at hd2
/-- a dict's value by its place -/
theorem Foc.dicJ {w : Pth} {o : Bool} {ds : List (Key × D)} {x : V} {j : Nat} {e : D} (h : Foc C H Z xo r s F w (.dic o ds) x p g q) (hacc : accD (.dic o ds) (.i j) = some e) :
    ∃ y p' g' q', Foc C H Z xo r s F ⟨w.s, w.r ++ [.i j]⟩ e y p' g' q' := by
  have gs := getP_snoc h.gt hacc
  simp only [accD] at hacc
  cases he : ds[j]? with
  | none => rw [he] at hacc; cases hacc
  | some kd =>
  obtain ⟨k, e'⟩ := kd
  rw [he] at hacc
  have : e' = e := by simpa using hacc
  subst this
  cases o with
  | true =>
    obtain ⟨a, vs, g0, e1, e2, nd, e3, e4⟩ := h.at_
    obtain ⟨y, p1, g1, q1, a1, a2, a3, a4⟩ := e3.at he
    refine ⟨y, p ++ a :: p1, g1, q1 ++ q, ⟨by rw [h.eq, e4, a2]; simp, a3, gs, fun H' Z' k' => by
      rw [vgS_snoc (h.vg H' Z' (k'.sub fun z hz => by simp only [List.mem_append, List.mem_cons] at hz ⊢; rcases hz with z | z <;> simp [z])), e1]
      simp only [vget, k'.2 a _ (.inl (by simp)) e2, a1], fun H' Z' k' d' g' hd r' hs => ?_⟩⟩
    obtain ⟨d2, hd2, hs2⟩ := setP_snoc h.gt hs
    have hd2' : d2 = .dic true (ds.set j (k, d')) := by simp [setA, he] at hd2; exact hd2.symm
    subst hd2'
    have hL := a4 H' Z' (k'.sub fun z hz => by simp only [List.mem_append, List.mem_cons] at hz ⊢; rcases hz with z | z <;> simp [z]) d' y g' hd
    rw [set_self a1] at hL
    have := h.put H' Z' (k'.sub fun z hz => by simp only [List.mem_append, List.mem_cons] at hz ⊢; rcases hz with z | z <;> simp [z]) (.dic true (ds.set j (k, d'))) (a :: (p1 ++ g' ++ q1)) ⟨a, vs, _, e1, k'.2 a _ (.inl (by simp)) e2, nd, hL, rfl⟩ r' hs2
    simpa using this
  | false =>
    obtain ⟨e0, a, vs, e1, e2, ez, nd, e3⟩ := h.at_
    obtain ⟨y, p1, g1, q1, a1, a2, a3, a4⟩ := e3.at he
    have hg1 : g1 = [] := by
      have := congrArg List.length a2
      simp at this
      exact List.eq_nil_of_length_eq_zero (by omega)
    subst hg1
    refine ⟨y, p, [], q, ⟨by rw [h.eq, e0], a3, gs, fun H' Z' k' => by
      rw [vgS_snoc (h.vg H' Z' k'), e1]
      simp only [vget, k'.2 a _ (.inr ez) e2, a1], fun H' Z' k d' g' hd r' hs => ?_⟩⟩
    obtain ⟨d2, hd2, hs2⟩ := setP_snoc h.gt hs
    simp [setA] at hd2
/-- an attribute -/
theorem Foc.fld {w : Pth} {o : Bool} {c : Str} {fs : List (Str × D)} {x : V} {n : Str} {e : D} (h : Foc C H Z xo r s F w (.ins o c fs) x p g q) (he : lookF n fs = some e) :
    ∃ a A dx vs y p' g' q', x = .ref a ∧ C.cls c = some A ∧ H a = some (.ins A dx vs) ∧ vs.lookup n = some y ∧ Foc C H Z xo r s F ⟨w.s, w.r ++ [.f n]⟩ e y p' g' q' := by
  have gs := getP_snoc h.gt (a := .f n) (show accD (.ins o c fs) (.f n) = some e from he)
  cases o with
  | true =>
    obtain ⟨a, A, dx, vs, g0, e1, ec, e2, e3, e4⟩ := h.at_
    obtain ⟨y, p1, g1, q1, a1, a2, a3, a4⟩ := e3.at he
    refine ⟨a, A, dx, vs, y, p ++ a :: p1, g1, q1 ++ q, e1, ec, e2, a1, ⟨by rw [h.eq, e4, a2]; simp, a3, gs, fun H' Z' k => by
      rw [vgS_snoc (h.vg H' Z' (k.sub fun z hz => by simp only [List.mem_append, List.mem_cons] at hz ⊢; rcases hz with z | z <;> simp [z])), e1]
      simp only [vget, k.2 a _ (.inl (by simp)) e2, a1], fun H' Z' k d' g' hd r' hs => ?_⟩⟩
    obtain ⟨d2, hd2, hs2⟩ := setP_snoc h.gt hs
    have hd2' : d2 = .ins true c (putFD n d' fs) := by simp [setA, he] at hd2; exact hd2.symm
    subst hd2'
    have hL := a4 H' Z' (k.sub fun z hz => by simp only [List.mem_append, List.mem_cons] at hz ⊢; rcases hz with z | z <;> simp [z]) d' y g' hd
    have hpf : ∀ {l : List (Str × V)}, l.lookup n = some y → L2.putF n y l = l := by
      intro l
      induction l with
      | nil => intro h; simp at h
      | cons z l ih =>
        obtain ⟨kz, vz⟩ := z
        intro hl
        by_cases ek : kz = n
        · subst ek
          have : vz = y := by simpa [List.lookup] using hl
          subst this
          simp [L2.putF]
        · have hb : (n == kz) = false := beq_eq_false_iff_ne.mpr fun z => ek z.symm
          simp only [List.lookup, hb] at hl
          simp only [L2.putF, if_neg ek, ih hl]
    rw [hpf a1] at hL
    have := h.put H' Z' (k.sub fun z hz => by simp only [List.mem_append, List.mem_cons] at hz ⊢; rcases hz with z | z <;> simp [z]) (.ins true c (putFD n d' fs)) (a :: (p1 ++ g' ++ q1)) ⟨a, A, dx, vs, _, e1, ec, k.2 a _ (.inl (by simp)) e2, hL, rfl⟩ r' hs2
    simpa using this
  | false =>
    obtain ⟨e0, a, A, dx, vs, e1, ec, e2, ez, e3⟩ := h.at_
    obtain ⟨y, p1, g1, q1, a1, a2, a3, a4⟩ := e3.at he
    have hg1 : g1 = [] := by
      have := congrArg List.length a2
      simp at this
      exact List.eq_nil_of_length_eq_zero (by omega)
    subst hg1
    refine ⟨a, A, dx, vs, y, p, [], q, e1, ec, e2, a1, ⟨by rw [h.eq, e0], a3, gs, fun H' Z' k => by
      rw [vgS_snoc (h.vg H' Z' k), e1]
      simp only [vget, k.2 a _ (.inr ez) e2, a1], fun H' Z' k d' g' hd r' hs => ?_⟩⟩
    obtain ⟨d2, hd2, hs2⟩ := setP_snoc h.gt hs
    simp [setA] at hd2
/-- any place of the state -/
theorem RSt.foc (h : RSt C H Z xo 0 r s F) : ∀ (l : List Acc) (i : Nat) (d : D), getP r ⟨i, l⟩ = some d → ∃ x p g q, Foc C H Z xo r s F ⟨i, l⟩ d x p g q := by
  intro l
  have key : ∀ (n : Nat) (l : List Acc), l.length = n → ∀ (i : Nat) (d : D), getP r ⟨i, l⟩ = some d → ∃ x p g q, Foc C H Z xo r s F ⟨i, l⟩ d x p g q := by
    intro n
    induction n with
    | zero =>
      intro l hl i d hg
      have : l = [] := List.eq_nil_of_length_eq_zero hl
      subst this
      obtain ⟨x, p, g, q, _, hf⟩ := Foc.root h hg
      exact ⟨x, p, g, q, hf⟩
    | succ n ih =>
      intro l hl i d hg
      obtain ⟨l', a, rfl⟩ : ∃ l' a, l = l' ++ [a] := ⟨l.dropLast, l.getLast (by intro e; rw [e] at hl; simp at hl), (List.dropLast_concat_getLast _).symm⟩
      have hl' : l'.length = n := by simpa using hl
      have hpre : ∃ e, getP r ⟨i, l'⟩ = some e ∧ accD e a = some d := by
        unfold getP at hg ⊢
        simp only at hg ⊢
        split at hg
        · cases hg
        · rename_i d0 hn hr
          cases d0 with
          | exc c v => exact (hn c v rfl).elim
          | _ =>
            rw [getA_snoc] at hg
            cases hgg : getA _ l' with
            | none => rw [hgg] at hg; cases hg
            | some e => rw [hgg] at hg; exact ⟨e, rfl, hg⟩
        · cases hg
      obtain ⟨e, he, hacc⟩ := hpre
      obtain ⟨x, p, g, q, hf⟩ := ih l' hl' i e he
      cases e with
      | lst o ds =>
        cases a with
        | f n => simp [accD] at hacc
        | i j =>
          obtain ⟨_, _, y, p', g', q', _, _, _, _, hf'⟩ := hf.lst (e := d) (by simpa [accD] using hacc)
          exact ⟨y, p', g', q', hf'⟩
      | tup ds =>
        cases a with
        | f n => simp [accD] at hacc
        | i j =>
          obtain ⟨_, _, y, p', g', q', _, _, _, _, hf'⟩ := hf.tup (e := d) (by simpa [accD] using hacc)
          exact ⟨y, p', g', q', hf'⟩
      | dic o ds =>
        cases a with
        | f n => simp [accD] at hacc
        | i j => exact hf.dicJ hacc
      | ins o n fs =>
        cases a with
        | i j => simp [accD] at hacc
        | f n =>
          obtain ⟨_, _, _, _, y, p', g', q', _, _, _, _, hf'⟩ := hf.fld (e := d) (by simpa [accD] using hacc)
          exact ⟨y, p', g', q', hf'⟩
      | _ => cases a <;> simp [accD] at hacc
  exact key l.length l rfl
theorem Foc.vg0 {w : Pth} {d : D} {x : V} (h : Foc C H Z xo r s F w d x p g q) : vgS H s w = some x := h.vg H Z ⟨fun _ z => z, fun _ _ _ e => e⟩
/-- the thing at a place is the one that the heap tells -/
theorem RSt.focAt (h : RSt C H Z xo 0 r s F) {w : Pth} {d : D} {x : V} (hg : getP r w = some d) (hv : vgS H s w = some x) : ∃ p g q, Foc C H Z xo r s F w d x p g q := by
  obtain ⟨i, l⟩ := w
  obtain ⟨x', p, g, q, hf⟩ := h.foc l i d hg
  have : x' = x := Option.some.inj (hf.vg0.symm.trans hv)
  subst this
  exact ⟨p, g, q, hf⟩
end TW
end

section
/-! what an expression's reading is, by what it reckons -/
namespace TW
open PySem (Str Addr Expr Pos Value Obj Shared model)
open L2 (V HO Hp Rd upd upd_same upd_ne TE TT TA TS VK Cx PE PT PA PS PSs PG PI)
/-- what is fixed while a body runs -/
structure Ct where
  C : C0
  g : G
  xo : Option Xo
  W : L2.WX
  hot : Bool := false
variable {c : Ct}
def PV (c : Ct) (H : Hp) (Z : Addr → Prop) (F : List Addr) (s : L2.St) (r0 : Sl) (pu : Bool) (d : D) (r' : Sl) (x : V) (H' : Hp) : Prop :=
  ∃ Z' F' f, Stp H Z F H' Z' (f ++ F') ∧ RSt c.C H' Z' c.xo 0 r' s F' ∧ R c.C H' Z' d x f ∧ (pu = true → r' = r0 ∧ F' = F ∧ Stp H Z [] H' Z' f)
def PB (c : Ct) (H : Hp) (Z : Addr → Prop) (F : List Addr) (s : L2.St) (r0 : Sl) (pu : Bool) (d : D) (r' : Sl) (x : V) (H' : Hp) : Prop :=
  ∃ Z' F' f, Stp H Z F H' Z' F' ∧ RSt c.C H' Z' c.xo 0 r' s F' ∧ R c.C H' Z' d x f ∧ (∀ a ∈ f, a ∈ F') ∧ (pu = true → r' = r0 ∧ F' = F ∧ Stp H Z [] H' Z' [])
def PX (c : Ct) (H : Hp) (Z : Addr → Prop) (F : List Addr) (s : L2.St) (n : Str) (v : D) (r' : Sl) (A dd : Addr) (H' : Hp) : Prop :=
  ∃ Z' F' w, Stp H Z F H' Z' F' ∧ RSt c.C H' Z' c.xo 0 r' s F' ∧ c.C.ecl n = some A ∧ H' dd = some (.xd [(c.g.fld n, w)]) ∧ Z' dd ∧ R c.C H' Z' v w []
/-- what is wanted of what an expression reckons -/
def Wn (c : Ct) (H : Hp) (Z : Addr → Prop) (F : List Addr) (s : L2.St) (r : Sl) (pu : Bool) (Q : VK) (res : RE) : Prop := match res with
  | .ok d r' => ∀ x H', PV c H Z F s r pu d r' x H' → Q x H'
  | .brw d r' => ∀ x H', PB c H Z F s r pu d r' x H' → Q x H'
  | .exc n v r' => ∀ A dd H', PX c H Z F s n v r' A dd H' → c.W (.ref A) (some dd) s H'
  | .bad => False
def tE (c : Ct) (e : E) : TE := fun s H Q => ∃ r Z F, Iv H Z F ∧ RSt c.C H Z c.xo 0 r s F ∧ Wn c H Z F s r (pur e) Q (ev c.g e r)
theorem _root_.L2.PE.imp {X : Cx} {e : Expr} {t t' : TE} (h : PE X e t) (i : ∀ s H Q, t' s H Q → t s H Q) : PE X e t' := ⟨fun pins s σ H Q I q => h.run pins s σ H Q I (i _ _ _ q)⟩
theorem _root_.L2.PE.or {X : Cx} {e : Expr} {t t' : TE} (h : PE X e t) (h' : PE X e t') : PE X e (fun s H Q => t s H Q ∨ t' s H Q) :=
  ⟨fun pins s σ H Q I q => q.elim (h.run pins s σ H Q I) (h'.run pins s σ H Q I)⟩
section
variable {H H' H1 H2 : Hp} {Z Z' Z1 Z2 : Addr → Prop} {F F' F1 F2 f f1 f2 : List Addr} {s : L2.St} {r r' r0 : Sl} {d : D} {x : V} {pu : Bool} {Q : VK}
theorem Iv.nil (i : Iv H Z F) : Iv H Z [] := ⟨List.nodup_nil, (fun _ h => nomatch h), (fun _ h => nomatch h), i.zh⟩
/-- what keeps all keeps a state -/
theorem Stp.lift (a : Stp H Z [] H' Z' f) (i : Iv H Z F) : Stp H Z F H' Z' (f ++ F) := by
  have h := (a.frame (g := F) (by simpa using i))
  simp only [List.append_nil] at h
  exact h.perm List.perm_append_comm
theorem Stp.kpAll (a : Stp H Z [] H' Z' f) : Kp H H' Z Z' F := ⟨a.z, fun x o _ e => a.keep x o e (fun h => nomatch h)⟩
theorem Stp.nil (a : Stp H Z [] H' Z' f) : Stp H Z [] H' Z' [] := a.sub (List.nil_sublist _)
theorem Stp.ivl (a : Stp H Z [] H' Z' f) (i : Iv H Z F) : Iv H' Z' F := (a.lift i).iv.sub (List.sublist_append_right _ _)
/-- a value right here -/
theorem Wn.here (i : Iv H Z F) (hs : RSt c.C H Z c.xo 0 r s F) (hr : R c.C H Z d x []) (h : Wn c H Z F s r pu Q (.ok d r)) : Q x H :=
  h x H ⟨Z, F, [], Stp.refl i, hs, hr, fun _ => ⟨rfl, rfl, Stp.refl i.nil⟩⟩
/-- what is reckoned of one thing: rr its reading -/
def Op1 (C : C0) (rr : V → Hp → VK → Prop) (k : D → Option D) : Prop :=
  ∀ (H : Hp) (Z : Addr → Prop) (d dz : D) (x : V) (f : List Addr) (Q : VK), (∀ a, Z a → H a ≠ none) → R C H Z d x f → k d = some dz →
    (∀ z H', (∃ Z' g, Stp H Z [] H' Z' g ∧ R C H' Z' dz z g) → Q z H') → rr x H Q
def Op2 (C : C0) (rr : L2.R2) (k : D → D → Option D) : Prop :=
  ∀ (H : Hp) (Z : Addr → Prop) (d e dz : D) (x y : V) (f f' : List Addr) (Q : VK), (∀ a, Z a → H a ≠ none) → R C H Z d x f → R C H Z e y f' → k d e = some dz →
    (∀ z H', (∃ Z' g, Stp H Z [] H' Z' g ∧ R C H' Z' dz z g) → Q z H') → rr x y H Q
theorem iv0 (h : ∀ a, Z a → H a ≠ none) : Iv H Z [] := ⟨List.nodup_nil, (fun _ h => nomatch h), (fun _ h => nomatch h), h⟩
theorem Op2.or {C : C0} {rr rr' : L2.R2} {k : D → D → Option D} {p : D → D → Bool} (h : Op2 C rr fun d e => if p d e then k d e else none) (h' : Op2 C rr' fun d e => if p d e then none else k d e) : Op2 C (fun x y H Q => rr x y H Q ∨ rr' x y H Q) k :=
  fun H Z d e dz x y f f' Q hz hx hy hk q => by
    by_cases hp : p d e = true
    · exact .inl (h H Z d e dz x y f f' Q hz hx hy (by simp [hp, hk]) q)
    · exact .inr (h' H Z d e dz x y f f' Q hz hx hy (by simp [hp, hk]) q)
/-- an operand, then what is reckoned of it -/
theorem tE.one {a : E} {k : D → Option D} {rr : V → Hp → VK → Prop} (ho : Op1 c.C rr k) (i : Iv H Z F) (hs : RSt c.C H Z c.xo 0 r s F)
    (h : Wn c H Z F s r (pur a) Q ((ev c.g a r).o true fun x r1 => .lift (k x) r1)) : tE c a s H fun x H1 => rr x H1 Q := by
  refine ⟨r, Z, F, i, hs, ?_⟩
  cases ha : ev c.g a r with
  | bad => rw [ha] at h; exact h
  | exc n v r1 => rw [ha] at h; exact h
  | ok d r1 =>
    rw [ha] at h
    intro x H1 ⟨Z1, F1, f1, st, rs, hr, pp⟩
    simp only [RE.o] at h
    cases hk : k d with
    | none => rw [hk] at h; exact h.elim
    | some dz =>
      rw [hk] at h
      refine ho H1 Z1 d dz x f1 _ st.iv.zh hr hk fun z H2 ⟨Z2, g, st2, hz⟩ => h z H2 ⟨Z2, F1, g, ?_, rs.mono st2.kpAll, hz, fun p => ?_⟩
      · exact (st.sub (List.sublist_append_right _ _)).trans (st2.lift (st.iv.sub (List.sublist_append_right _ _)))
      · obtain ⟨a1, a2, a3⟩ := pp p
        exact ⟨a1, a2, a3.nil.trans st2⟩
  | brw d r1 =>
    rw [ha] at h
    intro x H1 ⟨Z1, F1, f1, st, rs, hr, hsub, pp⟩
    simp only [RE.o, if_true] at h
    cases hk : k d with
    | none => rw [hk] at h; exact h.elim
    | some dz =>
      rw [hk] at h
      refine ho H1 Z1 d dz x f1 _ st.iv.zh hr hk fun z H2 ⟨Z2, g, st2, hz⟩ => h z H2 ⟨Z2, F1, g, ?_, rs.mono st2.kpAll, hz, fun p => ?_⟩
      · exact st.trans (st2.lift st.iv)
      · obtain ⟨a1, a2, a3⟩ := pp p
        exact ⟨a1, a2, a3.trans st2⟩
/-- what holds behind the second operand -/
theorem tE.sec {b : E} {T : List Addr} {cond : Bool} (st : Stp H Z F H1 Z1 (T ++ F1)) (rs : RSt c.C H1 Z1 c.xo 0 r s F1) (hr : R c.C H1 Z1 d x f1) (hf : (f1 = T) ∨ (T = [] ∧ pur b = true))
    (pp : cond = true → r = r0 ∧ F1 = F ∧ Stp H Z [] H1 Z1 T) {K : D → Sl → RE} {Q2 : V → VK}
    (h : match ev c.g b r with
      | .ok e r2 => ∀ y H2 Z2 F2 f2, Stp H Z F H2 Z2 (f2 ++ F2) → RSt c.C H2 Z2 c.xo 0 r2 s F2 → R c.C H2 Z2 d x f1 → R c.C H2 Z2 e y f2 → ((cond && pur b) = true → r2 = r0 ∧ F2 = F ∧ Stp H Z [] H2 Z2 []) → Q2 y y H2
      | .brw e r2 => ∀ y H2 Z2 F2 f2, Stp H Z F H2 Z2 F2 → RSt c.C H2 Z2 c.xo 0 r2 s F2 → R c.C H2 Z2 d x f1 → R c.C H2 Z2 e y f2 → ((cond && pur b) = true → r2 = r0 ∧ F2 = F ∧ Stp H Z [] H2 Z2 []) → Q2 y y H2
      | .exc n v r' => ∀ A dd H', PX c H Z F s n v r' A dd H' → c.W (.ref A) (some dd) s H'
      | .bad => False) : tE c b s H1 fun y H2 => Q2 y y H2 := by
  have i1 : Iv H1 Z1 F1 := st.iv.sub (List.sublist_append_right _ _)
  have st0 : Stp H Z F H1 Z1 F1 := st.sub (List.sublist_append_right _ _)
  refine ⟨r, Z1, F1, i1, rs, ?_⟩
  have keep : ∀ {H2 : Hp} {Z2 : Addr → Prop} {F2 : List Addr}, Stp H1 Z1 F1 H2 Z2 F2 → (pur b = true → Stp H1 Z1 [] H2 Z2 []) → R c.C H2 Z2 d x f1 := fun {H2 Z2 F2} st2 sp => by
    rcases hf with e | ⟨e, hp⟩
    · subst e
      refine hr.mono (st2.kp i1 fun a ha hb => ?_)
      exact (List.nodup_append.mp st.iv.nd).2.2 a ha a hb rfl
    · exact hr.mono (sp hp).kpAll
  cases hb : ev c.g b r with
  | bad => rw [hb] at h; exact h
  | exc n v r1 =>
    rw [hb] at h
    intro A dd H' ⟨Z', F', w, s2, rest⟩
    exact h A dd H' ⟨Z', F', w, st0.trans s2, rest⟩
  | ok e r2 =>
    rw [hb] at h
    intro y H2 ⟨Z2, F2, f2, st2, rs2, hy, pp2⟩
    refine h y H2 Z2 F2 f2 (st0.trans st2) rs2 (keep (st2.sub (List.sublist_append_right _ _)) fun p => (pp2 p).2.2.nil) hy fun p => ?_
    simp only [Bool.and_eq_true] at p
    obtain ⟨a1, a2, a3⟩ := pp p.1
    obtain ⟨b1, b2, b3⟩ := pp2 p.2
    exact ⟨b1.trans a1, b2.trans a2, a3.nil.trans b3.nil⟩
  | brw e r2 =>
    rw [hb] at h
    intro y H2 ⟨Z2, F2, f2, st2, rs2, hy, hsub, pp2⟩
    refine h y H2 Z2 F2 f2 (st0.trans st2) rs2 (keep st2 fun p => (pp2 p).2.2) hy fun p => ?_
    simp only [Bool.and_eq_true] at p
    obtain ⟨a1, a2, a3⟩ := pp p.1
    obtain ⟨b1, b2, b3⟩ := pp2 p.2
    exact ⟨b1.trans a1, b2.trans a2, a3.nil.trans b3⟩
/-- two operands, then what is reckoned of them -/
theorem tE.two {a b : E} {k : D → D → Option D} {rr : L2.R2} (ho : Op2 c.C rr k) (i : Iv H Z F) (hs : RSt c.C H Z c.xo 0 r s F)
    (h : Wn c H Z F s r (pur a && pur b) Q ((ev c.g a r).o (pur b) fun x r1 => (ev c.g b r1).o true fun y r2 => .lift (k x y) r2)) :
    tE c a s H fun x H1 => tE c b s H1 fun y H2 => rr x y H2 Q := by
  refine ⟨r, Z, F, i, hs, ?_⟩
  -- behind both
  have fin : ∀ {d e : D} {x y : V} {r2 : Sl} {H2 : Hp} {Z2 : Addr → Prop} {F2 f1 f2 T : List Addr} {pu : Bool}, Wn c H Z F s r pu Q (.lift (k d e) r2) → Stp H Z F H2 Z2 (T ++ F2) → RSt c.C H2 Z2 c.xo 0 r2 s F2 → R c.C H2 Z2 d x f1 → R c.C H2 Z2 e y f2 →
      (pu = true → r2 = r ∧ F2 = F ∧ Stp H Z [] H2 Z2 []) → rr x y H2 Q := fun {d e x y r2 H2 Z2 F2 f1 f2 T pu} h st rs hx hy pp => by
    cases hk : k d e with
    | none => rw [hk] at h; exact h.elim
    | some dz =>
      rw [hk] at h
      refine ho H2 Z2 d e dz x y f1 f2 _ st.iv.zh hx hy hk fun z H3 ⟨Z3, g, st3, hz⟩ => h z H3 ⟨Z3, F2, g, ?_, rs.mono st3.kpAll, hz, fun p => ?_⟩
      · exact (st.sub (List.sublist_append_right _ _)).trans (st3.lift (st.iv.sub (List.sublist_append_right _ _)))
      · obtain ⟨a1, a2, a3⟩ := pp p
        exact ⟨a1, a2, a3.trans st3⟩
  cases ha : ev c.g a r with
  | bad => rw [ha] at h; exact h
  | exc n v r1 => rw [ha] at h; exact h
  | ok d r1 =>
    rw [ha] at h
    intro x H1 ⟨Z1, F1, f1, st, rs, hr, pp⟩
    simp only [RE.o] at h
    refine tE.sec (cond := pur a) (T := f1) (K := fun _ _ => .bad) (Q2 := fun y _ H2 => rr x y H2 Q) st rs hr (.inl rfl) pp ?_
    cases hb : ev c.g b r1 with
    | bad => rw [hb] at h; exact h
    | exc n v r2 => rw [hb] at h; exact h
    | ok e r2 =>
      rw [hb] at h
      intro y H2 Z2 F2 f2 st2 rs2 hx hy pp2
      exact fin h st2 rs2 hx hy pp2
    | brw e r2 =>
      rw [hb] at h
      intro y H2 Z2 F2 f2 st2 rs2 hx hy pp2
      exact fin (T := []) h st2 rs2 hx hy pp2
  | brw d r1 =>
    rw [ha] at h
    intro x H1 ⟨Z1, F1, f1, st, rs, hr, hsub, pp⟩
    simp only [RE.o] at h
    by_cases hp : pur b = true
    · rw [if_pos hp] at h
      refine tE.sec (cond := pur a) (T := []) (K := fun _ _ => .bad) (Q2 := fun y _ H2 => rr x y H2 Q) st rs hr (.inr ⟨rfl, hp⟩) pp ?_
      cases hb : ev c.g b r1 with
      | bad => rw [hb] at h; exact h
      | exc n v r2 => rw [hb] at h; exact h
      | ok e r2 =>
        rw [hb] at h
        intro y H2 Z2 F2 f2 st2 rs2 hx hy pp2
        exact fin h st2 rs2 hx hy pp2
      | brw e r2 =>
        rw [hb] at h
        intro y H2 Z2 F2 f2 st2 rs2 hx hy pp2
        exact fin (T := []) h st2 rs2 hx hy pp2
    · rw [if_neg hp] at h
      exact h.elim
end
end TW
end

section
set_option maxRecDepth 100000
set_option maxHeartbeats 4000000
/-! further rules of the machine -/
namespace TWR
open PySem PySem.Spec PyProof.Rows L2
/-- () * k is () -/
theorem tuple_mul0 (l : Addr) (n : Nat) (dd : Option Addr) (sl : Array (Option Value)) (x : Int) (u : Tok) (c0 : (decide (x < -(2 ^ 63)) || decide (x ≥ 2 ^ 63)) = false) :
    Meets (Builtin.«tuple.__mul__» ⟨[.ref l, .int x u], []⟩) (fun _ R s => s.heap.get? l = some { cls := .type "tuple", dict := dd, data := .seq #[] n, slots := sl } ∧ R (.ok (.ret (Value.ref l))) s) :=
  .of_wp fun prog w A R s h => by
    obtain ⟨hp, g, d, tk, os⟩ := s
    obtain ⟨hl, h⟩ := h
    have f1 := AutoSeq1.idx_int
    wp_walk using wpAny_loadPart' hl
    repeat (first
      | (refine wpAny_ite_false (decide_eq_false (by rw [c0]; exact Bool.false_ne_true)) ?_; wp_walk using wpAny_loadPart' hl)
      | (refine wpAny_ite_true (decide_eq_true (by rfl)) ?_; wp_walk using wpAny_loadPart' hl))
    exact ⟨_, rfl, h⟩
def rRep0 (K : PySem.W.Frag) : R2 := fun x y H Q => ∃ l k, x = .ref l ∧ y = .int k ∧ SqT K H l [] ∧ 2 ≤ k ∧ k ≤ 1000 ∧ Q (.ref l) H
theorem op_repT0 {X : Cx} : OpR X (binaryOp .Mult) (rRep0 X.K) := by
  intro pins s σ H x y v u Q I rx ry h
  obtain ⟨l, k, rfl, rfl, hT, h1, h2, q⟩ := h
  cases rx
  obtain ⟨t, rfl⟩ := ry
  obtain ⟨its, r, ⟨⟨cls, dd, data, sl⟩, ho, hc, n, hd⟩, hs⟩ := I.tuple hT
  simp only at hc hd
  subst hc hd
  have he : its = [] := List.eq_nil_of_length_eq_zero r.length.symm
  subst he
  have c0 : (decide (k < -(2 ^ 63)) || decide (k ≥ 2 ^ 63)) = false := by
    rw [decide_eq_false (by omega), decide_eq_false (by omega)] <;> rfl
  refine wpAny_binaryOp_repeat_ref (T := "tuple") (U := "int") (by decide) ⟨_, ho, rfl⟩ (fun s' => typeIs_int s' k t) noFill_tuple_mul F.fills_int_mul F.slot_int_rmul repeat_tuple F.slot_int_index.lookup
    (call_meets F.slot_int_rmul (typeIs_int s k t) F.entry_int_rmul (F.args_int_rmul_2 _ _) (int_rmul_tuple k t l #[] n dd sl)
      ⟨ho, rfl, ⟨_, ho, rfl⟩, call_meets F.slot_tuple_mul ⟨_, ho, rfl⟩ F.entry_tuple_mul (F.args_tuple_mul_2 _ _) (tuple_mul0 l n dd sl k t c0) ⟨ho, ?_⟩⟩)
  exact ⟨.ref l, H, I, rfl, q⟩
end TWR
end

section
/-! operators -/
namespace TW
open PySem (Str Addr Expr Pos Value Obj Shared model PyData)
open L2 (V HO Hp Rd upd upd_same upd_ne TE TT TA TS VK Cx PE PT PA PS PSs PG PI OpR R2)
variable {C : C0} {H : Hp} {Z : Addr → Prop}
theorem line_eq : LINE = PySem.sizeLine := rfl
/-! ### data that are compared -/
mutual
theorem R.dp {K : PySem.W.Frag} (hK : C.K = K) : ∀ {d : D} {x : V} {f : List Addr} {p : PyData}, R C H Z d x f → d.py = some p → L2.Dp K H x p
  | .non, x, f, p, h, e => by
    have : p = .none := by simpa [D.py] using e.symm
    subst this; rw [h.1]; exact .non
  | .bl b, x, f, p, h, e => by
    have : p = .bool b := by simpa [D.py] using e.symm
    subst this; rw [h.1]; exact .bl b
  | .int b, x, f, p, h, e => by
    have : p = .int b := by simpa [D.py] using e.symm
    subst this; rw [h.1]; exact .int b
  | .str b, x, f, p, h, e => by
    have : p = .str b := by simpa [D.py] using e.symm
    subst this; rw [h.1]; exact .str b
  | .tup ds, x, f, p, h, e => by
    obtain ⟨_, a, vs, e1, e2, ez, e3⟩ := h
    simp only [D.py] at e
    cases hp : pyL ds with
    | none => rw [hp] at e; cases e
    | some ps =>
      rw [hp] at e
      have : p = .tuple ps := by simpa using e.symm
      subst this; rw [e1]
      exact .tup (.inl (.inl e2)) (e3.dp hK hp)
  | .lst true ds, x, f, p, h, e => by
    obtain ⟨a, vs, g, e1, e2, e3, e4⟩ := h
    simp only [D.py] at e
    cases hp : pyL ds with
    | none => rw [hp] at e; cases e
    | some ps =>
      rw [hp] at e
      have : p = .list ps := by simpa using e.symm
      subst this; rw [e1]
      exact .lst (.inl (.inl e2)) (e3.dp hK hp)
  | .lst false ds, x, f, p, h, e => by
    obtain ⟨_, a, vs, e1, e2, ez, e3⟩ := h
    simp only [D.py] at e
    cases hp : pyL ds with
    | none => rw [hp] at e; cases e
    | some ps =>
      rw [hp] at e
      have : p = .list ps := by simpa using e.symm
      subst this; rw [e1]
      exact .lst (.inl (.inl e2)) (e3.dp hK hp)
  | .dic _ _, _, _, _, _, e => by simp [D.py] at e
  | .ins _ _ _, _, _, _, _, e => by simp [D.py] at e
  | .exc _ _, _, _, _, _, e => by simp [D.py] at e
  | .scr _, _, _, _, _, e => by simp [D.py] at e
  | .hole, _, _, _, _, e => by simp [D.py] at e
theorem RL.dp {K : PySem.W.Frag} (hK : C.K = K) : ∀ {ds : List D} {vs : List V} {f : List Addr} {ps : List PyData}, RL C H Z ds vs f → pyL ds = some ps → L2.DpAll K H vs ps
  | [], vs, f, ps, h, e => by
    have : ps = [] := by simpa [pyL] using e.symm
    subst this; rw [h.1]; exact .nil
  | d :: ds, vs, f, ps, h, e => by
    obtain ⟨v, vr, f1, f2, e1, h1, h2, ef⟩ := h
    simp only [pyL] at e
    cases hp : d.py with
    | none => rw [hp] at e; cases e
    | some p =>
      rw [hp] at e
      cases hq : pyL ds with
      | none => rw [hq] at e; cases e
      | some qs =>
        rw [hq] at e
        have : ps = p :: qs := by simpa using e.symm
        subst this; rw [e1]
        exact .cons (h1.dp hK hp) (h2.dp hK hq)
end
/-! ### results -/
theorem res0 (hz : ∀ a, Z a → H a ≠ none) {dz : D} {z : V} (h : R C H Z dz z []) : ∃ Z' g, Stp H Z [] H Z' g ∧ R C H Z' dz z g := ⟨Z, [], Stp.refl (iv0 hz), h⟩
theorem RL.app : ∀ {ds es : List D} {vs ws : List V} {f g : List Addr}, RL C H Z ds vs f → RL C H Z es ws g → RL C H Z (ds ++ es) (vs ++ ws) (f ++ g)
  | [], es, vs, ws, f, g, h, k => by rw [h.1, h.2]; exact k
  | d :: ds, es, vs, ws, f, g, h, k => by
    obtain ⟨v, vr, f1, f2, e1, h1, h2, ef⟩ := h
    subst e1 ef
    exact ⟨v, vr ++ ws, f1, f2 ++ g, rfl, h1, h2.app k, by simp⟩
theorem kpN {H : Hp} {Z : Addr → Prop} {p : Addr} {o : HO} {f : List Addr} (hn : H p = none) : Kp H (upd H p o) Z (Zf Z [p]) f := ⟨fun _ z => .inl z, fun a u _ e => by rw [upd_ne (L2.ne_of_none e hn)]; exact e⟩
theorem kpN' {H : Hp} {Z : Addr → Prop} {p : Addr} {o : HO} {f : List Addr} (hn : H p = none) : Kp H (upd H p o) Z Z f := ⟨fun _ z => z, fun a u _ e => by rw [upd_ne (L2.ne_of_none e hn)]; exact e⟩
/-- a new tuple -/
theorem resT (hz : ∀ a, Z a → H a ≠ none) {ds : List D} {vs : List V} {p : Addr} (hp : H p = none) (h : RL C H Z ds vs []) : ∃ Z' g, Stp H Z [] (upd H p (.tup vs)) Z' g ∧ R C (upd H p (.tup vs)) Z' (.tup ds) (.ref p) g :=
  ⟨Zf Z [p], [], Stp.newZ (iv0 hz) hp, rfl, p, vs, rfl, upd_same, .inr (by simp), h.mono (kpN hp)⟩
/-- a new list -/
theorem resL (hz : ∀ a, Z a → H a ≠ none) {ds : List D} {vs : List V} {p : Addr} (hp : H p = none) (h : RL C H Z ds vs []) : ∃ Z' g, Stp H Z [] (upd H p (.lst vs)) Z' g ∧ R C (upd H p (.lst vs)) Z' (.lst true ds) (.ref p) g :=
  ⟨Z, [p], Stp.new (iv0 hz) hp, p, vs, [], rfl, upd_same, h.mono (kpN' hp), rfl⟩
theorem R.lstOf {o : Bool} {ds : List D} {x : V} {f : List Addr} (h : R C H Z (.lst o ds) x f) (n : ownL ds = false) : ∃ a vs, x = .ref a ∧ H a = some (.lst vs) ∧ RL C H Z ds vs [] := by
  cases o with
  | true =>
    obtain ⟨a, vs, g, e1, e2, e3, e4⟩ := h
    have := e3.noown n
    subst this
    exact ⟨a, vs, e1, e2, e3⟩
  | false =>
    obtain ⟨_, a, vs, e1, e2, ez, e3⟩ := h
    exact ⟨a, vs, e1, e2, e3⟩
theorem R.tupOf {ds : List D} {x : V} {f : List Addr} (h : R C H Z (.tup ds) x f) : ∃ a vs, x = .ref a ∧ H a = some (.tup vs) ∧ Z a ∧ RL C H Z ds vs [] := h.2
theorem RL.nil_iff {ds : List D} {vs : List V} {f : List Addr} (h : RL C H Z ds vs f) : vs = [] ↔ ds = [] := by
  have := h.len
  constructor
  · intro e; rw [e] at this; exact List.eq_nil_of_length_eq_zero this.symm
  · intro e; rw [e] at this; exact List.eq_nil_of_length_eq_zero this
/-! ### + -/
def rAddD (K : PySem.W.Frag) : R2 := fun x y H Q => (L2.rI0 fun i j => .int (i + j)) x y H Q ∨ (∃ i j, x = .str i ∧ y = .str j ∧ i.length + j.length ≤ PySem.sizeLine ∧ Q (.str (i ++ j)) H) ∨ L2.rCatA K x y H Q ∨ L2.rCat x y H Q
theorem op_addD {X : Cx} : OpR X (PySem.binaryOp .Add) (rAddD X.K) := L2.op_add.or (L2.op_add_str.or (L2.op_catA.or L2.op_cat))
theorem op2_add : Op2 C (rAddD C.K) D.add := by
  intro H Z d e dz x y f f' Q hz hx hy hk q
  cases d <;> cases e <;> simp only [D.add, reduceCtorEq] at hk
  case int i j =>
    cases hk
    rw [hx.1, hy.1]
    exact .inl ⟨i, j, rfl, rfl, q _ _ (res0 hz ⟨rfl, rfl⟩)⟩
  case str i j =>
    split at hk
    · cases hk
      rw [hx.1, hy.1]
      exact .inr (.inl ⟨i, j, rfl, rfl, ‹_›, q _ _ (res0 hz ⟨rfl, rfl⟩)⟩)
    · cases hk
  case tup xs ys =>
    split at hk
    · rename_i hl
      cases hk
      obtain ⟨a, vs, rfl, e2, za, e3⟩ := hx.tupOf
      obtain ⟨b, ws, rfl, k2, zb, k3⟩ := hy.tupOf
      have l1 := e3.len
      have l2 := k3.len
      refine .inr (.inr (.inl ⟨a, b, vs, ws, rfl, rfl, .inl (.inl e2), .inl (.inl k2), by rw [l1, l2]; exact hl, fun h0 => ?_, fun _ h0 => ?_, fun _ _ p hp => ?_⟩))
      · have := e3.nil_iff.mp h0
        subst this
        exact q _ _ (res0 hz ⟨rfl, b, ws, rfl, k2, zb, k3⟩)
      · have := k3.nil_iff.mp h0
        subst this
        rw [List.append_nil] at q
        exact q _ _ (res0 hz ⟨rfl, a, vs, rfl, e2, za, e3⟩)
      · exact q _ _ (resT hz hp (e3.app k3))
    · cases hk
  case lst o xs o' ys =>
    split at hk
    · cases hk
    · rename_i hn
      simp only [Bool.or_eq_true, not_or, Bool.not_eq_true] at hn
      split at hk
      · rename_i hl
        cases hk
        obtain ⟨a, vs, rfl, e2, e3⟩ := hx.lstOf hn.1
        obtain ⟨b, ws, rfl, k2, k3⟩ := hy.lstOf hn.2
        refine .inr (.inr (.inr ⟨a, b, vs, ws, rfl, rfl, e2, k2, by rw [e3.len, k3.len]; exact hl, fun p hp => ?_⟩))
        exact q _ _ (resL hz hp (e3.app k3))
      · cases hk
/-! ### - * // % ** ^ -/
theorem op2_sub : Op2 C (L2.rI0 fun i j => .int (i - j)) D.sub := by
  intro H Z d e dz x y f f' Q hz hx hy hk q
  cases d <;> cases e <;> simp only [D.sub, reduceCtorEq] at hk
  cases hk
  rw [hx.1, hy.1]
  exact ⟨_, _, rfl, rfl, q _ _ (res0 hz ⟨rfl, rfl⟩)⟩
def rMulD (K : PySem.W.Frag) : R2 := fun x y H Q => (L2.rI L2.CMulW fun i j => .int (i * j)) x y H Q ∨ L2.rRepT K x y H Q ∨ L2.rRep x y H Q ∨ TWR.rRep0 K x y H Q
theorem op_mulD {X : Cx} : OpR X (PySem.binaryOp .Mult) (rMulD X.K) := L2.op_mulW.or (L2.op_repT.or (L2.op_rep.or TWR.op_repT0))
theorem RL.rep {ds : List D} {vs : List V} (h : RL C H Z ds vs []) : ∀ k : Nat, RL C H Z (List.replicate k ds).flatten (List.replicate k vs).flatten []
  | 0 => ⟨rfl, rfl⟩
  | k + 1 => by
    simp only [List.replicate_succ, List.flatten_cons]
    exact h.app (h.rep k)
theorem log_lt {i : Int} (h : i.natAbs < 2 ^ 3000) : i.natAbs.log2 < 3000 := by
  by_cases e : i.natAbs = 0
  · rw [e]; decide
  · exact (Nat.log2_lt e).mpr h
theorem op2_mul : Op2 C (rMulD C.K) D.mul := by
  intro H Z d e dz x y f f' Q hz hx hy hk q
  cases d <;> cases e <;> simp only [D.mul, reduceCtorEq] at hk
  case int i j =>
    split at hk
    · rename_i hw
      cases hk
      rw [hx.1, hy.1]
      simp only [wideOk, Bool.and_eq_true, decide_eq_true_eq] at hw
      refine .inl ⟨i, j, rfl, rfl, ?_, q _ _ (res0 hz ⟨rfl, rfl⟩)⟩
      have h1 := log_lt hw.1
      have h2 := log_lt hw.2
      show i.natAbs.log2 + j.natAbs.log2 < 1000000
      omega
    · cases hk
  case tup xs k =>
    split at hk
    · rename_i hw
      cases hk
      simp only [Bool.and_eq_true, decide_eq_true_eq] at hw
      obtain ⟨⟨h1, h2⟩, h3⟩ := hw
      obtain ⟨a, vs, rfl, e2, za, e3⟩ := hx.tupOf
      rw [hy.1]
      by_cases hv : vs = []
      · have := e3.nil_iff.mp hv
        subst this hv
        have hr : (List.replicate k.toNat ([] : List D)).flatten = [] := by simp
        rw [hr] at q
        exact .inr (.inr (.inr ⟨a, k, rfl, rfl, .inl (.inl e2), h1, h2, q _ _ (res0 hz ⟨rfl, a, [], rfl, e2, za, e3⟩)⟩))
      · exact .inr (.inl ⟨a, k, vs, rfl, rfl, .inl (.inl e2), hv, h1, h2, by rw [e3.len]; exact h3, fun p hp => q _ _ (resT hz hp (e3.rep _))⟩)
    · cases hk
  case lst o xs k =>
    split at hk
    · cases hk
    · rename_i hn
      split at hk
      · rename_i hw
        cases hk
        simp only [Bool.and_eq_true, decide_eq_true_eq] at hw
        obtain ⟨⟨h1, h2⟩, h3⟩ := hw
        obtain ⟨a, vs, rfl, e2, e3⟩ := hx.lstOf (by simpa using hn)
        rw [hy.1]
        exact .inr (.inr (.inl ⟨a, k, vs, rfl, rfl, e2, by omega, by omega, by rw [e3.len]; exact h3, fun p hp => q _ _ (resL hz hp (e3.rep _))⟩))
      · cases hk
def rDivD : R2 := fun x y H Q => (L2.rI L2.CDivW fun i j => .int (i / j)) x y H Q ∨ (L2.rI L2.CDivN fun i j => .int (i.fdiv j)) x y H Q
theorem op_divD {X : Cx} : OpR X (PySem.binaryOp .FloorDiv) rDivD := L2.op_fdivW.or L2.op_fdivN
theorem op2_div : Op2 C rDivD D.fdiv := by
  intro H Z d e dz x y f f' Q hz hx hy hk q
  cases d <;> cases e <;> simp only [D.fdiv, reduceCtorEq] at hk
  case int i j =>
    rw [hx.1, hy.1]
    split at hk
    · rename_i hw
      cases hk
      simp only [Bool.and_eq_true, decide_eq_true_eq] at hw
      exact .inl ⟨i, j, rfl, rfl, ⟨hw.1, Nat.lt_trans (log_lt hw.2) (by decide)⟩, q _ _ (res0 hz ⟨rfl, rfl⟩)⟩
    · split at hk
      · rename_i hw
        cases hk
        simp only [Bool.and_eq_true, decide_eq_true_eq] at hw
        exact .inr ⟨i, j, rfl, rfl, ⟨by omega, hw.2⟩, q _ _ (res0 hz ⟨rfl, rfl⟩)⟩
      · cases hk
theorem op2_mod : Op2 C (L2.rI (fun _ j => j ≠ 0) fun i j => .int (i.fmod j)) D.mod := by
  intro H Z d e dz x y f f' Q hz hx hy hk q
  cases d <;> cases e <;> simp only [D.mod, reduceCtorEq] at hk
  case int i j =>
    rw [hx.1, hy.1]
    split at hk
    · cases hk
    · cases hk
      exact ⟨i, j, rfl, rfl, ‹_›, q _ _ (res0 hz ⟨rfl, rfl⟩)⟩
theorem op2_pow : Op2 C (L2.rI L2.CPow fun i j => .int (i ^ j.toNat)) D.pow := by
  intro H Z d e dz x y f f' Q hz hx hy hk q
  cases d <;> cases e <;> simp only [D.pow, reduceCtorEq] at hk
  case int i j =>
    rw [hx.1, hy.1]
    split at hk
    · rename_i hw
      cases hk
      simp only [Bool.and_eq_true, decide_eq_true_eq] at hw
      exact ⟨i, j, rfl, rfl, ⟨hw.1.1, by omega, hw.2⟩, q _ _ (res0 hz ⟨rfl, rfl⟩)⟩
    · cases hk
theorem op2_xor : Op2 C (L2.rI0 fun i j => .int (PySem.Builtin.bitXor i j)) D.xor := by
  intro H Z d e dz x y f f' Q hz hx hy hk q
  cases d <;> cases e <;> simp only [D.xor, reduceCtorEq] at hk
  case int i j =>
    cases hk
    rw [hx.1, hy.1]
    exact ⟨i, j, rfl, rfl, q _ _ (res0 hz ⟨rfl, rfl⟩)⟩
def opOf : Bop → PySem.Operator
  | .add => .Add | .sub => .Sub | .mul => .Mult | .fdiv => .FloorDiv | .mod => .Mod | .pow => .Pow | .xor => .BitXor
theorem bop_ok (X : Cx) (hK : X.K = C.K) (op : Bop) : ∃ rr, OpR X (PySem.binaryOp (opOf op)) rr ∧ Op2 C rr op.run := by
  cases op with
  | add => exact ⟨_, op_addD, hK ▸ op2_add⟩
  | sub => exact ⟨_, L2.op_sub, op2_sub⟩
  | mul => exact ⟨_, op_mulD, hK ▸ op2_mul⟩
  | fdiv => exact ⟨_, op_divD, op2_div⟩
  | mod => exact ⟨_, L2.op_modN, op2_mod⟩
  | pow => exact ⟨_, L2.op_pow, op2_pow⟩
  | xor => exact ⟨_, L2.op_xor, op2_xor⟩
end TW
end

section
/-! comparisons -/
namespace TW
open PySem (Str Addr Expr Pos Value Obj Shared model PyData CmpOp)
open L2 (V HO Hp Rd upd upd_same upd_ne TE TT TA TS VK Cx PE PT PA PS PSs PG PI OpR R2)
variable {C : C0} {H : Hp} {Z : Addr → Prop}
theorem R.flatV {d : D} {x : V} {f : List Addr} (h : R C H Z d x f) (e : d.flat = true) : L2.flatV x = true := by
  cases d <;> simp only [D.flat, Bool.false_eq_true] at e <;> rw [h.1] <;> rfl
theorem R.eqV {d e : D} {x y : V} {f f' : List Addr} (h : R C H Z d x f) (k : R C H Z e y f') (a : d.flat = true) (b : e.flat = true) : L2.eqV x y = d.eqF e := by
  cases d <;> simp only [D.flat, Bool.false_eq_true] at a <;> cases e <;> simp only [D.flat, Bool.false_eq_true] at b <;> rw [h.1, k.1] <;> rfl
theorem RL.flatV : ∀ {ds : List D} {vs : List V} {f : List Addr}, RL C H Z ds vs f → ds.all D.flat = true → vs.all L2.flatV = true
  | [], vs, f, h, _ => by rw [h.1]; rfl
  | d :: ds, vs, f, h, e => by
    obtain ⟨v, vr, f1, f2, e1, h1, h2, ef⟩ := h
    simp only [List.all_cons, Bool.and_eq_true] at e
    rw [e1, List.all_cons, h1.flatV e.1, h2.flatV e.2]; rfl
theorem RL.anyV {e : D} {y : V} {f' : List Addr} (k : R C H Z e y f') (b : e.flat = true) : ∀ {ds : List D} {vs : List V} {f : List Addr}, RL C H Z ds vs f → ds.all D.flat = true → (vs.any fun z => L2.eqV z y) = ds.any fun z => z.eqF e
  | [], vs, f, h, _ => by rw [h.1]; rfl
  | d :: ds, vs, f, h, c => by
    obtain ⟨v, vr, f1, f2, e1, h1, h2, ef⟩ := h
    simp only [List.all_cons, Bool.and_eq_true] at c
    rw [e1, List.any_cons, List.any_cons, h1.eqV k c.1 b, RL.anyV k b h2 c.2]
theorem R.lstAt {o : Bool} {ds : List D} {x : V} {f : List Addr} (h : R C H Z (.lst o ds) x f) : ∃ a vs g, x = .ref a ∧ H a = some (.lst vs) ∧ RL C H Z ds vs g := by
  cases o with
  | true =>
    obtain ⟨a, vs, g, e1, e2, e3, e4⟩ := h
    exact ⟨a, vs, g, e1, e2, e3⟩
  | false =>
    obtain ⟨_, a, vs, e1, e2, ez, e3⟩ := h
    exact ⟨a, vs, [], e1, e2, e3⟩
theorem R.dicAt {o : Bool} {ds : List (Key × D)} {x : V} {f : List Addr} (h : R C H Z (.dic o ds) x f) : ∃ a vs g, x = .ref a ∧ H a = some (.dK vs) ∧ (vs.map (·.1)).Nodup ∧ RK C H Z ds vs g := by
  cases o with
  | true =>
    obtain ⟨a, vs, g, e1, e2, nd, e3, e4⟩ := h
    exact ⟨a, vs, g, e1, e2, nd, e3⟩
  | false =>
    obtain ⟨_, a, vs, e1, e2, ez, nd, e3⟩ := h
    exact ⟨a, vs, [], e1, e2, nd, e3⟩
theorem R.key {d : D} {x : V} {f : List Addr} {k : Key} (h : R C H Z d x f) (e : d.key = some k) : x = L2.kV k := by
  cases d <;> simp only [D.key, reduceCtorEq, Option.some.injEq] at e <;> subst e <;> rw [h.1] <;> rfl
def rInDic (neg : Bool) : R2 := fun y x H Q => ∃ a o, x = .ref a ∧ L2.DGet H a y o ∧ Q (.bl (if neg then !o.isSome else o.isSome)) H
theorem op_inDic {X : Cx} (hu : X.A.units + 1 < PySem.cLine) : OpR X (PySem.compareOp .In) (rInDic false) := by
  intro pins s σ H y x u v Q I ry rx h
  obtain ⟨a, o, rfl, g, q⟩ := h
  obtain rfl : v = Value.ref a := rx
  exact L2.d_in hu I g ry fun s3 I3 => ⟨.bl o.isSome, H, I3, rfl, q⟩
theorem op_notinDic {X : Cx} (hu : X.A.units + 1 < PySem.cLine) : OpR X (PySem.compareOp .NotIn) (rInDic true) := by
  intro pins s σ H y x u v Q I ry rx h
  obtain ⟨a, o, rfl, g, q⟩ := h
  obtain rfl : v = Value.ref a := rx
  exact L2.d_notIn hu I g ry fun s3 I3 => ⟨.bl (!o.isSome), H, I3, rfl, q⟩
def rInAll (K : PySem.W.Frag) (neg : Bool) : R2 := fun x y H Q => L2.rIn K neg x y H Q ∨ (if neg then L2.rNotInD K else L2.rInD K) x y H Q ∨ rInDic neg x y H Q
theorem op_inAll {X : Cx} (hu : X.A.units + 65 < PySem.cLine) : OpR X (PySem.compareOp .In) (rInAll X.K false) := L2.op_in_seq.or ((L2.op_inD hu).or (op_inDic (by omega)))
theorem op_notinAll {X : Cx} (hu : X.A.units + 65 < PySem.cLine) : OpR X (PySem.compareOp .NotIn) (rInAll X.K true) := L2.op_notIn_seq.or ((L2.op_notInD hu).or (op_notinDic (by omega)))
theorem op2_in (neg : Bool) : Op2 C (rInAll C.K neg) fun a b => (a.isin b).map fun z => .bl (if neg then !z else z) := by
  intro H Z d e dz x y f f' Q hz hx hy hk q
  simp only at hk
  cases hi : d.isin e with
  | none => rw [hi] at hk; cases hk
  | some z =>
    rw [hi] at hk
    have hk : D.bl (if neg then !z else z) = dz := by simpa using hk
    subst hk
    have fin : Q (.bl (if neg then !z else z)) H := q _ _ (res0 hz ⟨rfl, rfl⟩)
    cases e with
    | lst o ys =>
      obtain ⟨a, vs, g, rfl, e2, e3⟩ := hy.lstAt
      simp only [D.isin] at hi
      split at hi
      · rename_i hc
        simp only [Bool.and_eq_true] at hc
        have hv := RL.anyV hx hc.1 e3 hc.2
        have hzv : z = ys.any fun y => y.eqF d := by simpa using hi.symm
        refine .inl ⟨a, vs, rfl, .inl (.inl (.inl e2)), hx.flatV hc.1, e3.flatV hc.2, ?_⟩
        show Q (.bl (if neg then !(vs.any fun z => L2.eqV z x) else vs.any fun z => L2.eqV z x)) H
        rw [hv, ← hzv]
        exact fin
      · split at hi
        · rename_i pd pds h1 h2
          split at hi
          · rename_i hc
            simp only [Bool.and_eq_true] at hc
            have hzv : z = pds.any fun z => PyData.eqv z pd := by simpa using hi.symm
            have hd := hx.dp rfl h1
            have hl : L2.Dp C.K H (.ref a) (.list pds) := .lst (.inl (.inl e2)) (e3.dp rfl h2)
            refine .inr (.inl ?_)
            cases neg with
            | true => exact ⟨pd, pds, hd, hl, hc.1, hc.2, by rw [← hzv]; exact fin⟩
            | false => exact ⟨pd, pds, hd, hl, hc.1, hc.2, by rw [← hzv]; exact fin⟩
          · cases hi
        · cases hi
    | tup ys =>
      obtain ⟨a, vs, rfl, e2, za, e3⟩ := hy.tupOf
      simp only [D.isin] at hi
      split at hi
      · rename_i hc
        simp only [Bool.and_eq_true] at hc
        have hv := RL.anyV hx hc.1 e3 hc.2
        have hzv : z = ys.any fun y => y.eqF d := by simpa using hi.symm
        refine .inl ⟨a, vs, rfl, .inr (.inl (.inl e2)), hx.flatV hc.1, e3.flatV hc.2, ?_⟩
        show Q (.bl (if neg then !(vs.any fun z => L2.eqV z x) else vs.any fun z => L2.eqV z x)) H
        rw [hv, ← hzv]
        exact fin
      · cases hi
    | dic o kvs =>
      obtain ⟨a, vs, g, rfl, e2, nd, e3⟩ := hy.dicAt
      simp only [D.isin] at hi
      split at hi
      · rename_i k hkey
        have hx' := hx.key hkey
        subst hx'
        have hzv : z = (lookK k kvs).isSome := by simpa using hi.symm
        refine .inr (.inr ⟨a, L2.valV vs k, rfl, L2.DGet.k e2, ?_⟩)
        have : (L2.valV vs k).isSome = z := by
          rw [hzv, valV_eq]
          cases hl : lookK k kvs with
          | none => rw [e3.nolook hl]; rfl
          | some d' =>
            obtain ⟨v, _, _, _, hv, _⟩ := e3.look hl
            rw [hv]; rfl
        rw [this]
        exact fin
      · cases hi
    | _ => simp [D.isin] at hi
def cmpOf : Cop → CmpOp
  | .eq => .Eq | .ne => .NotEq | .lt => .Lt | .le => .LtE | .gt => .Gt | .ge => .GtE | .isN => .Is | .notN => .IsNot | .isin => .In | .notin => .NotIn
theorem op2_cmpI {p : Int → Int → Bool} {k : D → D → Option D} (hk : ∀ d e dz, k d e = some dz → ∃ i j, d = .int i ∧ e = .int j ∧ dz = .bl (p i j)) : Op2 C (L2.rI0 fun i j => .bl (p i j)) k := by
  intro H Z d e dz x y f f' Q hz hx hy h q
  obtain ⟨i, j, rfl, rfl, rfl⟩ := hk d e dz h
  rw [hx.1, hy.1]
  exact ⟨i, j, rfl, rfl, q _ _ (res0 hz ⟨rfl, rfl⟩)⟩
theorem R.non_iff {d : D} {x : V} {f : List Addr} {z : Bool} (h : R C H Z d x f) (hh : d.isNon = some z) : decide (x = .non) = z := by
  cases d with
  | hole => cases hh
  | exc _ _ => exact h.elim
  | non => cases hh; rw [h.1]; rfl
  | bl _ => cases hh; rw [h.1]; rfl
  | int _ => cases hh; rw [h.1]; rfl
  | str _ => cases hh; rw [h.1]; rfl
  | tup _ => cases hh; obtain ⟨_, _, e, _⟩ := h.tupOf; rw [e]; rfl
  | lst _ _ => cases hh; obtain ⟨_, _, _, e, _⟩ := h.lstAt; rw [e]; rfl
  | dic _ _ => cases hh; obtain ⟨_, _, _, e, _⟩ := h.dicAt; rw [e]; rfl
  | scr _ => cases hh; obtain ⟨_, _, e, _⟩ := h; rw [e]; rfl
  | ins o _ _ => cases hh; cases o with
    | true => obtain ⟨_, _, _, _, _, e, _⟩ := h; rw [e]; rfl
    | false => obtain ⟨_, _, _, _, _, e, _⟩ := h; rw [e]; rfl
theorem cop_ok (X : Cx) (hK : X.K = C.K) (hu : X.A.units + 65 < PySem.cLine) (op : Cop) : ∃ rr, OpR X (PySem.compareOp (cmpOf op)) rr ∧ Op2 C rr op.run := by
  cases op with
  | eq =>
    refine ⟨_, L2.op_eq.or (L2.op_eqD (by omega)), ?_⟩
    rw [hK]
    intro H Z d e dz x y f f' Q hz hx hy hk q
    simp only [Cop.run, D.eqv] at hk
    split at hk
    · rename_i s t
      have hk : D.bl (s == t) = dz := by simpa using hk
      subst hk
      obtain rfl : x = V.str s := hx.1
      obtain rfl : y = V.str t := hy.1
      exact .inl ⟨rfl, by rw [L2.dec_str]; exact q _ _ (res0 hz ⟨rfl, rfl⟩)⟩
    · simp only [D.eqP] at hk
      split at hk
      · rename_i pd pe h1 h2
        split at hk
        · rename_i hc
          simp only [Bool.and_eq_true] at hc
          have hk : D.bl (PyData.eqv pd pe) = dz := by simpa using hk
          subst hk
          exact .inr ⟨pd, pe, hx.dp rfl h1, hy.dp rfl h2, hc.1, hc.2, q _ _ (res0 hz ⟨rfl, rfl⟩)⟩
        · cases hk
      · cases hk
  | ne =>
    refine ⟨_, L2.op_ne.or (L2.op_neD (by omega)), ?_⟩
    rw [hK]
    intro H Z d e dz x y f f' Q hz hx hy hk q
    simp only [Cop.run, D.eqv] at hk
    split at hk
    · rename_i s t
      have hk : D.bl (!(s == t)) = dz := by simpa using hk
      subst hk
      obtain rfl : x = V.str s := hx.1
      obtain rfl : y = V.str t := hy.1
      exact .inl ⟨rfl, by rw [L2.dec_str]; exact q _ _ (res0 hz ⟨rfl, rfl⟩)⟩
    · simp only [D.eqP] at hk
      split at hk
      · rename_i pd pe h1 h2
        split at hk
        · rename_i hc
          simp only [Bool.and_eq_true] at hc
          have hk : D.bl (!PyData.eqv pd pe) = dz := by simpa using hk
          subst hk
          exact .inr ⟨pd, pe, hx.dp rfl h1, hy.dp rfl h2, hc.1, hc.2, q _ _ (res0 hz ⟨rfl, rfl⟩)⟩
        · cases hk
      · cases hk
  | lt => exact ⟨_, L2.op_lt, op2_cmpI fun d e dz h => by cases d <;> cases e <;> simp only [Cop.run, reduceCtorEq, Option.some.injEq] at h <;> exact ⟨_, _, rfl, rfl, h.symm⟩⟩
  | le => exact ⟨_, L2.op_le, op2_cmpI fun d e dz h => by cases d <;> cases e <;> simp only [Cop.run, reduceCtorEq, Option.some.injEq] at h <;> exact ⟨_, _, rfl, rfl, h.symm⟩⟩
  | gt => exact ⟨_, L2.op_gt, op2_cmpI fun d e dz h => by cases d <;> cases e <;> simp only [Cop.run, reduceCtorEq, Option.some.injEq] at h <;> exact ⟨_, _, rfl, rfl, h.symm⟩⟩
  | ge => exact ⟨_, L2.op_ge, op2_cmpI fun d e dz h => by cases d <;> cases e <;> simp only [Cop.run, reduceCtorEq, Option.some.injEq] at h <;> exact ⟨_, _, rfl, rfl, h.symm⟩⟩
  | isN =>
    refine ⟨_, L2.op_isN, ?_⟩
    intro H Z d e dz x y f f' Q hz hx hy hk q
    cases e <;> simp only [Cop.run, reduceCtorEq] at hk
    cases hd : d.isNon with
    | none => rw [hd] at hk; cases hk
    | some z =>
      rw [hd] at hk
      have hk : D.bl (z) = dz := by simpa using hk
      subst hk
      exact ⟨hy.1, by rw [hx.non_iff hd]; exact q _ _ (res0 hz ⟨rfl, rfl⟩)⟩
  | notN =>
    refine ⟨_, L2.op_notN, ?_⟩
    intro H Z d e dz x y f f' Q hz hx hy hk q
    cases e <;> simp only [Cop.run, reduceCtorEq] at hk
    cases hd : d.isNon with
    | none => rw [hd] at hk; cases hk
    | some z =>
      rw [hd] at hk
      have hk : D.bl (!z) = dz := by simpa using hk
      subst hk
      exact ⟨hy.1, by rw [hx.non_iff hd]; exact q _ _ (res0 hz ⟨rfl, rfl⟩)⟩
  | isin => exact ⟨_, op_inAll hu, by rw [hK]; exact fun H Z d e dz x y f f' Q hz hx hy hk q => op2_in false H Z d e dz x y f f' Q hz hx hy (by simpa [Cop.run] using hk) q⟩
  | notin => exact ⟨_, op_notinAll hu, by rw [hK]; exact fun H Z d e dz x y f f' Q hz hx hy hk q => op2_in true H Z d e dz x y f f' Q hz hx hy (by simpa [Cop.run] using hk) q⟩
end TW
end

section
set_option maxHeartbeats 1600000
/-! defs where it is known that no repr is under way -/
namespace TW
open PySem (Str Addr Expr Stmt Pos Value Obj Shared model PyData Scope Env Arguments Program World Heap FuncData Around Args)
open PySem.Spec PyProof.Rows
open L2 (V HO Hp VK XK Cx PE PA PSs St Sp)
/-- room, and no guard on the stack -/
structure RoomG (k : Nat) (A : Around) : Prop where
  rm : L2.Room k A
  gd : A.guards = some []
theorem RoomG.deeper {k : Nat} {A : Around} (r : RoomG (k + 1) A) (env : Env) : RoomG k (A.deeper env) := ⟨r.rm.deeper env, r.gd⟩
/-- a def's promise -/
structure FnG (P : Program) (w : World) (K : PySem.W.Frag) (mg : Str → Option Value) (base : Heap) (k : Nat) (f : Addr) (fd : FuncData) (ps : List Str) (sp : Sp) : Prop where
  len : ∀ vs H Q E, sp vs H Q E → vs.length = ps.length
  run : ∀ (A : Around) (outer : List Env) (s : Shared) (H : Hp) (args : Args) (us : List Value) (vs : List V) (Q : VK) (E : XK), RoomG k A → L2.Env0 P w K mg base A outer s H → PySem.BindsTo s fd args (ps.zip us) → L2.Vals vs us → sp vs H Q E →
    PySem.codeAny (model P w) A (.call (.ref f) args) (L2.CR (L2.CX P w) outer P w H s Q E) s
section
variable {P : Program} {w : World} {K : PySem.W.Frag} {mg : Str → Option Value} {base : Heap} {k : Nat}
theorem FnG.fn {f : Addr} {name qual : Str} {params : Arguments} {body : List Stmt} {scope : Scope} {dvs : List V} {kws : List (Str × V)} {fd : FuncData} {N ps : List Str} {sp : Sp} (F : L2.FunD K name qual params body scope dvs kws f fd) (S : L2.FnScope N ps scope)
    (len : ∀ vs H Q E, sp vs H Q E → vs.length = ps.length)
    (hbody : ∀ (cdv : Value) (A : Around) (outer : List Env) (s : Shared) (H : Hp) (vs : List V) (Q : VK) (E : XK), RoomG k (A.deeper (PyProof.Rows.envOfC qual scope s.heap.objs.size f cdv)) → sp vs H Q E →
      ∃ t, PSs (L2.cxOf (L2.CX P w) P w K mg base N qual scope f cdv A outer s H E) body t ∧ t { nx := fun _ H' => Q .non H', rt := Q } (L2.start N vs) H) : FnG P w K mg base (k + 1) f fd ps sp := by
  obtain ⟨oc, od, dV, kV, doc, pm, an, cdv, ct, osl, rfl, lk, hcd, _, _⟩ := F.ex
  refine ⟨len, fun A outer s H args us vs Q E hr e0 hb r hsp => ?_⟩
  have KX : K.In s.heap := e0.mod.kin.keeps fun b o e => (e0.bs b o e).1
  have lim : s.heap.NoLimit := e0.mod.nolimit.keeps fun b o e => (e0.bs b o e).1
  have kinds : ∀ y ∈ ps.zip us, scope.names.lookup y.1 = some .local ∨ (scope.names.lookup y.1 = some .cell ∧ ((PySem.cellsFrom (s.heap.objs.size + 1) scope.names []).lookup y.1).isSome = true) := fun y hy =>
    (S.par y.1 (List.of_mem_zip (a := y.1) (b := y.2) hy).1).imp id fun q => ⟨q, PySem.W.cellsFrom_some _ _ _ (.inl q)⟩
  refine PySem.codeAny_call_function hr.rm.depth (KX _ _ lk) rfl S.co S.gen rfl (PySem.W.codeRec_of KX hcd) (hb _ _ _ _ (PySem.wpAny_newFunctionEnv_cells S.kind kinds fun env he s1 x => ?_))
  subst he
  refine ⟨lim.keeps x.toInCall.keep, PySem.codeAny_func ?_⟩
  obtain ⟨t, ht, hq⟩ := hbody cdv A outer s H vs Q E (hr.deeper _) hsp
  have I := L2.inv_start (CX := L2.CX P w) (E := E) S hr.rm.hd e0 (len _ _ _ _ hsp) r x
  refine PySem.wpAny_mono (ht.run [] s1 (L2.start N vs) H _ I hq) (fun fl s' hs => ?_) fun e s' hs => hs
  cases fl with
  | ret u =>
    obtain ⟨v, σ', H', J, rv, q⟩ := hs
    exact ⟨v, H', J.os, J.bare, J.base, J.hok, rv, q⟩
  | next =>
    obtain ⟨σ', H', J, q⟩ := hs
    exact ⟨V.non, H', J.os, J.bare, J.base, J.hok, rfl, q⟩
  | brk => exact hs.choose_spec.choose_spec.2.elim
  | cont => exact hs.choose_spec.choose_spec.2.elim
end
end TW
end

section
set_option maxHeartbeats 1600000
/-! calls of such defs; a law's call -/
namespace TW
open PySem (Str Addr Expr Stmt Pos Value Obj Shared model PyData Scope Env Arguments Program World Heap FuncData Around Args Data DictEntry Claim)
open PySem.Spec PyProof.Rows
open L2 (V HO Hp VK XK Cx PE PA PSs Sp TA TE upd upd_same upd_ne)
section
variable {X : Cx} {k : Nat} {f : Addr} {fd : FuncData} {ps : List Str} {sp : Sp} {E : L2.St → XK} {x : Str} {p pos : Pos} {e : Expr} {es : List Expr} {t : TA}
theorem pe_callG (F : FnG X.prog X.w X.K X.mg X.base k f fd ps sp) (hr : RoomG k X.A) (hg : L2.Gl X x) (hm : X.mg x = some (.ref f)) (hk : PySem.W.keepIn X.K (.ref f) = true) (hb : L2.Binds X.K fd ps []) (hx : ∀ σ, L2.PassesAt (L2.CX X.prog X.w) X σ (E σ))
    (ha : PA X (e :: es) t) (hdb : (x == ("__debug__" : Str)) = false) (he : PySem.starEach (e :: es) X.env = (false, PySem.eval e X.env) :: PySem.starEach es X.env) (hpl : (PySem.backTo pos (PySem.starEach es X.env)).any (·.1) = false) :
    PE X (.Call (.Name x p) (e :: es) [] pos) (L2.tCallSD sp [] E t) := by
  refine ⟨fun pins s σ H Q I h => PySem.wpAny_Call_Name_kw (L2.ld_glob I hg hm ?_ hdb)⟩
  refine PySem.W.callWith_K (h₀ := X.base) I.ok.mod.kin hk (L2.thn (ha.run pos pins s σ H _ I h) fun us s1 ⟨vs, H1, I1, r, q⟩ => ⟨I1.kIn, ?_⟩) he hpl
  have r2 : L2.Vals (vs ++ []) (us ++ []) := by simpa using r
  have hl : (us ++ []).length = ps.length := by rw [← r2.length]; exact F.len _ _ _ _ q
  refine PySem.wpAny_call (PySem.codeAny_mono (F.run X.A X.stack s1 H1 ⟨us, []⟩ (us ++ []) (vs ++ []) Q (E σ) hr I1.env0 (hb s1 us I1.kIn hl) r2 q) fun r s' hq => ?_)
  cases r with
  | error e => exact hx σ pins H1 s1 e s' I1 hq
  | ok fl =>
    cases fl with
    | ret u => exact I1.after hq
    | next => exact False.elim hq
    | brk => exact False.elim hq
    | cont => exact False.elim hq
end
open L2 in
/-- a law is called -/
theorem lawG {P : Program} {w : World} {K : PySem.W.Frag} {mg mb : Str → Option Value} {k : Nat} {fa a : Addr} {fd : FuncData} {x : Str} {sp : Sp} {s₁ : Shared} {vs : List Value} {ns : List Int}
    (KX : K.In s₁.heap) (hns : s₁.heap.Ns PySem.mainGlobals mg) (hb : s₁.heap.Ns PySem.builtinsNs mb) (hbb : ∀ x : Str, x ≠ "__name__" → mb x = PySem.bootBuiltins x) (hlim : s₁.heap.NoLimit) (hg : s₁.gens = #[])
    (ha : s₁.heap.get? a = some { cls := .type "list", data := .seq vs.toArray }) (hi : IntsAre vs ns) (hl : ns.length ≤ PySem.sizeLine) (hr : RoomG k PySem.callerA)
    (F : ∀ base : Heap, K.In base → base.Ns PySem.mainGlobals mg → FnG P w K mg base k fa fd [x] sp) (hbind : ∀ (s : Shared) (u : Value), PySem.BindsTo s fd ⟨[u], []⟩ [(x, u)])
    (hsp : ∀ H : Hp, L2.Only H → L2.SqL K H a (ns.map V.int) → sp [.ref a] H (fun v _ => v = .bl true) fun _ _ _ => False) :
    PySem.codeAny (model P w) PySem.callerA (.call (.ref fa) ⟨[.ref a], []⟩) (fun r s' => r = .ok (.ret (.bool true)) ∧ PySem.OldK s₁.heap s'.heap ∧ s'.os = s₁.os ∧ PyProof.Rows.AllBare s'.gens) s₁ := by
  have rv := vals_ints hi
  -- which things are told of: the script alone, if it is none of the module's own
  have pick : ∃ H : Hp, L2.Only H ∧ SqL K H a (ns.map V.int) ∧ HOk P w H s₁.heap ∧ ∀ b, H b ≠ none → b = a ∧ K.lookup a = none := by
    cases hk : K.lookup a with
    | some o =>
      have e := KX a o hk
      rw [ha] at e
      cases e
      exact ⟨fun _ => none, fun _ => .inl rfl, .inr ⟨_, vs.toArray, _, hk, rfl, rfl, rfl, by rw [List.size_toArray, hi.length]; exact hl, by simpa using rv⟩, (fun _ _ z => nomatch z), fun _ z => absurd rfl z⟩
    | none =>
      let ho : HO := .frz { cls := .type "list", data := .seq vs.toArray } (.lst (ns.map V.int))
      have at_ : upd (fun _ => none) a ho a = some ho := upd_same
      have off : ∀ {b}, b ≠ a → upd (fun _ => none) a ho b = none := fun h => upd_ne h
      refine ⟨upd (fun _ => none) a ho, fun b => ?_, .inl (.inr ⟨_, at_⟩), fun b u z => ?_, fun b z => ⟨?_, rfl⟩⟩
      · by_cases e : b = a
        · subst e; exact .inr ⟨_, _, at_⟩
        · exact .inl (off e)
      · by_cases e : b = a
        · subst e
          cases at_.symm.trans z
          exact ⟨ha, by rw [List.length_map]; exact hl, vs, _, rv, ha⟩
        · cases (off e).symm.trans z
      · exact Classical.byContradiction fun e => z (off e)
  obtain ⟨H, hO, hS, hok, hA⟩ := pick
  have dictFree : ∀ {b : Addr} {o : Obj} {es : Array DictEntry} {ep : Nat}, s₁.heap.get? b = some o → o.data = .dict es ep → H b = none := fun {b o es ep} e d => Classical.byContradiction fun n => by
    obtain ⟨rfl, _⟩ := hA b n
    rw [ha] at e
    cases e
    cases d
  have into : ∀ {b : Addr} {m : Str → Option Value}, s₁.heap.Ns b m → (hidT s₁.heap H).Ns b m := fun ⟨o, es, ep, e, d, r⟩ => ⟨o, es, ep, hidT_get e (dictFree e d), d, r⟩
  have hKb : K.In (hidT s₁.heap H) := fun b o e => hidT_get (KX b o e) (Classical.byContradiction fun n => by
    obtain ⟨rfl, q⟩ := hA b n
    rw [q] at e
    cases e)
  have e0 : Env0 P w K mg (hidT s₁.heap H) PySem.callerA [] s₁ H := ⟨rfl, ⟨hKb, into hns, ⟨mb, into hb, hbb⟩, hlim.imp fun mc h => ⟨into h.1, h.2⟩⟩, fun b o e => of_hidT e, Nat.le_of_eq (hidT_size _ _), trivial, (fun b z => nomatch z), hok, .of_eq hg⟩
  refine PySem.codeAny_mono ((F _ hKb (into hns)).run PySem.callerA [] s₁ H ⟨[.ref a], []⟩ [.ref a] [.ref a] _ _ hr e0 (hbind s₁ (.ref a)) (.cons rfl .nil) (hsp H hO hS)) fun r s' h => ?_
  cases r with
  | error e =>
    obtain ⟨_, _, _, _, _, _, _, _, _, _, _, _, hE⟩ := h
    exact hE.elim
  | ok fl =>
    cases fl with
    | next => exact False.elim h
    | brk => exact False.elim h
    | cont => exact False.elim h
    | ret u =>
      obtain ⟨v, H', os, bare, un, hok', r', rfl⟩ := h
      obtain rfl : u = Value.bool true := r'
      refine ⟨rfl, PySem.OldK.of_keep fun b o e => ?_, os, bare⟩
      rcases hO b with q | ⟨ob, xs, q⟩
      · exact un.keep b o e q (by intro z; exact absurd (show b ∈ ([] : List Addr) from z) (by simp)) (by simp)
      · obtain ⟨e1, _⟩ := hok b _ q
        obtain ⟨e2, _⟩ := hok' b _ (un.frzs b ob _ q)
        exact e2.trans (e1.symm.trans e)
end TW
end

section
/-! expressions: names, places, operators -/
namespace TW
open PySem (Str Addr Expr Pos Value Obj Shared model PyData Scope)
open L2 (V HO Hp Rd upd upd_same upd_ne TE TT TA TS VK Cx PE PT PA PS PSs PG PI OpR R2)
structure Rm (k : Nat) (A : PySem.Around) : Prop where
  dp : A.depth + 3 * k + 5 < PySem.recursionLimit
  un : A.units + 16 * k + 200 < PySem.cLine
theorem Rm.units {k : Nat} {A : PySem.Around} (r : Rm k A) : A.units + 64 < PySem.cLine := by have := r.un; omega
/-- what a context bears -/
structure Xk (c : Ct) (X : Cx) (k : Nat) (sc : Scope) : Prop where
  K : X.K = c.C.K
  calm : c.hot = false → X.calm = true
  room : Rm k X.A
  rm : c.hot = false → L2.Room k X.A
  gd : X.A.guards = some []
  nd : X.N.Nodup
  sc : X.env.scope = sc
  pass : ∀ s, L2.PassesAt (L2.CX X.prog X.w) X s fun A d H => c.W A d s H
/-- a place's reading -/
def tP (c : Ct) (p : P) : TE := fun s H Q => ∃ r Z F w d, Iv H Z F ∧ RSt c.C H Z c.xo 0 r s F ∧ evP c.g p r = some w ∧ getP r w = some d ∧
  ∀ x H' Z', Stp H Z [] H' Z' [] → (∃ p g q, Foc c.C H' Z' c.xo r s F w d x p g q) → Q x H'
theorem Foc.mono {C : C0} {H H' : Hp} {Z Z' : Addr → Prop} {xo : Option Xo} {r : Sl} {s : L2.St} {F : List Addr} {w : Pth} {d : D} {x : V} {p g q f : List Addr} (h : Foc C H Z xo r s F w d x p g q) (st : Stp H Z [] H' Z' f) : Foc C H' Z' xo r s F w d x p g q :=
  ⟨h.eq, h.at_.mono st.kpAll, h.gt, fun H2 Z2 k => h.vg H2 Z2 ⟨fun a z => k.1 a (st.z a z), fun a o q e => k.2 a o (q.imp id (st.z a)) (st.keep a o e (by simp))⟩, fun H2 Z2 k d' g' hd r' hs => h.put H2 Z2 ⟨fun a z => k.1 a (st.z a z), fun a o q e => k.2 a o (q.imp id (st.z a)) (st.keep a o e (by simp))⟩ d' g' hd r' hs⟩
section
variable {c : Ct} {X : Cx} {k : Nat} {sc : Scope}
theorem sp_var {i : Nat} {x : Str} {pos : Pos} (hN : X.N[i]? = some x) (hv : L2.Vis X.env.scope x) (hd : (x == ("__debug__" : Str)) = false) (hcd : (x == ("__classdict__" : Str)) = false) : PE X (.Name x pos) (tP c (.var i)) :=
  (L2.pe_var hN hv hd hcd).imp fun s H Q ⟨r, Z, F, w, d, i0, hs, he, hg, h⟩ => by
    have e : w = ⟨i, []⟩ := by simpa [evP] using he.symm
    subst e
    obtain ⟨x, p, g, q, hx, hf⟩ := Foc.root hs hg
    exact ⟨x, hx, h x H Z (Stp.refl i0.nil) ⟨p, g, q, hf⟩⟩
/-- what the text must say of the classes' attributes -/
structure Fk (c : Ct) (K : PySem.W.Frag) (f : Str) : Prop where
  at_ : ∀ n A, c.C.cls n = some A → L2.NoAttr K A f
def ClsOk (c : Ct) (K : PySem.W.Frag) : Prop := ∀ n A, c.C.cls n = some A → L2.Cls K A
theorem getP_pre {r : Sl} {w : Pth} {a : Acc} {d : D} (h : getP r ⟨w.s, w.r ++ [a]⟩ = some d) : ∃ e, getP r w = some e ∧ accD e a = some d := by
  unfold getP at h ⊢
  simp only at h
  split at h
  · cases h
  · rename_i d0 hn hr
    cases d0 with
    | exc c v => exact (hn c v rfl).elim
    | _ =>
      rw [getA_snoc] at h
      cases hg : getA _ w.r with
      | none => rw [hg] at h; cases h
      | some e => rw [hg] at h; exact ⟨e, rfl, h⟩
  · cases h
theorem sp_fld {p : P} {pe : Expr} {f : Str} {pos : Pos} (hp : PE X pe (tP c p)) (hK : X.K = c.C.K) (fk : Fk c X.K f) (ck : ClsOk c X.K) (hb : PySem.attributeBase pe f X.env (PySem.eval pe X.env) = PySem.eval pe X.env) :
    PE X (.Attribute pe f pos) (tP c (.fld p f)) :=
  (L2.pe_fld hp hb).imp fun s H Q ⟨r, Z, F, w, d, i0, hs, he, hg, h⟩ => by
    simp only [evP] at he
    cases hw : evP c.g p r with
    | none => rw [hw] at he; cases he
    | some w0 =>
      rw [hw] at he
      have e : w = ⟨w0.s, w0.r ++ [.f f]⟩ := by simpa using he.symm
      subst e
      obtain ⟨e, hge, hacc⟩ := getP_pre hg
      refine ⟨r, Z, F, w0, e, i0, hs, hw, hge, fun x H' Z' st ⟨p1, g1, q1, hf⟩ => ?_⟩
      cases e with
      | ins o n fs =>
        obtain ⟨a, A, dx, vs, y, p', g', q', hx, hA, hH, hl, hf'⟩ := hf.fld (e := d) (by simpa [accD] using hacc)
        exact ⟨a, A, dx, vs, y, hx, hH, ck n A hA, fk.at_ n A hA, hl, h y H' Z' st ⟨p', g', q', hf'⟩⟩
      | _ => simp [accD] at hacc
theorem sp_sub {p : P} {e : E} {pe pi : Expr} {pos : Pos} (hp : PE X pe (tP c p)) (hi : PE X pi (tE c e)) (xk : Xk c X k sc) (hs : L2.PlainIx pi) : PE X (.Subscript pe pi pos) (tP c (.sub p e)) := by
  have hu := xk.room.units
  refine ((L2.pe_ix L2.ix_seq hp hi hs).or (L2.pe_dget (by omega) hp hi hs)).imp fun s H Q ⟨r, Z, F, w, d, i0, hs, he, hg, h⟩ => ?_
  simp only [evP] at he
  split at he
  · rename_i hpur
    cases hw : evP c.g p r with
    | none => rw [hw] at he; cases he
    | some w0 =>
      rw [hw] at he
      simp only at he
      cases hg0 : getP r w0 with
      | none => rw [hg0] at he; cases he
      | some e0 =>
        rw [hg0] at he
        simp only at he
        cases hv : ev c.g e r with
        | ok i r2 =>
          rw [hv] at he
          simp only at he
          cases ha : accOf e0 i with
          | none => rw [ha] at he; cases he
          | some acc =>
            rw [ha] at he
            have ew : w = ⟨w0.s, w0.r ++ [acc]⟩ := by simpa using he.symm
            subst ew
            obtain ⟨e1, hge, hacc⟩ := getP_pre hg
            have : e1 = e0 := Option.some.inj (hge.symm.trans hg0)
            subst this
            -- the index
            have idx : ∀ {H' : Hp} {Z' : Addr → Prop} {Q2 : VK}, Stp H Z [] H' Z' [] → (∀ y H2 Z2, R c.C H2 Z2 i y [] → Stp H Z [] H2 Z2 [] → Stp H' Z' [] H2 Z2 [] → Q2 y H2) → i.own = false → tE c e s H' Q2 := fun {H' Z' Q2} st q hno => by
              refine ⟨r, Z', F, st.ivl i0, hs.mono st.kpAll, ?_⟩
              rw [hv]
              intro y H2 ⟨Z2, F2, f2, st2, rs2, hy, pp⟩
              obtain ⟨b1, b2, b3⟩ := pp hpur
              have hf2 := hy.noown hno
              subst hf2
              exact q y H2 Z2 hy (st.trans b3) b3
            cases e1 with
            | lst o xs =>
              cases i with
              | int n =>
                simp only [accOf] at ha
                cases hn : ixD xs.length n with
                | none => rw [hn] at ha; cases ha
                | some j =>
                  rw [hn] at ha
                  have : acc = .i j := by simpa using ha.symm
                  subst this
                  refine .inl ⟨r, Z, F, w0, _, i0, hs, hw, hg0, fun x H' Z' st ⟨p1, g1, q1, hf⟩ => idx st (fun y H2 Z2 hy st2 st3 => ?_) rfl⟩
                  obtain ⟨a, vs, y0, p', g', q', hx, hS, hj, hl, hf'⟩ := (hf.mono st3).lst (e := d) (by simpa [accD] using hacc)
                  refine .inl ⟨a, vs, n, y0, hx, hy.1, by rw [xk.K]; exact hS, ?_, h y0 H2 Z2 st2 ⟨p', g', q', hf'⟩⟩
                  unfold L2.atI
                  rw [hl, show L2.ixN xs.length n = some j from hn]
                  exact hj
              | _ => simp [accOf] at ha
            | tup xs =>
              cases i with
              | int n =>
                simp only [accOf] at ha
                cases hn : ixD xs.length n with
                | none => rw [hn] at ha; cases ha
                | some j =>
                  rw [hn] at ha
                  have : acc = .i j := by simpa using ha.symm
                  subst this
                  refine .inl ⟨r, Z, F, w0, _, i0, hs, hw, hg0, fun x H' Z' st ⟨p1, g1, q1, hf⟩ => idx st (fun y H2 Z2 hy st2 st3 => ?_) rfl⟩
                  obtain ⟨a, vs, y0, p', g', q', hx, hS, hj, hl, hf'⟩ := (hf.mono st3).tup (e := d) (by simpa [accD] using hacc)
                  refine .inr (.inl ⟨a, vs, n, y0, hx, hy.1, by rw [xk.K]; exact hS, ?_, h y0 H2 Z2 st2 ⟨p', g', q', hf'⟩⟩)
                  unfold L2.atI
                  rw [hl, show L2.ixN xs.length n = some j from hn]
                  exact hj
              | _ => simp [accOf] at ha
            | dic o kvs =>
              simp only [accOf] at ha
              cases hk : i.key with
              | none => rw [hk] at ha; cases ha
              | some ky =>
                rw [hk] at ha
                simp only [Option.bind_some] at ha
                cases hpk : posK ky kvs with
                | none => rw [hpk] at ha; cases ha
                | some j =>
                  rw [hpk] at ha
                  have : acc = .i j := by simpa using ha.symm
                  subst this
                  refine .inr ⟨r, Z, F, w0, _, i0, hs, hw, hg0, fun x H' Z' st ⟨p1, g1, q1, hf⟩ => idx st (fun y H2 Z2 hy st2 st3 => ?_) ?_⟩
                  · obtain ⟨a, vs, e2, y0, p', g', q', hx, hS, ha2, hl, hf'⟩ := (hf.mono st3).dic hpk
                    have : e2 = d := Option.some.inj (ha2.symm.trans hacc)
                    subst this
                    have hyk := hy.key hk
                    subst hyk
                    refine ⟨a, y0, hx, ?_, h y0 H2 Z2 st2 ⟨p', g', q', hf'⟩⟩
                    rw [← hl]
                    exact L2.DGet.k hS
                  · cases i <;> simp [D.key] at hk <;> rfl
            | _ => simp [accOf] at ha
        | _ => rw [hv] at he; cases he
  · cases he
/-- what stands at a place -/
theorem se_rd {p : P} {pe : Expr} (hp : PE X pe (tP c p)) : PE X pe (tE c (.rd p)) :=
  hp.imp fun s H Q ⟨r, Z, F, i0, hs, h⟩ => by
    simp only [ev] at h
    cases hw : evP c.g p r with
    | none => rw [hw] at h; exact h.elim
    | some w =>
      rw [hw] at h
      simp only at h
      cases hg : getP r w with
      | none => rw [hg] at h; exact h.elim
      | some d =>
        rw [hg] at h
        simp only at h
        refine ⟨r, Z, F, w, d, i0, hs, hw, hg, fun x H' Z' st ⟨p1, g1, q1, hf⟩ => ?_⟩
        split at h
        · refine h x H' ⟨Z', F, g1, st.lift i0, hs.mono st.kpAll, hf.at_, fun a ha => ?_, fun _ => ⟨rfl, rfl, st⟩⟩
          rw [hf.eq]; simp [ha]
        · rename_i hno
          have hr := hf.at_
          have hg1 := hr.noown (by simpa using hno)
          subst hg1
          exact h x H' ⟨Z', F, [], st.lift i0, hs.mono st.kpAll, hr, fun _ => ⟨rfl, rfl, st⟩⟩
theorem se_val {e : E} {pe : Expr} {v : V} {d : D} (hv : PE X pe (L2.tC v)) (he : ∀ r, ev c.g e r = .ok d r) (hr : ∀ H Z, R c.C H Z d v []) : PE X pe (tE c e) :=
  hv.imp fun s H Q ⟨r, Z, F, i0, hs, h⟩ => by
    rw [he] at h
    exact Wn.here i0 hs (hr H Z) h
theorem se_int {i : Int} {j pos} : PE X (.Constant (.int i) j pos) (tE c (.int i)) := se_val L2.pe_int (fun _ => rfl) fun _ _ => ⟨rfl, rfl⟩
theorem se_bl {i : Bool} {j pos} : PE X (.Constant (.bool i) j pos) (tE c (.bl i)) := se_val L2.pe_bl (fun _ => rfl) fun _ _ => ⟨rfl, rfl⟩
theorem se_non {j pos} : PE X (.Constant .none j pos) (tE c .non) := se_val L2.pe_non (fun _ => rfl) fun _ _ => ⟨rfl, rfl⟩
theorem se_str {i : Str} {j pos} : PE X (.Constant (.str i) j pos) (tE c (.str i)) := se_val L2.pe_str (fun _ => rfl) fun _ _ => ⟨rfl, rfl⟩
theorem se_bin {op : Bop} {a b : E} {pa pb : Expr} {pos : Pos} (xk : Xk c X k sc) (ha : PE X pa (tE c a)) (hb : PE X pb (tE c b)) : PE X (.BinOp pa (opOf op) pb pos) (tE c (.bin op a b)) := by
  obtain ⟨rr, h1, h2⟩ := bop_ok (C := c.C) X xk.K op
  exact (L2.pe_op h1 ha hb).imp fun s H Q ⟨r, Z, F, i0, hs, h⟩ => tE.two h2 i0 hs h
theorem se_cmp {op : Cop} {a b : E} {pa pb : Expr} {pos : Pos} (xk : Xk c X k sc) (ha : PE X pa (tE c a)) (hb : PE X pb (tE c b)) (hm : PySem.behindInMarks (cmpOf op) pb = false) : PE X (.Compare pa [cmpOf op] [pb] pos) (tE c (.cmp op a b)) := by
  have hu := xk.room.un
  obtain ⟨rr, h1, h2⟩ := cop_ok (C := c.C) X xk.K (by omega) op
  exact (L2.pe_cmpR h1 ha hb hm).imp fun s H Q ⟨r, Z, F, i0, hs, h⟩ => tE.two h2 i0 hs h
theorem op1_neg {C : C0} : Op1 C (L2.rU fun i => .int (-i)) (Uop.run .neg) := by
  intro H Z d dz x f Q hz hx hk q
  cases d <;> simp only [Uop.run, reduceCtorEq] at hk
  cases hk
  rw [hx.1]
  exact ⟨_, rfl, q _ _ (res0 hz ⟨rfl, rfl⟩)⟩
theorem se_neg {a : E} {pa : Expr} {pos : Pos} (ha : PE X pa (tE c a)) : PE X (.UnaryOp .USub pa pos) (tE c (.un .neg a)) :=
  (L2.pe_un L2.un_neg ha).imp fun s H Q ⟨r, Z, F, i0, hs, h⟩ => tE.one op1_neg i0 hs h
end
end TW
end

section
/-! expressions: tests, displays -/
namespace TW
open PySem (Str Addr Expr Pos Value Obj Shared model PyData Scope)
open L2 (V HO Hp Rd upd upd_same upd_ne TE TT TA TS VK Cx PE PT PW PA PS PSs PG PI OpR R2)
variable {c : Ct} {X : Cx} {k : Nat} {sc : Scope}
/-- what is wanted of a test -/
def WnT (c : Ct) (H : Hp) (Z : Addr → Prop) (F : List Addr) (s : L2.St) (r : Sl) (pu : Bool) (Q : Bool → Hp → Prop) (res : RE) : Prop :=
  let go := fun (d : D) (r' : Sl) => match d.tru with
    | some b => ∀ H' Z' F', Stp H Z F H' Z' F' → RSt c.C H' Z' c.xo 0 r' s F' → (pu = true → r' = r ∧ F' = F ∧ Stp H Z [] H' Z' []) → Q b H'
    | none => False
  match res with
  | .ok d r' => go d r'
  | .brw d r' => go d r'
  | .exc n v r' => ∀ A dd H', PX c H Z F s n v r' A dd H' → c.W (.ref A) (some dd) s H'
  | .bad => False
def tT (c : Ct) (e : E) : TT := fun s H Q => ∃ r Z F, Iv H Z F ∧ RSt c.C H Z c.xo 0 r s F ∧ WnT c H Z F s r (pur e) Q (ev c.g e r)
theorem _root_.L2.PT.imp {X : Cx} {e : Expr} {t t' : TT} (h : PT X e t) (i : ∀ s H Q, t' s H Q → t s H Q) : PT X e t' := ⟨fun pins s σ H Q I q => h.run pins s σ H Q I (i _ _ _ q)⟩
theorem _root_.L2.PW.imp {X : Cx} {e : Expr} {t t' : TT} (h : PW X e t) (i : ∀ s H Q, t' s H Q → t s H Q) : PW X e t' := ⟨fun wh pins s σ H Q I q => h.run wh pins s σ H Q I (i _ _ _ q)⟩
theorem R.tru {H : Hp} {Z : Addr → Prop} {d : D} {x : V} {f : List Addr} {b : Bool} (h : R c.C H Z d x f) (e : d.tru = some b) : L2.TruV c.C.K x H b := by
  cases d with
  | non => rw [h.1]; show b = false; simpa [D.tru] using e.symm
  | bl z => rw [h.1]; show b = z; simpa [D.tru] using e.symm
  | int i => rw [h.1]; show b = (i != 0); simpa [D.tru] using e.symm
  | tup xs =>
    obtain ⟨a, vs, rfl, e2, za, e3⟩ := h.tupOf
    refine .inr (.inl ⟨vs, .inl (.inl e2), ?_⟩)
    have := e3.nil_iff
    simp only [D.tru, Option.some.injEq] at e
    rw [← e]
    cases xs <;> cases vs <;> simp_all
  | lst o xs =>
    obtain ⟨a, vs, g, rfl, e2, e3⟩ := h.lstAt
    refine .inl ⟨vs, .inl (.inl e2), ?_⟩
    have := e3.nil_iff
    simp only [D.tru, Option.some.injEq] at e
    rw [← e]
    cases xs <;> cases vs <;> simp_all
  | dic o xs =>
    obtain ⟨a, vs, g, rfl, e2, nd, e3⟩ := h.dicAt
    refine .inr (.inr ⟨vs, e2, ?_⟩)
    have := e3.len
    simp only [D.tru, Option.some.injEq] at e
    rw [← e]
    cases xs <;> cases vs <;> simp_all
  | _ => simp [D.tru] at e
/-- an expression as a test -/
theorem st_of {e : E} {pe : Expr} (h : PE X pe (tE c e)) (hK : X.K = c.C.K) (he : ∀ whole, PySem.isTrue pe X.env whole = (do let v ← whole; PySem.standAt pe.pos; PySem.holding [v] (PySem.truthy v))) : PT X pe (tT c e) :=
  (L2.pt_truth h he).imp fun s H Q ⟨r, Z, F, i0, hs, h⟩ => by
    refine ⟨r, Z, F, i0, hs, ?_⟩
    cases hv : ev c.g e r with
    | bad => rw [hv] at h; exact h
    | exc n v r' => rw [hv] at h; exact h
    | ok d r' =>
      rw [hv] at h
      intro x H' ⟨Z', F', f, st, rs, hr, pp⟩
      simp only [WnT] at h
      cases ht : d.tru with
      | none => rw [ht] at h; exact h.elim
      | some b =>
        rw [ht] at h
        exact ⟨b, by rw [hK]; exact hr.tru ht, h H' Z' F' (st.sub (List.sublist_append_right _ _)) rs fun p => ⟨(pp p).1, (pp p).2.1, (pp p).2.2.nil⟩⟩
    | brw d r' =>
      rw [hv] at h
      intro x H' ⟨Z', F', f, st, rs, hr, hsub, pp⟩
      simp only [WnT] at h
      cases ht : d.tru with
      | none => rw [ht] at h; exact h.elim
      | some b =>
        rw [ht] at h
        exact ⟨b, by rw [hK]; exact hr.tru ht, h H' Z' F' st rs pp⟩
theorem st_not {a : E} {pa : Expr} {pos : Pos} (ha : PT X pa (tT c a)) : PT X (.UnaryOp .Not pa pos) (tT c (.not a)) :=
  (L2.pt_not ha).imp fun s H Q ⟨r, Z, F, i0, hs, h⟩ => by
    refine ⟨r, Z, F, i0, hs, ?_⟩
    simp only [ev] at h
    cases hv : ev c.g a r with
    | bad => rw [hv] at h; exact h
    | exc n v r' => rw [hv] at h; exact h
    | ok d r' =>
      rw [hv] at h
      simp only [RE.o, WnT] at h ⊢
      cases ht : d.tru with
      | none => rw [ht] at h; exact h.elim
      | some b => rw [ht] at h; exact fun H' Z' F' st rs pp => h H' Z' F' st rs pp
    | brw d r' =>
      rw [hv] at h
      simp only [RE.o, if_true, WnT] at h ⊢
      cases ht : d.tru with
      | none => rw [ht] at h; exact h.elim
      | some b => rw [ht] at h; exact fun H' Z' F' st rs pp => h H' Z' F' st rs pp
/-- what follows from a later state -/
theorem WnT.from {H H1 : Hp} {Z Z1 : Addr → Prop} {F F1 : List Addr} {s : L2.St} {r r1 : Sl} {pu pu1 : Bool} {Q : Bool → Hp → Prop} {res : RE} (st : Stp H Z F H1 Z1 F1) (pp : pu1 = true → r1 = r ∧ F1 = F ∧ Stp H Z [] H1 Z1 [])
    (h : WnT c H Z F s r (pu1 && pu) Q res) : WnT c H1 Z1 F1 s r1 pu Q res := by
  cases res with
  | bad => exact h
  | exc n v r' => exact fun A dd H' ⟨Z', F', w, s2, rest⟩ => h A dd H' ⟨Z', F', w, st.trans s2, rest⟩
  | ok d r' =>
    simp only [WnT] at h ⊢
    cases ht : d.tru with
    | none => rw [ht] at h; exact h
    | some b =>
      rw [ht] at h
      exact fun H' Z' F' s2 rs p2 => h H' Z' F' (st.trans s2) rs fun p => by
        simp only [Bool.and_eq_true] at p
        obtain ⟨a1, a2, a3⟩ := pp p.1
        obtain ⟨b1, b2, b3⟩ := p2 p.2
        exact ⟨b1.trans a1, b2.trans a2, a3.trans b3⟩
  | brw d r' =>
    simp only [WnT] at h ⊢
    cases ht : d.tru with
    | none => rw [ht] at h; exact h
    | some b =>
      rw [ht] at h
      exact fun H' Z' F' s2 rs p2 => h H' Z' F' (st.trans s2) rs fun p => by
        simp only [Bool.and_eq_true] at p
        obtain ⟨a1, a2, a3⟩ := pp p.1
        obtain ⟨b1, b2, b3⟩ := p2 p.2
        exact ⟨b1.trans a1, b2.trans a2, a3.trans b3⟩
theorem Wn.from {H H1 : Hp} {Z Z1 : Addr → Prop} {F F1 : List Addr} {s : L2.St} {r r1 : Sl} {pu pu1 : Bool} {Q : VK} {res : RE} (st : Stp H Z F H1 Z1 F1) (pp : pu1 = true → r1 = r ∧ F1 = F ∧ Stp H Z [] H1 Z1 [])
    (h : Wn c H Z F s r (pu1 && pu) Q res) : Wn c H1 Z1 F1 s r1 pu Q res := by
  cases res with
  | bad => exact h
  | exc n v r' => exact fun A dd H' ⟨Z', F', w, s2, rest⟩ => h A dd H' ⟨Z', F', w, st.trans s2, rest⟩
  | ok d r' =>
    exact fun x H' ⟨Z', F', f, s2, rs, hr, p2⟩ => h x H' ⟨Z', F', f, st.trans s2, rs, hr, fun p => by
        simp only [Bool.and_eq_true] at p
        obtain ⟨a1, a2, a3⟩ := pp p.1
        obtain ⟨b1, b2, b3⟩ := p2 p.2
        exact ⟨b1.trans a1, b2.trans a2, a3.trans b3⟩⟩
  | brw d r' =>
    exact fun x H' ⟨Z', F', f, s2, rs, hr, hsub, p2⟩ => h x H' ⟨Z', F', f, st.trans s2, rs, hr, hsub, fun p => by
        simp only [Bool.and_eq_true] at p
        obtain ⟨a1, a2, a3⟩ := pp p.1
        obtain ⟨b1, b2, b3⟩ := p2 p.2
        exact ⟨b1.trans a1, b2.trans a2, a3.trans b3⟩⟩
/-! ### and, or as tests -/
theorem sw_and {a b : E} {pa pb : Expr} {rest : List Expr} {pos : Pos} (ha : PT X pa (tT c a)) (hb : PW X (.BoolOp .And (pb :: rest) pos) (tT c b)) : PW X (.BoolOp .And (pa :: pb :: rest) pos) (tT c (.and a b)) :=
  (L2.pw_and ha hb).imp fun s H Q ⟨r, Z, F, i0, hs, h⟩ => by
    refine ⟨r, Z, F, i0, hs, ?_⟩
    simp only [ev] at h
    cases hv : ev c.g a r with
    | bad => rw [hv] at h; exact h
    | exc n v r' => rw [hv] at h; exact h
    | brw d r' => rw [hv] at h; exact h.elim
    | ok d r' =>
      rw [hv] at h
      cases d <;> try (simp only [RE.v] at h; exact h.elim)
      rename_i z
      cases z with
      | true => exact fun H' Z' F' st rs pp => ⟨r', Z', F', st.iv, rs, WnT.from st pp h⟩
      | false =>
        exact fun H' Z' F' st rs pp => h H' Z' F' st rs fun p => by
          simp only [pur, Bool.and_eq_true] at p
          exact pp p.1
theorem sw_or {a b : E} {pa pb : Expr} {rest : List Expr} {pos : Pos} (ha : PT X pa (tT c a)) (hb : PW X (.BoolOp .Or (pb :: rest) pos) (tT c b)) : PW X (.BoolOp .Or (pa :: pb :: rest) pos) (tT c (.or a b)) :=
  (L2.pw_or ha hb).imp fun s H Q ⟨r, Z, F, i0, hs, h⟩ => by
    refine ⟨r, Z, F, i0, hs, ?_⟩
    simp only [ev] at h
    cases hv : ev c.g a r with
    | bad => rw [hv] at h; exact h
    | exc n v r' => rw [hv] at h; exact h
    | brw d r' => rw [hv] at h; exact h.elim
    | ok d r' =>
      rw [hv] at h
      cases d <;> try (simp only [RE.v] at h; exact h.elim)
      rename_i z
      cases z with
      | false => exact fun H' Z' F' st rs pp => ⟨r', Z', F', st.iv, rs, WnT.from st pp h⟩
      | true =>
        exact fun H' Z' F' st rs pp => h H' Z' F' st rs fun p => by
          simp only [pur, Bool.and_eq_true] at p
          exact pp p.1
theorem sw_and1 {a : E} {pa : Expr} {pos : Pos} (ha : PT X pa (tT c a)) : PW X (.BoolOp .And [pa] pos) (tT c a) := L2.pw_and1 ha
theorem sw_or1 {a : E} {pa : Expr} {pos : Pos} (ha : PT X pa (tT c a)) : PW X (.BoolOp .Or [pa] pos) (tT c a) := L2.pw_or1 ha
/-! ### not, and, or, .. if .. else as values -/
theorem se_not {a : E} {pa : Expr} {pos : Pos} (ha : PE X pa (tE c a)) (hK : X.K = c.C.K) : PE X (.UnaryOp .Not pa pos) (tE c (.not a)) :=
  (L2.pe_notT ha).imp fun s H Q ⟨r, Z, F, i0, hs, h⟩ => by
    refine ⟨r, Z, F, i0, hs, ?_⟩
    simp only [ev] at h
    cases hv : ev c.g a r with
    | bad => rw [hv] at h; exact h
    | exc n v r' => rw [hv] at h; exact h
    | ok d r' =>
      rw [hv] at h
      intro x H' ⟨Z', F', f, st, rs, hr, pp⟩
      simp only [RE.o] at h
      cases ht : d.tru with
      | none => rw [ht] at h; exact h.elim
      | some b =>
        rw [ht] at h
        exact ⟨b, by rw [hK]; exact hr.tru ht, h _ H' ⟨Z', F', [], st.sub (List.sublist_append_right _ _), rs, ⟨rfl, rfl⟩, fun p => ⟨(pp p).1, (pp p).2.1, (pp p).2.2.nil⟩⟩⟩
    | brw d r' =>
      rw [hv] at h
      intro x H' ⟨Z', F', f, st, rs, hr, hsub, pp⟩
      simp only [RE.o, if_true] at h
      cases ht : d.tru with
      | none => rw [ht] at h; exact h.elim
      | some b =>
        rw [ht] at h
        exact ⟨b, by rw [hK]; exact hr.tru ht, h _ H' ⟨Z', F', [], st, rs, ⟨rfl, rfl⟩, pp⟩⟩
theorem se_and {a b : E} {pa pb : Expr} {rest : List Expr} {pos : Pos} (ha : PE X pa (tE c a)) (hb : PE X (.BoolOp .And (pb :: rest) pos) (tE c b)) : PE X (.BoolOp .And (pa :: pb :: rest) pos) (tE c (.and a b)) :=
  (L2.pe_and ha hb).imp fun s H Q ⟨r, Z, F, i0, hs, h⟩ => by
    refine ⟨r, Z, F, i0, hs, ?_⟩
    simp only [ev] at h
    cases hv : ev c.g a r with
    | bad => rw [hv] at h; exact h
    | exc n v r' => rw [hv] at h; exact h
    | brw d r' => rw [hv] at h; exact h.elim
    | ok d r' =>
      rw [hv] at h
      intro x H' ⟨Z', F', f, st, rs, hr, pp⟩
      cases d <;> try (simp only [RE.v] at h; exact h.elim)
      rename_i z
      obtain ⟨hx, hf⟩ := hr
      subst hf
      have pp' : pur a = true → r' = r ∧ F' = F ∧ Stp H Z [] H' Z' [] := pp
      cases z with
      | true => exact ⟨true, hx, by rw [if_pos rfl]; exact ⟨r', Z', F', st.iv, rs, Wn.from st pp' h⟩⟩
      | false =>
        exact ⟨false, hx, by rw [if_neg Bool.false_ne_true]; exact h _ H' ⟨Z', F', [], st, rs, ⟨rfl, rfl⟩, fun p => by
          simp only [pur, Bool.and_eq_true] at p
          exact pp' p.1⟩⟩
theorem se_or {a b : E} {pa pb : Expr} {rest : List Expr} {pos : Pos} (ha : PE X pa (tE c a)) (hb : PE X (.BoolOp .Or (pb :: rest) pos) (tE c b)) : PE X (.BoolOp .Or (pa :: pb :: rest) pos) (tE c (.or a b)) :=
  (L2.pe_or ha hb).imp fun s H Q ⟨r, Z, F, i0, hs, h⟩ => by
    refine ⟨r, Z, F, i0, hs, ?_⟩
    simp only [ev] at h
    cases hv : ev c.g a r with
    | bad => rw [hv] at h; exact h
    | exc n v r' => rw [hv] at h; exact h
    | brw d r' => rw [hv] at h; exact h.elim
    | ok d r' =>
      rw [hv] at h
      intro x H' ⟨Z', F', f, st, rs, hr, pp⟩
      cases d <;> try (simp only [RE.v] at h; exact h.elim)
      rename_i z
      obtain ⟨hx, hf⟩ := hr
      subst hf
      have pp' : pur a = true → r' = r ∧ F' = F ∧ Stp H Z [] H' Z' [] := pp
      cases z with
      | false => exact ⟨false, hx, by rw [if_neg Bool.false_ne_true]; exact ⟨r', Z', F', st.iv, rs, Wn.from st pp' h⟩⟩
      | true =>
        exact ⟨true, hx, by rw [if_pos rfl]; exact h _ H' ⟨Z', F', [], st, rs, ⟨rfl, rfl⟩, fun p => by
          simp only [pur, Bool.and_eq_true] at p
          exact pp' p.1⟩⟩
theorem se_ite {q a b : E} {pq pa pb : Expr} {pos : Pos} (hq : PT X pq (tT c q)) (ha : PE X pa (tE c a)) (hb : PE X pb (tE c b)) : PE X (.IfExp pq pa pb pos) (tE c (.ite q a b)) :=
  (L2.pe_ifExp hq ha hb).imp fun s H Q ⟨r, Z, F, i0, hs, h⟩ => by
    refine ⟨r, Z, F, i0, hs, ?_⟩
    simp only [ev] at h
    have split3 : ∀ {u v : Bool}, (pur q && u && v) = true ↔ (pur q = true ∧ u = true ∧ v = true) := fun {u v} => by simp [Bool.and_eq_true, and_assoc]
    have go : ∀ {d : D} {r' : Sl}, Wn c H Z F s r (pur (.ite q a b)) Q (match d.tru with
        | some true => ev c.g a r'
        | some false => ev c.g b r'
        | none => .bad) → match d.tru with
        | some bb => ∀ H' Z' F', Stp H Z F H' Z' F' → RSt c.C H' Z' c.xo 0 r' s F' → (pur q = true → r' = r ∧ F' = F ∧ Stp H Z [] H' Z' []) → (if bb = true then tE c a s H' Q else tE c b s H' Q)
        | none => False := fun {d r'} h => by
      cases ht : d.tru with
      | none => rw [ht] at h; exact h
      | some bb =>
        rw [ht] at h
        intro H' Z' F' st rs pp
        have weak : ∀ {e : E} {res : RE}, Wn c H Z F s r (pur (.ite q a b)) Q res → (pur (.ite q a b) = (pur q && pur a && pur b)) → Wn c H Z F s r (pur q && pur a && pur b) Q res := fun h e => e ▸ h
        cases bb with
        | true =>
          rw [if_pos rfl]
          refine ⟨r', Z', F', st.iv, rs, ?_⟩
          cases hv : ev c.g a r' with
          | bad => rw [hv] at h; exact h
          | exc n v r2 => rw [hv] at h; exact Wn.from (pu1 := pur q) (pu := pur a) st pp h
          | ok d r2 =>
            rw [hv] at h
            exact fun x H2 ⟨Z2, F2, f, s2, rs2, hr, p2⟩ => h x H2 ⟨Z2, F2, f, st.trans s2, rs2, hr, fun p => by
              obtain ⟨w1, w2, w3⟩ := split3.mp p
              obtain ⟨a1, a2, a3⟩ := pp w1
              obtain ⟨b1, b2, b3⟩ := p2 w2
              exact ⟨b1.trans a1, b2.trans a2, a3.trans b3⟩⟩
          | brw d r2 =>
            rw [hv] at h
            exact fun x H2 ⟨Z2, F2, f, s2, rs2, hr, hsub, p2⟩ => h x H2 ⟨Z2, F2, f, st.trans s2, rs2, hr, hsub, fun p => by
              obtain ⟨w1, w2, w3⟩ := split3.mp p
              obtain ⟨a1, a2, a3⟩ := pp w1
              obtain ⟨b1, b2, b3⟩ := p2 w2
              exact ⟨b1.trans a1, b2.trans a2, a3.trans b3⟩⟩
        | false =>
          rw [if_neg Bool.false_ne_true]
          refine ⟨r', Z', F', st.iv, rs, ?_⟩
          cases hv : ev c.g b r' with
          | bad => rw [hv] at h; exact h
          | exc n v r2 => rw [hv] at h; exact Wn.from (pu1 := pur q) (pu := pur b) st pp h
          | ok d r2 =>
            rw [hv] at h
            exact fun x H2 ⟨Z2, F2, f, s2, rs2, hr, p2⟩ => h x H2 ⟨Z2, F2, f, st.trans s2, rs2, hr, fun p => by
              obtain ⟨w1, w2, w3⟩ := split3.mp p
              obtain ⟨a1, a2, a3⟩ := pp w1
              obtain ⟨b1, b2, b3⟩ := p2 w3
              exact ⟨b1.trans a1, b2.trans a2, a3.trans b3⟩⟩
          | brw d r2 =>
            rw [hv] at h
            exact fun x H2 ⟨Z2, F2, f, s2, rs2, hr, hsub, p2⟩ => h x H2 ⟨Z2, F2, f, st.trans s2, rs2, hr, hsub, fun p => by
              obtain ⟨w1, w2, w3⟩ := split3.mp p
              obtain ⟨a1, a2, a3⟩ := pp w1
              obtain ⟨b1, b2, b3⟩ := p2 w3
              exact ⟨b1.trans a1, b2.trans a2, a3.trans b3⟩⟩
    cases hv : ev c.g q r with
    | bad => rw [hv] at h; exact h
    | exc n v r' => rw [hv] at h; exact h
    | ok d r' => rw [hv] at h; exact go h
    | brw d r' => rw [hv] at h; exact go h
end TW
end

section
/-! lists of expressions; displays; items, slices -/
namespace TW
open PySem (Str Addr Expr Pos Value Obj Shared model PyData Scope)
open L2 (V HO Hp Rd upd upd_same upd_ne TE TT TA TS VK Cx PE PT PW PA PS PSs PG PI OpR R2)
variable {c : Ct} {X : Cx} {k : Nat} {sc : Scope}
def PVs (c : Ct) (H : Hp) (Z : Addr → Prop) (F : List Addr) (s : L2.St) (r0 : Sl) (pu : Bool) (ds : List D) (r' : Sl) (vs : List V) (H' : Hp) : Prop :=
  ∃ Z' F' f, Stp H Z F H' Z' (f ++ F') ∧ RSt c.C H' Z' c.xo 0 r' s F' ∧ RL c.C H' Z' ds vs f ∧ (pu = true → r' = r0 ∧ F' = F ∧ Stp H Z [] H' Z' f)
def WnA (c : Ct) (H : Hp) (Z : Addr → Prop) (F : List Addr) (s : L2.St) (r : Sl) (pu : Bool) (Q : List V → Hp → Prop) (res : REs) : Prop := match res with
  | .ok ds r' => ∀ vs H', PVs c H Z F s r pu ds r' vs H' → Q vs H'
  | .exc n v r' => ∀ A dd H', PX c H Z F s n v r' A dd H' → c.W (.ref A) (some dd) s H'
  | .bad => False
def tEs (c : Ct) (es : Es) : TA := fun s H Q => ∃ r Z F, Iv H Z F ∧ RSt c.C H Z c.xo 0 r s F ∧ WnA c H Z F s r (purEs es) Q (evEs c.g es r)
theorem _root_.L2.PA.imp {X : Cx} {e : List Expr} {t t' : TA} (h : PA X e t) (i : ∀ s H Q, t' s H Q → t s H Q) : PA X e t' := ⟨fun p pins s σ H Q I q => h.run p pins s σ H Q I (i _ _ _ q)⟩
theorem sa_nil : PA X [] (tEs c .nil) := L2.pa_nil.imp fun s H Q ⟨r, Z, F, i0, hs, h⟩ => h [] H ⟨Z, F, [], Stp.refl i0, hs, ⟨rfl, rfl⟩, fun _ => ⟨rfl, rfl, Stp.refl i0.nil⟩⟩
/-- a value had beside, then others: all together -/
theorem Stp.two {H H1 H2 : Hp} {Z Z1 Z2 : Addr → Prop} {F F1 F2 f g : List Addr} (a : Stp H Z F H1 Z1 (f ++ F1)) (b : Stp H1 Z1 F1 H2 Z2 (g ++ F2)) : Stp H Z F H2 Z2 (f ++ g ++ F2) := by
  have := a.trans (b.frame a.iv)
  simpa using this
theorem R.after {H H1 H2 : Hp} {Z Z1 Z2 : Addr → Prop} {F F1 F2 f : List Addr} {d : D} {x : V} {C : C0} (a : Stp H Z F H1 Z1 (f ++ F1)) (b : Stp H1 Z1 F1 H2 Z2 F2) (hr : R C H1 Z1 d x f) : R C H2 Z2 d x f :=
  hr.mono (b.kp (a.iv.sub (List.sublist_append_right _ _)) fun y hy hz => (List.nodup_append.mp a.iv.nd).2.2 y hy y hz rfl)
theorem RL.after {H H1 H2 : Hp} {Z Z1 Z2 : Addr → Prop} {F F1 F2 f : List Addr} {d : List D} {x : List V} {C : C0} (a : Stp H Z F H1 Z1 (f ++ F1)) (b : Stp H1 Z1 F1 H2 Z2 F2) (hr : RL C H1 Z1 d x f) : RL C H2 Z2 d x f :=
  hr.mono (b.kp (a.iv.sub (List.sublist_append_right _ _)) fun y hy hz => (List.nodup_append.mp a.iv.nd).2.2 y hy y hz rfl)
theorem sa_cons {e : E} {es : Es} {pe : Expr} {pes : List Expr} (h1 : PE X pe (tE c e)) (h2 : PA X pes (tEs c es)) (hs : PySem.starEach (pe :: pes) X.env = (false, PySem.eval pe X.env) :: PySem.starEach pes X.env) : PA X (pe :: pes) (tEs c (.cons e es)) :=
  (L2.pa_cons h1 h2 hs).imp fun s H Q ⟨r, Z, F, i0, hs, h⟩ => by
    refine ⟨r, Z, F, i0, hs, ?_⟩
    simp only [evEs] at h
    cases hv : ev c.g e r with
    | bad => rw [hv] at h; exact h
    | exc n v r' => rw [hv] at h; exact h
    | brw d r' => rw [hv] at h; exact h.elim
    | ok d r1 =>
      rw [hv] at h
      intro x H1 ⟨Z1, F1, f1, st, rs, hr, pp⟩
      simp only at h
      refine ⟨r1, Z1, F1, st.iv.sub (List.sublist_append_right _ _), rs, ?_⟩
      have st0 : Stp H Z F H1 Z1 F1 := st.sub (List.sublist_append_right _ _)
      cases hw : evEs c.g es r1 with
      | bad => rw [hw] at h; exact h
      | exc n v r' =>
        rw [hw] at h
        exact fun A dd H' ⟨Z', F', w, s2, rest⟩ => h A dd H' ⟨Z', F', w, st0.trans s2, rest⟩
      | ok ds r2 =>
        rw [hw] at h
        intro vs H2 ⟨Z2, F2, f2, s2, rs2, hl, p2⟩
        refine h (x :: vs) H2 ⟨Z2, F2, f1 ++ f2, st.two s2, rs2, ⟨x, vs, f1, f2, rfl, hr.after st (s2.sub (List.sublist_append_right _ _)), hl, rfl⟩, fun p => ?_⟩
        simp only [purEs, Bool.and_eq_true] at p
        obtain ⟨a1, a2, a3⟩ := pp p.1
        obtain ⟨b1, b2, b3⟩ := p2 p.2
        refine ⟨b1.trans a1, b2.trans a2, ?_⟩
        have q3 : Stp H Z [] H1 Z1 (f1 ++ []) := by simpa using a3
        have q4 : Stp H1 Z1 [] H2 Z2 (f2 ++ []) := by simpa using b3
        have q5 := q3.two q4
        simpa using q5
/-- a new tuple, what it holds changes no more -/
theorem se_tup {es : Es} {pes : List Expr} {x1 : Nat} {pos : Pos} (h : PA X pes (tEs c es)) (hlen : pes.length ≤ 1000) (hl : ∀ {ds r r'}, evEs c.g es r = .ok ds r' → ds.length = pes.length) : PE X (.Tuple pes x1 pos) (tE c (.tup es)) :=
  (L2.pe_tup h).imp fun s H Q ⟨r, Z, F, i0, hs, h⟩ => by
    refine ⟨r, Z, F, i0, hs, ?_⟩
    simp only [ev] at h
    cases hv : evEs c.g es r with
    | bad => rw [hv] at h; exact h
    | exc n v r' => rw [hv] at h; exact h
    | ok ds r1 =>
      rw [hv] at h
      intro vs H1 ⟨Z1, F1, f1, st, rs, hr, pp⟩
      refine ⟨by rw [hr.len, hl hv, PySem.sizeLine_eq]; omega, fun p hp => ?_⟩
      -- first all is shared, then the tuple is laid
      have s1 : Stp H Z F H1 (Zf Z1 f1) F1 := st.trans (Stp.shared st.iv)
      have s2 : Stp H1 (Zf Z1 f1) F1 (upd H1 p (.tup vs)) (Zf (Zf Z1 f1) [p]) F1 := Stp.newZ s1.iv hp
      refine h _ _ ⟨_, F1, [], s1.trans s2, rs.mono ⟨fun a z => .inl (.inl z), fun a o _ e => by rw [upd_ne (L2.ne_of_none e hp)]; exact e⟩, ⟨rfl, p, vs, rfl, upd_same, .inr (by simp), hr.share.mono (kpN hp)⟩, fun q => ?_⟩
      obtain ⟨a1, a2, a3⟩ := pp q
      refine ⟨a1, a2, ?_⟩
      have b1 : Stp H Z [] H1 (Zf Z1 f1) [] := a3.trans (by simpa using Stp.shared (g := f1) (F := []) (by simpa using a3.iv))
      exact b1.trans (Stp.newZ b1.iv hp)
theorem se_lst {es : Es} {pes : List Expr} {pos : Pos} (h : PA X pes (tEs c es)) (hlen : pes.length ≤ 1000) (hl : ∀ {ds r r'}, evEs c.g es r = .ok ds r' → ds.length = pes.length) : PE X (.List pes pos) (tE c (.lst es)) :=
  (L2.pe_lst h).imp fun s H Q ⟨r, Z, F, i0, hs, h⟩ => by
    refine ⟨r, Z, F, i0, hs, ?_⟩
    simp only [ev] at h
    cases hv : evEs c.g es r with
    | bad => rw [hv] at h; exact h
    | exc n v r' => rw [hv] at h; exact h
    | ok ds r1 =>
      rw [hv] at h
      intro vs H1 ⟨Z1, F1, f1, st, rs, hr, pp⟩
      refine ⟨by rw [hr.len, hl hv, PySem.sizeLine_eq]; omega, fun p hp => ?_⟩
      have s2 : Stp H1 Z1 (f1 ++ F1) (upd H1 p (.lst vs)) Z1 (p :: (f1 ++ F1)) := Stp.new st.iv hp
      refine h _ _ ⟨_, F1, p :: f1, st.trans s2, rs.mono (kpN' hp), ⟨p, vs, f1, rfl, upd_same, hr.mono (kpN' hp), rfl⟩, fun q => ?_⟩
      obtain ⟨a1, a2, a3⟩ := pp q
      exact ⟨a1, a2, a3.trans (Stp.new a3.iv hp)⟩
/-- how many -/
def Es.n : Es → Nat
  | .nil => 0
  | .cons _ es => es.n + 1
theorem evEs_len {g : G} : ∀ {es : Es} {r r' : Sl} {ds : List D}, evEs g es r = .ok ds r' → ds.length = es.n
  | .nil, r, r', ds, h => by
    simp only [evEs, REs.ok.injEq] at h
    rw [← h.1]; rfl
  | .cons e es, r, r', ds, h => by
    simp only [evEs] at h
    cases hv : ev g e r with
    | ok d r1 =>
      rw [hv] at h
      simp only at h
      cases hw : evEs g es r1 with
      | ok ds2 r2 =>
        rw [hw] at h
        simp only [REs.cons, REs.ok.injEq] at h
        rw [← h.1, List.length_cons, evEs_len hw]; rfl
      | exc n v r2 => rw [hw] at h; cases h
      | bad => rw [hw] at h; cases h
    | _ => rw [hv] at h; cases h
/-! ### items of what is at hand, slices -/
def rIxAll (K : PySem.W.Frag) : R2 := fun x y H Q => L2.rIxL K x y H Q ∨ L2.rIxT K x y H Q
theorem RL.item {C : C0} {H : Hp} {Z : Addr → Prop} {ds : List D} {vs : List V} {f : List Addr} {j : Nat} {d : D} (h : RL C H Z ds vs f) (he : ds[j]? = some d) (no : d.own = false) : ∃ v, vs[j]? = some v ∧ R C H Z d v [] := by
  obtain ⟨v, p, g, q, a1, a2, a3, a4⟩ := h.at he
  have := a3.noown no
  subst this
  exact ⟨v, a1, a3⟩
theorem op2_ix : Op2 c.C (fun x y H Q => rIxAll c.C.K x y H Q ∨ (∃ a v, x = .ref a ∧ L2.DGet H a y (some v) ∧ Q v H)) fun a b => fixed (a.ix b) := by
  intro H Z d e dz x y f f' Q hz hx hy hk q
  replace hk : fixed (d.ix e) = some dz := hk
  have hk2 : d.ix e = some dz ∧ dz.own = false := by
    unfold fixed at hk
    split at hk
    · rename_i d0 he
      split at hk
      · cases hk
      · rename_i hn
        cases hk
        exact ⟨he, by simpa using hn⟩
    · cases hk
  clear hk
  obtain ⟨hk, no⟩ := hk2
  cases d with
  | lst o xs =>
    cases e <;> simp only [D.ix, reduceCtorEq] at hk
    rename_i n
    obtain ⟨a, vs, g, rfl, e2, e3⟩ := hx.lstAt
    cases hn : ixD xs.length n with
    | none => rw [hn] at hk; cases hk
    | some j =>
      rw [hn] at hk
      obtain ⟨v, hv, hr⟩ := e3.item hk no
      refine .inl (.inl ⟨a, vs, n, v, rfl, hy.1, .inl (.inl e2), ?_, q _ _ (res0 hz hr)⟩)
      unfold L2.atI
      rw [e3.len, show L2.ixN xs.length n = some j from hn]
      exact hv
  | tup xs =>
    cases e <;> simp only [D.ix, reduceCtorEq] at hk
    rename_i n
    obtain ⟨a, vs, rfl, e2, za, e3⟩ := hx.tupOf
    cases hn : ixD xs.length n with
    | none => rw [hn] at hk; cases hk
    | some j =>
      rw [hn] at hk
      obtain ⟨v, hv, hr⟩ := e3.item hk no
      refine .inl (.inr ⟨a, vs, n, v, rfl, hy.1, .inl (.inl e2), ?_, q _ _ (res0 hz hr)⟩)
      unfold L2.atI
      rw [e3.len, show L2.ixN xs.length n = some j from hn]
      exact hv
  | dic o kvs =>
    simp only [D.ix] at hk
    cases hkk : e.key with
    | none => rw [hkk] at hk; cases hk
    | some ky =>
      rw [hkk] at hk
      obtain ⟨a, vs, g, rfl, e2, nd, e3⟩ := hx.dicAt
      obtain ⟨v, p, g1, q1, hv, a2, hr, _⟩ := e3.look hk
      have := hr.noown no
      subst this
      have hyk := hy.key hkk
      subst hyk
      refine .inr ⟨a, v, rfl, ?_, q _ _ (res0 hz hr)⟩
      rw [← hv, ← valV_eq]
      exact L2.DGet.k e2
  | _ => simp [D.ix] at hk
theorem ix_dic (hu : X.A.units + 1 < PySem.cLine) : L2.IxR X (fun x y H Q => ∃ a v, x = .ref a ∧ L2.DGet H a y (some v) ∧ Q v H) := by
  intro value slice pins s σ H x y v u Q I rx ry h hs
  obtain ⟨a, w, rfl, g, q⟩ := h
  obtain rfl : v = Value.ref a := rx
  exact PyProof.Rows.tail_any (L2.dict_typeIs I g) PySem.F.slot_dict_getitem.lookup (L2.d_getItem hu I g ry fun w' s3 I3 rw' => ⟨w, H, I3, rw', q⟩) hs
theorem se_idx {a i : E} {pa pi : Expr} {pos : Pos} (xk : Xk c X k sc) (ha : PE X pa (tE c a)) (hi : PE X pi (tE c i)) (hs : L2.PlainIx pi) : PE X (.Subscript pa pi pos) (tE c (.idx a i)) := by
  have hu := xk.room.units
  have hr : L2.IxR X (fun x y H Q => rIxAll c.C.K x y H Q ∨ (∃ a v, x = .ref a ∧ L2.DGet H a y (some v) ∧ Q v H)) := by
    rw [← xk.K]
    exact (L2.ix_list.or L2.ix_tup).or (ix_dic (by omega))
  exact (L2.pe_ix hr ha hi hs).imp fun s H Q ⟨r, Z, F, i0, hs, h⟩ => tE.two op2_ix i0 hs h
end TW
end

section
/-! arguments, calls -/
namespace TW
open PySem (Str Addr Expr Pos Value Obj Shared model PyData Scope)
open L2 (V HO Hp Rd upd upd_same upd_ne TE TT TA TS VK XK Cx PE PT PW PA PS PSs PG PI OpR R2)
variable {c : Ct} {X : Cx} {k : Nat} {sc : Scope}
/-- arguments: values had beside, places -/
def AVs (C : C0) (H : Hp) (Z : Addr → Prop) (s : L2.St) : List AV → List V → List Addr → Prop
  | [], vs, f => vs = [] ∧ f = []
  | .v d :: as, vs, f => ∃ v vr f1 f2, vs = v :: vr ∧ R C H Z d v f1 ∧ AVs C H Z s as vr f2 ∧ f = f1 ++ f2
  | .l w :: as, vs, f => ∃ v vr, vs = v :: vr ∧ vgS H s w = some v ∧ AVs C H Z s as vr f
def WnL (c : Ct) (H : Hp) (Z : Addr → Prop) (F : List Addr) (s : L2.St) (r : Sl) (pu : Bool) (Q : List V → Hp → Prop) (res : RA) : Prop := match res with
  | .ok as r' => ∀ vs H', (∃ Z' F' f, Stp H Z F H' Z' (f ++ F') ∧ RSt c.C H' Z' c.xo 0 r' s F' ∧ AVs c.C H' Z' s as vs f ∧ (pu = true → r' = r ∧ F' = F ∧ Stp H Z [] H' Z' f)) → Q vs H'
  | .exc n v r' => ∀ A dd H', PX c H Z F s n v r' A dd H' → c.W (.ref A) (some dd) s H'
  | .bad => False
def tAs (c : Ct) (as : As) : TA := fun s H Q => ∃ r Z F, Iv H Z F ∧ RSt c.C H Z c.xo 0 r s F ∧ WnL c H Z F s r (purAs as) Q (evAs c.g as r)
theorem sl_nil : PA X [] (tAs c .nil) := L2.pa_nil.imp fun s H Q ⟨r, Z, F, i0, hs, h⟩ => h [] H ⟨Z, F, [], Stp.refl i0, hs, ⟨rfl, rfl⟩, fun _ => ⟨rfl, rfl, Stp.refl i0.nil⟩⟩
theorem tAs_v {e : E} {as : As} {s : L2.St} {H : Hp} {Q : List V → Hp → Prop} (h0 : tAs c (.v e as) s H Q) : L2.tCons (tE c e) (tAs c as) s H Q := by
    obtain ⟨r, Z, F, i0, hs, h⟩ := h0
    refine ⟨r, Z, F, i0, hs, ?_⟩
    simp only [evAs] at h
    cases hv : ev c.g e r with
    | bad => rw [hv] at h; exact h
    | exc n v r' => rw [hv] at h; exact h
    | brw d r' => rw [hv] at h; exact h.elim
    | ok d r1 =>
      rw [hv] at h
      intro x H1 ⟨Z1, F1, f1, st, rs, hr, pp⟩
      simp only at h
      refine ⟨r1, Z1, F1, st.iv.sub (List.sublist_append_right _ _), rs, ?_⟩
      have st0 : Stp H Z F H1 Z1 F1 := st.sub (List.sublist_append_right _ _)
      cases hw : evAs c.g as r1 with
      | bad => rw [hw] at h; exact h
      | exc n v r' =>
        rw [hw] at h
        exact fun A dd H' ⟨Z', F', w, s2, rest⟩ => h A dd H' ⟨Z', F', w, st0.trans s2, rest⟩
      | ok ds r2 =>
        rw [hw] at h
        intro vs H2 ⟨Z2, F2, f2, s2, rs2, hl, p2⟩
        refine h (x :: vs) H2 ⟨Z2, F2, f1 ++ f2, st.two s2, rs2, ⟨x, vs, f1, f2, rfl, hr.after st (s2.sub (List.sublist_append_right _ _)), hl, rfl⟩, fun p => ?_⟩
        simp only [purAs, Bool.and_eq_true] at p
        obtain ⟨a1, a2, a3⟩ := pp p.1
        obtain ⟨b1, b2, b3⟩ := p2 p.2
        refine ⟨b1.trans a1, b2.trans a2, ?_⟩
        have q3 : Stp H Z [] H1 Z1 (f1 ++ []) := by simpa using a3
        have q4 : Stp H1 Z1 [] H2 Z2 (f2 ++ []) := by simpa using b3
        have q5 := q3.two q4
        simpa using q5
theorem sl_v {e : E} {as : As} {pe : Expr} {pes : List Expr} (h1 : PE X pe (tE c e)) (h2 : PA X pes (tAs c as)) (hs : PySem.starEach (pe :: pes) X.env = (false, PySem.eval pe X.env) :: PySem.starEach pes X.env) : PA X (pe :: pes) (tAs c (.v e as)) :=
  (L2.pa_cons h1 h2 hs).imp fun s H Q h => tAs_v h
theorem vget_mono {H H' : Hp} (h : ∀ a o, H a = some o → H' a = some o) : ∀ {w : List Acc} {x y : V}, vget H x w = some y → vget H' x w = some y
  | [], x, y, e => e
  | .f n :: w, x, y, e => by
    cases x with
    | ref b =>
      simp only [vget] at e ⊢
      cases hH : H b with
      | none => simp only [hH] at e; cases e
      | some o =>
        simp only [hH] at e
        rw [h b o hH]
        cases o with
        | ins C dx fs =>
          simp only at e ⊢
          cases hz : fs.lookup n with
          | none => simp only [hz] at e; cases e
          | some z => simp only [hz] at e ⊢; exact vget_mono h e
        | _ => cases e
    | _ => simp [vget] at e
  | .i j :: w, x, y, e => by
    cases x with
    | ref b =>
      simp only [vget] at e ⊢
      cases hH : H b with
      | none => simp only [hH] at e; cases e
      | some o =>
        simp only [hH] at e
        rw [h b o hH]
        cases o with
        | lst vs =>
          simp only at e ⊢
          cases hz : vs[j]? with
          | none => simp only [hz] at e; cases e
          | some z => simp only [hz] at e ⊢; exact vget_mono h e
        | tup vs =>
          simp only at e ⊢
          cases hz : vs[j]? with
          | none => simp only [hz] at e; cases e
          | some z => simp only [hz] at e ⊢; exact vget_mono h e
        | dK vs =>
          simp only at e ⊢
          cases hz : vs[j]? with
          | none => simp only [hz] at e; cases e
          | some z => simp only [hz] at e ⊢; exact vget_mono h e
        | _ => cases e
    | _ => simp [vget] at e
theorem vgS_mono {H H' : Hp} {s : L2.St} {w : Pth} {x : V} (h : ∀ a o, H a = some o → H' a = some o) (e : vgS H s w = some x) : vgS H' s w = some x := by
  unfold vgS at e ⊢
  split at e
  · exact vget_mono h e
  · cases e
theorem tAs_l {p : P} {as : As} {s : L2.St} {H : Hp} {Q : List V → Hp → Prop} (h0 : tAs c (.l p as) s H Q) : L2.tCons (tP c p) (tAs c as) s H Q := by
    obtain ⟨r, Z, F, i0, hs, h⟩ := h0
    simp only [evAs] at h
    split at h
    · rename_i hcond
      cases hw : evP c.g p r with
      | none => rw [hw] at h; exact h.elim
      | some w =>
        rw [hw] at h
        simp only at h
        cases hg : getP r w with
        | none => rw [hg] at h; exact h.elim
        | some d =>
          rw [hg] at h
          simp only at h
          refine ⟨r, Z, F, w, d, i0, hs, hw, hg, fun x H1 Z1 st ⟨p1, g1, q1, hf⟩ => ?_⟩
          have st0 : Stp H Z F H1 Z1 F := by simpa using st.lift i0
          refine ⟨r, Z1, F, st0.iv, hs.mono st.kpAll, ?_⟩
          cases he : evAs c.g as r with
          | bad => rw [he] at h; exact h
          | exc n v r' =>
            rw [he] at h
            exact fun A dd H' ⟨Z', F', w, s2, rest⟩ => h A dd H' ⟨Z', F', w, st0.trans s2, rest⟩
          | ok ds r2 =>
            rw [he] at h
            intro vs H2 ⟨Z2, F2, f2, s2, rs2, hl, p2⟩
            refine h (x :: vs) H2 ⟨Z2, F2, f2, st0.trans s2, rs2, ⟨x, vs, rfl, ?_, hl⟩, fun pq => ?_⟩
            · have hv := hf.vg0
              rcases Bool.or_eq_true_iff.mp hcond with hb | hb
              · cases p with
                | var i =>
                  have : w = ⟨i, []⟩ := by simpa [evP] using hw.symm
                  subst this
                  unfold vgS at hv ⊢
                  exact hv
                | _ => cases hb
              · exact vgS_mono (fun a o e => (p2 hb).2.2.keep a o e (by simp)) hv
            · obtain ⟨b1, b2, b3⟩ := p2 pq
              exact ⟨b1, b2, st.trans b3⟩
    · exact h.elim
theorem sl_l {p : P} {as : As} {pe : Expr} {pes : List Expr} (h1 : PE X pe (tP c p)) (h2 : PA X pes (tAs c as)) (hs : PySem.starEach (pe :: pes) X.env = (false, PySem.eval pe X.env) :: PySem.starEach pes X.env) : PA X (pe :: pes) (tAs c (.l p as)) :=
  (L2.pa_cons h1 h2 hs).imp fun s H Q h => tAs_l h
/-! ### lending and giving back -/
theorem lend_ok {C : C0} {H : Hp} {xo : Option Xo} {s : L2.St} : ∀ {as : List AV} {Z : Addr → Prop} {vs : List V} {f F : List Addr} {r r1 : Sl} {ds : List D}, RSt C H Z xo 0 r s F → AVs C H Z s as vs f → lend as r = some (ds, r1) →
    ∃ g F1, RL C H (Zf Z f) ds vs g ∧ RSt C H (Zf Z f) xo 0 r1 s F1 ∧ (g ++ F1).Perm F
  | [], Z, vs, f, F, r, r1, ds, hs, ha, h => by
    simp only [lend, Option.some.injEq, Prod.mk.injEq] at h
    obtain ⟨h1, h2⟩ := h
    subst h1 h2
    exact ⟨[], F, ⟨ha.1, rfl⟩, hs.mono (kp_zf), List.Perm.refl _⟩
  | .v d :: as, Z, vs, f, F, r, r1, ds, hs, ha, h => by
    obtain ⟨v, vr, f1, f2, rfl, hr, ha2, rfl⟩ := ha
    simp only [lend] at h
    cases hl : lend as r with
    | none => rw [hl] at h; cases h
    | some x =>
      obtain ⟨ds2, r2⟩ := x
      rw [hl] at h
      simp only [Option.map_some, Option.some.injEq, Prod.mk.injEq] at h
      obtain ⟨h1, h2⟩ := h
      subst h1 h2
      obtain ⟨g, F1, a1, a2, a3⟩ := lend_ok hs ha2 hl
      have up : ∀ {g : List Addr}, Kp H H (Zf Z f2) (Zf Z (f1 ++ f2)) g := kp_zs fun a z => List.mem_append_right _ z
      exact ⟨g, F1, ⟨v, vr, [], g, rfl, hr.share.mono (kp_zs fun a z => List.mem_append_left _ z), a1.mono up, rfl⟩, a2.mono up, a3⟩
  | .l w :: as, Z, vs, f, F, r, r1, ds, hs, ha, h => by
    obtain ⟨v, vr, rfl, hv, ha2⟩ := ha
    simp only [lend] at h
    cases hg : getP r w with
    | none => rw [hg] at h; cases h
    | some d =>
      rw [hg] at h
      simp only at h
      obtain ⟨p, g1, q, hf⟩ := hs.focAt hg hv
      split at h
      · cases hp : setP r w .hole with
        | none => rw [hp] at h; cases h
        | some r2 =>
          rw [hp] at h
          simp only at h
          cases hl : lend as r2 with
          | none => rw [hl] at h; cases h
          | some x =>
            obtain ⟨ds2, r3⟩ := x
            rw [hl] at h
            simp only [Option.map_some, Option.some.injEq, Prod.mk.injEq] at h
            obtain ⟨h1, h2⟩ := h
            subst h1 h2
            have hs2 := hf.put H Z ⟨fun _ z => z, fun _ _ _ e => e⟩ .hole [] rfl r2 hp
            obtain ⟨g, F1, a1, a2, a3⟩ := lend_ok hs2 ha2 hl
            refine ⟨g1 ++ g, F1, ⟨v, vr, g1, g, rfl, hf.at_.mono kp_zf, a1, rfl⟩, a2, ?_⟩
            rw [hf.eq, List.append_assoc]
            refine (List.Perm.append_left g1 a3).trans ?_
            simp only [List.append_nil]
            rw [← List.append_assoc]
            exact List.Perm.append_right q List.perm_append_comm
      · rename_i hno
        cases hl : lend as r with
        | none => rw [hl] at h; cases h
        | some x =>
          obtain ⟨ds2, r3⟩ := x
          rw [hl] at h
          simp only [Option.map_some, Option.some.injEq, Prod.mk.injEq] at h
          obtain ⟨h1, h2⟩ := h
          subst h1 h2
          obtain ⟨g, F1, a1, a2, a3⟩ := lend_ok hs ha2 hl
          have hr := hf.at_
          have e := hr.noown (by simpa using hno)
          subst e
          exact ⟨g, F1, ⟨v, vr, [], g, rfl, hr.mono kp_zf, a1, rfl⟩, a2, a3⟩
/-- the places of what was lent -/
def LV (H : Hp) (s : L2.St) : List AV → List V → Prop
  | [], _ => True
  | .v _ :: as, vs => LV H s as vs.tail
  | .l w :: as, vs => (∃ v vr, vs = v :: vr ∧ vgS H s w = some v) ∧ LV H s as vs.tail
theorem LV.of {C : C0} {H H' : Hp} {Z Z' Z1 : Addr → Prop} {xo : Option Xo} {s : L2.St} {r : Sl} {F : List Addr} (hs : RSt C H Z1 xo 0 r s F) (k : Kp H H' Z1 Z' F) : ∀ {as : List AV} {vs : List V} {f : List Addr}, AVs C H Z s as vs f → lentOk as r = true → LV H' s as vs
  | [], _, _, _, _ => trivial
  | .v d :: as, vs, f, ha, hl => by
    obtain ⟨v, vr, f1, f2, rfl, hr, ha2, rfl⟩ := ha
    show LV H' s as vr
    exact LV.of (as := as) hs k ha2 hl
  | .l w :: as, vs, f, ha, hl => by
    obtain ⟨v, vr, rfl, hv, ha2⟩ := ha
    simp only [lentOk, Bool.and_eq_true] at hl
    obtain ⟨d, hd⟩ := Option.isSome_iff_exists.mp hl.1
    obtain ⟨p, g, q, hf⟩ := hs.focAt hd hv
    refine ⟨⟨v, vr, rfl, hf.vg H' Z' (k.sub fun a ha => ?_)⟩, LV.of (as := as) hs k ha2 hl.2⟩
    rw [hf.eq]
    simp only [List.mem_append] at ha ⊢
    rcases ha with z | z <;> simp [z]
theorem giveBack_ok {C : C0} {H : Hp} {Z : Addr → Prop} {xo : Option Xo} {s : L2.St} : ∀ {as : List AV} {vs : List V} {ds : List D} {g F : List Addr} {r r1 : Sl}, RSt C H Z xo 0 r s F → LV H s as vs → RL C H Z ds vs g → Iv H Z (g ++ F) → giveBack as ds r = some r1 →
    ∃ F1, RSt C H Z xo 0 r1 s F1 ∧ Iv H Z F1 ∧ ∀ a ∈ F1, a ∈ g ++ F
  | [], vs, [], g, F, r, r1, hs, hl, hr, i, h => by
    have : r = r1 := by simpa [giveBack] using h
    subst this
    exact ⟨F, hs, i.sub (List.sublist_append_right _ _), fun a z => List.mem_append_right _ z⟩
  | [], vs, _ :: _, g, F, r, r1, hs, hl, hr, i, h => by simp [giveBack] at h
  | .v _ :: as, vs, [], g, F, r, r1, hs, hl, hr, i, h => by simp [giveBack] at h
  | .l _ :: as, vs, [], g, F, r, r1, hs, hl, hr, i, h => by simp [giveBack] at h
  | .v d0 :: as, vs, d :: ds, g, F, r, r1, hs, hl, hr, i, h => by
    obtain ⟨v, vr, g1, g2, rfl, hr1, hr2, rfl⟩ := hr
    have hl' : LV H s as vr := hl
    obtain ⟨F1, a1, a2, a3⟩ := giveBack_ok (as := as) (vs := vr) (ds := ds) hs hl' hr2 (i.sub (by rw [List.append_assoc]; exact List.sublist_append_right _ _)) h
    exact ⟨F1, a1, a2, fun a z => by have := a3 a z; simp only [List.mem_append] at this ⊢; rcases this with q | q <;> simp [q]⟩
  | .l w :: as, vs, d :: ds, g, F, r, r1, hs, hl, hr, i, h => by
    obtain ⟨v, vr, g1, g2, rfl, hr1, hr2, rfl⟩ := hr
    obtain ⟨⟨v', vr', ev, hv⟩, hl2⟩ := hl
    injection ev with e1 e2
    subst e1 e2
    simp only [giveBack] at h
    have skip : giveBack as ds r = some r1 → ∃ F1, RSt C H Z xo 0 r1 s F1 ∧ Iv H Z F1 ∧ ∀ a ∈ F1, a ∈ (g1 ++ g2) ++ F := fun h => by
      obtain ⟨F1, a1, a2, a3⟩ := giveBack_ok (as := as) (vs := vr) (ds := ds) hs hl2 hr2 (i.sub (by rw [List.append_assoc]; exact List.sublist_append_right _ _)) h
      exact ⟨F1, a1, a2, fun a z => by have := a3 a z; simp only [List.mem_append] at this ⊢; rcases this with q | q <;> simp [q]⟩
    cases hg : getP r w with
    | none => rw [hg] at h; cases h
    | some e =>
      rw [hg] at h
      cases e with
      | hole =>
        simp only at h
        cases hp : setP r w d with
        | none => rw [hp] at h; cases h
        | some r2 =>
          rw [hp] at h
          simp only at h
          obtain ⟨p, g0, q, hf⟩ := hs.focAt hg hv
          have eg : g0 = [] := hf.at_
          subst eg
          have hs2 := hf.put H Z ⟨fun _ z => z, fun _ _ _ e => e⟩ d g1 hr1 r2 hp
          have pm : ((g1 ++ g2) ++ F).Perm (g2 ++ (p ++ g1 ++ q)) := by
            rw [hf.eq]
            simp only [List.append_nil, List.append_assoc]
            rw [← List.append_assoc, ← List.append_assoc g2]
            refine (List.Perm.append_right (p ++ q) List.perm_append_comm).trans ?_
            simp only [List.append_assoc]
            refine List.Perm.append_left g2 ?_
            rw [← List.append_assoc, ← List.append_assoc]
            exact List.Perm.append_right q List.perm_append_comm
          obtain ⟨F1, a1, a2, a3⟩ := giveBack_ok (as := as) (vs := vr) (ds := ds) hs2 hl2 hr2 (i.perm pm) h
          exact ⟨F1, a1, a2, fun a z => pm.mem_iff.mpr (a3 a z)⟩
      | _ => exact skip h
/-! ### a def's promise -/
def SpF (C : C0) (fld : Str → Str) (cr : List D → CR) : L2.Sp := fun vs H Q E => ∃ ds Z F, Iv H Z F ∧ RL C H Z ds vs F ∧ match cr ds with
  | .ok d ds' => ∀ x H' Z' F' f, Stp H Z F H' Z' (f ++ F') → RL C H' Z' ds' vs F' → R C H' Z' d x f → Q x H'
  | .exc n v ds' => ∀ A dd H' Z' F' w, C.ecl n = some A → Stp H Z F H' Z' F' → RL C H' Z' ds' vs F' → H' dd = some (.xd [(fld n, w)]) → Z' dd → R C H' Z' v w [] → E (.ref A) (some dd) H'
  | .bad => False
/-- the promise, from what is handed over, gives what is wanted -/
theorem doCall_ok {H H1 : Hp} {Z Z1 : Addr → Prop} {F F1 f : List Addr} {s : L2.St} {r r1 : Sl} {as : List AV} {vs : List V} {n : Str} {Q : VK} (st : Stp H Z F H1 Z1 (f ++ F1)) (rs : RSt c.C H1 Z1 c.xo 0 r1 s F1) (ha : AVs c.C H1 Z1 s as vs f)
    (h : Wn c H Z F s r false Q (doCall c.g n as r1)) : SpF c.C c.g.fld (c.g.call n) vs H1 Q (fun A d H => c.W A d s H) := by
  unfold doCall at h
  cases hl : lend as r1 with
  | none => rw [hl] at h; exact h.elim
  | some x =>
    obtain ⟨ds, r2⟩ := x
    rw [hl] at h
    simp only at h
    split at h
    · rename_i hlo
      obtain ⟨g, F2, hds, hs2, pm⟩ := lend_ok rs ha hl
      have s1 : Stp H Z F H1 (Zf Z1 f) F1 := st.trans (Stp.shared st.iv)
      have i2 : Iv H1 (Zf Z1 f) (g ++ F2) := s1.iv.perm pm.symm
      have s2 : Stp H Z F H1 (Zf Z1 f) (F2 ++ g) := s1.perm (pm.symm.trans List.perm_append_comm)
      refine ⟨ds, Zf Z1 f, g, i2.sub (List.sublist_append_left _ _), hds, ?_⟩
      have after : ∀ {H' : Hp} {Z' : Addr → Prop} {G : List Addr}, Stp H1 (Zf Z1 f) g H' Z' G → Stp H Z F H' Z' (F2 ++ G) ∧ RSt c.C H' Z' c.xo 0 r2 s F2 ∧ LV H' s as vs := fun {H' Z' G} s3 => by
        have kp : Kp H1 H' (Zf Z1 f) Z' F2 := s3.kp (i2.sub (List.sublist_append_left _ _)) fun a ha hb => (List.nodup_append.mp i2.nd).2.2 a hb a ha rfl
        refine ⟨s2.trans (s3.frame s2.iv), hs2.mono kp, ?_⟩
        exact LV.of hs2 kp ha hlo
      cases hc : c.g.call n ds with
      | bad => rw [hc] at h; exact h
      | ok d ds' =>
        rw [hc] at h
        simp only at h
        cases hb : giveBack as ds' r2 with
        | none => rw [hb] at h; exact h.elim
        | some r3 =>
          rw [hb] at h
          intro x H' Z' F' fr s3 hds' hr
          obtain ⟨t1, t2, t3⟩ := after s3
          have t4 : Stp H Z F H' Z' (fr ++ (F' ++ F2)) := by
            exact t1.perm (List.perm_append_comm.trans (by rw [List.append_assoc]))
          obtain ⟨F3, a1, a2, a3⟩ := giveBack_ok t2 t3 hds' (t4.iv.sub (List.sublist_append_right _ _)) hb
          refine h x H' ⟨Z', F3, fr, t4.out ⟨?_, fun a z => ?_, fun a z => ?_, a2.zh⟩ fun a z => ?_, a1, hr, fun p => by cases p⟩
          · rw [List.nodup_append]
            have nd := List.nodup_append.mp t4.iv.nd
            exact ⟨nd.1, a2.nd, fun a ha b hb => nd.2.2 a ha b (a3 b hb)⟩
          · rcases List.mem_append.mp z with z | z
            · exact t4.iv.nz a (List.mem_append_left _ z)
            · exact a2.nz a z
          · rcases List.mem_append.mp z with z | z
            · exact t4.iv.th a (List.mem_append_left _ z)
            · exact a2.th a z
          · rcases List.mem_append.mp z with z | z
            · exact List.mem_append_left _ z
            · exact List.mem_append_right _ (a3 a z)
      | exc e v ds' =>
        rw [hc] at h
        simp only at h
        cases hb : giveBack as ds' r2 with
        | none => rw [hb] at h; exact h.elim
        | some r3 =>
          rw [hb] at h
          intro A dd H' Z' F' w hA s3 hds' hdd hz hr
          obtain ⟨t1, t2, t3⟩ := after s3
          have t4 : Stp H Z F H' Z' (F' ++ F2) := t1.perm List.perm_append_comm
          obtain ⟨F3, a1, a2, a3⟩ := giveBack_ok t2 t3 hds' t4.iv hb
          exact h A dd H' ⟨Z', F3, w, t4.out a2 a3, a1, hA, hdd, hz, hr⟩
    · exact h.elim
/-- a def of the module, as the text leaves it -/
structure Dk (c : Ct) (X : Cx) (k : Nat) (f : Str) (ps : List Str) : Prop where
  ok : ∃ fa fd, X.mg f = some (.ref fa) ∧ PySem.W.keepIn X.K (.ref fa) = true ∧ L2.Binds X.K fd ps [] ∧ FnG X.prog X.w X.K X.mg X.base k fa fd ps (SpF c.C c.g.fld (c.g.call f))
theorem se_call {f : Str} {as : As} {ps : List Str} {pe : Expr} {pes : List Expr} {p pos : Pos} (xk : Xk c X k sc) (ch : c.hot = false) (dk : Dk c X k f ps) (hg : L2.Gl X f) (ha : PA X (pe :: pes) (tAs c as)) (hdb : (f == ("__debug__" : Str)) = false)
    (he : PySem.starEach (pe :: pes) X.env = (false, PySem.eval pe X.env) :: PySem.starEach pes X.env) (hpl : (PySem.backTo pos (PySem.starEach pes X.env)).any (·.1) = false) : PE X (.Call (.Name f p) (pe :: pes) [] pos) (tE c (.call f as)) := by
  obtain ⟨fa, fd, h1, h2, h3, h4⟩ := dk.ok
  refine (pe_callG h4 ⟨xk.rm ch, xk.gd⟩ hg h1 h2 h3 xk.pass ha hdb he hpl).imp fun s H Q ⟨r, Z, F, i0, hs, h⟩ => ⟨r, Z, F, i0, hs, ?_⟩
  simp only [ev] at h
  cases hv : evAs c.g as r with
  | bad => rw [hv] at h; exact h
  | exc n v r' => rw [hv] at h; exact h
  | ok vs r1 =>
    rw [hv] at h
    intro ws H1 ⟨Z1, F1, f1, st, rs, hav, pp⟩
    show SpF c.C c.g.fld (c.g.call f) (ws ++ []) H1 Q _
    rw [List.append_nil]
    exact doCall_ok st rs hav h
end TW
end

section
set_option maxRecDepth 100000
set_option maxHeartbeats 4000000
/-! further rules of the machine: sum, max, min, index of tuples -/
namespace TWR
open PySem PySem.Spec PyProof.Rows L2
section
variable {prog : Program} {w : World} {A : Around} {E : Value → Shared → Prop} {s : Shared} {l : Addr} {xs : Array (Int × Tok)}
theorem iter_intTup {Q : Value → Shared → Prop} (hl : s.heap.IsTuple l (intItems xs))
    (h : ∀ s₂ : Shared, s₂ = { s with heap := s.heap.push { cls := .type "tuple_iterator", data := .fields #[.ref l, .int 0 0] } } →
      (s₂.heap.IsTupleIter s.heap.objs.size l 0 ∧ s₂.heap.IsTuple l (intItems xs)) → (∀ b ∈ [s.heap.objs.size, l], b < s₂.heap.objs.size) → l ≠ s.heap.objs.size → Q (.ref s.heap.objs.size) s₂) :
    wpAny (model prog w) A (pyIter (.ref l)) Q E s := by
  have hlt : l < s.heap.objs.size := by obtain ⟨_, e, _⟩ := hl; exact Heap.lt_size e
  refine wpAny_pyIter_tuple hl (h _ rfl ⟨⟨_, Heap.get?_push_size _ rfl, rfl, rfl⟩, ?_⟩ (fun b hb => ?_) (Nat.ne_of_lt hlt))
  · obtain ⟨o, e, c, k, d⟩ := hl
    exact ⟨o, Heap.get?_push_of_some _ e, c, k, d⟩
  · show b < (s.heap.push _).objs.size
    rw [Heap.size_push]
    rcases List.mem_cons.mp hb with rfl | hb
    · exact Nat.lt_succ_self _
    · rcases List.mem_cons.mp hb with rfl | hb
      · exact Nat.lt_succ_of_lt hlt
      · cases hb
theorem old_keptT {h' : Heap} (hk : ∀ b o, b ∉ [s.heap.objs.size] → (s.heap.push { cls := .type "tuple_iterator", data := .fields #[.ref l, .int 0 0] }).get? b = some o → h'.get? b = some o) :
    ∀ b o, s.heap.get? b = some o → h'.get? b = some o := fun b o e => by
  refine hk b o (fun hm => ?_) (Heap.get?_push_of_some _ e)
  rcases List.mem_cons.mp hm with e1 | hm
  · exact absurd (e1 ▸ Heap.lt_size e) (Nat.lt_irrefl _)
  · cases hm
theorem max_intTup {Q : Value → Shared → Prop} (hh : A.handled = none) (hl : s.heap.IsTuple l (intItems xs)) (hne : 0 < xs.size)
    (h : ∀ v h' tk, (intItems xs)[argBest (fun i j => decide (numAt xs i > numAt xs j)) (xs.size - 1)]? = some v → (∀ b o, s.heap.get? b = some o → h'.get? b = some o) → Q v { s with heap := h', toks := tk }) :
    wpAny (model prog w) A (call (.builtin "max") [.ref l]) Q E s := by
  refine call_max_walk (iter_intTup hl fun s₂ e st hfp hlI => ?_)
  subst e
  refine ⟨_, _, _, _, _, _, _, rfl, Walks.tuple (A := A.in1) hh _ l hlI (intItems xs), st, hfp, by simpa [intItems] using hne, CmpOf.ints_gt (numAt xs) (fun _ _ => intItems_at), fun v h' tk hP hk => ?_⟩
  exact h v h' tk (by simpa [intItems] using hP) (old_keptT hk)
theorem min_intTup {Q : Value → Shared → Prop} (hh : A.handled = none) (hl : s.heap.IsTuple l (intItems xs)) (hne : 0 < xs.size)
    (h : ∀ v h' tk, (intItems xs)[argBest (fun i j => decide (numAt xs i < numAt xs j)) (xs.size - 1)]? = some v → (∀ b o, s.heap.get? b = some o → h'.get? b = some o) → Q v { s with heap := h', toks := tk }) :
    wpAny (model prog w) A (call (.builtin "min") [.ref l]) Q E s := by
  refine call_min_walk (iter_intTup hl fun s₂ e st hfp hlI => ?_)
  subst e
  refine ⟨_, _, _, _, _, _, _, rfl, Walks.tuple (A := A.in1) hh _ l hlI (intItems xs), st, hfp, by simpa [intItems] using hne, CmpOf.ints_lt (numAt xs) (fun _ _ => intItems_at), fun v h' tk hP hk => ?_⟩
  exact h v h' tk (by simpa [intItems] using hP) (old_keptT hk)
theorem sum_intTup {Q : Value → Shared → Prop} (hh : A.handled = none) (hl : s.heap.IsTuple l (intItems xs))
    (h : ∀ h' tk t', (∀ b o, s.heap.get? b = some o → h'.get? b = some o) → Q (.int (preSum (numAt xs) xs.size) t') { s with heap := h', toks := tk }) :
    wpAny (model prog w) A (call (.builtin "sum") [.ref l]) Q E s := by
  refine call_sum_walkG (iter_intTup hl fun s₂ e st hfp hlI => ?_)
  subst e
  refine ⟨_, _, _, _, _, _, numAt xs, rfl, Walks.tuple (A := A.in1) hh _ l hlI (intItems xs), st, hfp, (fun _ _ => intItems_at), fun h' tk t' hk => ?_⟩
  have := h h' tk t' (old_keptT hk)
  simpa [intItems] using this
end
section
variable {prog : Program} {w : World} {A : Around} {E : Value → Shared → Prop} {s : Shared} {l : Addr} {its : List Value} {ns : List Int} {Q : Value → Shared → Prop}
theorem sumT_raw (hh : A.handled = none) (hl : s.heap.IsTuple l its.toArray) (hi : IntsAre its ns)
    (h : ∀ h' tk t', (∀ b o, s.heap.get? b = some o → h'.get? b = some o) → Q (.int ns.sum t') { s with heap := h', toks := tk }) : wpAny (model prog w) A (call (.builtin "sum") [.ref l]) Q E s := by
  obtain ⟨xs, e⟩ := hi.allInts.items
  have hn : numsOf (intItems xs).toList = ns := by rw [← e]; exact hi.numsOf
  rw [nums_intItems] at hn
  rw [e] at hl
  refine sum_intTup hh hl fun h' tk t' hk => ?_
  have := h h' tk t' hk
  rw [preSum_eq, List.take_of_length_le (by simp), hn]; exact this
theorem maxT_raw (hh : A.handled = none) (hl : s.heap.IsTuple l its.toArray) (hi : IntsAre its ns) (hne : 0 < ns.length)
    (h : ∀ h' tk M t', (∀ b o, s.heap.get? b = some o → h'.get? b = some o) → M ∈ ns → (∀ a, a ∈ ns → a ≤ M) → Q (.int M t') { s with heap := h', toks := tk }) : wpAny (model prog w) A (call (.builtin "max") [.ref l]) Q E s := by
  obtain ⟨xs, e⟩ := hi.allInts.items
  have hn : numsOf (intItems xs).toList = ns := by rw [← e]; exact hi.numsOf
  rw [nums_intItems] at hn
  subst hn
  rw [e] at hl
  have hsz : 0 < xs.size := by simpa using hne
  refine max_intTup hh hl hsz fun v h' tk hv hk => ?_
  obtain ⟨t, rfl⟩ := intItems_at hv
  obtain ⟨h1, h2⟩ := argBest_gt (numAt xs) (xs.size - 1)
  refine h h' tk _ t hk ?_ fun a ha => ?_
  · rw [numAt_eq]; exact PySem.getD_mem (by rw [List.length_map, Array.length_toList]; omega)
  · obtain ⟨j, hj, rfl⟩ := mem_getD ha
    rw [List.length_map, Array.length_toList] at hj
    rw [← numAt_eq]; exact h2 j (by omega)
theorem minT_raw (hh : A.handled = none) (hl : s.heap.IsTuple l its.toArray) (hi : IntsAre its ns) (hne : 0 < ns.length)
    (h : ∀ h' tk M t', (∀ b o, s.heap.get? b = some o → h'.get? b = some o) → M ∈ ns → (∀ a, a ∈ ns → M ≤ a) → Q (.int M t') { s with heap := h', toks := tk }) : wpAny (model prog w) A (call (.builtin "min") [.ref l]) Q E s := by
  obtain ⟨xs, e⟩ := hi.allInts.items
  have hn : numsOf (intItems xs).toList = ns := by rw [← e]; exact hi.numsOf
  rw [nums_intItems] at hn
  subst hn
  rw [e] at hl
  have hsz : 0 < xs.size := by simpa using hne
  refine min_intTup hh hl hsz fun v h' tk hv hk => ?_
  obtain ⟨t, rfl⟩ := intItems_at hv
  obtain ⟨h1, h2⟩ := argBest_lt (numAt xs) (xs.size - 1)
  refine h h' tk _ t hk ?_ fun a ha => ?_
  · rw [numAt_eq]; exact PySem.getD_mem (by rw [List.length_map, Array.length_toList]; omega)
  · obtain ⟨j, hj, rfl⟩ := mem_getD ha
    rw [List.length_map, Array.length_toList] at hj
    rw [← numAt_eq]; exact h2 j (by omega)
end
section
variable {X : Cx}
def rSumT (K : PySem.W.Frag) : List V → Hp → VK → Prop := fun vs H Q => ∃ (a : Addr) (ns : List Int), vs = [V.ref a] ∧ SqT K H a (ns.map V.int) ∧ Q (.int ns.sum) H
def rMaxT (K : PySem.W.Frag) : List V → Hp → VK → Prop := fun vs H Q => ∃ (a : Addr) (ns : List Int), vs = [V.ref a] ∧ SqT K H a (ns.map V.int) ∧ 0 < ns.length ∧ ∀ m, m ∈ ns → (∀ y, y ∈ ns → y ≤ m) → Q (.int m) H
def rMinT (K : PySem.W.Frag) : List V → Hp → VK → Prop := fun vs H Q => ∃ (a : Addr) (ns : List Int), vs = [V.ref a] ∧ SqT K H a (ns.map V.int) ∧ 0 < ns.length ∧ ∀ m, m ∈ ns → (∀ y, y ∈ ns → m ≤ y) → Q (.int m) H
theorem cr_sumT (hc : X.calm = true) : CallR X (.builtin "sum") (rSumT X.K) := by
  intro pins s σ H vs us Q I r h
  obtain ⟨a, ns, rfl, hs, q⟩ := h
  obtain ⟨its, rv, hl, _⟩ := I.tuple hs
  rw [Vals.ref1 r]
  exact sumT_raw (I.ok.hd hc) (show s.heap.IsTuple a its.toArray from hl) rv.ints fun h' tk t' hk => ⟨.int _, H, I.kept hk, ⟨_, rfl⟩, q⟩
theorem cr_maxT (hc : X.calm = true) : CallR X (.builtin "max") (rMaxT X.K) := by
  intro pins s σ H vs us Q I r h
  obtain ⟨a, ns, rfl, hs, hne, q⟩ := h
  obtain ⟨its, rv, hl, _⟩ := I.tuple hs
  rw [Vals.ref1 r]
  exact maxT_raw (I.ok.hd hc) (show s.heap.IsTuple a its.toArray from hl) rv.ints hne fun h' tk m t' hk h1 h2 => ⟨.int _, H, I.kept hk, ⟨_, rfl⟩, q m h1 h2⟩
theorem cr_minT (hc : X.calm = true) : CallR X (.builtin "min") (rMinT X.K) := by
  intro pins s σ H vs us Q I r h
  obtain ⟨a, ns, rfl, hs, hne, q⟩ := h
  obtain ⟨its, rv, hl, _⟩ := I.tuple hs
  rw [Vals.ref1 r]
  exact minT_raw (I.ok.hd hc) (show s.heap.IsTuple a its.toArray from hl) rv.ints hne fun h' tk m t' hk h1 h2 => ⟨.int _, H, I.kept hk, ⟨_, rfl⟩, q m h1 h2⟩
/-- t.index(x): flat things -/
def rIndexT (K : PySem.W.Frag) : V → List V → Hp → VK → Prop := fun x xs H Q => ∃ (a : Addr) (ys : List V) (y : V) (j : Nat) (z : V), x = V.ref a ∧ xs = [y] ∧ SqT K H a ys ∧ flatV y = true ∧ ys.all flatV = true ∧ ys[j]? = some z ∧ eqV z y = true ∧
  (∀ (m : Nat) (z' : V), m < j → ys[m]? = some z' → eqV z' y = false) ∧ Q (.int (j : Nat)) H
theorem mt_indexT : MtR X "tuple.index" (rIndexT X.K) := by
  intro pins s σ H x xs v us Q I rx rxs h
  obtain ⟨a, ys, y, j, z, rfl, rfl, hs, fy, fys, hz, hzj, hno, q⟩ := h
  cases rx
  cases rxs with
  | cons ry rt =>
    rename_i uy ut
    cases rt
    obtain ⟨its, rv, ⟨⟨cls, dd, data, sl⟩, ho, hc, n, hd⟩, hlen⟩ := I.tuple hs
    simp only at hc hd
    subst hc hd
    obtain ⟨u, hu, ru⟩ := rv.get hz
    obtain ⟨hjl, hje⟩ := List.getElem?_eq_some_iff.mp hu
    have hvl := rv.length
    have hj : j < its.toArray.size := by simpa using hjl
    refine call_meets PySem.F.slot_tuple_index ⟨_, ho, rfl⟩ PySem.F.entry_tuple_index (PySem.F.args_tuple_index_2 _ _)
      (TI.tuple_indexAt a its.toArray n dd sl uy (eqU y) j hj ?_ ?_) ⟨ho, fun u' hu' => mem_eqAt ry fy rv fys u' (by simpa using hu'), ?_⟩
    · have e1 : its.toArray[j] = u := by simpa using hje
      rw [e1, eqU_of ru (flat_at fys hz)]
      exact hzj
    · intro m hm hmj
      have hml : m < its.length := by simpa using hm
      have hmy : m < ys.length := by omega
      have hy' : ys[m]? = some ys[m] := List.getElem?_eq_getElem hmy
      obtain ⟨u2, hu2, ru2⟩ := rv.get hy'
      obtain ⟨_, hme⟩ := List.getElem?_eq_some_iff.mp hu2
      have e1 : its.toArray[m] = u2 := by simpa using hme
      rw [e1, eqU_of ru2 (flat_at fys hy')]
      exact hno m _ hmj hy'
    · exact ⟨.int (j : Nat), H, I.tok _, ⟨_, rfl⟩, q⟩
end
end TWR
end

section
/-! built-ins of one argument -/
namespace TW
open PySem (Str Addr Expr Pos Value Obj Shared model PyData Scope)
open L2 (V HO Hp Rd upd upd_same upd_ne TE TT TA TS VK XK Cx PE PT PW PA PS PSs PG PI OpR R2 CallR)
variable {c : Ct} {X : Cx} {k : Nat} {sc : Scope} {C : C0}
def B1.nm : B1 → Str
  | .len => "len" | .abs => "abs" | .sum => "sum" | .min => "min" | .max => "max" | .sorted => "sorted" | .list => "list" | .tuple => "tuple" | .int => "int" | .any => "any" | .all => "all"
  | .bool => "bool" | .set => "set" | .repr => "repr" | .str => "str"
/-! ### what is walked by these -/
theorem RL.ints {H : Hp} {Z : Addr → Prop} : ∀ {ds : List D} {vs : List V} {f : List Addr} {ns : List Int}, RL C H Z ds vs f → intsD ds = some ns → vs = ns.map V.int
  | [], vs, f, ns, h, e => by
    have : ns = [] := by simpa [intsD] using e.symm
    rw [h.1, this]; rfl
  | d :: ds, vs, f, ns, h, e => by
    obtain ⟨v, vr, f1, f2, rfl, h1, h2, rfl⟩ := h
    cases d <;> simp only [intsD, reduceCtorEq] at e
    rename_i i
    cases hi : intsD ds with
    | none => rw [hi] at e; cases e
    | some is =>
      rw [hi] at e
      have : ns = i :: is := by simpa using e.symm
      rw [this, h1.1, h2.ints hi]; rfl
theorem RL.blsv {H : Hp} {Z : Addr → Prop} : ∀ {ds : List D} {vs : List V} {f : List Addr} {ns : List Bool}, RL C H Z ds vs f → blsD ds = some ns → vs = ns.map V.bl
  | [], vs, f, ns, h, e => by
    have : ns = [] := by simpa [blsD] using e.symm
    rw [h.1, this]; rfl
  | d :: ds, vs, f, ns, h, e => by
    obtain ⟨v, vr, f1, f2, rfl, h1, h2, rfl⟩ := h
    cases d <;> simp only [blsD, reduceCtorEq] at e
    rename_i i
    cases hi : blsD ds with
    | none => rw [hi] at e; cases e
    | some is =>
      rw [hi] at e
      have : ns = i :: is := by simpa using e.symm
      rw [this, h1.1, h2.blsv hi]; rfl
theorem intsD_map (ns : List Int) : intsD (ns.map .int) = some ns := by
  induction ns with
  | nil => rfl
  | cons n ns ih => simp [intsD, ih]
/-- a list or a tuple of whole numbers -/
theorem R.intsAt {H : Hp} {Z : Addr → Prop} {d : D} {x : V} {f : List Addr} {xs : List D} {ns : List Int} (h : R C H Z d x f) (hi : d.items = some xs) (hn : intsD xs = some ns) : ∃ a, x = .ref a ∧ (L2.SqL C.K H a (ns.map V.int) ∨ L2.SqT C.K H a (ns.map V.int)) := by
  cases d <;> simp only [D.items, reduceCtorEq, Option.some.injEq] at hi
  · subst hi
    obtain ⟨a, vs, rfl, e2, za, e3⟩ := h.tupOf
    exact ⟨a, rfl, .inr (by rw [← e3.ints hn]; exact .inl (.inl e2))⟩
  · subst hi
    obtain ⟨a, vs, g, rfl, e2, e3⟩ := h.lstAt
    exact ⟨a, rfl, .inl (by rw [← e3.ints hn]; exact .inl (.inl e2))⟩
  · subst hi
    rw [intsD_map] at hn
    have := Option.some.inj hn
    subst this
    obtain ⟨_, a, rfl, e2⟩ := h
    exact ⟨a, rfl, .inl e2.sq⟩
/-! ### one by one -/
def rLenAll (K : PySem.W.Frag) : List V → Hp → VK → Prop := fun xs H Q => (∃ x n, xs = [x] ∧ L2.LenV K x H n ∧ Q (.int n) H) ∨ ∃ a kvs, xs = [V.ref a] ∧ H a = some (.dK kvs) ∧ Q (.int kvs.length) H
theorem op1_len : Op1 C (fun x H Q => rLenAll C.K [x] H Q) (B1.run .len) := by
  intro H Z d dz x f Q hz hx hk q
  cases d <;> simp only [B1.run, reduceCtorEq, Option.some.injEq] at hk
  · subst hk
    obtain ⟨a, vs, rfl, e2, za, e3⟩ := hx.tupOf
    refine .inl ⟨_, vs.length, rfl, .inr ⟨vs, .inl (.inl e2), rfl⟩, ?_⟩
    rw [e3.len]; exact q _ _ (res0 hz ⟨rfl, rfl⟩)
  · subst hk
    obtain ⟨a, vs, g, rfl, e2, e3⟩ := hx.lstAt
    refine .inl ⟨_, vs.length, rfl, .inl ⟨vs, .inl (.inl e2), rfl⟩, ?_⟩
    rw [e3.len]; exact q _ _ (res0 hz ⟨rfl, rfl⟩)
  · subst hk
    obtain ⟨a, vs, g, rfl, e2, nd, e3⟩ := hx.dicAt
    refine .inr ⟨a, vs, rfl, e2, ?_⟩
    rw [e3.len]; exact q _ _ (res0 hz ⟨rfl, rfl⟩)
theorem op1_abs : Op1 C (fun x H Q => (fun xs H Q => ∃ i, xs = [V.int i] ∧ Q (.int (if i < 0 then -i else i)) H) [x] H Q) (B1.run .abs) := by
  intro H Z d dz x f Q hz hx hk q
  cases d <;> simp only [B1.run, reduceCtorEq, Option.some.injEq] at hk
  subst hk
  rw [hx.1]
  exact ⟨_, rfl, q _ _ (res0 hz ⟨rfl, rfl⟩)⟩
theorem bindI {d : D} {ns : List Int} (h : d.items.bind intsD = some ns) : ∃ xs, d.items = some xs ∧ intsD xs = some ns := by
  cases hi : d.items with
  | none => rw [hi] at h; cases h
  | some xs => rw [hi] at h; exact ⟨xs, rfl, h⟩
theorem op1_sum : Op1 C (fun x H Q => L2.rSum C.K [x] H Q ∨ TWR.rSumT C.K [x] H Q) (B1.run .sum) := by
  intro H Z d dz x f Q hz hx hk q
  simp only [B1.run, Option.map_eq_some_iff] at hk
  obtain ⟨ns, hn, rfl⟩ := hk
  obtain ⟨xs, h1, h2⟩ := bindI hn
  obtain ⟨a, rfl, h3⟩ := hx.intsAt h1 h2
  rcases h3 with h3 | h3
  · exact .inl ⟨a, ns, rfl, h3, q _ _ (res0 hz ⟨rfl, rfl⟩)⟩
  · exact .inr ⟨a, ns, rfl, h3, q _ _ (res0 hz ⟨rfl, rfl⟩)⟩
theorem foldl_max : ∀ (r : List Int) (i : Int), (r.foldl max i = i ∨ r.foldl max i ∈ r) ∧ i ≤ r.foldl max i ∧ ∀ y ∈ r, y ≤ r.foldl max i
  | [], i => ⟨.inl rfl, Int.le_refl _, fun _ h => nomatch h⟩
  | j :: r, i => by
    obtain ⟨h1, h2, h3⟩ := foldl_max r (max i j)
    simp only [List.foldl_cons]
    refine ⟨?_, by omega, fun y hy => ?_⟩
    · rcases h1 with h1 | h1
      · rw [h1]
        rcases Int.le_total i j with q | q
        · right; rw [Int.max_eq_right q]; exact List.mem_cons_self
        · left; exact Int.max_eq_left q
      · exact .inr (List.mem_cons_of_mem _ h1)
    · rcases List.mem_cons.mp hy with e | hy
      · rw [e]; omega
      · exact h3 y hy
theorem foldl_min : ∀ (r : List Int) (i : Int), (r.foldl min i = i ∨ r.foldl min i ∈ r) ∧ r.foldl min i ≤ i ∧ ∀ y ∈ r, r.foldl min i ≤ y
  | [], i => ⟨.inl rfl, Int.le_refl _, fun _ h => nomatch h⟩
  | j :: r, i => by
    obtain ⟨h1, h2, h3⟩ := foldl_min r (min i j)
    simp only [List.foldl_cons]
    refine ⟨?_, by omega, fun y hy => ?_⟩
    · rcases h1 with h1 | h1
      · rw [h1]
        rcases Int.le_total i j with q | q
        · left; exact Int.min_eq_left q
        · right; rw [Int.min_eq_right q]; exact List.mem_cons_self
      · exact .inr (List.mem_cons_of_mem _ h1)
    · rcases List.mem_cons.mp hy with e | hy
      · rw [e]; omega
      · exact h3 y hy
theorem maxI_uniq {ns : List Int} {m z : Int} (h : maxI ns = some z) (h1 : m ∈ ns) (h2 : ∀ y ∈ ns, y ≤ m) : m = z := by
  cases ns with
  | nil => cases h1
  | cons i r =>
    obtain ⟨a1, a2, a3⟩ := foldl_max r i
    have e : r.foldl max i = z := Option.some.inj h
    rw [e] at a1 a2 a3
    have zm : z ≤ m := by
      rcases a1 with q | q
      · rw [q]; exact h2 _ List.mem_cons_self
      · exact h2 _ (List.mem_cons_of_mem _ q)
    rcases List.mem_cons.mp h1 with q | q
    · omega
    · have := a3 m q; omega
theorem minI_uniq {ns : List Int} {m z : Int} (h : minI ns = some z) (h1 : m ∈ ns) (h2 : ∀ y ∈ ns, m ≤ y) : m = z := by
  cases ns with
  | nil => cases h1
  | cons i r =>
    obtain ⟨a1, a2, a3⟩ := foldl_min r i
    have e : r.foldl min i = z := Option.some.inj h
    rw [e] at a1 a2 a3
    have zm : m ≤ z := by
      rcases a1 with q | q
      · rw [q]; exact h2 _ List.mem_cons_self
      · exact h2 _ (List.mem_cons_of_mem _ q)
    rcases List.mem_cons.mp h1 with q | q
    · omega
    · have := a3 m q; omega
theorem op1_max : Op1 C (fun x H Q => L2.rMax C.K [x] H Q ∨ TWR.rMaxT C.K [x] H Q) (B1.run .max) := by
  intro H Z d dz x f Q hz hx hk q
  simp only [B1.run, Option.bind_eq_some_iff, Option.map_eq_some_iff] at hk
  obtain ⟨ns, ⟨xs, h1, h2⟩, z, hm, rfl⟩ := hk
  have hne : 0 < ns.length := by cases ns with
    | nil => cases hm
    | cons _ _ => simp
  obtain ⟨a, rfl, h3⟩ := hx.intsAt h1 h2
  have fin : ∀ m, m ∈ ns → (∀ y, y ∈ ns → y ≤ m) → Q (.int m) H := fun m a1 a2 => by
    rw [maxI_uniq hm a1 a2]; exact q _ _ (res0 hz ⟨rfl, rfl⟩)
  rcases h3 with h3 | h3
  · exact .inl ⟨a, ns, rfl, h3, hne, fin⟩
  · exact .inr ⟨a, ns, rfl, h3, hne, fin⟩
theorem op1_min : Op1 C (fun x H Q => L2.rMin C.K [x] H Q ∨ TWR.rMinT C.K [x] H Q) (B1.run .min) := by
  intro H Z d dz x f Q hz hx hk q
  simp only [B1.run, Option.bind_eq_some_iff, Option.map_eq_some_iff] at hk
  obtain ⟨ns, ⟨xs, h1, h2⟩, z, hm, rfl⟩ := hk
  have hne : 0 < ns.length := by cases ns with
    | nil => cases hm
    | cons _ _ => simp
  obtain ⟨a, rfl, h3⟩ := hx.intsAt h1 h2
  have fin : ∀ m, m ∈ ns → (∀ y, y ∈ ns → m ≤ y) → Q (.int m) H := fun m a1 a2 => by
    rw [minI_uniq hm a1 a2]; exact q _ _ (res0 hz ⟨rfl, rfl⟩)
  rcases h3 with h3 | h3
  · exact .inl ⟨a, ns, rfl, h3, hne, fin⟩
  · exact .inr ⟨a, ns, rfl, h3, hne, fin⟩
theorem op1_int : Op1 C (fun x H Q => (fun xs H Q => (∃ i, xs = [V.int i] ∧ Q (.int i) H) ∨ ∃ k, xs = [V.bl k] ∧ Q (.int (if k then 1 else 0)) H) [x] H Q) (B1.run .int) := by
  intro H Z d dz x f Q hz hx hk q
  cases d <;> simp only [B1.run, reduceCtorEq, Option.some.injEq] at hk
  · subst hk
    rw [hx.1]
    exact .inr ⟨_, rfl, q _ _ (res0 hz ⟨rfl, rfl⟩)⟩
  · subst hk
    rw [hx.1]
    exact .inl ⟨_, rfl, q _ _ (res0 hz ⟨rfl, rfl⟩)⟩
theorem bindB {d : D} {ns : List Bool} (h : d.items.bind blsD = some ns) : ∃ xs, d.items = some xs ∧ blsD xs = some ns := by
  cases hi : d.items with
  | none => rw [hi] at h; cases h
  | some xs => rw [hi] at h; exact ⟨xs, rfl, h⟩
theorem op1_any : Op1 C (fun x H Q => L2.rAny C.K [x] H Q) (B1.run .any) := by
  intro H Z d dz x f Q hz hx hk q
  cases d <;> simp only [B1.run, reduceCtorEq] at hk
  simp only [Option.map_eq_some_iff] at hk
  obtain ⟨ns, hn, rfl⟩ := hk
  obtain ⟨a, vs, g, rfl, e2, e3⟩ := hx.lstAt
  exact ⟨a, ns, rfl, by rw [← e3.blsv hn]; exact .inl (.inl e2), q _ _ (res0 hz ⟨rfl, rfl⟩)⟩
theorem op1_all : Op1 C (fun x H Q => L2.rAll C.K [x] H Q) (B1.run .all) := by
  intro H Z d dz x f Q hz hx hk q
  cases d <;> simp only [B1.run, reduceCtorEq] at hk
  simp only [Option.map_eq_some_iff] at hk
  obtain ⟨ns, hn, rfl⟩ := hk
  obtain ⟨a, vs, g, rfl, e2, e3⟩ := hx.lstAt
  exact ⟨a, ns, rfl, by rw [← e3.blsv hn]; exact .inl (.inl e2), q _ _ (res0 hz ⟨rfl, rfl⟩)⟩
theorem op1_list : Op1 C (fun x H Q => (fun xs H Q => ∃ p ys, xs = [V.ref p] ∧ (L2.SqL C.K H p ys ∨ L2.SqT C.K H p ys) ∧ ∀ l, H l = none → Q (.ref l) (upd H l (.lst ys))) [x] H Q) (B1.run .list) := by
  intro H Z d dz x f Q hz hx hk q
  simp only [B1.run] at hk
  cases d <;> simp only [D.items, reduceCtorEq] at hk
  · split at hk
    · cases hk
    · cases hk
      obtain ⟨a, vs, rfl, e2, za, e3⟩ := hx.tupOf
      exact ⟨a, vs, rfl, .inr (.inl (.inl e2)), fun l hl => q _ _ (resL hz hl e3)⟩
  · split at hk
    · cases hk
    · rename_i hn
      cases hk
      obtain ⟨a, vs, rfl, e2, e3⟩ := hx.lstOf (by simpa using hn)
      exact ⟨a, vs, rfl, .inl (.inl (.inl e2)), fun l hl => q _ _ (resL hz hl e3)⟩
  · split at hk
    · cases hk
    · cases hk
      obtain ⟨_, a, rfl, e2⟩ := hx
      refine ⟨a, _, rfl, .inl e2.sq, fun l hl => q _ _ (resL hz hl ?_)⟩
      have : ∀ ns : List Int, RL C H Z (ns.map .int) (ns.map V.int) [] := fun ns => by
        induction ns with
        | nil => exact ⟨rfl, rfl⟩
        | cons n ns ih => exact ⟨_, _, [], [], rfl, ⟨rfl, rfl⟩, ih, rfl⟩
      exact this _
theorem op1_tuple : Op1 C (fun x H Q => (fun xs H Q => ∃ (a : Addr) (ys : List V), xs = [V.ref a] ∧ ((L2.SqL C.K H a ys ∧ ∀ l, H l = none → Q (.ref l) (upd H l (.tup ys))) ∨ (L2.SqT C.K H a ys ∧ Q (.ref a) H))) [x] H Q) (B1.run .tuple) := by
  intro H Z d dz x f Q hz hx hk q
  simp only [B1.run] at hk
  cases d <;> simp only [D.items, reduceCtorEq] at hk
  · split at hk
    · cases hk
    · cases hk
      obtain ⟨a, vs, rfl, e2, za, e3⟩ := hx.tupOf
      exact ⟨a, vs, rfl, .inr ⟨.inl (.inl e2), q _ _ (res0 hz ⟨rfl, a, vs, rfl, e2, za, e3⟩)⟩⟩
  · split at hk
    · cases hk
    · rename_i hn
      cases hk
      obtain ⟨a, vs, rfl, e2, e3⟩ := hx.lstOf (by simpa using hn)
      exact ⟨a, vs, rfl, .inl ⟨.inl (.inl e2), fun l hl => q _ _ (resT hz hl e3)⟩⟩
  · split at hk
    · cases hk
    · cases hk
      obtain ⟨_, a, rfl, e2⟩ := hx
      refine ⟨a, _, rfl, .inl ⟨e2.sq, fun l hl => q _ _ (resT hz hl ?_)⟩⟩
      have : ∀ ns : List Int, RL C H Z (ns.map .int) (ns.map V.int) [] := fun ns => by
        induction ns with
        | nil => exact ⟨rfl, rfl⟩
        | cons n ns ih => exact ⟨_, _, [], [], rfl, ⟨rfl, rfl⟩, ih, rfl⟩
      exact this _
/-! ### sorted -/
theorem insI_perm (i : Int) : ∀ l : List Int, (insI i l).Perm (i :: l)
  | [] => List.Perm.refl _
  | j :: r => by
    simp only [insI]
    split
    · exact List.Perm.refl _
    · exact ((insI_perm i r).cons j).trans (List.Perm.swap i j r)
theorem sortI_perm : ∀ l : List Int, (sortI l).Perm l
  | [] => List.Perm.refl _
  | i :: r => (insI_perm i _).trans ((sortI_perm r).cons i)
theorem insI_sorted (i : Int) : ∀ l : List Int, l.Pairwise (· ≤ ·) → (insI i l).Pairwise (· ≤ ·)
  | [], _ => by simp [insI]
  | j :: r, h => by
    simp only [List.pairwise_cons] at h
    simp only [insI]
    split
    · rename_i hij
      refine List.pairwise_cons.mpr ⟨fun a ha => ?_, List.pairwise_cons.mpr h⟩
      rcases List.mem_cons.mp ha with e | ha
      · omega
      · have := h.1 a ha; omega
    · rename_i hij
      refine List.pairwise_cons.mpr ⟨fun a ha => ?_, insI_sorted i r h.2⟩
      rcases List.mem_cons.mp ((insI_perm i r).mem_iff.mp ha) with e | ha
      · omega
      · exact h.1 a ha
theorem sortI_sorted : ∀ l : List Int, (sortI l).Pairwise (· ≤ ·)
  | [] => List.Pairwise.nil
  | i :: r => insI_sorted i _ (sortI_sorted r)
theorem op1_sortI : Op1 C (fun x H Q => L2.rSortedI C.K [x] H Q) (fun d => match d with | .lst o xs => (intsD xs).map fun is => .lst true ((sortI is).map .int) | _ => none) := by
  intro H Z d dz x f Q hz hx hk q
  cases d <;> simp only [reduceCtorEq] at hk
  simp only [Option.map_eq_some_iff] at hk
  obtain ⟨ns, hn, rfl⟩ := hk
  obtain ⟨a, vs, g, rfl, e2, e3⟩ := hx.lstAt
  refine ⟨a, ns, rfl, by rw [← e3.ints hn]; exact .inl (.inl e2), fun ns' p h1 h2 hp => ?_⟩
  have e : ns' = sortI ns := PySem.W.ksm_same (h1.trans (sortI_perm ns).symm) h2 (sortI_sorted ns)
  rw [e]
  refine q _ _ (resL hz hp ?_)
  have : ∀ ns : List Int, RL C H Z (ns.map .int) (ns.map V.int) [] := fun ns => by
    induction ns with
    | nil => exact ⟨rfl, rfl⟩
    | cons n ns ih => exact ⟨_, _, [], [], rfl, ⟨rfl, rfl⟩, ih, rfl⟩
  exact this _
end TW
end

section
/-! expressions: built-ins, names, moves, chains, slices, methods -/
namespace TW
open PySem (Str Addr Expr Pos Value Obj Shared model PyData Scope)
open L2 (V HO Hp Rd upd upd_same upd_ne TE TT TA TS VK XK Cx PE PT PW PA PS PSs PG PI OpR R2 CallR PO TO)
variable {c : Ct} {X : Cx} {k : Nat} {sc : Scope}
/-- a built-in's name -/
structure Bt (X : Cx) (x : Str) : Prop where
  gl : L2.Gl X x
  no : X.mg x = none
/-- one plain argument -/
def Pl (X : Cx) (pa : Expr) : Prop := ∀ es, PySem.starEach (pa :: es) X.env = (false, PySem.eval pa X.env) :: PySem.starEach es X.env
theorem se_b1F {b : B1} {a : E} {pa : Expr} {x : Str} {id : String} {r : List V → Hp → VK → Prop} {p pos : Pos} (cr : CallR X (.builtin id) r) (op : Op1 c.C (fun x H Q => r [x] H Q) b.run) (bt : Bt X x) (hv : PySem.bootBuiltins x = some (.builtin id)) (ha : PE X pa (tE c a)) (pl : Pl X pa)
    (hn : x ≠ "__name__" := by decide) (hdb : (x == ("__debug__" : Str)) = false := by decide) : PE X (.Call (.Name x p) [pa] [] pos) (tE c (.b1 b a)) :=
  (L2.pe_callB cr bt.gl bt.no hv (L2.pa_cons ha L2.pa_nil (pl [])) hn hdb (pl [])).imp fun s H Q ⟨r, Z, F, i0, hs, h⟩ => tE.one op i0 hs h
theorem se_b1T {b : B1} {a : E} {pa : Expr} {x : Str} {id : String} {r : List V → Hp → VK → Prop} {p pos : Pos} (cr : CallR X (.type id) r) (op : Op1 c.C (fun x H Q => r [x] H Q) b.run) (bt : Bt X x) (hv : PySem.bootBuiltins x = some (.type id)) (ha : PE X pa (tE c a)) (pl : Pl X pa)
    (hn : x ≠ "__name__" := by decide) (hdb : (x == ("__debug__" : Str)) = false := by decide) : PE X (.Call (.Name x p) [pa] [] pos) (tE c (.b1 b a)) :=
  (L2.pe_callTy cr bt.gl bt.no hv (L2.pa_cons ha L2.pa_nil (pl [])) hn hdb (pl [])).imp fun s H Q ⟨r, Z, F, i0, hs, h⟩ => tE.one op i0 hs h
theorem cr_or {f : Value} {r r' : List V → Hp → VK → Prop} (h : CallR X f r) (h' : CallR X f r') : CallR X f (fun xs H Q => r xs H Q ∨ r' xs H Q) := by
  intro pins s σ H xs us Q I rv q
  rcases q with q | q
  · exact h pins s σ H xs us Q I rv q
  · exact h' pins s σ H xs us Q I rv q
section
variable {a : E} {pa : Expr} {p pos : Pos} (xk : Xk c X k sc) (ha : PE X pa (tE c a)) (pl : Pl X pa)
include xk ha pl
theorem sb_len (bt : Bt X "len") : PE X (.Call (.Name "len" p) [pa] [] pos) (tE c (.b1 .len a)) :=
  se_b1F (cr_or L2.call_len L2.call_lenD) (by rw [xk.K]; exact op1_len) bt PySem.boot_len ha pl
theorem sb_abs (bt : Bt X "abs") : PE X (.Call (.Name "abs" p) [pa] [] pos) (tE c (.b1 .abs a)) :=
  se_b1F L2.call_abs op1_abs bt PyProof.Rows.boot_abs ha pl
theorem sb_sum (ch : c.hot = false) (bt : Bt X "sum") : PE X (.Call (.Name "sum" p) [pa] [] pos) (tE c (.b1 .sum a)) :=
  se_b1F (cr_or (L2.cr_sum (xk.calm ch)) (TWR.cr_sumT (xk.calm ch))) (by rw [xk.K]; exact op1_sum) bt PyProof.Rows.boot_sum ha pl
theorem sb_max (ch : c.hot = false) (bt : Bt X "max") : PE X (.Call (.Name "max" p) [pa] [] pos) (tE c (.b1 .max a)) :=
  se_b1F (cr_or (L2.cr_max (xk.calm ch)) (TWR.cr_maxT (xk.calm ch))) (by rw [xk.K]; exact op1_max) bt (by decide +kernel) ha pl
theorem sb_min (ch : c.hot = false) (bt : Bt X "min") : PE X (.Call (.Name "min" p) [pa] [] pos) (tE c (.b1 .min a)) :=
  se_b1F (cr_or (L2.cr_min (xk.calm ch)) (TWR.cr_minT (xk.calm ch))) (by rw [xk.K]; exact op1_min) bt (by decide +kernel) ha pl
theorem sb_any (ch : c.hot = false) (bt : Bt X "any") : PE X (.Call (.Name "any" p) [pa] [] pos) (tE c (.b1 .any a)) :=
  se_b1F (L2.cr_any (xk.calm ch)) (by rw [xk.K]; exact op1_any) bt PyProof.Rows.boot_any ha pl
theorem sb_all (ch : c.hot = false) (bt : Bt X "all") : PE X (.Call (.Name "all" p) [pa] [] pos) (tE c (.b1 .all a)) :=
  se_b1F (L2.cr_all (xk.calm ch)) (by rw [xk.K]; exact op1_all) bt (by decide +kernel) ha pl
theorem sb_int (bt : Bt X "int") : PE X (.Call (.Name "int" p) [pa] [] pos) (tE c (.b1 .int a)) :=
  se_b1T L2.call_int1 op1_int bt (by decide +kernel) ha pl
theorem sb_list (bt : Bt X "list") : PE X (.Call (.Name "list" p) [pa] [] pos) (tE c (.b1 .list a)) :=
  se_b1T L2.call_list_of (by rw [xk.K]; exact op1_list) bt PyProof.Rows.boot_list ha pl
theorem sb_tuple (bt : Bt X "tuple") : PE X (.Call (.Name "tuple" p) [pa] [] pos) (tE c (.b1 .tuple a)) :=
  se_b1T L2.call_tuple_of (by rw [xk.K]; exact op1_tuple) bt (by decide +kernel) ha pl
end
/-! ### constants of the module -/
theorem se_glb {x : Str} {pos : Pos} {d : D} (hg : L2.Gl X x) (hd : (x == ("__debug__" : Str)) = false) (hc : c.g.con x = some d) (hv : ∃ i u, d = .int i ∧ X.mg x = some u ∧ L2.RelV (.int i) u) : PE X (.Name x pos) (tE c (.glb x)) := by
  obtain ⟨i, u, rfl, hm, hr⟩ := hv
  exact se_val (d := .int i) (L2.pe_glob hg hm hr hd) (fun r => by simp only [ev, hc, RE.lift]) fun H Z => ⟨rfl, rfl⟩
/-! ### to be kept by two; moved -/
theorem se_sh {p : P} {pe : Expr} (hp : PE X pe (tP c p)) : PE X pe (tE c (.sh p)) :=
  hp.imp fun s H Q ⟨r, Z, F, i0, hs, h⟩ => by
    simp only [ev] at h
    cases hw : evP c.g p r with
    | none => rw [hw] at h; exact h.elim
    | some w =>
      rw [hw] at h
      simp only at h
      cases hg : getP r w with
      | none => rw [hg] at h; exact h.elim
      | some d =>
        rw [hg] at h
        simp only at h
        cases hp : setP r w d.share with
        | none => rw [hp] at h; exact h.elim
        | some r2 =>
          rw [hp] at h
          refine ⟨r, Z, F, w, d, i0, hs, hw, hg, fun x H' Z' st ⟨p1, g1, q1, hf⟩ => ?_⟩
          have st0 : Stp H Z F H' Z' F := by simpa using st.lift i0
          have e1 : F.Perm (g1 ++ (p1 ++ q1)) := by
            rw [hf.eq, ← List.append_assoc]
            exact List.Perm.append_right q1 List.perm_append_comm
          have st1 : Stp H Z F H' (Zf Z' g1) (p1 ++ q1) := (st0.perm e1).trans (Stp.shared (st0.iv.perm e1))
          have hs2 := hf.put H' (Zf Z' g1) kp_zf d.share [] hf.at_.share r2 hp
          simp only [List.append_nil] at hs2
          exact h x H' ⟨Zf Z' g1, p1 ++ q1, [], st1, hs2, hf.at_.share, fun p => by simp [pur] at p⟩
theorem se_mv {i : Nat} {x : Str} {pos : Pos} (hN : X.N[i]? = some x) (hv : L2.Vis X.env.scope x) (hd : (x == ("__debug__" : Str)) = false) (hcd : (x == ("__classdict__" : Str)) = false) : PE X (.Name x pos) (tE c (.mv i)) :=
  (L2.pe_var hN hv hd hcd).imp fun s H Q ⟨r, Z, F, i0, hs, h⟩ => by
    simp only [ev] at h
    cases hr : r[i]? with
    | none => rw [hr] at h; exact h.elim
    | some o =>
      rw [hr] at h
      cases o with
      | none => exact h.elim
      | some d =>
        have hne : ∀ n v, d ≠ .exc n v := fun n v e => by subst e; exact h.elim
        have hlt : i < r.length := (List.getElem?_eq_some_iff.mp hr).1
        obtain ⟨p1, g1, q1, e1, e2, e3⟩ := hs.focus i hlt
        obtain ⟨y, hy, hR⟩ := e2 d hr
        have hR' : R c.C H Z d y g1 := by
          cases d with
          | exc n v => exact absurd rfl (hne n v)
          | _ => exact hR
        refine ⟨y, hy, ?_⟩
        have h' : Wn c H Z F s r (pur (.mv i)) Q (if c.g.prot.contains i then .bad else .ok d (r.set i none)) := by
          cases d with
          | exc n v => exact absurd rfl (hne n v)
          | hole => exact h.elim
          | _ => exact h
        split at h'
        · exact h'.elim
        · have hp : F.Perm (g1 ++ (p1 ++ q1)) := by
            rw [e1, ← List.append_assoc]
            exact List.Perm.append_right q1 List.perm_append_comm
          exact h' y H ⟨Z, p1 ++ q1, g1, (Stp.refl i0).perm hp, (e3 H Z ⟨fun _ z => z, fun _ _ _ e => e⟩).2.2, hR', fun p => by simp [pur] at p⟩
/-! ### a < b < c -/
theorem op2_at {C : C0} {rr : R2} {k : D → D → Option D} (ho : Op2 C rr k) {H : Hp} {Z : Addr → Prop} {d e dz : D} {x y : V} {f f' : List Addr} {Q : VK} (hz : ∀ a, Z a → H a ≠ none) (hx : R C H Z d x f) (hy : R C H Z e y f') (hk : k d e = some dz)
    (q : ∀ z H', (∃ Z' g, Stp H Z [] H' Z' g ∧ R C H' Z' dz z g) → Q z H') : rr x y H Q := ho H Z d e dz x y f f' Q hz hx hy hk q
theorem chain_imp {o1 o2 : Cop} {a b d : E} {r1 r2 : R2} (k1 : Op2 c.C r1 o1.run) (k2 : Op2 c.C r2 o2.run) {s : L2.St} {H : Hp} {Q : VK} {r : Sl} {Z : Addr → Prop} {F : List Addr} (i0 : Iv H Z F) (hs : RSt c.C H Z c.xo 0 r s F) (h : Wn c H Z F s r (pur (.chain o1 o2 a b d)) Q (ev c.g (.chain o1 o2 a b d) r)) :
    L2.tChain r1 r2 (tE c a) (tE c b) (tE c d) s H Q := by
  simp only [ev] at h
  refine ⟨r, Z, F, i0, hs, ?_⟩
  cases hv : ev c.g a r with
  | bad => rw [hv] at h; exact h
  | exc n v r' => rw [hv] at h; exact h
  | brw d r' => rw [hv] at h; exact h.elim
  | ok dx rr1 =>
    rw [hv] at h
    intro x H1 ⟨Z1, F1, f1, st, rs, hr, pp⟩
    simp only [RE.v] at h
    refine tE.sec (cond := pur a) (T := f1) (K := fun _ _ => .bad) (Q2 := fun y _ H2 => r1 x y H2 _) st rs hr (.inl rfl) pp ?_
    cases hw : ev c.g b rr1 with
    | bad => rw [hw] at h; exact h
    | exc n v r' => rw [hw] at h; exact h
    | brw d r' => rw [hw] at h; exact h.elim
    | ok dy rr2 =>
      rw [hw] at h
      intro y H2 Z2 F2 f2 st2 rs2 hx hy pp2
      simp only [RE.v] at h
      cases dy <;> try (simp only at h; exact h.elim)
      rename_i j
      simp only at h
      obtain ⟨ey, ef⟩ := hy
      subst ey ef
      cases hk : o1.run dx (.int j) with
      | none => rw [hk] at h; exact h.elim
      | some dz =>
        rw [hk] at h
        refine op2_at (e := .int j) (f' := []) k1 st2.iv.zh hx ⟨rfl, rfl⟩ hk fun z H3 ⟨Z3, g3, st3, hz3⟩ => ?_
        obtain ⟨tr, rfl⟩ : ∃ tr, dz = .bl tr := by
          cases dz with
          | bl tr => exact ⟨tr, rfl⟩
          | _ => exact h.elim
        obtain ⟨ez, eg⟩ := hz3
        subst ez eg
        have st4 : Stp H Z F H3 Z3 ([] ++ F2) := (st2.sub (List.sublist_append_right _ _)).trans (st3.lift (st2.iv.sub (List.sublist_append_right _ _)))
        have pp4 : (pur a && pur b) = true → rr2 = r ∧ F2 = F ∧ Stp H Z [] H3 Z3 [] := fun p => ⟨(pp2 p).1, (pp2 p).2.1, (pp2 p).2.2.trans st3⟩
        refine ⟨tr, rfl, ?_⟩
        cases tr with
        | false =>
          rw [if_neg Bool.false_ne_true]
          exact h _ H3 ⟨Z3, F2, [], st4, rs2.mono st3.kpAll, ⟨rfl, rfl⟩, fun p => by
            simp only [pur, Bool.and_eq_true] at p
            exact pp4 (by simp [p.1.1, p.1.2])⟩
        | true =>
          rw [if_pos rfl]
          simp only at h
          refine tE.sec (d := .int j) (x := .int j) (f1 := []) (cond := pur a && pur b) (T := []) (K := fun _ _ => .bad) (Q2 := fun y2 _ H4 => r2 (.int j) y2 H4 Q) st4 (rs2.mono st3.kpAll) ⟨rfl, rfl⟩ (.inl rfl) pp4 ?_
          have fin : ∀ {e : D} {y : V} {r3 : Sl} {H4 : Hp} {Z4 : Addr → Prop} {F4 f4 T : List Addr}, Wn c H Z F s r (pur (.chain o1 o2 a b d)) Q (.lift (o2.run (.int j) e) r3) → Stp H Z F H4 Z4 (T ++ F4) → RSt c.C H4 Z4 c.xo 0 r3 s F4 → R c.C H4 Z4 e y f4 →
              (((pur a && pur b) && pur d) = true → r3 = r ∧ F4 = F ∧ Stp H Z [] H4 Z4 []) → r2 (.int j) y H4 Q := fun {e y r3 H4 Z4 F4 f4 T} h st rs hy pp => by
            cases hk : o2.run (.int j) e with
            | none => rw [hk] at h; exact h.elim
            | some dz =>
              rw [hk] at h
              refine op2_at (d := .int j) (f := []) k2 st.iv.zh ⟨rfl, rfl⟩ hy hk fun z H5 ⟨Z5, g5, st5, hz5⟩ => h z H5 ⟨Z5, F4, g5, ?_, rs.mono st5.kpAll, hz5, fun p => ?_⟩
              · exact (st.sub (List.sublist_append_right _ _)).trans (st5.lift (st.iv.sub (List.sublist_append_right _ _)))
              · obtain ⟨a1, a2, a3⟩ := pp p
                exact ⟨a1, a2, a3.trans st5⟩
          cases hq : ev c.g d rr2 with
          | bad => rw [hq] at h; exact h
          | exc n v r' => rw [hq] at h; exact h
          | ok e r3 =>
            rw [hq] at h
            exact fun y H4 Z4 F4 f4 st5 rs5 hx5 hy5 pp5 => fin h st5 rs5 hy5 pp5
          | brw e r3 =>
            rw [hq] at h
            exact fun y H4 Z4 F4 f4 st5 rs5 hx5 hy5 pp5 => fin (T := []) h st5 rs5 hy5 pp5
theorem se_chain {o1 o2 : Cop} {a b d : E} {pa pb pd : Expr} {pos : Pos} (xk : Xk c X k sc) (ha : PE X pa (tE c a)) (hb : PE X pb (tE c b)) (hd : PE X pd (tE c d)) (hm : PySem.lastMarks [cmpOf o1, cmpOf o2] [pb, pd] = false) :
    PE X (.Compare pa [cmpOf o1, cmpOf o2] [pb, pd] pos) (tE c (.chain o1 o2 a b d)) := by
  have hu := xk.room.un
  obtain ⟨r1, h1, k1⟩ := cop_ok (C := c.C) X xk.K (by omega) o1
  obtain ⟨r2, h2, k2⟩ := cop_ok (C := c.C) X xk.K (by omega) o2
  exact (L2.pe_chain h1 h2 ha hb hd hm).imp fun s H Q ⟨r, Z, F, i0, hs, h⟩ => chain_imp k1 k2 i0 hs h
/-! ### the lesser, the greater -/
theorem op2_min2 {C : C0} : Op2 C (fun x y H Q => (fun xs H Q => ∃ i j, xs = [V.int i, V.int j] ∧ Q (.int (if j < i then j else i)) H) [x, y] H Q) D.min2 := by
  intro H Z d e dz x y f f' Q hz hx hy hk q
  cases d <;> simp only [D.min2, reduceCtorEq] at hk
  cases e <;> simp only [D.min2, reduceCtorEq, Option.some.injEq] at hk
  subst hk
  rw [hx.1, hy.1]
  exact ⟨_, _, rfl, q _ _ (res0 hz ⟨rfl, rfl⟩)⟩
theorem op2_max2 {C : C0} : Op2 C (fun x y H Q => (fun xs H Q => ∃ i j, xs = [V.int i, V.int j] ∧ Q (.int (if j > i then j else i)) H) [x, y] H Q) D.max2 := by
  intro H Z d e dz x y f f' Q hz hx hy hk q
  cases d <;> simp only [D.max2, reduceCtorEq] at hk
  cases e <;> simp only [D.max2, reduceCtorEq, Option.some.injEq] at hk
  subst hk
  rw [hx.1, hy.1]
  exact ⟨_, _, rfl, q _ _ (res0 hz ⟨rfl, rfl⟩)⟩
theorem backTo_one {pos : Pos} {pb : Expr} (pl : Pl X pb) : (PySem.backTo pos (PySem.starEach [pb] X.env)).any (·.1) = false := by
  rw [pl []]; rfl
theorem se_min2 {a b : E} {pa pb : Expr} {p pos : Pos} (xk : Xk c X k sc) (ch : c.hot = false) (bt : Bt X "min") (ha : PE X pa (tE c a)) (hb : PE X pb (tE c b)) (pl : Pl X pa) (pl2 : Pl X pb) : PE X (.Call (.Name "min" p) [pa, pb] [] pos) (tE c (.min2 a b)) :=
  (L2.pe_callB (L2.call_min2 (xk.calm ch)) bt.gl bt.no (by decide +kernel) (L2.pa_cons ha (L2.pa_cons hb L2.pa_nil (pl2 [])) (pl _)) (by decide) (by decide) (pl _) (backTo_one pl2)).imp fun s H Q ⟨r, Z, F, i0, hs, h⟩ => tE.two op2_min2 i0 hs h
theorem se_max2 {a b : E} {pa pb : Expr} {p pos : Pos} (xk : Xk c X k sc) (ch : c.hot = false) (bt : Bt X "max") (ha : PE X pa (tE c a)) (hb : PE X pb (tE c b)) (pl : Pl X pa) (pl2 : Pl X pb) : PE X (.Call (.Name "max" p) [pa, pb] [] pos) (tE c (.max2 a b)) :=
  (L2.pe_callB (L2.call_max2 (xk.calm ch)) bt.gl bt.no (by decide +kernel) (L2.pa_cons ha (L2.pa_cons hb L2.pa_nil (pl2 [])) (pl _)) (by decide) (by decide) (pl _) (backTo_one pl2)).imp fun s H Q ⟨r, Z, F, i0, hs, h⟩ => tE.two op2_max2 i0 hs h
end TW
end

section
/-! expressions: slices, isinstance, ranges, methods of lists -/
namespace TW
open PySem (Str Addr Expr Pos Value Obj Shared model PyData Scope)
open L2 (V HO Hp Rd upd upd_same upd_ne TE TT TA TS VK XK Cx PE PT PW PA PS PSs PG PI OpR R2 CallR PO TO)
variable {c : Ct} {X : Cx} {k : Nat} {sc : Scope}
/-! ### slices -/
/-- an end of a slice -/
def PartOk (c : Ct) (lo : E) (tl : TO) : Prop := ∀ (s : L2.St) (H : Hp) (r : Sl) (Z : Addr → Prop) (F : List Addr) (Q : Option Int → Hp → Prop) (d : D) (r' : Sl) (pt : Option Int), Iv H Z F → RSt c.C H Z c.xo 0 r s F → ev c.g lo r = .ok d r' → partE lo d = some pt →
  (∀ H' Z', Stp H Z [] H' Z' [] → Q pt H') → tl s H Q
theorem part_no : PartOk c .non L2.tNoPart := fun s H r Z F Q d r' pt i hs hv hp q => by
  have : pt = none := by simpa [partE] using hp.symm
  subst this
  exact q H Z (Stp.refl i.nil)
theorem part_some {lo : E} (hp : pur lo = true) (hn : lo ≠ .non) : PartOk c lo (L2.tPart (tE c lo)) := fun s H r Z F Q d r' pt i hs hv hpt q => by
  refine ⟨r, Z, F, i, hs, ?_⟩
  rw [hv]
  intro x H' ⟨Z', F', f, st, rs, hr, pp⟩
  have : ∃ j, d = .int j ∧ pt = some j := by
    cases lo <;> first | exact absurd rfl hn | (cases d <;> simp [partE] at hpt <;> exact ⟨_, rfl, hpt.symm⟩)
  obtain ⟨j, rfl, rfl⟩ := this
  exact ⟨j, hr.1, q H' Z' (pp hp).2.2.nil⟩
theorem RL.cut {C : C0} {H : Hp} {Z : Addr → Prop} {ds : List D} {vs : List V} (h : RL C H Z ds vs []) (lo hi : Option Int) : RL C H Z (cutD ds lo hi) (L2.cutV vs lo hi) [] := by
  have tk : ∀ {ds : List D} {vs : List V} (n : Nat), RL C H Z ds vs [] → RL C H Z (ds.take n) (vs.take n) [] := fun {ds} => by
    induction ds with
    | nil => intro vs n h; rw [h.1]; simp; exact ⟨rfl, rfl⟩
    | cons d ds ih =>
      intro vs n h
      obtain ⟨v, vr, f1, f2, rfl, h1, h2, e⟩ := h
      have e1 : f1 = [] ∧ f2 = [] := by simpa using e.symm
      obtain ⟨rfl, rfl⟩ := e1
      cases n with
      | zero => exact ⟨rfl, rfl⟩
      | succ n => exact ⟨v, _, [], [], rfl, h1, ih n h2, rfl⟩
  have dr : ∀ {ds : List D} {vs : List V} (n : Nat), RL C H Z ds vs [] → RL C H Z (ds.drop n) (vs.drop n) [] := fun {ds} => by
    induction ds with
    | nil => intro vs n h; rw [h.1]; simp; exact ⟨rfl, rfl⟩
    | cons d ds ih =>
      intro vs n h
      obtain ⟨v, vr, f1, f2, rfl, h1, h2, e⟩ := h
      have e1 : f1 = [] ∧ f2 = [] := by simpa using e.symm
      obtain ⟨rfl, rfl⟩ := e1
      cases n with
      | zero => exact ⟨v, vr, [], [], rfl, h1, h2, rfl⟩
      | succ n => exact ih n h2
  unfold cutD L2.cutV
  rw [h.len]
  exact tk _ (dr _ h)
theorem RL.same : ∀ {C : C0} {H : Hp} {Z : Addr → Prop} {ds : List D} {vs : List V}, RL C H Z ds vs [] → ∀ lo hi, (HT.sIx vs.length 0 lo = 0 ∧ HT.sIx vs.length vs.length hi = vs.length) → cutD ds lo hi = ds := by
  intro C H Z ds vs h lo hi e
  rw [h.len] at e
  unfold cutD
  rw [e.1, e.2]
  simp
theorem op_slc {C : C0} {H : Hp} {Z : Addr → Prop} {d dz : D} {x : V} {f : List Addr} {l u : Option Int} {Q : VK} (hz : ∀ a, Z a → H a ≠ none) (hx : R C H Z d x f) (hk : d.slc l u = some dz)
    (q : ∀ z H', (∃ Z' g, Stp H Z [] H' Z' g ∧ R C H' Z' dz z g) → Q z H') : L2.rSlL C.K x l u H Q ∨ L2.rSlA C.K x l u H Q := by
  cases d <;> simp only [D.slc, reduceCtorEq, Option.some.injEq] at hk
  · subst hk
    obtain ⟨a, vs, rfl, e2, za, e3⟩ := hx.tupOf
    refine .inr ⟨a, vs, rfl, .inl (.inl e2), fun hw => ?_, fun hw p hp => q _ _ (resT hz hp (e3.cut l u))⟩
    rw [e3.same l u hw] at q
    exact q _ _ (res0 hz ⟨rfl, a, vs, rfl, e2, za, e3⟩)
  · split at hk
    · cases hk
    · rename_i hn
      cases hk
      obtain ⟨a, vs, rfl, e2, e3⟩ := hx.lstOf (by simpa using hn)
      exact .inl ⟨a, vs, rfl, .inl (.inl e2), fun p hp => q _ _ (resL hz hp (e3.cut l u))⟩
theorem se_slc {a lo hi : E} {pa : Expr} {plo phi : Option Expr} {tl th : TO} {p2 pos : Pos} (xk : Xk c X k sc) (ha : PE X pa (tE c a)) (hl : PO X plo tl) (hh : PO X phi th) (ol : PartOk c lo tl) (oh : PartOk c hi th) (hpu : pur lo = true ∧ pur hi = true) :
    PE X (.Subscript pa (.Slice plo phi none p2) pos) (tE c (.slc a lo hi)) :=
  (L2.pe_slice (L2.sl_list.or L2.sl_tupA) ha hl hh).imp fun s H Q ⟨r, Z, F, i0, hs, h⟩ => by
    rw [xk.K]
    simp only [ev, hpu.1, hpu.2, Bool.and_self, if_true] at h
    refine ⟨r, Z, F, i0, hs, ?_⟩
    have go : ∀ {d : D} {r1 : Sl} {x : V} {H1 : Hp} {Z1 : Addr → Prop} {F1 f1 T : List Addr}, Wn c H Z F s r (pur (.slc a lo hi)) Q (match ev c.g lo r1, ev c.g hi r1 with
        | .ok y _, .ok z _ => (match partE lo y, partE hi z with
          | some l, some h => .lift (d.slc l h) r1
          | _, _ => .bad)
        | _, _ => .bad) → Stp H Z F H1 Z1 (T ++ F1) → RSt c.C H1 Z1 c.xo 0 r1 s F1 → R c.C H1 Z1 d x f1 → (pur a = true → r1 = r ∧ F1 = F ∧ Stp H Z [] H1 Z1 []) →
        tl s H1 fun l H2 => th s H2 fun u H3 => L2.rSlL c.C.K x l u H3 Q ∨ L2.rSlA c.C.K x l u H3 Q := fun {d r1 x H1 Z1 F1 f1 T} h st rs hr pp => by
      have st1 : Stp H Z F H1 Z1 F1 := st.sub (List.sublist_append_right _ _)
      cases e1 : ev c.g lo r1 with
      | ok y ry =>
        cases e2 : ev c.g hi r1 with
        | ok z rz =>
          rw [e1, e2] at h
          simp only at h
          cases e3 : partE lo y with
          | none => rw [e3] at h; exact h.elim
          | some l =>
            cases e4 : partE hi z with
            | none => rw [e3, e4] at h; exact h.elim
            | some u =>
              rw [e3, e4] at h
              simp only at h
              refine ol s H1 r1 Z1 F1 _ y ry l st1.iv rs e1 e3 fun H2 Z2 s2 => ?_
              refine oh s H2 r1 Z2 F1 _ z rz u (s2.ivl st1.iv) (rs.mono s2.kpAll) e2 e4 fun H3 Z3 s3 => ?_
              cases hk : d.slc l u with
              | none => rw [hk] at h; exact h.elim
              | some dz =>
                rw [hk] at h
                have s4 : Stp H1 Z1 [] H3 Z3 [] := s2.trans s3
                have st3 : Stp H Z F H3 Z3 F1 := st1.trans (s4.lift st1.iv)
                refine op_slc st3.iv.zh (hr.mono s4.kpAll) hk fun z H4 ⟨Z4, g, s5, hz⟩ => h z H4 ⟨Z4, F1, g, st3.trans (s5.lift st3.iv), (rs.mono s4.kpAll).mono s5.kpAll, hz, fun p => ?_⟩
                simp only [pur, Bool.and_eq_true] at p
                obtain ⟨a1, a2, a3⟩ := pp p.1.1
                exact ⟨a1, a2, (a3.trans s4).trans s5⟩
        | _ => rw [e1, e2] at h; exact h.elim
      | _ => rw [e1] at h; exact h.elim
    cases hv : ev c.g a r with
    | bad => rw [hv] at h; exact h
    | exc n v r' => rw [hv] at h; exact h
    | ok d r1 =>
      rw [hv] at h
      exact fun x H1 ⟨Z1, F1, f1, st, rs, hr, pp⟩ => go h st rs hr fun p => ⟨(pp p).1, (pp p).2.1, (pp p).2.2.nil⟩
    | brw d r1 =>
      rw [hv] at h
      exact fun x H1 ⟨Z1, F1, f1, st, rs, hr, hsub, pp⟩ => go (T := []) h st rs hr pp
/-! ### xs[::-1] -/
theorem RL.rev {C : C0} {H : Hp} {Z : Addr → Prop} : ∀ {ds : List D} {vs : List V}, RL C H Z ds vs [] → RL C H Z ds.reverse vs.reverse []
  | [], vs, h => by rw [h.1]; exact ⟨rfl, rfl⟩
  | d :: ds, vs, h => by
    obtain ⟨v, vr, f1, f2, rfl, h1, h2, e⟩ := h
    have e1 : f1 = [] ∧ f2 = [] := by simpa using e.symm
    obtain ⟨rfl, rfl⟩ := e1
    rw [List.reverse_cons, List.reverse_cons]
    exact h2.rev.app ⟨v, [], [], [], rfl, h1, ⟨rfl, rfl⟩, rfl⟩
theorem op1_revL {C : C0} : Op1 C (fun x H Q => ∃ a xs, x = .ref a ∧ L2.SqL C.K H a xs ∧ ∀ p, H p = none → Q (.ref p) (upd H p (.lst xs.reverse))) D.rev := by
  intro H Z d dz x f Q hz hx hk q
  cases d <;> simp only [D.rev, reduceCtorEq] at hk
  split at hk
  · cases hk
  · rename_i hn
    cases hk
    obtain ⟨a, vs, rfl, e2, e3⟩ := hx.lstOf (by simpa using hn)
    exact ⟨a, vs, rfl, .inl (.inl e2), fun p hp => q _ _ (resL hz hp e3.rev)⟩
theorem se_rev {a : E} {pa : Expr} {j : Nat} {p1 p2 p3 pos : Pos} (xk : Xk c X k sc) (ha : PE X pa (tE c a)) : PE X (.Subscript pa (.Slice none none (some (.UnaryOp .USub (.Constant (.int 1) j p1) p2)) p3) pos) (tE c (.rev a)) :=
  (L2.pe_revL ha).imp fun s H Q ⟨r, Z, F, i0, hs, h⟩ => by
    rw [xk.K]
    exact tE.one op1_revL i0 hs h
/-! ### isinstance -/
theorem op1_isi {C : C0} {T : String} {t : Str} (h0 : L2.kitB "NoneType" T = some false) (h1 : L2.kitB "bool" T = some (t == "int" || t == "bool")) (h2 : L2.kitB "int" T = some (t == "int")) (h3 : L2.kitB "str" T = some (t == "str")) (h4 : L2.kitB "tuple" T = some (t == "tuple"))
    (h5 : L2.kitB "list" T = some (t == "list")) (h6 : L2.kitB "dict" T = some (t == "dict")) : Op1 C (fun x H Q => L2.rIsi C.K [x, .ty T] H Q) (fun d => (d.isi t).map .bl) := by
  intro H Z d dz x f Q hz hx hk q
  have go : ∀ {v : Value} {b : Bool}, L2.TyX C.K H x v → PySem.W.kitOne C.K v (.type T) = some b → dz = .bl b → L2.rIsi C.K [x, .ty T] H Q := fun {v b} h1 h2 h3 =>
    ⟨x, .ty T, v, .type T, b, rfl, .ty T, h1, h2, q _ _ (res0 hz (by rw [h3]; exact ⟨rfl, rfl⟩))⟩
  cases d <;> simp only [D.isi, reduceCtorEq, Option.map_some, Option.map_none, Option.some.injEq] at hk
  · rw [hx.1] at go ⊢
    exact go (.base .non) (L2.kit_ty h0) hk.symm
  · rw [hx.1] at go ⊢
    exact go (.base (.bl _)) (L2.kit_ty h1) hk.symm
  · rw [hx.1] at go ⊢
    exact go (.base (.int _)) (L2.kit_ty h2) hk.symm
  · rw [hx.1] at go ⊢
    exact go (.base (.str _)) (L2.kit_ty h3) hk.symm
  · obtain ⟨a, vs, rfl, e2, za, e3⟩ := hx.tupOf
    exact go (.base (.tup e2)) (L2.kit_ty h4) hk.symm
  · obtain ⟨a, vs, g, rfl, e2, e3⟩ := hx.lstAt
    exact go (.base (.lst e2)) (L2.kit_ty h5) hk.symm
  · obtain ⟨a, vs, g, rfl, e2, nd, e3⟩ := hx.dicAt
    exact go (.base (.dK e2)) (L2.kit_ty h6) hk.symm
/-- the types that are asked for -/
def isiT (t : Str) : Option String := if t = "int" then some "int" else if t = "bool" then some "bool" else if t = "str" then some "str" else if t = "tuple" then some "tuple" else if t = "list" then some "list" else if t = "dict" then some "dict" else none
theorem op1_isi_of {C : C0} {T : String} {t : Str} (h : isiT t = some T) : Op1 C (fun x H Q => L2.rIsi C.K [x, .ty T] H Q) (fun d => (d.isi t).map .bl) ∧ PySem.bootBuiltins t = some (.type T) ∧ t ≠ "__name__" ∧ (t == ("__debug__" : Str)) = false := by
  unfold isiT at h
  split at h
  · subst t; cases h; exact ⟨op1_isi (by decide +kernel) (by decide +kernel) (by decide +kernel) (by decide +kernel) (by decide +kernel) (by decide +kernel) (by decide +kernel), by decide +kernel, by decide, by decide⟩
  split at h
  · subst t; cases h; exact ⟨op1_isi (by decide +kernel) (by decide +kernel) (by decide +kernel) (by decide +kernel) (by decide +kernel) (by decide +kernel) (by decide +kernel), by decide +kernel, by decide, by decide⟩
  split at h
  · subst t; cases h; exact ⟨op1_isi (by decide +kernel) (by decide +kernel) (by decide +kernel) (by decide +kernel) (by decide +kernel) (by decide +kernel) (by decide +kernel), by decide +kernel, by decide, by decide⟩
  split at h
  · subst t; cases h; exact ⟨op1_isi (by decide +kernel) (by decide +kernel) (by decide +kernel) (by decide +kernel) (by decide +kernel) (by decide +kernel) (by decide +kernel), by decide +kernel, by decide, by decide⟩
  split at h
  · subst t; cases h; exact ⟨op1_isi (by decide +kernel) (by decide +kernel) (by decide +kernel) (by decide +kernel) (by decide +kernel) (by decide +kernel) (by decide +kernel), by decide +kernel, by decide, by decide⟩
  split at h
  · subst t; cases h; exact ⟨op1_isi (by decide +kernel) (by decide +kernel) (by decide +kernel) (by decide +kernel) (by decide +kernel) (by decide +kernel) (by decide +kernel), by decide +kernel, by decide, by decide⟩
  · cases h
theorem se_isi {a : E} {pa : Expr} {t : Str} {T : String} {p p2 pos : Pos} (xk : Xk c X k sc) (bt : Bt X "isinstance") (bt2 : Bt X t) (hT : isiT t = some T) (ha : PE X pa (tE c a)) (pl : Pl X pa) (pl2 : Pl X (.Name t p2)) : PE X (.Call (.Name "isinstance" p) [pa, .Name t p2] [] pos) (tE c (.isi a t)) := by
  obtain ⟨h1, h2, h3, h4⟩ := op1_isi_of (C := c.C) hT
  refine (L2.pe_callB L2.call_isi bt.gl bt.no PyProof.Rows.boot_isinstance (L2.pa_cons ha (L2.pa_cons (L2.pe_bltn (v := .ty T) bt2.gl bt2.no h2 rfl h3 h4) L2.pa_nil (pl2 [])) (pl _)) (by decide) (by decide) (pl _) (backTo_one pl2)).imp fun s H Q ⟨r, Z, F, i0, hs, h⟩ => ?_
  rw [xk.K]
  exact tE.one h1 i0 hs h
/-! ### list(range(..)), tuple(range(..)) -/
theorem RL.rg {C : C0} {H : Hp} {Z : Addr → Prop} (a : Int) (n : Nat) : RL C H Z (rangeD a n) ((List.range n).map fun i => V.int (a + (i : Nat))) [] := by
  unfold rangeD
  induction List.range n with
  | nil => exact ⟨rfl, rfl⟩
  | cons i l ih => exact ⟨_, _, [], [], rfl, ⟨rfl, rfl⟩, ih, rfl⟩
theorem rgOk_of {a b : Int} (h : (decide (-LINE ≤ a) && decide (a ≤ LINE) && decide (-LINE ≤ b) && decide (b ≤ LINE) && decide (b - a ≤ LINE)) = true) : L2.RgOk a b := by
  have e : (LINE : Int) = 16777216 := rfl
  simp only [Bool.and_eq_true, decide_eq_true_eq, e] at h
  obtain ⟨⟨⟨⟨h1, h2⟩, h3⟩, h4⟩, h5⟩ := h
  refine ⟨by omega, by omega, by omega, by omega, by omega⟩
theorem op2_rgL {C : C0} : Op2 C (fun x y H Q => ∃ i j, x = V.int i ∧ y = V.int j ∧ L2.RgOk i j ∧ ∀ q, H q = none → Q (.ref q) (upd H q (.lst (L2.rgV i j)))) (rgD false) := by
  intro H Z d e dz x y f f' Q hz hx hy hk q
  cases d <;> simp only [rgD, reduceCtorEq] at hk
  cases e <;> simp only [rgD, reduceCtorEq] at hk
  rename_i i j
  split at hk
  · rename_i h
    cases hk
    rw [hx.1, hy.1]
    exact ⟨i, j, rfl, rfl, rgOk_of h, fun p hp => q _ _ (resL hz hp (RL.rg i _))⟩
  · cases hk
theorem op2_rgT {C : C0} : Op2 C (fun x y H Q => ∃ i j, x = V.int i ∧ y = V.int j ∧ L2.RgOk i j ∧ ∀ q, H q = none → Q (.ref q) (upd H q (.tup (L2.rgV i j)))) (rgD true) := by
  intro H Z d e dz x y f f' Q hz hx hy hk q
  cases d <;> simp only [rgD, reduceCtorEq] at hk
  cases e <;> simp only [rgD, reduceCtorEq] at hk
  rename_i i j
  split at hk
  · rename_i h
    cases hk
    rw [hx.1, hy.1]
    exact ⟨i, j, rfl, rfl, rgOk_of h, fun p hp => q _ _ (resT hz hp (RL.rg i _))⟩
  · cases hk
theorem op1_rgL {C : C0} : Op1 C (fun x H Q => ∃ j, x = V.int j ∧ L2.RgOk 0 j ∧ ∀ q, H q = none → Q (.ref q) (upd H q (.lst (L2.rgV 0 j)))) (rgD false (.int 0)) := by
  intro H Z e dz y f' Q hz hy hk q
  obtain ⟨i, j, e1, e2, h1, h2⟩ := op2_rgL (C := C) H Z (.int 0) e dz (.int 0) y [] f' Q hz ⟨rfl, rfl⟩ hy hk q
  cases e1
  exact ⟨j, e2, h1, h2⟩
theorem op1_rgT {C : C0} : Op1 C (fun x H Q => ∃ j, x = V.int j ∧ L2.RgOk 0 j ∧ ∀ q, H q = none → Q (.ref q) (upd H q (.tup (L2.rgV 0 j)))) (rgD true (.int 0)) := by
  intro H Z e dz y f' Q hz hy hk q
  obtain ⟨i, j, e1, e2, h1, h2⟩ := op2_rgT (C := C) H Z (.int 0) e dz (.int 0) y [] f' Q hz ⟨rfl, rfl⟩ hy hk q
  cases e1
  exact ⟨j, e2, h1, h2⟩
section
variable {a b : E} {pa pb : Expr} {p p2 p3 pos : Pos} (xk : Xk c X k sc) (ch : c.hot = false) (br : Bt X "range")
include xk ch br
theorem se_rgL1 (bt : Bt X "list") (ha : PE X pa (tE c a)) (pl : Pl X pa) (pl2 : Pl X (.Call (.Name "range" p) [pa] [] p2)) : PE X (.Call (.Name "list" p3) [.Call (.Name "range" p) [pa] [] p2] [] pos) (tE c (.rg1 false a)) :=
  (L2.pe_listRg (xk.calm ch) bt.gl bt.no (L2.prg_1 br.gl br.no ha (pl [])) (pl2 [])).imp fun s H Q ⟨r, Z, F, i0, hs, h⟩ => tE.one op1_rgL i0 hs h
theorem se_rgT1 (bt : Bt X "tuple") (ha : PE X pa (tE c a)) (pl : Pl X pa) (pl2 : Pl X (.Call (.Name "range" p) [pa] [] p2)) : PE X (.Call (.Name "tuple" p3) [.Call (.Name "range" p) [pa] [] p2] [] pos) (tE c (.rg1 true a)) :=
  (L2.pe_tupRg (xk.calm ch) bt.gl bt.no (L2.prg_1 br.gl br.no ha (pl [])) (pl2 [])).imp fun s H Q ⟨r, Z, F, i0, hs, h⟩ => tE.one op1_rgT i0 hs h
theorem se_rgL2 (bt : Bt X "list") (ha : PE X pa (tE c a)) (hb : PE X pb (tE c b)) (pl : Pl X pa) (plb : Pl X pb) (pl2 : Pl X (.Call (.Name "range" p) [pa, pb] [] p2)) : PE X (.Call (.Name "list" p3) [.Call (.Name "range" p) [pa, pb] [] p2] [] pos) (tE c (.rg2 false a b)) :=
  (L2.pe_listRg (xk.calm ch) bt.gl bt.no (L2.prg_2 br.gl br.no ha hb (pl _) (plb []) (backTo_one plb)) (pl2 [])).imp fun s H Q ⟨r, Z, F, i0, hs, h⟩ => tE.two op2_rgL i0 hs h
theorem se_rgT2 (bt : Bt X "tuple") (ha : PE X pa (tE c a)) (hb : PE X pb (tE c b)) (pl : Pl X pa) (plb : Pl X pb) (pl2 : Pl X (.Call (.Name "range" p) [pa, pb] [] p2)) : PE X (.Call (.Name "tuple" p3) [.Call (.Name "range" p) [pa, pb] [] p2] [] pos) (tE c (.rg2 true a b)) :=
  (L2.pe_tupRg (xk.calm ch) bt.gl bt.no (L2.prg_2 br.gl br.no ha hb (pl _) (plb []) (backTo_one plb)) (pl2 [])).imp fun s H Q ⟨r, Z, F, i0, hs, h⟩ => tE.two op2_rgT i0 hs h
end
/-! ### methods of lists -/
/-- what must be seen of a method's call -/
structure Mc (X : Cx) (o : Expr) (name : Str) (apos : Pos) (es : List Expr) (cpos : Pos) : Prop where
  base : PySem.attributeBase o name X.env (PySem.eval o X.env) = PySem.eval o X.env
  few : ((PySem.backTo cpos (PySem.starEach es X.env)).all (fun x => !x.1) && (PySem.backToKw cpos (PySem.keywordEach [] X.env)).all (fun x => x.1.isSome)
      && decide (es.length + ([] : List PySem.Keyword).length + (if ([] : List PySem.Keyword).isEmpty then 0 else 1) < 30)) = true
  line : (apos.endLine == cpos.line) = true
theorem RL.snoc {C : C0} {H : Hp} {Z : Addr → Prop} {ds : List D} {vs : List V} {f g : List Addr} {d : D} {v : V} (h : RL C H Z ds vs f) (k : R C H Z d v g) : RL C H Z (ds ++ [d]) (vs ++ [v]) (f ++ g) :=
  h.app ⟨v, [], g, [], rfl, k, ⟨rfl, rfl⟩, by simp⟩
theorem se_append {p : P} {e : E} {po pe : Expr} {apos cpos : Pos} (xk : Xk c X k sc) (hp : PE X po (tP c p)) (he : PE X pe (tE c e)) (mc : Mc X po "append" apos [pe] cpos) (pl : Pl X pe) : PE X (.Call (.Attribute po "append" apos) [pe] [] cpos) (tE c (.bm .append p (.cons e .nil))) :=
  (L2.pe_bm PySem.F.plainAttrs_list PySem.F.slot_list_append PySem.F.type_list_append L2.mt_append hp (L2.pa_cons he L2.pa_nil (pl [])) mc.base mc.few mc.line (pl []) rfl).imp fun s H Q ⟨r, Z, F, i0, hs, h⟩ => by
    simp only [ev] at h
    split at h
    · rename_i hcond
      cases hw : evP c.g p r with
      | none => rw [hw] at h; exact h.elim
      | some w =>
        rw [hw] at h
        simp only at h
        cases hg : getP r w with
        | none => rw [hg] at h; exact h.elim
        | some d0 =>
          rw [hg] at h
          obtain ⟨xs0, rfl⟩ : ∃ xs, d0 = .lst true xs := by
            cases d0 with
            | lst o xs => cases o with
              | true => exact ⟨xs, rfl⟩
              | false => exact h.elim
            | _ => exact h.elim
          simp only [evEs] at h
          refine ⟨r, Z, F, w, _, i0, hs, hw, hg, fun x H1 Z1 st ⟨p1, g1, q1, hf⟩ => ?_⟩
          have st0 : Stp H Z F H1 Z1 F := by simpa using st.lift i0
          obtain ⟨a, vs0, g0, rfl, e2, e3⟩ := hf.at_.lstAt
          refine ⟨.inl ⟨rfl, vs0, .inl (.inl e2)⟩, r, Z1, F, st0.iv, hs.mono st.kpAll, ?_⟩
          cases hv : ev c.g e r with
          | bad => rw [hv] at h; exact h
          | brw d r' => rw [hv] at h; exact h.elim
          | exc n v r' =>
            rw [hv] at h
            exact fun A dd H' ⟨Z', F', w, s2, rest⟩ => h A dd H' ⟨Z', F', w, st0.trans s2, rest⟩
          | ok d r1 =>
            rw [hv] at h
            simp only [REs.cons] at h
            intro y H2 ⟨Z2, F2, f2, s2, rs2, hy, pp⟩
            cases hg2 : getP r1 w with
            | none => rw [hg2] at h; exact h.elim
            | some d1 =>
              rw [hg2] at h
              obtain ⟨xs, rfl⟩ : ∃ xs, d1 = .lst true xs := by
                cases d1 with
                | lst o xs => cases o with
                  | true => exact ⟨xs, rfl⟩
                  | false => exact h.elim
                | _ => exact h.elim
              simp only [Mut0.run] at h
              split at h
              · rename_i x1 x2 hrun
                split at hrun
                · rename_i hlen
                  cases hrun
                  cases hset : setP r1 w (.lst true (xs ++ [d])) with
                  | none => rw [hset] at h; exact h.elim
                  | some r2 =>
                    rw [hset] at h
                    have hv0 : vgS H2 s w = some (.ref a) := by
                      have hv := hf.vg0
                      rcases Bool.or_eq_true_iff.mp hcond with hb | hb
                      · cases p with
                        | var i =>
                          have : w = ⟨i, []⟩ := by simpa [evP] using hw.symm
                          subst this
                          unfold vgS at hv ⊢
                          exact hv
                        | _ => cases hb
                      · simp only [purEs, Bool.and_true] at hb
                        exact vgS_mono (fun a o e => (pp hb).2.2.keep a o e (by simp)) hv
                    obtain ⟨p2, g2, q2, hf2⟩ := rs2.focAt hg2 hv0
                    obtain ⟨a', vs, g3, ea, e4, e5, e6⟩ := hf2.at_
                    cases ea
                    refine ⟨a, vs, y, rfl, rfl, e4, by rw [e5.len, ← line_eq]; exact hlen, ?_⟩
                    -- the new state
                    have hin : a ∈ f2 ++ F2 := by rw [hf2.eq, e6]; simp
                    have sW : Stp H2 Z2 (f2 ++ F2) (upd H2 a (.lst (vs ++ [y]))) Z2 (f2 ++ F2) := Stp.write s2.iv hin
                    have nd := List.nodup_append.mp s2.iv.nd
                    have ndF := nd.2.1
                    rw [hf2.eq, e6] at ndF
                    have kp : ∀ {l : List Addr}, a ∉ l → Kp H2 (upd H2 a (.lst (vs ++ [y]))) Z2 Z2 l := fun {l} hl => ⟨fun _ z => z, fun b o hb ho => by
                      rw [upd_ne]
                      · exact ho
                      · rintro rfl
                        rcases hb with hb | hb
                        · exact hl hb
                        · exact s2.iv.nz _ hin hb⟩
                    have n1 : a ∉ f2 := fun z => nd.2.2 a z a (by rw [hf2.eq, e6]; simp) rfl
                    have n2 : a ∉ g3 ∧ a ∉ p2 ++ q2 := by
                      simp only [List.append_assoc, List.cons_append, List.nodup_append, List.nodup_cons, List.mem_append, not_or] at ndF ⊢
                      refine ⟨ndF.2.1.1.1, fun z => ndF.2.2 a z a (by simp) rfl, ndF.2.1.1.2⟩
                    have hL := (e5.mono (kp n2.1)).snoc (hy.mono (kp n1))
                    have hput := hf2.put _ Z2 (kp n2.2) (.lst true (xs ++ [d])) (a :: (g3 ++ f2)) ⟨a, _, _, rfl, upd_same, hL, rfl⟩ r2 hset
                    have pm : (f2 ++ F2).Perm (p2 ++ a :: (g3 ++ f2) ++ q2) := by
                      rw [hf2.eq, e6]
                      have : (f2 ++ (p2 ++ (a :: g3) ++ q2)).Perm ((p2 ++ (a :: g3) ++ q2) ++ f2) := List.perm_append_comm
                      refine this.trans ?_
                      simp only [List.append_assoc, List.cons_append]
                      refine List.Perm.append_left p2 (List.Perm.cons a (List.Perm.append_left g3 List.perm_append_comm))
                    refine h _ _ ⟨Z2, _, [], ((st0.trans s2).trans sW).perm pm, hput, ⟨rfl, rfl⟩, fun p => by simp [pur] at p⟩
                · cases hrun
              · exact h.elim
    · exact h.elim
end TW
end

section
set_option maxRecDepth 100000
set_option maxHeartbeats 4000000
/-! further rules of the machine: enumerate(tuple) -/
namespace TWR
open PySem PySem.Spec PyProof.Rows L2
open AutoSeq1 (wpAny_loadPart')
theorem meets_enumerate_newT (l : Addr) (items : Array Value) (n : Nat) (dct : Option Addr) (sl : Array (Option Value)) :
    Meets (Builtin.«enumerate.__new__» ⟨[.type "enumerate", .ref l], []⟩) (fun _ R s => s.heap.get? l = some { cls := .type "tuple", dict := dct, data := .seq items n, slots := sl } ∧
      R (.ok (.ret (.ref (s.heap.push { cls := .type "tuple_iterator", data := .fields #[.ref l, .int 0 0] }).objs.size)))
        { s with heap := (s.heap.push { cls := .type "tuple_iterator", data := .fields #[.ref l, .int 0 0] }).push { cls := .type "enumerate", data := .fields #[.none, .bool false, .ref s.heap.objs.size, rawInt 0, .none, .none] } }) :=
  .of_wp fun prog w A R s h => by
    obtain ⟨hp, g, d, tk, os⟩ := s
    obtain ⟨hl, h⟩ := h
    have hsub := sub_enumerate
    have hL : Heap.IsTuple (Shared.heap ⟨hp, g, d, tk, os⟩) l items := ⟨_, hl, rfl, n, rfl⟩
    wp_walk using wpAny_loadPart' hl
    refine wpAny_stack_any fun st => wpAny_pure ?_
    split
    · rename_i c _ _ _ _ _
      cases (c == Value.type "enumerate")
      · wp_walk using wpAny_loadPart' hl, wpAny_pyIter_tuple hL
        exact ⟨_, rfl, h⟩
      · wp_walk using wpAny_loadPart' hl, wpAny_pyIter_tuple hL
        exact ⟨_, rfl, h⟩
    · wp_walk using wpAny_loadPart' hl, wpAny_pyIter_tuple hL
      exact ⟨_, rfl, h⟩
section
variable {prog : Program} {w : World} {A : Around} {E : Value → Shared → Prop} {s : Shared}
theorem call_enumerateT {l : Addr} {items : Array Value} {Q : Value → Shared → Prop} (hL : s.heap.IsTuple l items)
    (h : ∀ h', IsEnum h' (s.heap.objs.size + 1) s.heap.objs.size 0 .none → h'.IsTupleIter s.heap.objs.size l 0 → h'.objs.size = s.heap.objs.size + 2 →
      (∀ b o, s.heap.get? b = some o → h'.get? b = some o) → Q (.ref (s.heap.objs.size + 1)) { s with heap := h' }) :
    wpAny (model prog w) A (call (.type "enumerate") [.ref l]) Q E s := by
  obtain ⟨⟨c, dct, dt, sl⟩, hl, hc, n, hd⟩ := hL
  replace hc : c = .type "tuple" := hc
  replace hd : dt = .seq items n := hd
  subst hc hd
  refine callType_new F.called_enumerate (by decide) (F.typeCall_enumerate_1 _) (F.newCall_enumerate_1 _) (fun obj => F.args_object_init_2 obj _) F.entry_enumerate_new
    (meets_enumerate_newT l items n dct sl) ⟨hl, ?_⟩
  have hz : (s.heap.push { cls := .type "tuple_iterator", data := .fields #[.ref l, .int 0 0] }).objs.size = s.heap.objs.size + 1 := Heap.size_push ..
  show _ ∧ _
  rw [hz]
  have he : IsEnum ((s.heap.push { cls := .type "tuple_iterator", data := .fields #[.ref l, .int 0 0] }).push
      { cls := .type "enumerate", data := .fields #[.none, .bool false, .ref s.heap.objs.size, rawInt 0, .none, .none] }) (s.heap.objs.size + 1) s.heap.objs.size 0 .none := by
    have := Heap.get?_push_size (s.heap.push { cls := .type "tuple_iterator", data := .fields #[.ref l, .int 0 0] })
      (o := { cls := .type "enumerate", data := .fields #[.none, .bool false, .ref s.heap.objs.size, rawInt 0, .none, .none] }) rfl
    rw [hz] at this; exact this
  refine ⟨⟨_, he, rfl⟩, h _ he ⟨_, Heap.get?_push_of_some _ (Heap.get?_push_size _ rfl), rfl, rfl⟩ (by rw [Heap.size_push, hz]) fun b o x => Heap.get?_push_of_some _ (Heap.get?_push_of_some _ x)⟩
end
/-- the tuple at a, each item in a new pair -/
def IteT (a : Addr) : It :=
  ⟨fun i H => ∃ (xs : List V) (x : V), H a = some (.tup xs) ∧ xs[i]? = some x, fun i H v H' => ∃ T x, v = .ref T ∧ H T = none ∧ H' = upd H T (.tup [.int (i : Nat), x]) ∧ ∀ xs, H a = some (.tup xs) → xs[i]? = some x, fun i H => ∃ xs : List V, H a = some (.tup xs) ∧ xs.length = i⟩
theorem turn_enumT {P : Program} {w : World} {K : PySem.W.Frag} {elts : List Expr} {kk : Nat} {tpos : Pos} (a e it : Addr) :
    Turn P w K (.Tuple elts kk tpos) (IteT a) [e, it] e (fun i h => (∃ old, IsEnum h e it ((i : Nat) : Int) old) ∧ h.IsTupleIter it a i ∧ e ≠ it) where
  mem := by simp
  obj := fun i h st b hb => by
    obtain ⟨⟨old, he⟩, ⟨o, ho, hc, hd⟩, _⟩ := st
    have e' : b = e ∨ b = it := by simpa using hb
    rcases e' with z | z
    · rw [z]; exact ⟨_, he, fun v q => nomatch q⟩
    · rw [z]; exact ⟨o, ho, fun v q => by rw [hd] at q; cases q⟩
  keep := fun i h h' st k => let ⟨⟨old, he⟩, hi, hne⟩ := st; ⟨⟨old, k e (by simp) _ he⟩, hi.at fun o q => k it (by simp) o q, hne⟩
  item := by
    intro X hP hw hK hc i pins s σ H E I hf st hg
    subst hP hw hK
    obtain ⟨⟨old, he⟩, hit, hne⟩ := st
    obtain ⟨xs, x, hq, hx⟩ := hg
    obtain ⟨its, rv, p, hz⟩ := I.tuple (.inl (.inl hq))
    obtain ⟨u, hu, ru⟩ := rv.get hx
    have hel : e < s.heap.objs.size := Heap.lt_size he
    have nae : a ≠ e := fun z => by have := (hf e (by simp)).1; rw [← z, hq] at this; cases this
    have nai : a ≠ it := fun z => by have := (hf it (by simp)).1; rw [← z, hq] at this; cases this
    have hil : it < s.heap.objs.size := by obtain ⟨_, q, _⟩ := hit; exact Heap.lt_size q
    have hsz : i < its.toArray.size := by
      have := (List.getElem?_eq_some_iff.mp hu).1
      simpa using this
    refine wpAny_pyNext_enum_itemD (Draws.tuple (A := X.A.in1) (I.ok.hd hc) it a nai its.toArray) he ⟨hit, p⟩ hsz hne (by simp only [List.mem_cons, List.not_mem_nil, or_false, not_or]; exact ⟨hne, fun z => nae z.symm⟩) fun y h' tk hy ho hst hT hsz2 hk => ?_
    have ey : y = u := by
      have h1 : its.toArray[i]? = some u := by simpa using hu
      have hy' : its.toArray[i]? = some y := hy
      exact Option.some.inj (hy'.symm.trans h1)
    subst ey
    have hit' : h'.IsTupleIter it a (i + 1) := hst.1
    refine ⟨_, rfl, wpAny_letOwnedTupleGo_enum (s := { s with heap := h', toks := tk + 1 }) ho fun h'' he' sb => ?_⟩
    have hT2 : h''.get? s.heap.objs.size = some { cls := .type "tuple", data := .seq #[.int i tk, y] } := (sb.2 _ (Nat.ne_of_gt hel)).trans hT
    have new : ObjOk X.prog X.w (upd H s.heap.objs.size (.tup [.int (i : Nat), x])) h'' s.heap.objs.size (.tup [.int (i : Nat), x]) :=
      ⟨by show 2 ≤ sizeLine; decide, [.int i tk, y], .cons ⟨_, rfl⟩ (.cons ru .nil), ⟨_, hT2, rfl, _, rfl⟩⟩
    have I1 : Inv X pins σ (upd H s.heap.objs.size (.tup [.int (i : Nat), x])) { s with heap := h'', toks := tk + 1 } :=
      I.turnedNew (ch := [e, it]) (fun b ob hb q => (sb.2 b (fun z => hb (by simp [z]))).trans (hk b ob (fun z => hb (by simp [z])) (fun z => hb (by simp [z])) q)) hf (Nat.le_refl _) new
    refine ⟨.ref s.heap.objs.size, _, I1, rfl, ⟨_, x, rfl, I.hok.fresh (Nat.le_refl _), rfl, fun ys hy => ?_⟩, ⟨⟨y, ?_⟩, hit'.at fun o q => (sb.2 it (Ne.symm hne)).trans q, hne⟩, fun b hb => ?_⟩
    · rw [hq] at hy
      cases hy
      exact hx
    · have e1 : ((i + 1 : Nat) : Int) = (i : Int) + 1 := by omega
      rw [e1]; exact he'
    · have hb' : b < s.heap.objs.size := by
        have e' : b = e ∨ b = it := by simpa using hb
        rcases e' with z | z
        · rw [z]; exact hel
        · rw [z]; exact hil
      rw [upd_ne (Nat.ne_of_lt hb')]
      exact (hf b hb).1
  done := by
    intro X hP hw hK hc i pins s σ H E I hf st hg
    subst hP hw hK
    obtain ⟨⟨old, he⟩, hit, hne⟩ := st
    obtain ⟨xs, hq, hx⟩ := hg
    obtain ⟨its, rv, p, hz⟩ := I.tuple (.inl (.inl hq))
    have nai : a ≠ it := fun z => by have := (hf it (by simp)).1; rw [← z, hq] at this; cases this
    have hl := rv.length
    have ei : i = its.toArray.size := by rw [List.size_toArray]; omega
    subst ei
    exact wpAny_pyNext_enum_endD (Draws.tuple (A := X.A.in1) (I.ok.hd hc) it a nai its.toArray) he ⟨hit, p⟩ fun h' eb => ⟨rfl, I.turned (t' := s.toks) (fun b o hb q => eb b o hb q) (hf it (by simp)).1 (hf it (by simp)).2.1 (hf it (by simp)).2.2.2.1 (hf it (by simp)).2.2.2.2.1 (hf it (by simp)).2.2.2.2.2⟩
  self := fun A i s Q E st h => let ⟨⟨_, he⟩, _⟩ := st; wpAny_pyIter_enum he h
def iEnumT (ta : TA) : TI := fun σ H R => ta σ H fun vs H1 => ∃ a xs, vs = [V.ref a] ∧ H1 a = some (.tup xs) ∧ R (IteT a) H1
theorem pi_enumT {X : Cx} {e : Expr} {ta : TA} {p pos tpos : Pos} {elts : List Expr} {kk : Nat} (hg : Gl X "enumerate") (hm : X.mg "enumerate" = none) (ha : PA X [e] ta) (hs : starEach [e] X.env = [(false, eval e X.env)]) :
    PI X (.Tuple elts kk tpos) (.Call (.Name "enumerate" p) [e] [] pos) (iEnumT ta) := by
  refine ⟨fun pins s σ H R I h => ?_⟩
  refine Call_ (ld_blt I hg hm boot_enumerate (PyProof.Rows.callWith_type1 (thn (ha.run pos pins s σ H _ I h) fun us s1 ⟨vs, H1, I1, r1, q1⟩ => ?_) hs rfl))
  obtain ⟨a, xs, ex, hq, q⟩ := q1
  subst ex
  cases r1 with
  | cons r rr =>
    cases rr
    cases r
    obtain ⟨its, rv, p', hz⟩ := I1.tuple (.inl (.inl hq))
    refine call_enumerateT (show s1.heap.IsTuple a its.toArray from p') fun h' he hit hsz hk => wpAny_pyIter_enum he ?_
    have I2 : Inv X pins σ H1 { s1 with heap := h' } := I1.kept (t' := s1.toks) hk
    refine ⟨s1.heap.objs.size + 1, [s1.heap.objs.size + 1, s1.heap.objs.size], _, _, H1, rfl, I2, turn_enumT a (s1.heap.objs.size + 1) s1.heap.objs.size, ⟨⟨.none, he⟩, hit, Nat.succ_ne_self _⟩, fun b hb => ?_, q⟩
    have e' : b = s1.heap.objs.size + 1 ∨ b = s1.heap.objs.size := by simpa using hb
    have hle : s1.heap.objs.size ≤ b := by
      rcases e' with z | z
      · rw [z]; exact Nat.le_add_right _ _
      · rw [z]; exact Nat.le_refl _
    exact I1.fpOk hle (I1.hok.fresh hle)
theorem walk_enumT {a : Addr} {xs : List V} : Walk (IteT a) xs.length (fun H => H a = some (.tup xs)) (YPair (fun i => some (.int (i : Nat))) (fun i => xs[i]?)) := by
  refine ⟨fun i _ hi q => ⟨xs, xs[i], q, by simp [hi]⟩, fun _ q => ⟨xs, q, rfl⟩, fun i H v H' _ q y => ?_⟩
  obtain ⟨T, x, h1, h2, h3, h4⟩ := y
  exact ⟨T, .int (i : Nat), x, h1, h2, h3, rfl, h4 xs q⟩
theorem walk_zipT {K : PySem.W.Frag} {a b : Addr} {xs ys : List V} {n : Nat} (hn : n = min xs.length ys.length) : Walk (RZ.ItzT K a b) n (fun H => SqT K H a xs ∧ SqT K H b ys) (YPair (fun i => xs[i]?) (fun i => ys[i]?)) := by
  subst hn
  refine ⟨fun i _ hi q => ?_, fun _ q => ⟨xs, ys, q.1, q.2, by omega⟩, fun i H v H' _ q y => ?_⟩
  · have h1 : i < xs.length := by omega
    have h2 : i < ys.length := by omega
    exact ⟨xs, ys, xs[i], ys[i], q.1, q.2, by simp [h1], by simp [h2]⟩
  · obtain ⟨T, x, z, h1, h2, h3, h4, h5⟩ := y
    exact ⟨T, x, z, h1, h2, h3, h4 xs q.1, h5 ys q.2⟩
end TWR
end

section
/-! iterables -/
namespace TW
open PySem (Str Addr Expr Pos Value Obj Shared model PyData Scope)
open L2 (V HO Hp Rd upd upd_same upd_ne TE TT TA TS TI VK XK Cx PE PT PW PA PS PSs PG PI OpR R2 CallR Walk YAt YFn YPair)
variable {c : Ct} {X : Cx} {k : Nat} {sc : Scope}
/-- what is kept aside while it is walked: by its slot -/
def HVs (C : C0) (H : Hp) (Z : Addr → Prop) (s : L2.St) : List (Nat × D) → List Addr → Prop
  | [], f => f = []
  | (i, d) :: h, f => ∃ v f1 f2, s[i]? = some (some v) ∧ R C H Z d v f1 ∧ HVs C H Z s h f2 ∧ f = f1 ++ f2
theorem HVs.mono {C : C0} {H H' : Hp} {Z Z' : Addr → Prop} {s : L2.St} : ∀ {h : List (Nat × D)} {f : List Addr}, HVs C H Z s h f → Kp H H' Z Z' f → HVs C H' Z' s h f
  | [], _, e, _ => e
  | (i, d) :: h, f, ⟨v, f1, f2, e1, e2, e3, e4⟩, k => by
    subst e4
    exact ⟨v, f1, f2, e1, e2.mono (k.sub fun _ z => List.mem_append_left _ z), e3.mono (k.sub fun _ z => List.mem_append_right _ z), rfl⟩
theorem HVs.at {C : C0} {H : Hp} {Z : Addr → Prop} {s s' : L2.St} : ∀ {h : List (Nat × D)} {f : List Addr}, HVs C H Z s h f → (∀ i ∈ h.map (·.1), s'[i]? = s[i]?) → HVs C H Z s' h f
  | [], _, e, _ => e
  | (i, d) :: h, f, ⟨v, f1, f2, e1, e2, e3, e4⟩, k => ⟨v, f1, f2, by rw [k i (by simp), e1], e2, e3.at fun j hj => k j (List.mem_cons_of_mem _ hj), e4⟩
theorem HVs.app {C : C0} {H : Hp} {Z : Addr → Prop} {s : L2.St} : ∀ {h h2 : List (Nat × D)} {f f2 : List Addr}, HVs C H Z s h f → HVs C H Z s h2 f2 → HVs C H Z s (h ++ h2) (f ++ f2)
  | [], h2, f, f2, e, k => by
    have : f = [] := e
    subst this
    exact k
  | (i, d) :: h, h2, f, g, ⟨v, f1, f2, e1, e2, e3, e4⟩, k => by
    subst e4
    exact ⟨v, f1, f2 ++ g, e1, e2, e3.app k, by simp⟩
theorem putHeld_ok {C : C0} {H : Hp} {Z : Addr → Prop} {xo : Option Xo} {s : L2.St} : ∀ {h : List (Nat × D)} {f F : List Addr} {r r' : Sl}, HVs C H Z s h f → RSt C H Z xo 0 r s F → putHeld h r = some r' → ∃ F', RSt C H Z xo 0 r' s F' ∧ (f ++ F).Perm F'
  | [], f, F, r, r', e, hs, hp => by
    have e1 : f = [] := e
    have e2 : r = r' := by simpa [putHeld] using hp
    subst e1 e2
    exact ⟨F, hs, List.Perm.refl _⟩
  | (i, d) :: h, f, F, r, r', ⟨v, f1, f2, e1, e2, e3, e4⟩, hs, hp => by
    subst e4
    simp only [putHeld] at hp
    split at hp
    · rename_i hr
      have hlt : i < r.length := (List.getElem?_eq_some_iff.mp hr).1
      obtain ⟨p, g, q, a1, a2, a3⟩ := hs.focus i hlt
      obtain ⟨y, hy, hR⟩ := a2 _ hr
      have eg : g = [] := hR
      subst eg
      have ey : y = v := by
        rw [e1] at hy
        exact (Option.some.inj (Option.some.inj hy)).symm
      subst ey
      have hs2 := (a3 H Z ⟨fun _ z => z, fun _ _ _ e => e⟩).1 d y f1 (RX.of e2)
      have hss : s.set i (some y) = s := set_self e1
      rw [hss] at hs2
      obtain ⟨F', b1, b2⟩ := putHeld_ok e3 hs2 hp
      refine ⟨F', b1, List.Perm.trans ?_ b2⟩
      rw [a1]
      simp only [List.append_nil, List.append_assoc]
      rw [← List.append_assoc, ← List.append_assoc f2]
      refine (List.Perm.append_right (p ++ q) List.perm_append_comm).trans ?_
      simp only [List.append_assoc]
      refine List.Perm.append_left f2 ?_
      rw [← List.append_assoc, ← List.append_assoc]
      exact List.Perm.append_right q List.perm_append_comm
    · cases hp
/-- the walk gives these, one by one -/
def Wk (C : C0) (H1 : Hp) (Z1 : Addr → Prop) (g : List Addr) (J : L2.It) (items : List D) : Prop :=
  ∃ (G : Hp → Prop) (Y : Nat → Hp → V → Hp → Prop), Walk J items.length G Y ∧ (∀ H2 Z2, Kp H1 H2 Z1 Z2 g → G H2) ∧ ∀ i d x H2 Z2 H3, items[i]? = some d → Kp H1 H2 Z1 Z2 g → (∀ a, Z2 a → H2 a ≠ none) → Y i H2 x H3 → ∃ Z3, Stp H2 Z2 [] H3 Z3 [] ∧ R C H3 Z3 d x []
def WnI (c : Ct) (H : Hp) (Z : Addr → Prop) (F : List Addr) (s : L2.St) (Q : L2.It → Hp → Prop) (res : RI) : Prop := match res with
  | .ok items held r' => ∀ J H' Z' F' gh gt, Stp H Z F H' Z' (gh ++ gt ++ F') → RSt c.C H' Z' c.xo 0 r' s F' → HVs c.C H' Z' s held gh → Wk c.C H' Z' (gh ++ gt) J items → Q J H'
  | .exc n v r' => ∀ A dd H', PX c H Z F s n v r' A dd H' → c.W (.ref A) (some dd) s H'
  | .bad => False
def tI (c : Ct) (it : TW.It) : TI := fun s H Q => ∃ r Z F, Iv H Z F ∧ RSt c.C H Z c.xo 0 r s F ∧ WnI c H Z F s Q (evIt c.g it r)
theorem _root_.L2.PI.imp {X : Cx} {tg e : Expr} {t t' : TI} (h : PI X tg e t) (i : ∀ s H Q, t' s H Q → t s H Q) : PI X tg e t' := ⟨fun pins s σ H Q I q => h.run pins s σ H Q I (i _ _ _ q)⟩
theorem _root_.L2.PI.or {X : Cx} {tg e : Expr} {t t' : TI} (h : PI X tg e t) (h' : PI X tg e t') : PI X tg e (fun s H Q => t s H Q ∨ t' s H Q) :=
  ⟨fun pins s σ H Q I q => q.elim (h.run pins s σ H Q I) (h'.run pins s σ H Q I)⟩
/-- one thing to walk -/
def WnLf (c : Ct) (H : Hp) (Z : Addr → Prop) (F : List Addr) (s : L2.St) (Q : VK) (res : RI) : Prop := match res with
  | .ok ds held r' => ∀ x H', (∃ d Z' F' gh gt f, ds = [d] ∧ Stp H Z F H' Z' (gh ++ gt ++ F') ∧ RSt c.C H' Z' c.xo 0 r' s F' ∧ HVs c.C H' Z' s held gh ∧ R c.C H' Z' d x f ∧ ∀ a ∈ f, a ∈ gh ++ gt) → Q x H'
  | .exc n v r' => ∀ A dd H', PX c H Z F s n v r' A dd H' → c.W (.ref A) (some dd) s H'
  | .bad => False
def tLf (c : Ct) (l : Lf) : TE := fun s H Q => ∃ r Z F, Iv H Z F ∧ RSt c.C H Z c.xo 0 r s F ∧ WnLf c H Z F s Q (evLf c.g l r)
theorem sf_ex {e : E} {pe : Expr} (h : PE X pe (tE c e)) : PE X pe (tLf c (.ex e)) :=
  h.imp fun s H Q ⟨r, Z, F, i0, hs, h⟩ => by
    refine ⟨r, Z, F, i0, hs, ?_⟩
    simp only [evLf] at h
    cases hv : ev c.g e r with
    | bad => rw [hv] at h; exact h
    | brw d r' => rw [hv] at h; exact h.elim
    | exc n v r' => rw [hv] at h; exact h
    | ok d r' =>
      rw [hv] at h
      exact fun x H' ⟨Z', F', f, st, rs, hr, pp⟩ => h x H' ⟨d, Z', F', [], f, f, rfl, st, rs, rfl, hr, fun a z => z⟩
theorem sf_pl {p : P} {pe : Expr} (hp : PE X pe (tP c p)) : PE X pe (tLf c (.pl p)) :=
  hp.imp fun s H Q ⟨r, Z, F, i0, hs, h⟩ => by
    simp only [evLf] at h
    cases hw : evP c.g p r with
    | none => rw [hw] at h; exact h.elim
    | some w =>
      rw [hw] at h
      simp only at h
      cases hg : getP r w with
      | none => rw [hg] at h; exact h.elim
      | some d =>
        rw [hg] at h
        simp only at h
        refine ⟨r, Z, F, w, d, i0, hs, hw, hg, fun x H' Z' st ⟨p1, g1, q1, hf⟩ => ?_⟩
        have st0 : Stp H Z F H' Z' F := by simpa using st.lift i0
        split at h
        · cases p with
          | var i =>
            simp only at h
            have ew : w = ⟨i, []⟩ := by simpa [evP] using hw.symm
            subst ew
            have hh : d ≠ .hole := fun e => by subst e; exact h.elim
            have h' : WnLf c H Z F s Q (.ok [d] [(i, d)] (r.set i (some .hole))) := by
              cases d with
              | hole => exact absurd rfl hh
              | _ => exact h
            have hset : setP r ⟨i, []⟩ .hole = some (r.set i (some .hole)) := by
              have hg' := hg
              unfold getP at hg'
              unfold setP
              simp only at hg' ⊢
              split at hg'
              · cases hg'
              · rename_i d0 hn hr0
                cases d0 with
                | exc n v => exact absurd rfl (hn n v)
                | _ => rfl
              · cases hg'
            have hs2 := hf.put H' Z' ⟨fun _ z => z, fun _ _ _ e => e⟩ .hole [] rfl _ hset
            simp only [List.append_nil] at hs2
            have pm : F.Perm (g1 ++ [] ++ (p1 ++ q1)) := by
              rw [hf.eq, List.append_nil, ← List.append_assoc]
              exact List.Perm.append_right q1 List.perm_append_comm
            have hv : s[i]? = some (some x) := by
              have := hf.vg0
              unfold vgS at this
              simp only at this
              split at this
              · rename_i y hy
                rw [hy]
                simpa [vget] using this
              · cases this
            exact h' x H' ⟨d, Z', p1 ++ q1, g1, [], g1, rfl, st0.perm pm, hs2, ⟨x, g1, [], hv, hf.at_, rfl, by simp⟩, hf.at_, fun a z => by simp [z]⟩
          | _ => exact h.elim
        · rename_i hno
          have hr := hf.at_
          have hg1 := hr.noown (by simpa using hno)
          subst hg1
          exact h x H' ⟨d, Z', F, [], [], [], rfl, st0, hs.mono st.kpAll, rfl, hr, fun a z => z⟩
theorem WnLf.len {H : Hp} {Z : Addr → Prop} {F : List Addr} {s : L2.St} {g : G} {l : Lf} {r r' : Sl} {ds : List D} {h : List (Nat × D)} (e : evLf g l r = .ok ds h r') : ∃ d, ds = [d] := by
  cases l with
  | ex e0 =>
    simp only [evLf] at e
    split at e <;> cases e
    exact ⟨_, rfl⟩
  | pl p =>
    simp only [evLf] at e
    split at e
    · split at e
      · split at e
        · split at e
          · split at e <;> cases e
            exact ⟨_, rfl⟩
          · cases e
        · cases e; exact ⟨_, rfl⟩
      · cases e
    · cases e
/-- a walk over things that stay -/
theorem wk_at {C : C0} {H1 : Hp} {Z1 : Addr → Prop} {g : List Addr} {J : L2.It} {items : List D} {xs : List V} (G : Hp → Prop) (w : Walk J xs.length G (YAt xs)) (hG : ∀ H2 Z2, Kp H1 H2 Z1 Z2 g → G H2) (hL : RL C H1 Z1 items xs []) : Wk C H1 Z1 g J items := by
  refine ⟨G, YAt xs, by rw [← hL.len]; exact w, hG, fun i d x H2 Z2 H3 hi kp hz ⟨e1, e2⟩ => ?_⟩
  subst e1
  obtain ⟨v, p, f, q, a1, a2, a3, _⟩ := hL.at hi
  have ef : f = [] := by
    have := congrArg List.length a2
    simp at this
    exact List.eq_nil_of_length_eq_zero (by omega)
  subst ef
  have ev : v = x := Option.some.inj (a1.symm.trans e2)
  subst ev
  exact ⟨Z2, Stp.refl (iv0 hz), a3.mono (kp.sub (fun _ z => nomatch z))⟩
theorem RL.enum {C : C0} {H : Hp} {Z : Addr → Prop} : ∀ {ds : List D} {n i : Nat} {d : D}, (enumD n ds)[i]? = some d → ∃ e, ds[i]? = some e ∧ d = .tup [.int ((n + i : Nat) : Int), e]
  | [], n, i, d, h => by simp [enumD] at h
  | e :: ds, n, 0, d, h => by
    have : d = .tup [.int (n : Int), e] := by simpa [enumD] using h.symm
    exact ⟨e, rfl, this⟩
  | e :: ds, n, i + 1, d, h => by
    obtain ⟨e', h1, h2⟩ := RL.enum (C := C) (H := H) (Z := Z) (ds := ds) (n := n + 1) (i := i) (by simpa [enumD] using h)
    exact ⟨e', by simpa using h1, by rw [h2, show n + 1 + i = n + (i + 1) from by omega]⟩
theorem enumD_len : ∀ (ds : List D) (n : Nat), (enumD n ds).length = ds.length
  | [], _ => rfl
  | d :: ds, n => by simp [enumD, enumD_len ds]
theorem zipD_len : ∀ (xs ys : List D), (zipD xs ys).length = min xs.length ys.length
  | [], ys => by simp [zipD]
  | x :: xs, [] => by simp [zipD]
  | x :: xs, y :: ys => by simp [zipD, zipD_len xs ys]
theorem zipD_at : ∀ {xs ys : List D} {i : Nat} {d : D}, (zipD xs ys)[i]? = some d → ∃ x y, xs[i]? = some x ∧ ys[i]? = some y ∧ d = .tup [x, y]
  | [], ys, i, d, h => by simp [zipD] at h
  | x :: xs, [], i, d, h => by simp [zipD] at h
  | x :: xs, y :: ys, 0, d, h => ⟨x, y, rfl, rfl, by simpa [zipD] using h.symm⟩
  | x :: xs, y :: ys, i + 1, d, h => by
    obtain ⟨a, b, h1, h2, h3⟩ := zipD_at (xs := xs) (ys := ys) (i := i) (by simpa [zipD] using h)
    exact ⟨a, b, by simpa using h1, by simpa using h2, h3⟩
theorem RL.at0 {C : C0} {H : Hp} {Z : Addr → Prop} {ds : List D} {vs : List V} {i : Nat} {d : D} (h : RL C H Z ds vs []) (e : ds[i]? = some d) : ∃ v, vs[i]? = some v ∧ R C H Z d v [] := by
  obtain ⟨v, p, f, q, a1, a2, a3, _⟩ := h.at e
  have ef : f = [] := by
    have := congrArg List.length a2
    simp at this
    exact List.eq_nil_of_length_eq_zero (by omega)
  subst ef
  exact ⟨v, a1, a3⟩
/-- .. over new pairs -/
theorem wk_pair {C : C0} {H1 : Hp} {Z1 : Addr → Prop} {g : List Addr} {J : L2.It} {items : List D} {n : Nat} {xs ys : Nat → Option V} (G : Hp → Prop) (w : Walk J n G (YPair xs ys)) (hn : items.length = n) (hG : ∀ H2 Z2, Kp H1 H2 Z1 Z2 g → G H2)
    (hL : ∀ i d, items[i]? = some d → ∃ a b x y, d = .tup [a, b] ∧ xs i = some x ∧ ys i = some y ∧ R C H1 Z1 a x [] ∧ R C H1 Z1 b y []) : Wk C H1 Z1 g J items := by
  refine ⟨G, YPair xs ys, by rw [hn]; exact w, hG, fun i d v H2 Z2 H3 hi kp hz ⟨T, x, y, e1, e2, e3, e4, e5⟩ => ?_⟩
  subst e1 e3
  obtain ⟨a, b, x', y', rfl, h1, h2, ra, rb⟩ := hL i d hi
  have ex : x' = x := Option.some.inj (h1.symm.trans e4)
  have ey : y' = y := Option.some.inj (h2.symm.trans e5)
  subst ex ey
  have k0 : Kp H1 H2 Z1 Z2 [] := kp.sub (fun _ z => nomatch z)
  exact ⟨Zf Z2 [T], Stp.newZ (iv0 hz) e2, rfl, T, _, rfl, upd_same, .inr (by simp), x', [y'], [], [], rfl, (ra.mono k0).mono (kpN e2), ⟨y', [], [], [], rfl, (rb.mono k0).mono (kpN e2), ⟨rfl, rfl⟩, rfl⟩, rfl⟩
theorem R.lstG {C : C0} {H : Hp} {Z : Addr → Prop} {o : Bool} {ds : List D} {x : V} {f : List Addr} (h : R C H Z (.lst o ds) x f) (n : ownL ds = false) : ∃ a vs, x = .ref a ∧ H a = some (.lst vs) ∧ RL C H Z ds vs [] ∧ (a ∈ f ∨ Z a) := by
  cases o with
  | true =>
    obtain ⟨a, vs, g, e1, e2, e3, e4⟩ := h
    have := e3.noown n
    subst this
    exact ⟨a, vs, e1, e2, e3, .inl (by rw [e4]; simp)⟩
  | false =>
    obtain ⟨_, a, vs, e1, e2, ez, e3⟩ := h
    exact ⟨a, vs, e1, e2, e3, .inr ez⟩
theorem si_one {l : Lf} {tg pe : Expr} (hK : X.K = c.C.K) (h : PE X pe (tLf c l)) : PI X tg pe (tI c (.one l)) :=
  ((L2.pi_list h).or (L2.pi_tup h)).imp fun s H Q ⟨r, Z, F, i0, hs, h⟩ => by
    simp only [evIt] at h
    rw [hK]
    cases hv : evLf c.g l r with
    | bad => rw [hv] at h; exact h.elim
    | exc n v r' => rw [hv] at h; exact .inl ⟨r, Z, F, i0, hs, by rw [hv]; exact h⟩
    | ok ds hd r' =>
      obtain ⟨d, rfl⟩ := WnLf.len (H := H) (Z := Z) (F := F) (s := s) hv
      rw [hv] at h
      simp only at h
      cases d with
      | lst o xs =>
        simp only at h
        split at h
        · exact h.elim
        · rename_i hno
          refine .inl ⟨r, Z, F, i0, hs, ?_⟩
          rw [hv]
          intro x H' ⟨d, Z', F', gh, gt, f, ed, st, rs, hh, hr, hf⟩
          cases ed
          obtain ⟨a, vs, rfl, e2, e3, e4⟩ := hr.lstG (by simpa using hno)
          refine ⟨a, rfl, ⟨vs, .inl (.inl e2)⟩, h _ H' Z' F' gh gt st rs hh (wk_at _ L2.walk_list (fun H2 Z2 kp => .inl (.inl (kp.2 a _ (e4.imp (hf a) id) e2))) e3)⟩
      | tup xs =>
        refine .inr ⟨r, Z, F, i0, hs, ?_⟩
        rw [hv]
        intro x H' ⟨d, Z', F', gh, gt, f, ed, st, rs, hh, hr, hf⟩
        cases ed
        obtain ⟨a, vs, rfl, e2, za, e3⟩ := hr.tupOf
        exact ⟨a, rfl, ⟨vs, .inl (.inl e2)⟩, h _ H' Z' F' gh gt st rs hh (wk_at _ L2.walk_tup (fun H2 Z2 kp => .inl (.inl (kp.2 a _ (.inr za) e2))) e3)⟩
      | scr ns =>
        refine .inl ⟨r, Z, F, i0, hs, ?_⟩
        rw [hv]
        intro x H' ⟨d, Z', F', gh, gt, f, ed, st, rs, hh, hr, hf⟩
        cases ed
        obtain ⟨_, a, rfl, e2⟩ := hr
        have : ∀ ns : List Int, RL c.C H' Z' (ns.map .int) (ns.map V.int) [] := fun ns => by
          induction ns with
          | nil => exact ⟨rfl, rfl⟩
          | cons n ns ih => exact ⟨_, _, [], [], rfl, ⟨rfl, rfl⟩, ih, rfl⟩
        exact ⟨a, rfl, ⟨_, e2.sq⟩, h _ H' Z' F' gh gt st rs hh (wk_at _ L2.walk_list (fun H2 Z2 kp => (e2.mono kp).sq) (this ns))⟩
      | _ => exact h.elim
/-! ### ranges -/
theorem rangeD_at {a : Int} {n i : Nat} {d : D} (h : (rangeD a n)[i]? = some d) : d = .int (a + (i : Nat)) := by
  unfold rangeD at h
  rw [List.getElem?_map] at h
  obtain ⟨j, hj, rfl⟩ := Option.map_eq_some_iff.mp h
  have hlt := (List.getElem?_eq_some_iff.mp hj).1
  have : j = i := by
    rw [List.getElem?_range (by simpa using hlt)] at hj
    exact (Option.some.inj hj).symm
  rw [this]
theorem wk_range {C : C0} {H1 : Hp} {Z1 : Addr → Prop} (a : Int) (n : Nat) : Wk C H1 Z1 [] (L2.Itr a n) (rangeD a n) := by
  refine ⟨fun _ => True, YFn fun i => .int (a + (i : Nat)), ?_, fun _ _ _ => trivial, fun i d x H2 Z2 H3 hi kp hz ⟨e1, e2⟩ => ?_⟩
  · have : (rangeD a n).length = n := by simp [rangeD]
    rw [this]
    exact L2.walk_range
  · subst e1 e2
    rw [rangeD_at hi]
    exact ⟨Z2, Stp.refl (iv0 hz), rfl, rfl⟩
theorem si_rng1 {a : E} {tg pa : Expr} {p pos : Pos} (bt : Bt X "range") (ha : PE X pa (tE c a)) (pl : Pl X pa) : PI X tg (.Call (.Name "range" p) [pa] [] pos) (tI c (.rng1 a)) :=
  (L2.pi_range1 bt.gl bt.no (L2.pa_cons ha L2.pa_nil (pl [])) (by rw [pl []]; rfl)).imp fun s H Q ⟨r, Z, F, i0, hs, h⟩ => by
    refine ⟨r, Z, F, i0, hs, ?_⟩
    simp only [evIt] at h
    cases hv : ev c.g a r with
    | bad => rw [hv] at h; exact h
    | brw d r' => rw [hv] at h; exact h.elim
    | exc n v r' => rw [hv] at h; exact h
    | ok d r' =>
      rw [hv] at h
      cases d <;> try exact h.elim
      rename_i n
      simp only at h
      split at h
      · rename_i hc
        have e : (LINE : Int) = 16777216 := rfl
        simp only [Bool.and_eq_true, decide_eq_true_eq, e] at hc
        obtain ⟨h1, h2⟩ := hc
        intro x H' ⟨Z', F', f, st, rs, hr, pp⟩
        obtain ⟨rfl, rfl⟩ := hr
        exact ⟨n, rfl, by omega, by omega, h _ H' Z' F' [] [] st rs rfl (wk_range 0 _)⟩
      · exact h.elim
theorem si_rng2 {a b : E} {tg pa pb : Expr} {p pos : Pos} (bt : Bt X "range") (ha : PE X pa (tE c a)) (hb : PE X pb (tE c b)) (pl : Pl X pa) (plb : Pl X pb) : PI X tg (.Call (.Name "range" p) [pa, pb] [] pos) (tI c (.rng2 a b)) :=
  (L2.pi_range2 bt.gl bt.no (L2.pa_cons ha (L2.pa_cons hb L2.pa_nil (plb [])) (pl _)) (by rw [pl, plb]; rfl) (by rw [plb]; rfl)).imp fun s H Q ⟨r, Z, F, i0, hs, h⟩ => by
    refine ⟨r, Z, F, i0, hs, ?_⟩
    simp only [evIt] at h
    cases hv : ev c.g a r with
    | bad => rw [hv] at h; exact h
    | brw d r' => rw [hv] at h; exact h.elim
    | exc n v r' => rw [hv] at h; exact h
    | ok d r' =>
      rw [hv] at h
      cases d <;> try exact h.elim
      rename_i m
      simp only at h
      intro x H' ⟨Z', F', f, st, rs, hr, pp⟩
      obtain ⟨rfl, rfl⟩ := hr
      have st' : Stp H Z F H' Z' F' := st
      refine ⟨r', Z', F', st'.iv, rs, ?_⟩
      cases hw : ev c.g b r' with
      | bad => rw [hw] at h; exact h
      | brw d r' => rw [hw] at h; exact h.elim
      | exc n v r2 =>
        rw [hw] at h
        exact fun A dd H2 ⟨Z2, F2, w, s2, rest⟩ => h A dd H2 ⟨Z2, F2, w, st'.trans s2, rest⟩
      | ok d r2 =>
        rw [hw] at h
        cases d <;> try exact h.elim
        rename_i n
        simp only at h
        split at h
        · rename_i hc
          have e : (LINE : Int) = 16777216 := rfl
          simp only [Bool.and_eq_true, decide_eq_true_eq, e] at hc
          obtain ⟨⟨⟨h1, h2⟩, h3⟩, h4⟩ := hc
          intro y H2 ⟨Z2, F2, f2, s2, rs2, hr2, pp2⟩
          obtain ⟨rfl, rfl⟩ := hr2
          exact ⟨m, n, rfl, ⟨by omega, by omega, by omega, by omega⟩, h _ H2 Z2 F2 [] [] (st'.trans s2) rs2 rfl (wk_range m _)⟩
        · exact h.elim
/-! ### enumerate, zip -/
theorem si_enu {l : Lf} {pe : Expr} {p pos tpos : Pos} {elts : List Expr} {kk : Nat} (hK : X.K = c.C.K) (bt : Bt X "enumerate") (h : PE X pe (tLf c l)) (pl : Pl X pe) : PI X (.Tuple elts kk tpos) (.Call (.Name "enumerate" p) [pe] [] pos) (tI c (.enu l)) :=
  ((L2.pi_enum bt.gl bt.no (L2.pa_cons h L2.pa_nil (pl [])) (by rw [pl []]; rfl)).or (TWR.pi_enumT bt.gl bt.no (L2.pa_cons h L2.pa_nil (pl [])) (by rw [pl []]; rfl))).imp fun s H Q ⟨r, Z, F, i0, hs, h⟩ => by
    simp only [evIt] at h
    rw [hK]
    cases hv : evLf c.g l r with
    | bad => rw [hv] at h; exact h.elim
    | exc n v r' => rw [hv] at h; exact .inl ⟨r, Z, F, i0, hs, by rw [hv]; exact h⟩
    | ok ds hd r' =>
      obtain ⟨d, rfl⟩ := WnLf.len (H := H) (Z := Z) (F := F) (s := s) hv
      rw [hv] at h
      simp only at h
      have items : ∀ {H' : Hp} {Z' : Addr → Prop} {xs : List D} {vs : List V}, RL c.C H' Z' xs vs [] → ∀ i d, (enumD 0 xs)[i]? = some d → ∃ a b x y, d = D.tup [a, b] ∧ (fun i : Nat => some (V.int (i : Nat))) i = some x ∧ (fun i => vs[i]?) i = some y ∧ R c.C H' Z' a x [] ∧ R c.C H' Z' b y [] := fun {H' Z' xs vs} e3 i d hi => by
        obtain ⟨e, h1, h2⟩ := RL.enum (C := c.C) (H := H') (Z := Z') hi
        obtain ⟨v, h3, h4⟩ := e3.at0 h1
        refine ⟨_, _, _, v, h2, rfl, h3, ⟨by simp, rfl⟩, h4⟩
      cases d with
      | lst o xs =>
        simp only at h
        split at h
        · exact h.elim
        · rename_i hno
          refine .inl ⟨r, Z, F, i0, hs, ?_⟩
          rw [hv]
          intro x H' ⟨d, Z', F', gh, gt, f, ed, st, rs, hh, hr, hf⟩
          cases ed
          obtain ⟨a, vs, rfl, e2, e3, e4⟩ := hr.lstG (by simpa using hno)
          exact ⟨a, vs, rfl, .inl (.inl e2), h _ H' Z' F' gh gt st rs hh (wk_pair _ L2.walk_enum (by rw [enumD_len]; exact e3.len.symm) (fun H2 Z2 kp => .inl (.inl (kp.2 a _ (e4.imp (hf a) id) e2))) (items e3))⟩
      | tup xs =>
        refine .inr ⟨r, Z, F, i0, hs, ?_⟩
        rw [hv]
        intro x H' ⟨d, Z', F', gh, gt, f, ed, st, rs, hh, hr, hf⟩
        cases ed
        obtain ⟨a, vs, rfl, e2, za, e3⟩ := hr.tupOf
        exact ⟨a, vs, rfl, e2, h _ H' Z' F' gh gt st rs hh (wk_pair _ TWR.walk_enumT (by rw [enumD_len]; exact e3.len.symm) (fun H2 Z2 kp => kp.2 a _ (.inr za) e2) (items e3))⟩
      | _ => exact h.elim
theorem si_zip {l m : Lf} {pe pf : Expr} {p pos tpos : Pos} {elts : List Expr} {kk : Nat} (hK : X.K = c.C.K) (bt : Bt X "zip") (h1 : PE X pe (tLf c l)) (h2 : PE X pf (tLf c m)) (pl : Pl X pe) (pl2 : Pl X pf) : PI X (.Tuple elts kk tpos) (.Call (.Name "zip" p) [pe, pf] [] pos) (tI c (.zip l m)) :=
  (RZ.pi_zipA bt.gl bt.no (L2.pa_cons h1 (L2.pa_cons h2 L2.pa_nil (pl2 [])) (pl _)) (pl _) (backTo_one pl2)).imp fun s H Q ⟨r, Z, F, i0, hs, h⟩ => by
    simp only [evIt] at h
    rw [hK]
    refine ⟨r, Z, F, i0, hs, ?_⟩
    cases hv : evLf c.g l r with
    | bad => rw [hv] at h; exact h.elim
    | exc n v r' => rw [hv] at h; exact h
    | ok ds hd r' =>
      obtain ⟨d, rfl⟩ := WnLf.len (H := H) (Z := Z) (F := F) (s := s) hv
      rw [hv] at h
      simp only at h
      intro x H' ⟨d', Z', F', gh, gt, f, ed, st, rs, hh, hr, hf⟩
      cases ed
      refine ⟨r', Z', F', st.iv.sub (List.sublist_append_right _ _), rs, ?_⟩
      have st0 : Stp H Z F H' Z' F' := st.sub (List.sublist_append_right _ _)
      cases hw : evLf c.g m r' with
      | bad => rw [hw] at h; exact h.elim
      | exc n v r2 =>
        rw [hw] at h
        exact fun A dd H2 ⟨Z2, F2, w, s2, rest⟩ => h A dd H2 ⟨Z2, F2, w, st0.trans s2, rest⟩
      | ok es hd2 r2 =>
        obtain ⟨e, rfl⟩ := WnLf.len (H := H) (Z := Z) (F := F) (s := s) hw
        rw [hw] at h
        simp only at h
        intro y H2 ⟨e', Z2, F2, gh2, gt2, f2, ee, s2, rs2, hh2, hr2, hf2⟩
        cases ee
        have s2' : Stp H' Z' F' H2 Z2 F2 := s2.sub (List.sublist_append_right _ _)
        have kp : Kp H' H2 Z' Z2 (gh ++ gt) := s2'.kp (st.iv.sub (List.sublist_append_right _ _)) fun a ha hb => (List.nodup_append.mp st.iv.nd).2.2 a ha a hb rfl
        have stA : Stp H Z F H2 Z2 ((gh ++ gh2) ++ (gt ++ gt2) ++ F2) := by
          have := st.trans (s2.frame st.iv)
          refine this.perm ?_
          simp only [List.append_assoc]
          refine List.Perm.append_left gh ?_
          have : ((gt ++ gh2) ++ (gt2 ++ F2)).Perm ((gh2 ++ gt) ++ (gt2 ++ F2)) := List.Perm.append_right _ List.perm_append_comm
          simpa using this
        have hhA : HVs c.C H2 Z2 s (hd ++ hd2) (gh ++ gh2) := (hh.mono (kp.sub fun a z => List.mem_append_left _ z)).app hh2
        have items : ∀ {xs ys : List D} {vs ws : List V}, RL c.C H2 Z2 xs vs [] → RL c.C H2 Z2 ys ws [] → ∀ i d, (zipD xs ys)[i]? = some d → ∃ a b x y, d = D.tup [a, b] ∧ (fun i => vs[i]?) i = some x ∧ (fun i => ws[i]?) i = some y ∧ R c.C H2 Z2 a x [] ∧ R c.C H2 Z2 b y [] := fun {xs ys vs ws} e3 e4 i d hi => by
          obtain ⟨a, b, h1, h2, h3⟩ := zipD_at hi
          obtain ⟨v, h4, h5⟩ := e3.at0 h1
          obtain ⟨w, h6, h7⟩ := e4.at0 h2
          exact ⟨a, b, v, w, h3, h4, h6, h5, h7⟩
        cases d with
        | lst o xs =>
          cases e with
          | lst o2 ys =>
            simp only at h
            split at h
            · exact h.elim
            · rename_i hno
              simp only [Bool.or_eq_true, not_or, Bool.not_eq_true] at hno
              obtain ⟨a, vs, rfl, b2, b3, b4⟩ := hr.lstG hno.1
              obtain ⟨a2, ws, rfl, c2, c3, c4⟩ := hr2.lstG hno.2
              have d2 := kp.2 a _ (b4.imp (hf a) id) b2
              refine ⟨a, a2, vs, ws, rfl, .inl ⟨.inl (.inl d2), .inl (.inl c2), h _ H2 Z2 F2 (gh ++ gh2) (gt ++ gt2) stA rs2 hhA (wk_pair _ (L2.walk_zip rfl) (by rw [zipD_len, ← b3.len, ← c3.len]) (fun H3 Z3 kp3 => ⟨.inl (.inl (kp3.2 a _ ?_ d2)), .inl (.inl (kp3.2 a2 _ ?_ c2))⟩) (items (b3.mono (kp.sub (fun _ z => nomatch z))) c3))⟩⟩
              · rcases b4 with z | z
                · have := hf a z
                  simp only [List.mem_append] at this ⊢
                  rcases this with q | q <;> simp [q]
                · exact .inr (kp.1 a z)
              · rcases c4 with z | z
                · have := hf2 a2 z
                  simp only [List.mem_append] at this ⊢
                  rcases this with q | q <;> simp [q]
                · exact .inr z
          | _ => exact h.elim
        | tup xs =>
          cases e with
          | tup ys =>
            obtain ⟨a, vs, rfl, b2, za, b3⟩ := hr.tupOf
            obtain ⟨a2, ws, rfl, c2, zb, c3⟩ := hr2.tupOf
            have d2 := kp.2 a _ (.inr za) b2
            exact ⟨a, a2, vs, ws, rfl, .inr ⟨.inl (.inl d2), .inl (.inl c2), h _ H2 Z2 F2 (gh ++ gh2) (gt ++ gt2) stA rs2 hhA (wk_pair _ (TWR.walk_zipT rfl) (by rw [zipD_len, ← b3.len, ← c3.len]) (fun H3 Z3 kp3 => ⟨.inl (.inl (kp3.2 a _ (.inr (kp.1 a za)) d2)), .inl (.inl (kp3.2 a2 _ (.inr zb) c2))⟩) (items (b3.mono (kp.sub (fun _ z => nomatch z))) c3))⟩⟩
          | _ => exact h.elim
        | _ => cases e <;> exact h.elim
end TW
end

section
/-! targets -/
namespace TW
open PySem (Str Addr Expr Pos Value Obj Shared model PyData Scope)
open L2 (V HO Hp Rd upd upd_same upd_ne TE TT TA TS TI TG TGs VK XK Cx PE PT PW PA PS PSs PG PGs PI OpR R2 CallR)
variable {c : Ct} {X : Cx} {k : Nat} {sc : Scope}
mutual
/-- the slots that a target stores -/
def Tg.slots : Tg → List Nat
  | .v i => [i]
  | .t ts => ts.slots
  | .s _ _ => []
  | .f _ _ => []
def Tgs.slots : Tgs → List Nat
  | .nil => []
  | .cons t ts => t.slots ++ ts.slots
end
/-- all slots but these are as they were -/
def SKo (ts : List Nat) (s s' : L2.St) : Prop := ∀ i, i ∉ ts → s'[i]? = s[i]?
theorem SKo.refl {ts : List Nat} {s : L2.St} : SKo ts s s := fun _ _ => rfl
theorem SKo.trans {ts us : List Nat} {s s' s'' : L2.St} (a : SKo ts s s') (b : SKo us s' s'') : SKo (ts ++ us) s s'' := fun i hi => by
  simp only [List.mem_append, not_or] at hi
  rw [b i hi.2, a i hi.1]
def tG (c : Ct) (tg : Tg) : TG := fun x s H Q => ∃ r Z F f d, Iv H Z (f ++ F) ∧ RSt c.C H Z c.xo 0 r s F ∧ R c.C H Z d x f ∧ match asg c.g tg d r with
  | some r' => ∀ s' H' Z' F', Stp H Z (f ++ F) H' Z' F' → RSt c.C H' Z' c.xo 0 r' s' F' → SKo tg.slots s s' → Q s' H'
  | none => False
def tGs (c : Ct) (ts : Tgs) : TGs := fun xs s H Q => ∃ r Z F f ds, Iv H Z (f ++ F) ∧ RSt c.C H Z c.xo 0 r s F ∧ RL c.C H Z ds xs f ∧ match asgs c.g ts ds r with
  | some r' => ∀ s' H' Z' F', Stp H Z (f ++ F) H' Z' F' → RSt c.C H' Z' c.xo 0 r' s' F' → SKo ts.slots s s' → Q s' H'
  | none => False
theorem _root_.L2.PG.imp {X : Cx} {e : Expr} {t t' : TG} (h : PG X e t) (i : ∀ x s H Q, t' x s H Q → t x s H Q) : PG X e t' := ⟨fun pins s σ H v u Q I r q => h.run pins s σ H v u Q I r (i _ _ _ _ q)⟩
theorem _root_.L2.PGs.imp {X : Cx} {e : List Expr} {t t' : TGs} (h : PGs X e t) (i : ∀ x s H Q, t' x s H Q → t x s H Q) : PGs X e t' := ⟨fun pins s σ H v u Q I r q => h.run pins s σ H v u Q I r (i _ _ _ _ q)⟩
theorem _root_.L2.PG.or {X : Cx} {e : Expr} {t t' : TG} (h : PG X e t) (h' : PG X e t') : PG X e (fun x s H Q => t x s H Q ∨ t' x s H Q) := ⟨fun pins s σ H v u Q I r q => q.elim (h.run pins s σ H v u Q I r) (h'.run pins s σ H v u Q I r)⟩
theorem kpU {H : Hp} {Z : Addr → Prop} {a : Addr} {o : HO} {l : List Addr} (hl : a ∉ l) (hz : ¬ Z a) : Kp H (upd H a o) Z Z l := ⟨fun _ z => z, fun b u hb hu => by
  rw [upd_ne]
  · exact hu
  · rintro rfl
    exact hb.elim hl hz⟩
/-- the things about an address that is written -/
theorem Foc.away {C : C0} {H : Hp} {Z : Addr → Prop} {xo : Option Xo} {r : Sl} {s : L2.St} {F f : List Addr} {w : Pth} {d : D} {x : V} {p g q g0 : List Addr} {a : Addr} (hf : Foc C H Z xo r s F w d x p g q) (i : Iv H Z (f ++ F)) (hg : g = a :: g0) :
    a ∉ f ∧ a ∉ g0 ∧ a ∉ p ++ q ∧ ¬ Z a ∧ a ∈ f ++ F := by
  have nd := List.nodup_append.mp i.nd
  have ndF := nd.2.1
  have hin : a ∈ F := by rw [hf.eq, hg]; simp
  rw [hf.eq, hg] at ndF
  refine ⟨fun z => nd.2.2 a z a hin rfl, ?_, ?_, i.nz a (List.mem_append_right _ hin), List.mem_append_right _ hin⟩
  · simp only [List.append_assoc, List.cons_append, List.nodup_append, List.nodup_cons, List.mem_append, not_or] at ndF
    exact ndF.2.1.1.1
  · simp only [List.append_assoc, List.cons_append, List.nodup_append, List.nodup_cons, List.mem_append, not_or] at ndF ⊢
    exact ⟨fun z => ndF.2.2 a z a (by simp) rfl, ndF.2.1.1.2⟩
/-- .. and what is then -/
theorem Foc.wrote {C : C0} {H : Hp} {Z : Addr → Prop} {xo : Option Xo} {r r' : Sl} {s : L2.St} {F f : List Addr} {w : Pth} {d d' : D} {p g q g0 gn rest : List Addr} {a : Addr} {o : HO} (hf : Foc C H Z xo r s F w d (.ref a) p g q) (i : Iv H Z (f ++ F)) (hg : g = a :: g0)
    (hp : (g0 ++ f).Perm (gn ++ rest)) (hR : R C (upd H a o) Z d' (.ref a) (a :: gn)) (hs : setP r w d' = some r') : Stp H Z (f ++ F) (upd H a o) Z (p ++ (a :: gn) ++ q) ∧ RSt C (upd H a o) Z xo 0 r' s (p ++ (a :: gn) ++ q) := by
  obtain ⟨n1, n2, n3, nz, hin⟩ := hf.away i hg
  refine ⟨?_, hf.put _ Z (kpU n3 nz) d' (a :: gn) hR r' hs⟩
  have sW : Stp H Z (f ++ F) (upd H a o) Z (f ++ F) := Stp.write i hin
  have pm : (f ++ F).Perm ((p ++ (a :: gn) ++ q) ++ rest) := by
    rw [hf.eq, hg]
    have e1 : (f ++ (p ++ (a :: g0) ++ q)).Perm (p ++ (a :: (g0 ++ f)) ++ q) := by
      have : (f ++ (p ++ (a :: g0) ++ q)).Perm ((p ++ (a :: g0) ++ q) ++ f) := List.perm_append_comm
      refine this.trans ?_
      simp only [List.append_assoc, List.cons_append]
      exact List.Perm.append_left p (List.Perm.cons a (List.Perm.append_left g0 List.perm_append_comm))
    have e2 : (p ++ (a :: (g0 ++ f)) ++ q).Perm (p ++ (a :: (gn ++ rest)) ++ q) := List.Perm.append_right q (List.Perm.append_left p (List.Perm.cons a hp))
    have e3 : (p ++ (a :: (gn ++ rest)) ++ q).Perm ((p ++ (a :: gn) ++ q) ++ rest) := by
      simp only [List.append_assoc, List.cons_append]
      exact List.Perm.append_left p (List.Perm.cons a (List.Perm.append_left gn List.perm_append_comm))
    exact (e1.trans e2).trans e3
  exact (sW.perm pm).sub (List.sublist_append_left _ _)
theorem sg_v {i : Nat} {x : Str} {pos : Pos} (hN : X.N.Nodup) (hi : X.N[i]? = some x) (hx : L2.Loc X.env.scope x) (hf : X.fn x = true ∨ X.env.scope.names.lookup x = some .local) : PG X (.Name x pos) (tG c (.v i)) :=
  (L2.pg_name hN hi hx hf).imp fun v s H Q ⟨r, Z, F, f, d, i0, hs, hr, h⟩ => by
    simp only [asg] at h
    split at h
    · rename_i r' he
      split at he
      · cases he
      · split at he
        · rename_i hlt
          cases he
          obtain ⟨p, g, q, a1, a2, a3⟩ := hs.focus i hlt
          have hs2 := (a3 H Z ⟨fun _ z => z, fun _ _ _ e => e⟩).1 d v f (RX.of hr)
          refine h _ H Z _ ?_ hs2 fun j hj => ?_
          · have pm : (f ++ F).Perm ((p ++ f ++ q) ++ g) := by
              rw [a1]
              have e1 : (f ++ (p ++ g ++ q)).Perm ((p ++ g ++ q) ++ f) := List.perm_append_comm
              refine e1.trans ?_
              simp only [List.append_assoc]
              refine List.Perm.append_left p ?_
              have : (g ++ (q ++ f)).Perm ((q ++ f) ++ g) := List.perm_append_comm
              refine this.trans ?_
              have e2 : ((q ++ f) ++ g).Perm ((f ++ q) ++ g) := List.Perm.append_right g List.perm_append_comm
              simpa using e2
            exact ((Stp.refl i0).perm pm).sub (List.sublist_append_left _ _)
          · have hne : j ≠ i := fun e => hj (by simp [Tg.slots, e])
            exact List.getElem?_set_ne (fun e => hne e.symm)
        · cases he
    · exact h.elim
theorem sgs_nil : PGs X [] (tGs c .nil) := L2.pgs_nil.imp fun xs s H Q ⟨r, Z, F, f, ds, i0, hs, hr, h⟩ => by
  cases ds with
  | cons d ds => simp [asgs] at h
  | nil =>
    obtain ⟨rfl, rfl⟩ := hr
    simp only [asgs] at h
    exact ⟨rfl, h s H Z F (Stp.refl i0) hs SKo.refl⟩
theorem sgs_cons {e : Expr} {es : List Expr} {t : Tg} {ts : Tgs} (h1 : PG X e (tG c t)) (h2 : PGs X es (tGs c ts)) (hs : (PySem.assignEach (e :: es) X.env).map (·.2) = PySem.assign e X.env :: (PySem.assignEach es X.env).map (·.2)) : PGs X (e :: es) (tGs c (.cons t ts)) :=
  (L2.pgs_cons h1 h2 hs).imp fun xs s H Q ⟨r, Z, F, f, ds, i0, hs, hr, h⟩ => by
    cases ds with
    | nil => simp [asgs] at h
    | cons d ds =>
      obtain ⟨v, vr, f1, f2, rfl, hr1, hr2, rfl⟩ := hr
      simp only [asgs] at h
      cases ha : asg c.g t d r with
      | none => rw [ha] at h; exact h.elim
      | some r1 =>
        rw [ha] at h
        simp only at h
        have i1 : Iv H Z (f1 ++ F) := i0.sub (List.Sublist.append_right (List.sublist_append_left _ _) _)
        refine ⟨v, vr, rfl, r, Z, F, f1, d, i1, hs, hr1, ?_⟩
        rw [ha]
        intro s1 H1 Z1 F1 st rs sk
        have pm : ((f1 ++ f2) ++ F).Perm (f2 ++ (f1 ++ F)) := by
          have : ((f1 ++ f2) ++ F).Perm ((f2 ++ f1) ++ F) := List.Perm.append_right F List.perm_append_comm
          simpa using this
        have i2 : Iv H Z (f2 ++ (f1 ++ F)) := i0.perm pm
        have stF : Stp H Z (f2 ++ (f1 ++ F)) H1 Z1 (f2 ++ F1) := st.frame i2
        have kp : Kp H H1 Z Z1 f2 := st.kp i1 fun a ha hb => (List.nodup_append.mp i2.nd).2.2 a ha a hb rfl
        refine ⟨r1, Z1, F1, f2, ds, stF.iv, rs, hr2.mono kp, ?_⟩
        cases hb : asgs c.g ts ds r1 with
        | none => rw [hb] at h; exact h.elim
        | some r2 =>
          rw [hb] at h
          exact fun s2 H2 Z2 F2 st2 rs2 sk2 => h s2 H2 Z2 F2 ((stF.permL pm.symm).trans st2) rs2 (by simpa [Tgs.slots] using sk.trans sk2)
theorem sg_t {ts : Tgs} {es : List Expr} {kk n : Nat} {pos : Pos} (hc : X.calm = true) (hK : X.K = c.C.K) (h : PGs X es (tGs c ts)) (hn : (PySem.assignEach es X.env).length = n) (hlen : ∀ {ds r r'}, asgs c.g ts ds r = some r' → ds.length = n) (hst : (PySem.assignEach es X.env).findIdx? (·.1) = none) : PG X (.Tuple es kk pos) (tG c (.t ts)) :=
  ((L2.pg_tup hc h hn hst).or (L2.pg_unl hc h hn hst)).imp fun v s H Q ⟨r, Z, F, f, d, i0, hs, hr, h⟩ => by
    rw [hK]
    simp only [asg] at h
    have fin : ∀ {g : List Addr} {xs : List D} {vs : List V}, RL c.C H Z xs vs g → g.Sublist f → (match asgs c.g ts xs r with
        | some r' => ∀ s' H' Z' F', Stp H Z (f ++ F) H' Z' F' → RSt c.C H' Z' c.xo 0 r' s' F' → SKo (Tg.t ts).slots s s' → Q s' H'
        | none => False) → vs.length = n ∧ tGs c ts vs s H Q := fun {g xs vs} e3 hg h => by
      cases ha : asgs c.g ts xs r with
      | none => rw [ha] at h; exact h.elim
      | some r1 =>
        rw [ha] at h
        have sub : (g ++ F).Sublist (f ++ F) := List.Sublist.append hg (List.Sublist.refl _)
        refine ⟨by rw [e3.len]; exact hlen ha, r, Z, F, g, xs, i0.sub sub, hs, e3, ?_⟩
        rw [ha]
        exact fun s2 H2 Z2 F2 st2 rs2 sk2 => h s2 H2 Z2 F2 ((Stp.drop i0 sub).trans st2) rs2 (by simpa [Tg.slots] using sk2)
    cases d with
    | tup xs =>
      simp only at h
      obtain ⟨ef, a, vs, rfl, e2, za, e3⟩ := hr
      subst ef
      obtain ⟨q1, q2⟩ := fin e3 (List.Sublist.refl _) h
      exact .inl ⟨a, vs, rfl, .inl (.inl e2), q1, q2⟩
    | lst o xs =>
      simp only at h
      cases o with
      | true =>
        obtain ⟨a, vs, g, rfl, e2, e3, ef⟩ := hr
        subst ef
        obtain ⟨q1, q2⟩ := fin e3 (List.sublist_cons_self _ _) h
        exact .inr ⟨a, vs, rfl, .inl (.inl e2), q1, q2⟩
      | false =>
        obtain ⟨ef, a, vs, rfl, e2, za, e3⟩ := hr
        subst ef
        obtain ⟨q1, q2⟩ := fin e3 (List.Sublist.refl _) h
        exact .inr ⟨a, vs, rfl, .inl (.inl e2), q1, q2⟩
    | _ => exact h.elim
def Tgs.n : Tgs → Nat
  | .nil => 0
  | .cons _ ts => ts.n + 1
theorem asgs_len {g : G} : ∀ {ts : Tgs} {ds : List D} {r r' : Sl}, asgs g ts ds r = some r' → ds.length = ts.n
  | .nil, ds, r, r', h => by
    cases ds with
    | nil => rfl
    | cons d ds => simp [asgs] at h
  | .cons t ts, ds, r, r', h => by
    cases ds with
    | nil => simp [asgs] at h
    | cons d ds =>
      simp only [asgs] at h
      cases ha : asg g t d r with
      | none => rw [ha] at h; cases h
      | some r1 =>
        rw [ha] at h
        rw [List.length_cons, asgs_len h]; rfl
/-! ### o[i] = v -/
theorem set_or {t t' : L2.TSet} (h : L2.PSet X t) (h' : L2.PSet X t') : L2.PSet X (fun o i v H Q => t o i v H Q ∨ t' o i v H Q) := by
  intro pins s σ H o i v ov iv u Q I ro ri rv q
  rcases q with q | q
  · exact h pins s σ H o i v ov iv u Q I ro ri rv q
  · exact h' pins s σ H o i v ov iv u Q I ro ri rv q
theorem sg_s {p : P} {e : E} {po pi : Expr} {pos : Pos} (xk : Xk c X k sc) (hp : PE X po (tP c p)) (he : PE X pi (tE c e))
    (ha : ∀ v, PySem.assign (.Subscript po pi pos) X.env v = (do
      let ov ← PySem.holding [v] (PySem.eval po X.env)
      let iv ← PySem.holding [v, ov] (PySem.eval pi X.env)
      PySem.standAt pos
      PySem.holding [v, ov, iv] (PySem.setItem ov iv v)
      PySem.release [v, ov, iv] [])) : PG X (.Subscript po pi pos) (tG c (.s p e)) := by
  have hu := xk.room.units
  refine (L2.pg_sub hp he (set_or L2.set_list (L2.set_dict (by omega))) ha).imp fun v s H Q ⟨r, Z, F, f, d, i0, hs, hr, h⟩ => ?_
  simp only [asg] at h
  have iF : Iv H Z F := i0.sub (List.sublist_append_right _ _)
  split at h
  · rename_i r' hasg
    split at hasg
    · rename_i hpu
      cases hw : evP c.g p r with
      | none => rw [hw] at hasg; cases hasg
      | some w =>
        rw [hw] at hasg
        simp only at hasg
        cases hg : getP r w with
        | none => rw [hg] at hasg; cases hasg
        | some d0 =>
          rw [hg] at hasg
          refine ⟨r, Z, F, w, d0, iF, hs, hw, hg, fun x H1 Z1 st1 ⟨p1, g1, q1, hf1⟩ => ?_⟩
          refine ⟨r, Z1, F, st1.ivl iF, hs.mono st1.kpAll, ?_⟩
          have fin : ∀ {dk : D} {y : V} {H2 : Hp} {Z2 : Addr → Prop}, ev c.g e r = .ok dk r → Stp H Z [] H2 Z2 [] → Stp H1 Z1 [] H2 Z2 [] → R c.C H2 Z2 dk y [] →
              (L2.rSetL x y v H2 fun H3 => Q s H3) ∨ (L2.rSetD x y v H2 fun H3 => Q s H3) := fun {dk y H2 Z2} hv st2 st12 hy => by
            rw [hv] at hasg
            have i2 : Iv H2 Z2 (f ++ F) := st2.ivl i0
            have hf := hf1.mono st12
            have hr2 := hr.mono (st2.kpAll (F := f))
            have stA : Stp H Z (f ++ F) H2 Z2 (f ++ F) := by simpa using st2.lift i0
            cases d0 with
            | lst o xs =>
              cases o with
              | false => cases hasg
              | true =>
                simp only at hasg
                cases dk <;> try cases hasg
                rename_i kk
                simp only at hasg
                cases hj : ixD xs.length kk with
                | none => rw [hj] at hasg; cases hasg
                | some j =>
                  rw [hj] at hasg
                  simp only at hasg
                  obtain ⟨a, vs, g0, rfl, e2, e3, e4⟩ := hf.at_
                  obtain ⟨n1, n2, n3, nz, hin⟩ := hf.away i2 e4
                  have hjl : j < xs.length := (L2.ixN_seq (i := kk) (j := j) hj).2.1
                  obtain ⟨w0, p2, g2, q2, c1, c2, c3, c4⟩ := e3.at (List.getElem?_eq_getElem hjl)
                  refine .inl ⟨a, vs, kk, j, rfl, hy.1, e2, by rw [e3.len]; exact hj, ?_⟩
                  have hn2 : a ∉ p2 ++ q2 := fun z => n2 (by rw [c2]; simp only [List.mem_append] at z ⊢; rcases z with z | z <;> simp [z])
                  have hL := c4 (upd H2 a (.lst (vs.set j v))) Z2 (kpU hn2 nz) d v f (hr2.mono (kpU n1 nz))
                  obtain ⟨s1, s2⟩ := hf.wrote (d' := .lst true (xs.set j d)) (f := f) (o := .lst (vs.set j v)) (gn := p2 ++ f ++ q2) (rest := g2) i2 e4 (by
                    rw [c2]
                    have e1 : (p2 ++ g2 ++ q2 ++ f).Perm (p2 ++ (g2 ++ (q2 ++ f))) := by simp
                    refine e1.trans ?_
                    have e2 : (p2 ++ (g2 ++ (q2 ++ f))).Perm (p2 ++ ((q2 ++ f) ++ g2)) := List.Perm.append_left p2 List.perm_append_comm
                    refine e2.trans ?_
                    have e3 : (p2 ++ ((q2 ++ f) ++ g2)).Perm (p2 ++ ((f ++ q2) ++ g2)) := List.Perm.append_left p2 (List.Perm.append_right g2 List.perm_append_comm)
                    simpa using e3) ⟨a, _, _, rfl, upd_same, hL, rfl⟩ hasg
                  exact h s _ Z2 _ (stA.trans s1) s2 SKo.refl
            | dic o kvs =>
              cases o with
              | false => cases hasg
              | true =>
                simp only at hasg
                cases hk : dk.key with
                | none => rw [hk] at hasg; cases hasg
                | some ky =>
                  rw [hk] at hasg
                  simp only at hasg
                  split at hasg
                  · rename_i hlen
                    obtain ⟨a, vs, g0, rfl, e2, nd, e3, e4⟩ := hf.at_
                    obtain ⟨n1, n2, n3, nz, hin⟩ := hf.away i2 e4
                    have hyk := hy.key hk
                    subst hyk
                    refine .inr ⟨a, _, rfl, L2.DPut.k e2 (by rw [e3.len]; exact hlen), ?_⟩
                    rw [putK_eq nd]
                    cases hl : lookK ky kvs with
                    | some old =>
                      obtain ⟨w0, p2, g2, q2, c1, c2, c3, c4⟩ := e3.look hl
                      have hn2 : a ∉ p2 ++ q2 := fun z => n2 (by rw [c2]; simp only [List.mem_append] at z ⊢; rcases z with z | z <;> simp [z])
                      have hL := c4 (upd H2 a (.dK (putKV ky v vs))) Z2 (kpU hn2 nz) d v f (hr2.mono (kpU n1 nz))
                      obtain ⟨s1, s2⟩ := hf.wrote (d' := .dic true (putKD ky d kvs)) (f := f) (o := .dK (putKV ky v vs)) (gn := p2 ++ f ++ q2) (rest := g2) i2 e4 (by
                        rw [c2]
                        have e1 : (p2 ++ g2 ++ q2 ++ f).Perm (p2 ++ (g2 ++ (q2 ++ f))) := by simp
                        refine e1.trans ?_
                        have e2 : (p2 ++ (g2 ++ (q2 ++ f))).Perm (p2 ++ ((q2 ++ f) ++ g2)) := List.Perm.append_left p2 List.perm_append_comm
                        refine e2.trans ?_
                        have e3 : (p2 ++ ((q2 ++ f) ++ g2)).Perm (p2 ++ ((f ++ q2) ++ g2)) := List.Perm.append_left p2 (List.Perm.append_right g2 List.perm_append_comm)
                        simpa using e3) ⟨a, _, _, rfl, upd_same, putKV_nodup nd, hL, rfl⟩ hasg
                      exact h s _ Z2 _ (stA.trans s1) s2 SKo.refl
                    | none =>
                      have hL := RK.put (e3.mono (kpU (o := .dK (putKV ky v vs)) n2 nz)) (hr2.mono (kpU n1 nz)) hl
                      obtain ⟨s1, s2⟩ := hf.wrote (d' := .dic true (putKD ky d kvs)) (f := f) (o := .dK (putKV ky v vs)) (gn := g0 ++ f) (rest := []) i2 e4 (by simp) ⟨a, _, _, rfl, upd_same, putKV_nodup nd, hL, rfl⟩ hasg
                      exact h s _ Z2 _ (stA.trans s1) s2 SKo.refl
                  · cases hasg
            | _ => cases hasg
          cases hv : ev c.g e r with
          | ok dk rk =>
            intro y H2 ⟨Z2, F2, f2, s2, rs2, hy, pp⟩
            obtain ⟨b1, b2, b3⟩ := pp hpu
            subst b1 b2
            have hno : dk.own = false := by
              cases dk with
              | int _ => rfl
              | str _ => rfl
              | non => rfl
              | bl _ => rfl
              | _ =>
                rw [hv] at hasg
                cases d0 with
                | lst o xs => cases o <;> cases hasg
                | dic o xs => cases o <;> simp [D.key] at hasg
                | _ => cases hasg
            have ef := hy.noown hno
            subst ef
            exact fin hv (st1.trans b3) b3 hy
          | _ =>
            rw [hv] at hasg
            cases d0 with
            | lst o xs => cases o <;> cases hasg
            | dic o xs => cases o <;> cases hasg
            | _ => cases hasg
    · cases hasg
  · exact h.elim
end TW
end

section
/-! list comprehensions -/
namespace TW
open PySem (Str Addr Expr Pos Value Obj Shared model PyData Scope)
open L2 (V HO Hp Rd upd upd_same upd_ne TE TT TA TS TI TG TGs VK XK Cx PE PT PW PA PS PSs PG PGs PI OpR R2 CallR PTs wipe)
variable {c : Ct} {X : Cx} {k : Nat} {sc : Scope}
theorem kp_trans {H1 H2 H3 : Hp} {Z1 Z2 Z3 : Addr → Prop} {f : List Addr} (a : Kp H1 H2 Z1 Z2 f) (b : Kp H2 H3 Z2 Z3 f) : Kp H1 H3 Z1 Z3 f := ⟨fun x z => b.1 x (a.1 x z), fun x o q e => b.2 x o (q.imp id (a.1 x)) (a.2 x o q e)⟩
theorem setP_len {ρ ρ' : Sl} {w : Pth} {d : D} (h : setP ρ w d = some ρ') : ρ'.length = ρ.length := by
  unfold setP at h
  split at h
  · cases h
  · obtain ⟨e, _, rfl⟩ := Option.map_eq_some_iff.mp h
    simp
  · cases h
mutual
theorem asgL {g : G} : ∀ {t : Tg} {d : D} {ρ ρ' : Sl}, asg g t d ρ = some ρ' → ρ'.length = ρ.length
  | .v i, d, ρ, ρ', h => by
    simp only [asg] at h
    split at h
    · cases h
    · split at h
      · cases h; simp
      · cases h
  | .t ts, d, ρ, ρ', h => by
    cases d <;> simp only [asg, reduceCtorEq] at h
    all_goals exact asgsL h
  | .s p e, d, ρ, ρ', h => by
    simp only [asg] at h
    repeat' split at h
    all_goals first | exact setP_len h | cases h
  | .f p x, d, ρ, ρ', h => by
    simp only [asg] at h
    repeat' split at h
    all_goals first | exact setP_len h | cases h
theorem asgsL {g : G} : ∀ {ts : Tgs} {ds : List D} {ρ ρ' : Sl}, asgs g ts ds ρ = some ρ' → ρ'.length = ρ.length
  | .nil, ds, ρ, ρ', h => by
    cases ds with
    | nil =>
      simp only [asgs, Option.some.injEq] at h
      rw [h]
    | cons d ds => simp [asgs] at h
  | .cons t ts, ds, ρ, ρ', h => by
    cases ds with
    | nil => simp [asgs] at h
    | cons d ds =>
      simp only [asgs] at h
      cases ha : asg g t d ρ with
      | none => rw [ha] at h; cases h
      | some r1 =>
        rw [ha] at h
        rw [asgsL h, asgL ha]
end
/-- nothing is let out -/
def Ct.quiet (c : Ct) : Ct := { c with W := fun _ _ _ _ => False }
theorem wipe_ok {C : C0} {H : Hp} {Z : Addr → Prop} {xo : Option Xo} {s : L2.St} {r : Sl} {F : List Addr} (hs : RSt C H Z xo 0 r s F) : ∀ own : List Nat, (∀ i ∈ own, i < r.length) → ∃ F', F'.Sublist F ∧ RSt C H Z xo 0 (wipeS r own) (wipe s own) F' ∧ (wipeS r own).length = r.length
  | [], _ => ⟨F, List.Sublist.refl _, hs, rfl⟩
  | i :: own, hl => by
    obtain ⟨F1, a1, a2, a3⟩ := wipe_ok hs own fun j hj => hl j (List.mem_cons_of_mem _ hj)
    obtain ⟨p, g, q, b1, b2, b3⟩ := a2.focus i (by rw [a3]; exact hl i List.mem_cons_self)
    refine ⟨p ++ q, List.Sublist.trans ?_ a1, (b3 H Z ⟨fun _ z => z, fun _ _ _ e => e⟩).2.1 none, by simp [wipeS, a3]⟩
    rw [b1]
    exact List.Sublist.append_right (List.sublist_append_left _ _) _
/-- the own slots hold what they held -/
theorem restore_ok {C : C0} {H H1 : Hp} {Z Z1 : Addr → Prop} {xo : Option Xo} {s : L2.St} {r1 r6 : Sl} {F1 F6 : List Addr} {own0 : List Nat} (hs1 : RSt C H1 Z1 xo 0 r1 s F1) (hs6 : RSt C H Z xo 0 r6 (wipe s own0) F6) (kp : Kp H1 H Z1 Z []) : ∀ own : List Nat, calmAt r1 own = true → (∀ i ∈ own, i ∈ own0) →
    ∃ F' s', F'.Sublist F6 ∧ RSt C H Z xo 0 (restore r1 r6 own) s' F' ∧ s'.length = s.length ∧ (∀ j, j ∈ own → s'[j]? = s[j]?) ∧ ∀ j, j ∉ own → s'[j]? = (wipe s own0)[j]?
  | [], _, _ => ⟨F6, wipe s own0, List.Sublist.refl _, hs6, by rw [L2.wipe_length], by simp, fun _ _ => rfl⟩
  | i :: own, hc, hsub => by
    simp only [calmAt, Bool.and_eq_true] at hc
    obtain ⟨F', s', a1, a2, a3, a4, a5⟩ := restore_ok hs1 hs6 kp own hc.2 fun j hj => hsub j (List.mem_cons_of_mem _ hj)
    have hlen : (restore r1 r6 own).length = r1.length := by rw [← a2.len, a3, hs1.len]
    have hi : i < r1.length := by
      cases hr : r1[i]? with
      | none => rw [hr] at hc; exact absurd hc.1 (by simp)
      | some o => exact (List.getElem?_eq_some_iff.mp hr).1
    obtain ⟨p, g, q, b1, b2, b3⟩ := a2.focus i (by rw [hlen]; exact hi)
    obtain ⟨p1, g1, q1, c1, c2, c3⟩ := hs1.focus i hi
    have his : i < s.length := by rw [hs1.len]; exact hi
    have his' : i < s'.length := by rw [a3]; exact his
    have k0 : Kp H H Z Z (p ++ q) := ⟨fun _ z => z, fun _ _ _ e => e⟩
    have sub : (p ++ q).Sublist F6 := by
      refine List.Sublist.trans ?_ a1
      rw [b1]
      exact List.Sublist.append_right (List.sublist_append_left _ _) _
    have fin : ∀ (y : Option V), s[i]? = some y → RSt C H Z xo 0 (restore r1 r6 (i :: own)) (s'.set i y) (p ++ q) → ∃ F' s', F'.Sublist F6 ∧ RSt C H Z xo 0 (restore r1 r6 (i :: own)) s' F' ∧ s'.length = s.length ∧ (∀ j, j ∈ i :: own → s'[j]? = s[j]?) ∧ ∀ j, j ∉ i :: own → s'[j]? = (wipe s own0)[j]? := fun y hy hR => by
      refine ⟨p ++ q, s'.set i y, sub, hR, by simp [a3], fun j hj => ?_, fun j hj => ?_⟩
      · by_cases e : j = i
        · subst e
          rw [List.getElem?_set_self his', hy]
        · rw [List.getElem?_set_ne (fun z => e z.symm)]
          exact a4 j (by rcases List.mem_cons.mp hj with z | z; exact absurd z e; exact z)
      · have : j ≠ i := fun e => hj (by simp [e])
        rw [List.getElem?_set_ne (fun z => this z.symm)]
        exact a5 j fun z => hj (List.mem_cons_of_mem _ z)
    have hsi : s[i]? = some s[i] := List.getElem?_eq_getElem his
    cases hr : r1[i]? with
    | none => rw [hr] at hc; exact absurd hc.1 (by simp)
    | some o =>
      cases o with
      | none =>
        refine fin s[i] hsi ?_
        have := (b3 H Z k0).2.1 s[i]
        simpa [restore, hr] using this
      | some d =>
        rw [hr] at hc
        obtain ⟨x, hx, hR⟩ := c2 d hr
        have hno : d.own = false := by simpa using hc.1
        have hg : g1 = [] := by
          cases d with
          | exc n v => exact hR.1
          | _ => exact R.noown hR hno
        subst hg
        have hx' : s[i]? = some (some x) := hx
        refine fin (some x) hx' ?_
        have := (b3 H Z k0).1 d x [] (hR.mono kp)
        simpa [restore, hr] using this
theorem _root_.L2.PTs.imp {X : Cx} {e : List Expr} {t t' : TT} (h : PTs X e t) (i : ∀ s H Q, t' s H Q → t s H Q) : PTs X e t' := ⟨fun pins s σ H Q I q => h.run pins s σ H Q I (i _ _ _ q)⟩
theorem sts_nil : PTs X [] (tT c (.bl true)) := L2.pts_nil.imp fun s H Q ⟨r, Z, F, i0, hs, h⟩ => by
  simp only [ev] at h
  exact h H Z F (Stp.refl i0) hs fun _ => ⟨rfl, rfl, Stp.refl i0.nil⟩
theorem sts_one {q : E} {pq : Expr} (h : PT X pq (tT c q)) : PTs X [pq] (tT c q) := L2.pts_one h
/-- what is wanted of a test, at a turn -/
theorem WnT.at_ {H : Hp} {Z : Addr → Prop} {F : List Addr} {s : L2.St} {r : Sl} {pu : Bool} {Q : Bool → Hp → Prop} {res : RE} {d : D} {r' : Sl} {b : Bool} (e : res = .ok d r' ∨ res = .brw d r') (ht : d.tru = some b)
    (h : ∀ H' Z' F', Stp H Z F H' Z' F' → RSt c.C H' Z' c.xo 0 r' s F' → Q b H') : WnT c H Z F s r pu Q res := by
  rcases e with e | e <;> subst e <;> simp only [WnT, ht] <;> exact fun H' Z' F' st rs _ => h H' Z' F' st rs
theorem wipe_eq {s s' : L2.St} {own ts : List Nat} (hsub : ∀ i ∈ ts, i ∈ own) (sk : SKo ts (wipe s own) s') (hl : s'.length = s.length) : wipe s' own = wipe s own := by
  refine List.ext_getElem? fun i => ?_
  by_cases hi : i ∈ own
  · have none_at : ∀ {t : L2.St} {vs : List Nat}, i ∈ vs → (wipe t vs)[i]? = (t[i]?).map fun _ => none := fun {t vs} => by
      induction vs with
      | nil => intro h; cases h
      | cons v vs ih =>
        intro h
        show ((wipe t vs).set v none)[i]? = _
        by_cases e : v = i
        · subst e
          by_cases hlt : v < t.length
          · rw [List.getElem?_set_self (by rw [L2.wipe_length]; exact hlt), List.getElem?_eq_getElem hlt]; rfl
          · rw [List.getElem?_eq_none (by rw [List.length_set, L2.wipe_length]; omega), List.getElem?_eq_none (by omega)]; rfl
        · rw [List.getElem?_set_ne e]
          rcases List.mem_cons.mp h with z | z
          · exact absurd z.symm e
          · exact ih z
    rw [none_at hi, none_at hi]
    by_cases hlt : i < s.length
    · rw [List.getElem?_eq_getElem hlt, List.getElem?_eq_getElem (by rw [hl]; exact hlt)]; rfl
    · rw [List.getElem?_eq_none (by omega), List.getElem?_eq_none (by omega)]
  · rw [L2.wipe_out hi, sk i fun z => hi (hsub i z), L2.wipe_out hi]
/-- a turn -/
def lcTurn (g : G) (elt : E) (tg : Tg) (cond : E) (own : List Nat) : D → Sl → Option (Option D × Sl) := fun d ρ2 => match asg g tg d (wipeS ρ2 own) with
  | some ρ3 => (match ev g cond ρ3 with
    | .ok c ρ4 | .brw c ρ4 => (match c.tru with
      | some true => (match ev g elt ρ4 with
        | .ok x ρ5 => some (some x, ρ5)
        | _ => none)
      | some false => some (none, ρ4)
      | none => none)
    | _ => none)
  | none => none
theorem lcTurn_some {g : G} {elt : E} {tg : Tg} {cond : E} {own : List Nat} {d : D} {ρ : Sl} {o : Option D} {ρ' : Sl} (h : lcTurn g elt tg cond own d ρ = some (o, ρ')) :
    ∃ ρ3 cd ρ4 b, asg g tg d (wipeS ρ own) = some ρ3 ∧ (ev g cond ρ3 = .ok cd ρ4 ∨ ev g cond ρ3 = .brw cd ρ4) ∧ cd.tru = some b ∧ ((b = false ∧ o = none ∧ ρ' = ρ4) ∨ (b = true ∧ ∃ x, ev g elt ρ4 = .ok x ρ' ∧ o = some x)) := by
  unfold lcTurn at h
  cases ha : asg g tg d (wipeS ρ own) with
  | none => rw [ha] at h; cases h
  | some ρ3 =>
    rw [ha] at h
    simp only at h
    have go : ∀ {cd : D} {ρ4 : Sl}, (match cd.tru with
        | some true => (match ev g elt ρ4 with
          | .ok x ρ5 => some (some x, ρ5)
          | _ => none)
        | some false => some (none, ρ4)
        | none => none) = some (o, ρ') → (ev g cond ρ3 = .ok cd ρ4 ∨ ev g cond ρ3 = .brw cd ρ4) → ∃ ρ3' cd ρ4 b, some ρ3 = some ρ3' ∧ (ev g cond ρ3' = .ok cd ρ4 ∨ ev g cond ρ3' = .brw cd ρ4) ∧ cd.tru = some b ∧ ((b = false ∧ o = none ∧ ρ' = ρ4) ∨ (b = true ∧ ∃ x, ev g elt ρ4 = .ok x ρ' ∧ o = some x)) := fun {cd ρ4} h e => by
      cases ht : cd.tru with
      | none => rw [ht] at h; cases h
      | some b =>
        rw [ht] at h
        cases b with
        | false =>
          simp only [Option.some.injEq, Prod.mk.injEq] at h
          exact ⟨ρ3, cd, ρ4, false, rfl, e, ht, .inl ⟨rfl, h.1.symm, h.2.symm⟩⟩
        | true =>
          simp only at h
          cases hv : ev g elt ρ4 with
          | ok x ρ5 =>
            rw [hv] at h
            simp only [Option.some.injEq, Prod.mk.injEq] at h
            exact ⟨ρ3, cd, ρ4, true, rfl, e, ht, .inr ⟨rfl, x, by rw [hv, h.2], h.1.symm⟩⟩
          | _ => rw [hv] at h; cases h
    cases hc : ev g cond ρ3 with
    | ok cd ρ4 => rw [hc] at h; exact go h (.inl hc)
    | brw cd ρ4 => rw [hc] at h; exact go h (.inr hc)
    | _ => rw [hc] at h; cases h
theorem lc_imp {elt : E} {tg : Tg} {it : TW.It} {cond : E} {own : List Nat} (hsub : ∀ i ∈ tg.slots, i ∈ own) {s : L2.St} {H : Hp} {Q : VK} (h : tE c (.lc elt tg it cond own) s H Q) :
    L2.tLc (tI c it) (tG c.quiet tg) (tT c.quiet cond) (tE c.quiet elt) own s H Q := by
  obtain ⟨r, Z, F, i0, hs, h⟩ := h
  refine ⟨r, Z, F, i0, hs, ?_⟩
  simp only [ev] at h
  cases hv : evIt c.g it r with
  | bad => rw [hv] at h; exact h.elim
  | exc n v r' => rw [hv] at h; exact h
  | ok items held ρ1 =>
    rw [hv] at h
    simp only at h
    split at h
    · rename_i hcl
      simp only [Bool.and_eq_true, decide_eq_true_eq] at hcl
      obtain ⟨hcalm, hlen⟩ := hcl
      intro J H1 Z1 F1 gh gt st1 rs1 hh1 ⟨Gp, Y, wk, hG, hY⟩ L hL
      change Wn c H Z F s r _ Q (match lcLoop (lcTurn c.g elt tg cond own) items ρ1 with
        | some (xs, ρ6) => (match putHeld held (restore ρ1 (wipeS ρ6 own) own) with
          | some ρ7 => .ok (.lst true xs) ρ7
          | none => .bad)
        | none => .bad) at h
      cases hlp : lcLoop (lcTurn c.g elt tg cond own) items ρ1 with
      | none => rw [hlp] at h; exact h.elim
      | some xz =>
        obtain ⟨xs0, ρ6⟩ := xz
        rw [hlp] at h
        simp only at h
        cases hph : putHeld held (restore ρ1 (wipeS ρ6 own) own) with
        | none => rw [hph] at h; exact h.elim
        | some ρ7 =>
          rw [hph] at h
          have hin : ∀ i ∈ own, i < ρ1.length := by
            have : ∀ l : List Nat, calmAt ρ1 l = true → ∀ i ∈ l, i < ρ1.length := fun l => by
              induction l with
              | nil => intro _ i hi; cases hi
              | cons j l ih =>
                intro hc i hi
                simp only [calmAt, Bool.and_eq_true] at hc
                rcases List.mem_cons.mp hi with e | e
                · subst e
                  cases hr : ρ1[i]? with
                  | none => rw [hr] at hc; exact absurd hc.1 (by simp)
                  | some o => exact (List.getElem?_eq_some_iff.mp hr).1
                · exact ih hc.2 i e
            exact this own hcalm
          generalize hGd : gh ++ gt = Gd at *
          -- what holds between the turns
          let Pv : Nat → Hp → Prop := fun i Hc => ∃ ρ Zc Fc fs xs vs, Stp H Z F Hc Zc ((L :: (Gd ++ fs)) ++ Fc) ∧ Kp H1 Hc Z1 Zc Gd ∧ RSt c.C Hc Zc c.xo 0 (wipeS ρ own) (wipe s own) Fc ∧ ρ.length = ρ1.length ∧ Hc L = some (.lst vs) ∧ RL c.C Hc Zc xs vs fs ∧ xs.length ≤ i ∧
            (lcLoop (lcTurn c.g elt tg cond own) (items.drop i) ρ).map (fun z => (xs ++ z.1, z.2)) = some (xs0, ρ6)
          have iv1 : Iv H1 Z1 (Gd ++ F1) := st1.iv
          refine L2.lc_it wk Pv ?_ (fun i Hc hi ⟨ρ, Zc, Fc, fs, xs, vs, a1, a2, _⟩ => hG Hc Zc a2) ?_ ?_
          · -- the start
            have sN : Stp H1 Z1 (Gd ++ F1) (upd H1 L (.lst [])) Z1 (L :: (Gd ++ F1)) := Stp.new iv1 hL
            obtain ⟨F2, b1, b2, b3⟩ := wipe_ok (rs1.mono (kpN' (o := .lst []) hL)) own hin
            refine ⟨ρ1, Z1, F2, [], [], [], (st1.trans sN).sub (by simpa using (List.Sublist.append_left b1 Gd)), kpN' hL, b2, rfl, upd_same, ⟨rfl, rfl⟩, Nat.le_refl _, ?_⟩
            simp [hlp]
          · -- a turn
            intro i x Hc H' hi ⟨ρ, Zc, Fc, fs, xs, vs, a1, a2, a3, al, a4, a5, a6, a7⟩ hy
            have hd : items[i]? = some items[i] := List.getElem?_eq_getElem hi
            obtain ⟨Z3, y1, y2⟩ := hY i _ x Hc Zc H' hd a2 a1.iv.zh hy
            have i2 : Iv H' Z3 ((L :: (Gd ++ fs)) ++ Fc) := y1.ivl a1.iv
            rw [List.drop_eq_getElem_cons hi] at a7
            cases hst : lcTurn c.g elt tg cond own items[i] ρ with
            | none =>
              simp only [lcLoop, hst, Option.map_none] at a7
              cases a7
            | some oz =>
              obtain ⟨o, ρ'⟩ := oz
              obtain ⟨ρ3, cd, ρ4, b, e1, e2, e3, e4⟩ := lcTurn_some hst
              refine ⟨wipeS ρ own, Z3, Fc, [], items[i], by simpa using i2.sub (List.sublist_append_right _ _), a3.mono y1.kpAll, y2, ?_⟩
              have e1' : asg c.quiet.g tg items[i] (wipeS ρ own) = some ρ3 := e1
              rw [e1']
              intro s2 H2 Z2 F2 st2 rs2 sk2
              have st2' : Stp H' Z3 Fc H2 Z2 F2 := by simpa using st2
              have hlen2 : s2.length = s.length := by
                have h1 := rs2.len
                have h2 := a3.len
                have h3 := asgL e1
                have h4 := L2.wipe_length s own
                omega
              refine ⟨wipe_eq hsub sk2 hlen2, ρ3, Z2, F2, st2'.iv, rs2, WnT.at_ (c := c.quiet) e2 e3 fun H4 Z4 F4 st4 rs4 => ?_⟩
              -- the frame of what is kept
              have fr2 := y1.lift a1.iv
              have k1 : Stp H Z F H' Z3 ((L :: (Gd ++ fs)) ++ Fc) := a1.trans (by simpa using fr2)
              have k2 : Stp H Z F H2 Z2 ((L :: (Gd ++ fs)) ++ F2) := k1.trans (st2'.frame i2)
              have k4 : Stp H Z F H4 Z4 ((L :: (Gd ++ fs)) ++ F4) := k2.trans (st4.frame k2.iv)
              have kp4 : Kp Hc H4 Zc Z4 (L :: (Gd ++ fs)) := by
                have q1 : Kp Hc H' Zc Z3 (L :: (Gd ++ fs)) := y1.kpAll
                have q2 : Kp H' H2 Z3 Z2 (L :: (Gd ++ fs)) := st2'.kp (i2.sub (List.sublist_append_right _ _)) fun a ha hb => (List.nodup_append.mp i2.nd).2.2 a ha a hb rfl
                exact kp_trans (kp_trans q1 q2) (st4.kp (k2.iv.sub (List.sublist_append_right _ _)) fun a ha hb => (List.nodup_append.mp k2.iv.nd).2.2 a ha a hb rfl)
              have back : ∀ {H5 : Hp} {Z5 : Addr → Prop} {F5 : List Addr} {ρ5 : Sl}, RSt c.C H5 Z5 c.xo 0 ρ5 s2 F5 → ∃ F6, F6.Sublist F5 ∧ RSt c.C H5 Z5 c.xo 0 (wipeS ρ5 own) (wipe s own) F6 ∧ ρ5.length = ρ1.length := fun {H5 Z5 F5 ρ5} rs5 => by
                have hl5 : ρ5.length = ρ1.length := by
                  have h1 := rs5.len
                  have h2 := rs1.len
                  omega
                obtain ⟨F6, c1, c2, c3⟩ := wipe_ok rs5 own fun j hj => by rw [hl5]; exact hin j hj
                rw [wipe_eq hsub sk2 hlen2] at c2
                exact ⟨F6, c1, c2, hl5⟩
              rcases e4 with ⟨rfl, rfl, rfl⟩ | ⟨rfl, y, e5, rfl⟩
              · rw [if_neg Bool.false_ne_true]
                obtain ⟨F6, c1, c2, c3⟩ := back rs4
                refine ⟨ρ', Z4, F6, fs, xs, vs, k4.sub (List.Sublist.append_left c1 _), kp_trans a2 (kp4.sub fun a z => by simp only [List.mem_cons, List.mem_append]; exact .inr (.inl z)), c2, c3, kp4.2 L _ (.inl (by simp)) a4, a5.mono (kp4.sub fun a z => by simp only [List.mem_cons, List.mem_append]; exact .inr (.inr z)), by omega, ?_⟩
                simp only [lcLoop, hst] at a7
                exact a7
              · rw [if_pos rfl]
                refine ⟨ρ4, Z4, F4, st4.iv, rs4, ?_⟩
                have e5' : ev c.quiet.g elt ρ4 = .ok y ρ' := e5
                rw [e5']
                intro yv H5 ⟨Z5, F5, f5, st5, rs5, hy5, _⟩
                have k5 : Stp H Z F H5 Z5 ((L :: (Gd ++ fs)) ++ (f5 ++ F5)) := k4.trans (st5.frame k4.iv)
                have kp5 : Kp Hc H5 Zc Z5 (L :: (Gd ++ fs)) := kp_trans kp4 (st5.kp (k4.iv.sub (List.sublist_append_right _ _)) fun a ha hb => (List.nodup_append.mp k4.iv.nd).2.2 a ha a hb rfl)
                have hvl : vs.length < PySem.sizeLine := by
                  rw [a5.len, ← line_eq]
                  omega
                refine ⟨vs, kp5.2 L _ (.inl (by simp)) a4, hvl, ?_⟩
                obtain ⟨F6, c1, c2, c3⟩ := back rs5
                have nd5 := k5.iv.nd
                have nL : L ∉ Gd ++ fs ∧ L ∉ f5 ∧ L ∉ F5 := by
                  simp only [List.cons_append, List.nodup_cons, List.mem_append, not_or] at nd5 ⊢
                  exact ⟨nd5.1.1, nd5.1.2.1, nd5.1.2.2⟩
                have nz5 : ¬ Z5 L := k5.iv.nz L (by simp)
                have sW : Stp H5 Z5 ((L :: (Gd ++ fs)) ++ (f5 ++ F5)) (upd H5 L (.lst (vs ++ [yv]))) Z5 ((L :: (Gd ++ fs)) ++ (f5 ++ F5)) := Stp.write k5.iv (by simp)
                have kpL : ∀ {l : List Addr}, L ∉ l → Kp H5 (upd H5 L (.lst (vs ++ [yv]))) Z5 Z5 l := fun hl => kpU hl nz5
                refine ⟨ρ', Z5, F6, fs ++ f5, xs ++ [y], vs ++ [yv], ?_, ?_, c2.mono (kpL fun z => nL.2.2 (c1.subset z)), c3, upd_same, ?_, by simp; omega, ?_⟩
                · have pm : ((L :: (Gd ++ fs)) ++ (f5 ++ F5)) = ((L :: (Gd ++ (fs ++ f5))) ++ F5) := by simp
                  rw [pm] at sW
                  rw [pm] at k5
                  exact (k5.trans sW).sub (List.Sublist.append_left c1 _)
                · exact kp_trans (kp_trans a2 (kp5.sub fun a z => by simp only [List.mem_cons, List.mem_append]; exact .inr (.inl z))) (kpL fun z => nL.1 (List.mem_append_left _ z))
                · refine RL.snoc ((a5.mono (kp5.sub fun a z => by simp only [List.mem_cons, List.mem_append]; exact .inr (.inr z))).mono (kpL fun z => nL.1 (List.mem_append_right _ z))) (hy5.mono (kpL nL.2.1))
                · simp only [lcLoop, hst, Option.map_map] at a7
                  rw [← a7]
                  congr 1
                  funext z
                  simp
          · -- the end
            intro Hc ⟨ρ, Zc, Fc, fs, xs, vs, a1, a2, a3, al, a4, a5, a6, a7⟩
            simp only [List.drop_length, lcLoop, Option.map_some, List.append_nil, Option.some.injEq, Prod.mk.injEq] at a7
            obtain ⟨rfl, rfl⟩ := a7
            obtain ⟨F7, s7, b1, b2, b3, b4, b5⟩ := restore_ok rs1 a3 (a2.sub (fun _ z => nomatch z)) own hcalm fun _ z => z
            have es : s7 = s := List.ext_getElem? fun j => by
              by_cases hj : j ∈ own
              · exact b4 j hj
              · rw [b5 j hj, L2.wipe_out hj]
            subst es
            obtain ⟨F8, d1, d2⟩ := putHeld_ok (hh1.mono (a2.sub fun a z => by rw [← hGd]; exact List.mem_append_left _ z)) b2 hph
            refine h _ _ ⟨Zc, F8, L :: fs, ?_, d1, ⟨L, vs, fs, rfl, a4, a5, rfl⟩, fun p => by simp [pur] at p⟩
            have st2 : Stp H Z F Hc Zc ((L :: (gh ++ fs)) ++ F7) := by
              refine (a1.sub (List.Sublist.append_left b1 _)).sub ?_
              rw [← hGd]
              simp only [List.cons_append, List.append_assoc]
              exact List.Sublist.cons_cons _ (List.Sublist.append_left (List.sublist_append_right _ _) _)
            refine st2.perm ?_
            simp only [List.cons_append]
            refine List.Perm.cons _ ?_
            have e1 : ((gh ++ fs) ++ F7).Perm ((fs ++ gh) ++ F7) := List.Perm.append_right _ List.perm_append_comm
            refine e1.trans ?_
            rw [List.append_assoc]
            exact List.Perm.append_left _ d2
    · exact h.elim
end TW
end

section
/-! statements -/
namespace TW
open PySem (Str Addr Expr Stmt Pos Value Obj Shared model PyData Scope)
open L2 (V HO Hp Rd upd upd_same upd_ne TE TT TA TS TI TG TGs VK XK Cx PE PT PW PA PS PSs PG PGs PI OpR R2 CallR PTs wipe Ends)
variable {c : Ct} {X : Cx} {k : Nat} {sc : Scope}
def SKp (pr : List Nat) (s s' : L2.St) : Prop := ∀ i ∈ pr, s'[i]? = s[i]?
theorem SKp.refl {pr : List Nat} {s : L2.St} : SKp pr s s := fun _ _ => rfl
theorem SKp.trans {pr : List Nat} {s s' s'' : L2.St} (a : SKp pr s s') (b : SKp pr s' s'') : SKp pr s s'' := fun i hi => (b i hi).trans (a i hi)
def WnS (c : Ct) (H : Hp) (Z : Addr → Prop) (F : List Addr) (s : L2.St) (D : Ends) (res : RS) : Prop := match res with
  | .ok .nx r' => ∀ s' H' Z' F', Stp H Z F H' Z' F' → RSt c.C H' Z' c.xo 0 r' s' F' → SKp c.g.prot s s' → D.nx s' H'
  | .ok .bk r' => ∀ s' H' Z' F', Stp H Z F H' Z' F' → RSt c.C H' Z' c.xo 0 r' s' F' → SKp c.g.prot s s' → D.bk s' H'
  | .ok .ct r' => ∀ s' H' Z' F', Stp H Z F H' Z' F' → RSt c.C H' Z' c.xo 0 r' s' F' → SKp c.g.prot s s' → D.ct s' H'
  | .ok (.rt d) r' => ∀ x s' H' Z' F' f, Stp H Z F H' Z' (f ++ F') → RSt c.C H' Z' c.xo 0 r' s' F' → R c.C H' Z' d x f → SKp c.g.prot s s' → D.rt x H'
  | .exc n v r' => ∀ A dd s' H', PX c H Z F s' n v r' A dd H' → SKp c.g.prot s s' → c.W (.ref A) (some dd) s' H'
  | .bad => False
def tS (c : Ct) (S : TW.S) : TS := fun D s H => ∃ r Z F, Iv H Z F ∧ RSt c.C H Z c.xo 0 r s F ∧ WnS c H Z F s D (ex S c.g r)
theorem _root_.L2.PS.imp {X : Cx} {e : Stmt} {t t' : TS} (h : PS X e t) (i : ∀ D s H, t' D s H → t D s H) : PS X e t' := ⟨fun pins s σ H D I q => h.run pins s σ H D I (i _ _ _ q)⟩
theorem _root_.L2.PSs.imp {X : Cx} {e : List Stmt} {t t' : TS} (h : PSs X e t) (i : ∀ D s H, t' D s H → t D s H) : PSs X e t' := ⟨fun pins s σ H D I q => h.run pins s σ H D I (i _ _ _ q)⟩
theorem _root_.L2.PSs.ex {X : Cx} {ι : Type} {e : List Stmt} {t : ι → TS} (h : ∀ i, PSs X e (t i)) : PSs X e (fun D s H => ∃ i, t i D s H) := ⟨fun pins s σ H D I ⟨i, q⟩ => (h i).run pins s σ H D I q⟩
theorem _root_.L2.PG.ex {X : Cx} {ι : Type} {e : Expr} {t : ι → TG} (h : ∀ i, PG X e (t i)) : PG X e (fun x s H Q => ∃ i, t i x s H Q) := ⟨fun pins s σ H v u Q I r ⟨i, q⟩ => (h i).run pins s σ H v u Q I r q⟩
section
variable {H H1 H' : Hp} {Z Z1 Z' : Addr → Prop} {F F1 F' f : List Addr} {s s1 s' : L2.St} {r r1 : Sl} {En : Ends} {res : RS}
theorem WnS.from (st : Stp H Z F H1 Z1 F1) (sk : SKp c.g.prot s s1) (h : WnS c H Z F s En res) : WnS c H1 Z1 F1 s1 En res := by
  cases res with
  | bad => exact h
  | exc n v r' => exact fun A dd s' H' ⟨Z', F', w, s2, rest⟩ k => h A dd s' H' ⟨Z', F', w, st.trans s2, rest⟩ (sk.trans k)
  | ok fl r' =>
    cases fl with
    | nx => exact fun s' H' Z' F' s2 rs k => h s' H' Z' F' (st.trans s2) rs (sk.trans k)
    | bk => exact fun s' H' Z' F' s2 rs k => h s' H' Z' F' (st.trans s2) rs (sk.trans k)
    | ct => exact fun s' H' Z' F' s2 rs k => h s' H' Z' F' (st.trans s2) rs (sk.trans k)
    | rt d => exact fun x s' H' Z' F' f s2 rs hr k => h x s' H' Z' F' f (st.trans s2) rs hr (sk.trans k)
/-- an exception from an expression -/
theorem WnS.exc {n : Str} {v : D} {r' : Sl} (h : WnS c H Z F s En (.exc n v r')) : ∀ A dd H', PX c H Z F s n v r' A dd H' → c.W (.ref A) (some dd) s H' := fun A dd H' p => h A dd s H' p SKp.refl
end
/-! ### plain ones -/
theorem ss_pass {pos : Pos} : PS X (.Pass pos) (tS c .pass) := L2.ps_pass.imp fun D s H ⟨r, Z, F, i0, hs, h⟩ => by
  simp only [ex] at h
  exact h s H Z F (Stp.refl i0) hs SKp.refl
theorem ss_brk {pos : Pos} : PS X (.Break pos) (tS c .brk) := L2.ps_break.imp fun D s H ⟨r, Z, F, i0, hs, h⟩ => by
  simp only [ex] at h
  exact h s H Z F (Stp.refl i0) hs SKp.refl
theorem ss_cont {pos : Pos} : PS X (.Continue pos) (tS c .cont) := L2.ps_continue.imp fun D s H ⟨r, Z, F, i0, hs, h⟩ => by
  simp only [ex] at h
  exact h s H Z F (Stp.refl i0) hs SKp.refl
theorem ss_doc {x j pos pos'} : PS X (.Expr (.Constant (.str x) j pos) pos') (tS c .pass) := L2.ps_doc.imp fun D s H ⟨r, Z, F, i0, hs, h⟩ => by
  simp only [ex] at h
  exact h s H Z F (Stp.refl i0) hs SKp.refl
theorem ss_ex {e : E} {pe : Expr} {pos : Pos} (he : PE X pe (tE c e)) (hs : PySem.swapsWith pe none pos.line X.env = pure false) : PS X (.Expr pe pos) (tS c (.ex e)) :=
  (L2.ps_expr he hs).imp fun D s H ⟨r, Z, F, i0, hs, h⟩ => by
    refine ⟨r, Z, F, i0, hs, ?_⟩
    simp only [ex] at h
    cases hv : ev c.g e r with
    | bad => rw [hv] at h; exact h
    | brw d r' => rw [hv] at h; exact h.elim
    | exc n v r' => rw [hv] at h; exact WnS.exc h
    | ok d r' =>
      rw [hv] at h
      exact fun x H' ⟨Z', F', f, st, rs, hr, pp⟩ => h s H' Z' F' (st.sub (List.sublist_append_right _ _)) rs SKp.refl
theorem ss_ret {e : E} {pe : Expr} {pos : Pos} (he : PE X pe (tE c e)) : PS X (.Return (some pe) pos) (tS c (.ret e)) :=
  (L2.ps_ret he).imp fun D s H ⟨r, Z, F, i0, hs, h⟩ => by
    refine ⟨r, Z, F, i0, hs, ?_⟩
    simp only [ex] at h
    cases hv : ev c.g e r with
    | bad => rw [hv] at h; exact h
    | brw d r' => rw [hv] at h; exact h.elim
    | exc n v r' => rw [hv] at h; exact WnS.exc h
    | ok d r' =>
      rw [hv] at h
      exact fun x H' ⟨Z', F', f, st, rs, hr, pp⟩ => h x s H' Z' F' f st rs hr SKp.refl
theorem ss_retN {pos : Pos} : PS X (.Return none pos) (tS c .retN) := L2.ps_retN.imp fun D s H ⟨r, Z, F, i0, hs, h⟩ => by
  simp only [ex] at h
  exact h .non s H Z F [] (Stp.refl i0) hs ⟨rfl, rfl⟩ SKp.refl
/-! ### stores -/
mutual
theorem asg_prot {g : G} : ∀ {t : Tg} {d : D} {ρ ρ' : Sl}, asg g t d ρ = some ρ' → ∀ i ∈ t.slots, i ∉ g.prot
  | .v i, d, ρ, ρ', h => by
    simp only [asg] at h
    split at h
    · cases h
    · rename_i hc
      intro j hj
      have : j = i := by simpa [Tg.slots] using hj
      subst this
      exact fun z => hc (List.contains_iff_mem.mpr z)
  | .t ts, d, ρ, ρ', h => by
    cases d <;> simp only [asg, reduceCtorEq] at h
    all_goals exact asgs_prot h
  | .s p e, d, ρ, ρ', h => by
    intro i hi
    cases hi
  | .f p x, d, ρ, ρ', h => by
    intro i hi
    cases hi
theorem asgs_prot {g : G} : ∀ {ts : Tgs} {ds : List D} {ρ ρ' : Sl}, asgs g ts ds ρ = some ρ' → ∀ i ∈ ts.slots, i ∉ g.prot
  | .nil, ds, ρ, ρ', h => by
    intro i hi
    cases hi
  | .cons t ts, ds, ρ, ρ', h => by
    cases ds with
    | nil => simp [asgs] at h
    | cons d ds =>
      simp only [asgs] at h
      cases ha : asg g t d ρ with
      | none => rw [ha] at h; cases h
      | some r1 =>
        rw [ha] at h
        intro i hi
        simp only [Tgs.slots, List.mem_append] at hi
        rcases hi with hi | hi
        · exact asg_prot ha i hi
        · exact asgs_prot h i hi
end
theorem SKo.p {ts pr : List Nat} {s s' : L2.St} (h : SKo ts s s') (n : ∀ i ∈ ts, i ∉ pr) : SKp pr s s' := fun i hi => h i fun z => n i z hi
/-- a store behind a value -/
theorem asg_go {t : Tg} {H H1 : Hp} {Z Z1 : Addr → Prop} {F F1 f : List Addr} {s : L2.St} {r1 : Sl} {d : D} {x : V} {En : Ends} (st : Stp H Z F H1 Z1 (f ++ F1)) (rs : RSt c.C H1 Z1 c.xo 0 r1 s F1) (hr : R c.C H1 Z1 d x f)
    (h : WnS c H Z F s En (match asg c.g t d r1 with
      | some ρ2 => .ok .nx ρ2
      | none => .bad)) : tG c t x s H1 En.nx := by
  refine ⟨r1, Z1, F1, f, d, st.iv, rs, hr, ?_⟩
  cases ha : asg c.g t d r1 with
  | none => rw [ha] at h; exact h.elim
  | some r2 =>
    rw [ha] at h
    exact fun s' H' Z' F' st2 rs2 sk => h s' H' Z' F' (st.trans st2) rs2 (sk.p (asg_prot ha))
theorem ss_asg {t : Tg} {e : E} {pt pe : Expr} {pos : Pos} (he : PE X pe (tE c e)) (ht : PG X pt (tG c t)) (hs : PySem.swapsWithSole [pt] pe pos.line X.env = pure false) (hw : PySem.swappedStores [pt] pe X.env = pure none)
    (h1 : (PySem.assignEach [pt] X.env).map (·.2) = [PySem.assign pt X.env]) : PS X (.Assign [pt] pe pos) (tS c (.asg t e)) :=
  (L2.ps_asg he ht hs hw h1).imp fun D s H ⟨r, Z, F, i0, hs, h⟩ => by
    refine ⟨r, Z, F, i0, hs, ?_⟩
    simp only [ex] at h
    cases hv : ev c.g e r with
    | bad => rw [hv] at h; exact h
    | brw d r' => rw [hv] at h; exact h.elim
    | exc n v r' => rw [hv] at h; exact WnS.exc h
    | ok d r' =>
      rw [hv] at h
      exact fun x H' ⟨Z', F', f, st, rs, hr, pp⟩ => asg_go st rs hr h
/-- y = [..] on one line -/
theorem ss_asgLc {i : Nat} {y : Str} {py : Pos} {elt : E} {tg : Tg} {it : TW.It} {cond : E} {pelt ptg piter : Expr} {ifs : List Expr} {scope : Scope} {own : List (Str × Nat)} {pos spos : Pos} (xk : Xk c X k sc) (ch : c.hot = false) (hy : X.N[i]? = some y) (hyl : X.env.scope.names.lookup y = some .local)
    (hsw : PySem.swapsWith (.ListComp pelt [⟨ptg, piter, ifs, 0⟩] scope pos) (some (.Name y py)) spos.line X.env = pure true) (hi : PI X ptg piter (tI c it)) (ok : L2.BlkOk X.N X.env.scope scope own)
    (hg : ∀ (s : Shared) (H : Hp) (C : Addr) (cl : List (Str × Addr)) (fp : List Addr), PG (X.blk s H scope (PySem.compEnvC scope cl C X.env) fp) ptg (tG c.quiet tg)) (ht : ∀ (s : Shared) (H : Hp) (C : Addr) (cl : List (Str × Addr)) (fp : List Addr), PTs (X.blk s H scope (PySem.compEnvC scope cl C X.env) fp) ifs (tT c.quiet cond))
    (he : ∀ (s : Shared) (H : Hp) (C : Addr) (cl : List (Str × Addr)) (fp : List Addr), PE (X.blk s H scope (PySem.compEnvC scope cl C X.env) fp) pelt (tE c.quiet elt)) (hs : ∀ x, PySem.foldedSetIterable piter X.env x = pure x) (hsub : ∀ i ∈ tg.slots, i ∈ own.map (·.2)) (hlt : PG X (.Name y py) (tG c (.v i))) :
    PS X (.Assign [.Name y py] (.ListComp pelt [⟨ptg, piter, ifs, 0⟩] scope pos) spos) (tS c (.asg (.v i) (.lc elt tg it cond (own.map (·.2))))) :=
  (L2.ps_setLc (xk.calm ch) xk.nd hy hyl hsw hi ok hg ht he hs).imp fun D s H ⟨r, Z, F, i0, hs, h⟩ => by
    refine lc_imp hsub (Q := fun x H1 => L2.gName i x s H1 D.nx) ⟨r, Z, F, i0, hs, ?_⟩
    simp only [ex] at h
    cases hv : ev c.g (.lc elt tg it cond (own.map (·.2))) r with
    | bad => rw [hv] at h; exact h
    | brw d r' => rw [hv] at h; exact h.elim
    | exc n v r' => rw [hv] at h; exact WnS.exc h
    | ok d r' =>
      rw [hv] at h
      intro x H' ⟨Z', F', f, st, rs, hr, pp⟩
      -- the store of a name, by its own rule
      simp only [RE.s, asg] at h
      split at h
      · rename_i r2 hasg
        split at hasg
        · cases hasg
        · rename_i hp
          split at hasg
          · rename_i hlt2
            cases hasg
            obtain ⟨p, g, q, a1, a2, a3⟩ := rs.focus i hlt2
            have hs2 := (a3 H' Z' ⟨fun _ z => z, fun _ _ _ e => e⟩).1 d x f (RX.of hr)
            refine h _ H' Z' _ ?_ hs2 fun j hj => ?_
            · have pm : (f ++ F').Perm ((p ++ f ++ q) ++ g) := by
                rw [a1]
                have e1 : (f ++ (p ++ g ++ q)).Perm ((p ++ g ++ q) ++ f) := List.perm_append_comm
                refine e1.trans ?_
                simp only [List.append_assoc]
                refine List.Perm.append_left p ?_
                have : (g ++ (q ++ f)).Perm ((q ++ f) ++ g) := List.perm_append_comm
                refine this.trans ?_
                have e2 : ((q ++ f) ++ g).Perm ((f ++ q) ++ g) := List.Perm.append_right g List.perm_append_comm
                simpa using e2
              exact (st.perm pm).sub (List.sublist_append_left _ _)
            · have hne : i ≠ j := fun e => hp (List.contains_iff_mem.mpr (e ▸ hj))
              exact List.getElem?_set_ne hne
          · cases hasg
      · exact h.elim
/-- o.f = v -/
theorem ss_fld {p : P} {f : Str} {e : E} {po pe : Expr} {pos pos' : Pos} (hp : PE X po (tP c p)) (he : PE X pe (tE c e)) (hK : X.K = c.C.K) (fk : Fk c X.K f) (ck : ClsOk c X.K) (hs : PySem.swapsWith pe (some (.Attribute po f pos')) pos.line X.env = pure false) :
    PS X (.Assign [.Attribute po f pos'] pe pos) (tS c (.asg (.f p f) e)) :=
  (L2.ps_fld hp he hs).imp fun D s H ⟨r, Z, F, i0, hs, h⟩ => by
    refine ⟨r, Z, F, i0, hs, ?_⟩
    simp only [ex] at h
    cases hv : ev c.g e r with
    | bad => rw [hv] at h; exact h
    | brw d r' => rw [hv] at h; exact h.elim
    | exc n v r' => rw [hv] at h; exact WnS.exc h
    | ok d r' =>
      rw [hv] at h
      intro y H1 ⟨Z1, F1, f1, st, rs, hr, pp⟩
      simp only [RE.s, asg] at h
      have i1 : Iv H1 Z1 F1 := st.iv.sub (List.sublist_append_right _ _)
      cases hw : evP c.g p r' with
      | none => rw [hw] at h; exact h.elim
      | some w =>
        rw [hw] at h
        simp only at h
        cases hg : getP r' w with
        | none => rw [hg] at h; exact h.elim
        | some d0 =>
          rw [hg] at h
          refine ⟨r', Z1, F1, w, d0, i1, rs, hw, hg, fun x H2 Z2 st2 ⟨p1, g1, q1, hf⟩ => ?_⟩
          cases d0 with
          | ins o cl fs =>
            cases o with
            | false => exact h.elim
            | true =>
              simp only at h
              split at h
              · rename_i r2 hasg
                split at hasg
                · rename_i hlen
                  obtain ⟨a, A, dx, vs, g0, rfl, ec, e2, e3, e4⟩ := hf.at_
                  have i2 : Iv H2 Z2 (f1 ++ F1) := st2.ivl st.iv
                  obtain ⟨n1, n2, n3, nz, hin⟩ := hf.away i2 e4
                  have hr2 := hr.mono (st2.kpAll (F := f1))
                  have stA : Stp H Z F H2 Z2 (f1 ++ F1) := st.trans (by simpa using st2.lift st.iv)
                  refine ⟨a, A, dx, vs, rfl, e2, ck cl A ec, fk.at_ cl A ec, by rw [e3.len]; exact hlen, ?_⟩
                  cases hl : lookF f fs with
                  | some old =>
                    obtain ⟨w0, p2, g2, q2, c1, c2, c3, c4⟩ := e3.at hl
                    have hn2 : a ∉ p2 ++ q2 := fun z => n2 (by rw [c2]; simp only [List.mem_append] at z ⊢; rcases z with z | z <;> simp [z])
                    have hL := c4 (upd H2 a (.ins A dx (L2.putF f y vs))) Z2 (kpU hn2 nz) d y f1 (hr2.mono (kpU n1 nz))
                    obtain ⟨s1, s2⟩ := hf.wrote (d' := .ins true cl (putFD f d fs)) (f := f1) (o := .ins A dx (L2.putF f y vs)) (gn := p2 ++ f1 ++ q2) (rest := g2) i2 e4 (by
                      rw [c2]
                      have e1 : (p2 ++ g2 ++ q2 ++ f1).Perm (p2 ++ (g2 ++ (q2 ++ f1))) := by simp
                      refine e1.trans ?_
                      have e2 : (p2 ++ (g2 ++ (q2 ++ f1))).Perm (p2 ++ ((q2 ++ f1) ++ g2)) := List.Perm.append_left p2 List.perm_append_comm
                      refine e2.trans ?_
                      have e3 : (p2 ++ ((q2 ++ f1) ++ g2)).Perm (p2 ++ ((f1 ++ q2) ++ g2)) := List.Perm.append_left p2 (List.Perm.append_right g2 List.perm_append_comm)
                      simpa using e3) ⟨a, A, dx, _, _, rfl, ec, upd_same, hL, rfl⟩ hasg
                    exact h s _ Z2 _ (stA.trans s1) s2 SKp.refl
                  | none =>
                    have hL := RF.put (e3.mono (kpU (o := .ins A dx (L2.putF f y vs)) n2 nz)) (hr2.mono (kpU n1 nz)) hl
                    obtain ⟨s1, s2⟩ := hf.wrote (d' := .ins true cl (putFD f d fs)) (f := f1) (o := .ins A dx (L2.putF f y vs)) (gn := g0 ++ f1) (rest := []) i2 e4 (by simp) ⟨a, A, dx, _, _, rfl, ec, upd_same, hL, rfl⟩ hasg
                    exact h s _ Z2 _ (stA.trans s1) s2 SKp.refl
                · cases hasg
              · exact h.elim
          | _ => exact h.elim
/-! ### if, sequences -/
theorem ss_ite {q : E} {a b : TW.S} {pq : Expr} {pa pb : List Stmt} {pos : Pos} (hq : PT X pq (tT c q)) (ha : PSs X pa (tS c a)) (hb : PSs X pb (tS c b)) : PS X (.If pq pa pb pos) (tS c (.ite q a b)) :=
  (L2.ps_if hq ha hb).imp fun En s H ⟨r, Z, F, i0, hs, h⟩ => by
    refine ⟨r, Z, F, i0, hs, ?_⟩
    simp only [ex] at h
    have go : ∀ {d : D} {r' : Sl}, WnS c H Z F s En (match d.tru with
        | some k => if k = true then ex a c.g r' else ex b c.g r'
        | none => .bad) → match d.tru with
        | some bb => ∀ H' Z' F', Stp H Z F H' Z' F' → RSt c.C H' Z' c.xo 0 r' s F' → (pur q = true → r' = r ∧ F' = F ∧ Stp H Z [] H' Z' []) → (if bb = true then tS c a En s H' else tS c b En s H')
        | none => False := fun {d r'} h => by
      cases ht : d.tru with
      | none => rw [ht] at h; exact h
      | some bb =>
        rw [ht] at h
        intro H' Z' F' st rs pp
        cases bb with
        | true =>
          rw [if_pos rfl]
          exact ⟨r', Z', F', st.iv, rs, WnS.from st SKp.refl h⟩
        | false =>
          rw [if_neg Bool.false_ne_true]
          exact ⟨r', Z', F', st.iv, rs, WnS.from st SKp.refl h⟩
    cases hv : ev c.g q r with
    | bad => rw [hv] at h; exact h
    | exc n v r' => rw [hv] at h; exact WnS.exc h
    | ok d r' => rw [hv] at h; exact go h
    | brw d r' => rw [hv] at h; exact go h
theorem sss_nil : PSs X [] (tS c .pass) := L2.pss_nil.imp fun D s H ⟨r, Z, F, i0, hs, h⟩ => by
  simp only [ex] at h
  exact h s H Z F (Stp.refl i0) hs SKp.refl
theorem sss_one {a : TW.S} {pa : Stmt} (ha : PS X pa (tS c a)) : PSs X [pa] (tS c a) := L2.pss_one ha
theorem sss_cons {a b : TW.S} {pa : Stmt} {pb : List Stmt} (ha : PS X pa (tS c a)) (hb : PSs X pb (tS c b)) : PSs X (pa :: pb) (tS c (.seq a b)) :=
  (L2.pss_cons ha hb).imp fun D s H ⟨r, Z, F, i0, hs, h⟩ => by
    refine ⟨r, Z, F, i0, hs, ?_⟩
    simp only [ex] at h
    cases hv : ex a c.g r with
    | bad => rw [hv] at h; exact h
    | exc n v r' => rw [hv] at h; exact h
    | ok fl r' =>
      rw [hv] at h
      cases fl with
      | nx => exact fun s' H' Z' F' st rs sk => ⟨r', Z', F', st.iv, rs, WnS.from st sk h⟩
      | bk => exact h
      | ct => exact h
      | rt d => exact h
end TW
end

section
/-! loops; several stores at once -/
namespace TW
open PySem (Str Addr Expr Stmt Pos Value Obj Shared model PyData Scope)
open L2 (V HO Hp Rd upd upd_same upd_ne TE TT TA TS TI TG TGs VK XK Cx PE PT PW PA PS PSs PG PGs PI OpR R2 CallR PTs wipe Ends)
variable {c : Ct} {X : Cx} {k : Nat} {sc : Scope}
def Ct.pr (c : Ct) (p : List Nat) : Ct := { c with g := { c.g with prot := p } }
/-- out of a walk: what was kept aside comes back -/
theorem leave {H H' : Hp} {Z Z' : Addr → Prop} {F F' gh gt f : List Addr} {s' : L2.St} {held : List (Nat × D)} {r' r2 : Sl} (st : Stp H Z F H' Z' ((gh ++ gt) ++ (f ++ F'))) (rs : RSt c.C H' Z' c.xo 0 r' s' F') (hh : HVs c.C H' Z' s' held gh) (hp : putHeld held r' = some r2) :
    ∃ F2, Stp H Z F H' Z' (f ++ F2) ∧ RSt c.C H' Z' c.xo 0 r2 s' F2 := by
  obtain ⟨F2, a1, a2⟩ := putHeld_ok hh rs hp
  refine ⟨F2, ?_, a1⟩
  have s1 : Stp H Z F H' Z' (gh ++ (f ++ F')) := by
    refine st.sub ?_
    rw [List.append_assoc]
    exact List.Sublist.append_left (List.sublist_append_right _ _) _
  refine s1.perm ?_
  have e1 : (gh ++ (f ++ F')).Perm (f ++ (gh ++ F')) := by
    have : ((gh ++ f) ++ F').Perm ((f ++ gh) ++ F') := List.Perm.append_right F' List.perm_append_comm
    simpa using this
  exact e1.trans (List.Perm.append_left f a2)
def forStep (g : G) (t : Tg) (b : TW.S) : D → Sl → RS := fun d ρ2 => match asg g t d ρ2 with
  | some ρ3 => ex b g ρ3
  | none => .bad
theorem ss_for {t : Tg} {it : TW.It} {b : TW.S} {pt pit : Expr} {pb : List Stmt} {pos : Pos} (hp : PySem.PassesOwn (model X.prog X.w) X.A X.env X.xe) (xk : Xk c X k sc) (ch : c.hot = false) (hi : PI X pt pit (tI c it)) (hg : ∀ p, PG X pt (tG (c.pr p) t)) (hb : ∀ p, PSs X pb (tS (c.pr p) b))
    (hs : ∀ x, PySem.foldedSetIterable pit X.env x = pure x) : PS X (.For pt pit pb [] pos) (tS c (.for t it b)) :=
  (L2.ps_for hp (xk.calm ch) hi (PG.ex hg) (PSs.ex hb) hs).imp fun En s H ⟨r, Z, F, i0, hs, h⟩ => by
    refine ⟨r, Z, F, i0, hs, ?_⟩
    simp only [ex] at h
    cases hv : evIt c.g it r with
    | bad => rw [hv] at h; exact h
    | exc n v r' => rw [hv] at h; exact WnS.exc h
    | ok items held ρ1 =>
      rw [hv] at h
      intro J H1 Z1 F1 gh gt st1 rs1 hh1 ⟨Gp, Y, wk, hG, hY⟩
      change WnS c H Z F s En ((forL (forStep (c.pr (held.map (·.1) ++ c.g.prot)).g t b) items ρ1).back held) at h
      generalize hc2 : c.pr (held.map (·.1) ++ c.g.prot) = c2 at h
      have eC : c2.C = c.C := by rw [← hc2]; rfl
      have exo : c2.xo = c.xo := by rw [← hc2]; rfl
      have eW : c2.W = c.W := by rw [← hc2]; rfl
      have efld : c2.g.fld = c.g.fld := by rw [← hc2]; rfl
      have epr : c2.g.prot = held.map (·.1) ++ c.g.prot := by rw [← hc2]; rfl
      generalize hR0 : forL (forStep c2.g t b) items ρ1 = R0 at h
      generalize hGd : gh ++ gt = Gd at *
      let Pv : Nat → L2.St → Hp → Prop := fun i sc Hc => ∃ ρ Zc Fc, Stp H Z F Hc Zc (Gd ++ Fc) ∧ Kp H1 Hc Z1 Zc Gd ∧ RSt c.C Hc Zc c.xo 0 ρ sc Fc ∧ SKp (held.map (·.1) ++ c.g.prot) s sc ∧ forL (forStep c2.g t b) (items.drop i) ρ = R0
      have skh : ∀ {sc : L2.St}, SKp (held.map (·.1) ++ c.g.prot) s sc → SKp c.g.prot s sc := fun sk i hi => sk i (List.mem_append_right _ hi)
      have hh : ∀ {Hc : Hp} {Zc : Addr → Prop} {sc : L2.St}, Kp H1 Hc Z1 Zc Gd → SKp (held.map (·.1) ++ c.g.prot) s sc → HVs c.C Hc Zc sc held gh := fun {Hc Zc sc} kp sk =>
        ((hh1.mono (kp.sub fun a z => by rw [← hGd]; exact List.mem_append_left _ z)).at fun i hi => sk i (List.mem_append_left _ hi))
      -- leaving
      have out : ∀ {fl : Fl} {ρ : Sl} {sc : L2.St} {Hc : Hp} {Zc : Addr → Prop} {Fc f : List Addr}, R0 = .ok fl ρ → Stp H Z F Hc Zc (Gd ++ (f ++ Fc)) → Kp H1 Hc Z1 Zc Gd → RSt c.C Hc Zc c.xo 0 ρ sc Fc → SKp (held.map (·.1) ++ c.g.prot) s sc →
          ∃ ρ2 F2, WnS c H Z F s En (.ok fl ρ2) ∧ Stp H Z F Hc Zc (f ++ F2) ∧ RSt c.C Hc Zc c.xo 0 ρ2 sc F2 := fun {fl ρ sc Hc Zc Fc f} e st kp rs sk => by
        rw [e] at h
        simp only [RS.back] at h
        cases hph : putHeld held ρ with
        | none => rw [hph] at h; exact h.elim
        | some ρ2 =>
          rw [hph] at h
          rw [← hGd] at st
          obtain ⟨F2, a1, a2⟩ := leave st rs (hh kp sk) hph
          exact ⟨ρ2, F2, h, a1, a2⟩
      refine L2.for_it (g := fun x s H Q => ∃ i, tG (c.pr i) t x s H Q) (tb := fun D s H => ∃ i, tS (c.pr i) b D s H) (D := En) wk Pv ?_ (fun i sc Hc hi ⟨ρ, Zc, Fc, a1, a2, _⟩ => hG Hc Zc a2) ?_ ?_
      · exact ⟨ρ1, Z1, F1, st1, ⟨fun _ z => z, fun _ _ _ e => e⟩, rs1, SKp.refl, hR0⟩
      · intro i x sc Hc H' hi ⟨ρ, Zc, Fc, a1, a2, a3, a4, a5⟩ hy
        have hd : items[i]? = some items[i] := List.getElem?_eq_getElem hi
        obtain ⟨Z3, y1, y2⟩ := hY i _ x Hc Zc H' hd a2 a1.iv.zh hy
        rw [List.drop_eq_getElem_cons hi] at a5
        have k1 : Stp H Z F H' Z3 (Gd ++ Fc) := a1.trans (by simpa using y1.lift a1.iv)
        refine ⟨held.map (·.1) ++ c.g.prot, ?_⟩
        rw [hc2]
        refine ⟨ρ, Z3, Fc, [], items[i], k1.iv.sub (List.sublist_append_right _ _), by rw [eC, exo]; exact a3.mono y1.kpAll, by rw [eC]; exact y2, ?_⟩
        simp only [forL] at a5
        cases hasg : asg c2.g t items[i] ρ with
        | none =>
          simp only [forStep, hasg] at a5
          rw [← a5] at h
          exact h.elim
        | some ρ3 =>
          simp only [forStep, hasg] at a5
          intro s2 H2 Z2 F2 st2 rs2 sk2
          have st2' : Stp H' Z3 Fc H2 Z2 F2 := by simpa using st2
          have k2 : Stp H Z F H2 Z2 (Gd ++ F2) := k1.trans (st2'.frame k1.iv)
          have kp2 : Kp H1 H2 Z1 Z2 Gd := kp_trans (kp_trans a2 y1.kpAll) (st2'.kp (k1.iv.sub (List.sublist_append_right _ _)) fun a ha hb => (List.nodup_append.mp k1.iv.nd).2.2 a ha a hb rfl)
          have sk2' : SKp (held.map (·.1) ++ c.g.prot) s s2 := a4.trans (by rw [← epr]; exact sk2.p (asg_prot hasg))
          refine ⟨held.map (·.1) ++ c.g.prot, ?_⟩
          rw [hc2]
          refine ⟨ρ3, Z2, F2, k2.iv.sub (List.sublist_append_right _ _), rs2, ?_⟩
          rw [eC, exo] at rs2
          have step : ∀ {Hc : Hp} {Zc : Addr → Prop} {Fc f : List Addr}, Stp H2 Z2 F2 Hc Zc (f ++ Fc) → Stp H Z F Hc Zc (Gd ++ (f ++ Fc)) ∧ Kp H1 Hc Z1 Zc Gd := fun {Hc Zc Fc f} st => by
            refine ⟨k2.trans (st.frame k2.iv), kp_trans kp2 (st.kp (k2.iv.sub (List.sublist_append_right _ _)) fun a ha hb => (List.nodup_append.mp k2.iv.nd).2.2 a ha a hb rfl)⟩
          cases hx : ex b c2.g ρ3 with
          | bad =>
            rw [hx] at a5
            rw [← a5] at h
            exact h.elim
          | exc n v ρ4 =>
            rw [hx] at a5
            intro A dd s' H4 ⟨Z4, F4, w, b1, b2, b3, b4, b5, b6⟩ sk
            rw [eC, exo] at b2
            rw [efld] at b4
            rw [eC] at b3 b6
            rw [eW]
            rw [← a5] at h
            simp only [RS.back] at h
            cases hph : putHeld held ρ4 with
            | none => rw [hph] at h; exact h.elim
            | some ρ5 =>
              rw [hph] at h
              have b1' : Stp H2 Z2 F2 H4 Z4 ([] ++ F4) := b1
              obtain ⟨d1, d2⟩ := step b1'
              rw [epr] at sk
              have sk4 := sk2'.trans sk
              rw [← hGd] at d1
              obtain ⟨F5, d3, d4⟩ := leave d1 b2 (hh d2 sk4) hph
              exact h A dd s' H4 ⟨Z4, F5, w, d3, d4, b3, b4, b5, b6⟩ (skh sk4)
          | ok fl ρ4 =>
            rw [hx] at a5
            cases fl with
            | nx =>
              intro s' H4 Z4 F4 b1 b2 sk
              rw [eC, exo] at b2
              rw [epr] at sk
              obtain ⟨d1, d2⟩ := step (f := []) b1
              exact ⟨ρ4, Z4, F4, d1, d2, b2, sk2'.trans sk, a5⟩
            | ct =>
              intro s' H4 Z4 F4 b1 b2 sk
              rw [eC, exo] at b2
              rw [epr] at sk
              obtain ⟨d1, d2⟩ := step (f := []) b1
              exact ⟨ρ4, Z4, F4, d1, d2, b2, sk2'.trans sk, a5⟩
            | bk =>
              intro s' H4 Z4 F4 b1 b2 sk
              rw [eC, exo] at b2
              rw [epr] at sk
              obtain ⟨d1, d2⟩ := step (f := []) b1
              obtain ⟨ρ5, F5, d3, d4, d5⟩ := out (f := []) a5.symm d1 d2 b2 (sk2'.trans sk)
              exact d3 s' H4 Z4 F5 d4 d5 (skh (sk2'.trans sk))
            | rt d =>
              intro x s' H4 Z4 F4 f b1 b2 b3 sk
              rw [eC, exo] at b2
              rw [eC] at b3
              rw [epr] at sk
              obtain ⟨d1, d2⟩ := step b1
              obtain ⟨ρ5, F5, d3, d4, d5⟩ := out a5.symm d1 d2 b2 (sk2'.trans sk)
              exact d3 x s' H4 Z4 F5 f d4 d5 b3 (skh (sk2'.trans sk))
      · intro sc Hc ⟨ρ, Zc, Fc, a1, a2, a3, a4, a5⟩
        simp only [List.drop_length, forL] at a5
        obtain ⟨ρ5, F5, d3, d4, d5⟩ := out (f := []) a5.symm a1 a2 a3 a4
        exact d3 sc Hc Zc F5 d4 d5 (skh a4)
/-! ### while -/
/-- a while is reckoned by its turns -/
def WlOk (g : G) : Prop := ∀ step ρ, g.wl step ρ ≠ .bad → ∃ n, wlN step n ρ = some (g.wl step ρ)
theorem ss_whl {q : E} {b : TW.S} {pq : Expr} {pb : List Stmt} {pos : Pos} (hp : PySem.PassesOwn (model X.prog X.w) X.A X.env X.xe) (wl : WlOk c.g) (hq : PT X pq (tT c q)) (hb : PSs X pb (tS c b)) : PS X (.While pq pb [] pos) (tS c (.whl q b)) :=
  (L2.ps_while hp hq hb).imp fun En s H ⟨r, Z, F, i0, hs, h⟩ => by
    simp only [ex] at h
    generalize hstep : (fun ρ => match ev c.g q ρ with
      | .ok d ρ1 | .brw d ρ1 => (match d.tru with
        | some true => (ex b c.g ρ1).turn
        | some false => some (.inr (.ok .nx ρ1))
        | none => none)
      | .exc n v ρ1 => some (.inr (.exc n v ρ1))
      | .bad => none : Sl → Option (Sum Sl RS)) = step at h
    generalize hR0 : c.g.wl step r = R0 at h
    have hnb : R0 ≠ .bad := fun e => by rw [e] at h; exact h
    obtain ⟨n0, hn0⟩ := wl step r (by rw [hR0]; exact hnb)
    rw [hR0] at hn0
    refine ⟨fun m sc Hc => ∃ ρ Zc Fc, Stp H Z F Hc Zc Fc ∧ RSt c.C Hc Zc c.xo 0 ρ sc Fc ∧ SKp c.g.prot s sc ∧ wlN step m ρ = some R0, ⟨n0, r, Z, F, Stp.refl i0, hs, SKp.refl, hn0⟩, ?_⟩
    intro m sc Hc ⟨ρ, Zc, Fc, a1, a2, a3, a4⟩
    cases m with
    | zero => simp [wlN] at a4
    | succ m =>
      simp only [wlN] at a4
      refine ⟨ρ, Zc, Fc, a1.iv, a2, ?_⟩
      have go : ∀ {d : D} {ρ1 : Sl}, step ρ = (match d.tru with
          | some true => (ex b c.g ρ1).turn
          | some false => some (.inr (.ok .nx ρ1))
          | none => none) → match d.tru with
          | some bb => ∀ H' Z' F', Stp Hc Zc Fc H' Z' F' → RSt c.C H' Z' c.xo 0 ρ1 sc F' → (pur q = true → ρ1 = ρ ∧ F' = Fc ∧ Stp Hc Zc [] H' Z' []) →
              (if bb = true then ∃ N : L2.St → Hp → Prop, (∀ σ' H', N σ' H' → ∃ m', m' < m + 1 ∧ ∃ ρ Zc Fc, Stp H Z F H' Zc Fc ∧ RSt c.C H' Zc c.xo 0 ρ σ' Fc ∧ SKp c.g.prot s σ' ∧ wlN step m' ρ = some R0) ∧ tS c b { En with nx := N, ct := N, bk := En.nx } sc H' else En.nx sc H')
          | none => False := fun {d ρ1} e => by
        cases ht : d.tru with
        | none =>
          rw [ht] at e
          rw [e] at a4
          simp only [Option.some.injEq] at a4
          exact absurd a4.symm hnb
        | some bb =>
          rw [ht] at e
          intro H' Z' F' st rs pp
          cases bb with
          | false =>
            rw [if_neg Bool.false_ne_true]
            simp only at e
            rw [e] at a4
            simp only [Option.some.injEq] at a4
            rw [← a4] at h
            exact h sc H' Z' F' (a1.trans st) rs a3
          | true =>
            rw [if_pos rfl]
            simp only at e
            rw [e] at a4
            refine ⟨fun s' H2 => ∃ ρ Zc Fc, Stp H Z F H2 Zc Fc ∧ RSt c.C H2 Zc c.xo 0 ρ s' Fc ∧ SKp c.g.prot s s' ∧ wlN step m ρ = some R0, fun s' H2 q => ⟨m, Nat.lt_succ_self m, q⟩, ρ1, Z', F', st.iv, rs, ?_⟩
            have st1 : Stp H Z F H' Z' F' := a1.trans st
            cases hx : ex b c.g ρ1 with
            | bad =>
              rw [hx] at a4
              simp only [RS.turn, Option.some.injEq] at a4
              exact hnb a4.symm
            | exc n v ρ4 =>
              rw [hx] at a4
              simp only [RS.turn, Option.some.injEq] at a4
              rw [← a4] at h
              exact WnS.from st1 a3 h
            | ok fl ρ4 =>
              rw [hx] at a4
              cases fl with
              | nx =>
                simp only [RS.turn] at a4
                exact fun s' H2 Z2 F2 b1 b2 sk => ⟨ρ4, Z2, F2, st1.trans b1, b2, a3.trans sk, a4⟩
              | ct =>
                simp only [RS.turn] at a4
                exact fun s' H2 Z2 F2 b1 b2 sk => ⟨ρ4, Z2, F2, st1.trans b1, b2, a3.trans sk, a4⟩
              | bk =>
                simp only [RS.turn, Option.some.injEq] at a4
                rw [← a4] at h
                exact fun s' H2 Z2 F2 b1 b2 sk => h s' H2 Z2 F2 (st1.trans b1) b2 (a3.trans sk)
              | rt d =>
                simp only [RS.turn, Option.some.injEq] at a4
                rw [← a4] at h
                exact WnS.from (En := En) st1 a3 h
      have es : step ρ = (match ev c.g q ρ with
        | .ok d ρ1 | .brw d ρ1 => (match d.tru with
          | some true => (ex b c.g ρ1).turn
          | some false => some (.inr (.ok .nx ρ1))
          | none => none)
        | .exc n v ρ1 => some (.inr (.exc n v ρ1))
        | .bad => none) := by rw [← hstep]
      cases hv : ev c.g q ρ with
      | bad =>
        rw [hv] at es
        simp only at es
        rw [es] at a4
        simp only [Option.some.injEq] at a4
        exact hnb a4.symm
      | exc n v ρ1 =>
        rw [hv] at es
        simp only at es
        rw [es] at a4
        simp only [Option.some.injEq] at a4
        rw [← a4] at h
        exact fun A dd H' ⟨Z', F', w, b1, rest⟩ => h A dd sc H' ⟨Z', F', w, a1.trans b1, rest⟩ a3
      | ok d ρ1 => rw [hv] at es; exact go es
      | brw d ρ1 => rw [hv] at es; exact go es
/-! ### a, b = x, y -/
/-- by a pair that is laid -/
theorem ss_par {ts : Tgs} {es : Es} {pts pes : List Expr} {kt k2 n : Nat} {pt pt2 pos : Pos} (xk : Xk c X k sc) (ch : c.hot = false) (he : PA X pes (tEs c es)) (ht : PGs X pts (tGs c ts)) (hlen : pes.length ≤ 1000) (hn : (PySem.assignEach pts X.env).length = n) (hst : (PySem.assignEach pts X.env).findIdx? (·.1) = none)
    (hl : es.n = pes.length) (hlt : ts.n = n) (hs : PySem.swapsWithSole [.Tuple pts kt pt] (.Tuple pes k2 pt2) pos.line X.env = pure false) (hw : PySem.swappedStores [.Tuple pts kt pt] (.Tuple pes k2 pt2) X.env = pure none)
    (h1 : (PySem.assignEach [.Tuple pts kt pt] X.env).map (·.2) = [PySem.assign (.Tuple pts kt pt) X.env]) : PS X (.Assign [.Tuple pts kt pt] (.Tuple pes k2 pt2) pos) (tS c (.par ts es)) :=
  (L2.ps_asg (L2.pe_tup he) (L2.pg_tup (xk.calm ch) ht hn hst) hs hw h1).imp fun En s H ⟨r, Z, F, i0, hs, h⟩ => by
    refine ⟨r, Z, F, i0, hs, ?_⟩
    simp only [ex] at h
    cases hv : evEs c.g es r with
    | bad => rw [hv] at h; exact h
    | exc n v r' => rw [hv] at h; exact WnS.exc h
    | ok ds r1 =>
      rw [hv] at h
      simp only at h
      intro vs H1 ⟨Z1, F1, f1, st, rs, hr, pp⟩
      refine ⟨by rw [hr.len, evEs_len hv, hl, PySem.sizeLine_eq]; omega, fun p hp => ?_⟩
      cases ha : asgs c.g ts ds r1 with
      | none => rw [ha] at h; exact h.elim
      | some r2 =>
        rw [ha] at h
        have hZ : ∀ a, Z1 a → H1 a ≠ none := st.iv.zh
        have sN : Stp H1 Z1 (f1 ++ F1) (upd H1 p (.tup vs)) Z1 (f1 ++ F1) := by
          have := Stp.new (o := .tup vs) st.iv hp
          exact this.sub (List.sublist_cons_self _ _)
        refine ⟨p, vs, rfl, .inl (.inl upd_same), by rw [hr.len, asgs_len ha, hlt], r1, Z1, F1, f1, ds, sN.iv, rs.mono (kpN' hp), hr.mono (kpN' hp), ?_⟩
        rw [ha]
        exact fun s' H' Z' F' st2 rs2 sk => h s' H' Z' F' ((st.trans sN).trans st2) rs2 (sk.p (asgs_prot ha))
/-- two plain names, from the right -/
theorem ss_par2 {i j : Nat} {e1 e2 : E} {x y : Str} {p1 p2 : Expr} {px py pt : Pos} {kt k2 pt2 pos} (xk : Xk c X k sc) (ch : c.hot = false) (hi : X.N[i]? = some x) (hj : X.N[j]? = some y) (hij : i ≠ j)
    (hx : X.env.scope.names.lookup x = some .local) (hy : X.env.scope.names.lookup y = some .local) (ha : PA X [p1, p2] (tEs c (.cons e1 (.cons e2 .nil))))
    (hw : PySem.swappedStores [.Tuple [.Name x px, .Name y py] kt pt] (.Tuple [p1, p2] k2 pt2) X.env = pure (some [x, y]))
    (hs : PySem.swapsWithSole [.Tuple [.Name x px, .Name y py] kt pt] (.Tuple [p1, p2] k2 pt2) pos.line X.env = pure false) :
    PS X (.Assign [.Tuple [.Name x px, .Name y py] kt pt] (.Tuple [p1, p2] k2 pt2) pos) (tS c (.par (.cons (.v i) (.cons (.v j) .nil)) (.cons e1 (.cons e2 .nil)))) :=
  (L2.ps_par (xk.calm ch) xk.nd hi hj hij hx hy ha hw hs).imp fun En s H ⟨r, Z, F, i0, hs, h⟩ => by
    refine ⟨r, Z, F, i0, hs, ?_⟩
    simp only [ex] at h
    cases hv : evEs c.g (.cons e1 (.cons e2 .nil)) r with
    | bad => rw [hv] at h; exact h
    | exc n v r' => rw [hv] at h; exact WnS.exc h
    | ok ds r1 =>
      rw [hv] at h
      simp only at h
      intro vs H1 ⟨Z1, F1, f1, st, rs, hr, pp⟩
      have hl := evEs_len hv
      obtain ⟨d1, d2, rfl⟩ : ∃ d1 d2, ds = [d1, d2] := by
        match ds, hl with
        | [a, b], _ => exact ⟨a, b, rfl⟩
      obtain ⟨v, vr, g1, g2, rfl, hr1, ⟨w, wr, g3, g4, rfl, hr2, ⟨rfl, rfl⟩, rfl⟩, rfl⟩ := hr
      refine ⟨v, w, rfl, ?_⟩
      simp only [asgs, asg] at h
      split at h
      · rename_i r2 hasg
        split at hasg
        · rename_i r3 has1
          split at has1
          · cases has1
          · rename_i hpi
            split at has1
            · rename_i hlt
              cases has1
              split at hasg
              · rename_i r4 has2
                split at has2
                · cases has2
                · rename_i hpj
                  split at has2
                  · rename_i hlt2
                    cases has2
                    cases hasg
                    obtain ⟨p, g, q, a1, a2, a3⟩ := rs.focus i hlt
                    have hs2 := (a3 H1 Z1 ⟨fun _ z => z, fun _ _ _ e => e⟩).1 d1 v g1 (RX.of hr1)
                    obtain ⟨p', g', q', b1, b2, b3⟩ := hs2.focus j hlt2
                    have hs3 := (b3 H1 Z1 ⟨fun _ z => z, fun _ _ _ e => e⟩).1 d2 w g3 (RX.of hr2)
                    refine h _ H1 Z1 _ ?_ hs3 fun m hm => ?_
                    · have e1 : ((g1 ++ (g3 ++ [])) ++ F1).Perm (g3 ++ (g1 ++ F1)) := by
                        simp only [List.append_nil]
                        have : ((g1 ++ g3) ++ F1).Perm ((g3 ++ g1) ++ F1) := List.Perm.append_right F1 List.perm_append_comm
                        simpa using this
                      have e2 : (g1 ++ F1).Perm ((p ++ g1 ++ q) ++ g) := by
                        rw [a1]
                        have e1 : (g1 ++ (p ++ g ++ q)).Perm ((p ++ g ++ q) ++ g1) := List.perm_append_comm
                        refine e1.trans ?_
                        simp only [List.append_assoc]
                        refine List.Perm.append_left p ?_
                        have : (g ++ (q ++ g1)).Perm ((q ++ g1) ++ g) := List.perm_append_comm
                        refine this.trans ?_
                        have e2 : ((q ++ g1) ++ g).Perm ((g1 ++ q) ++ g) := List.Perm.append_right g List.perm_append_comm
                        simpa using e2
                      have e3 : (g3 ++ (p ++ g1 ++ q)).Perm ((p' ++ g3 ++ q') ++ g') := by
                        rw [b1]
                        have e1 : (g3 ++ (p' ++ g' ++ q')).Perm ((p' ++ g' ++ q') ++ g3) := List.perm_append_comm
                        refine e1.trans ?_
                        simp only [List.append_assoc]
                        refine List.Perm.append_left p' ?_
                        have : (g' ++ (q' ++ g3)).Perm ((q' ++ g3) ++ g') := List.perm_append_comm
                        refine this.trans ?_
                        have e2 : ((q' ++ g3) ++ g').Perm ((g3 ++ q') ++ g') := List.Perm.append_right g' List.perm_append_comm
                        simpa using e2
                      have e4 : ((g1 ++ (g3 ++ [])) ++ F1).Perm (((p' ++ g3 ++ q') ++ g') ++ g) := by
                        refine e1.trans ((List.Perm.append_left g3 e2).trans ?_)
                        rw [← List.append_assoc]
                        exact List.Perm.append_right g e3
                      exact ((st.perm e4).sub (List.sublist_append_left _ _)).sub (List.sublist_append_left _ _)
                    · have h1 : i ≠ m := fun e => hpi (List.contains_iff_mem.mpr (e ▸ hm))
                      have h2 : j ≠ m := fun e => hpj (List.contains_iff_mem.mpr (e ▸ hm))
                      rw [List.getElem?_set_ne h2, List.getElem?_set_ne h1]
                  · cases has2
              · cases hasg
            · cases has1
        · cases hasg
      · exact h.elim
end TW
end

section
/-! tests by comparison; comprehensions as expressions; a block's context -/
namespace TW
open PySem (Str Addr Expr Stmt Pos Value Obj Shared model PyData Scope Env)
open L2 (V HO Hp Rd upd upd_same upd_ne TE TT TA TS TI TG TGs VK XK Cx PE PT PW PA PS PSs PG PGs PI OpR R2 CallR PTs wipe Ends)
variable {c : Ct} {X : Cx} {k : Nat} {sc : Scope}
theorem cop_bl {op : Cop} {x y d : D} (h : op.run x y = some d) : ∃ b, d = .bl b := by
  cases op <;> cases x <;> cases y <;> simp only [Cop.run, Option.map_eq_some_iff, Option.some.injEq, reduceCtorEq] at h <;> first
    | (obtain ⟨b, _, rfl⟩ := h; exact ⟨_, rfl⟩)
    | exact ⟨_, h.symm⟩
theorem tT_tE {e : E} {s : L2.St} {H : Hp} {Q : Bool → Hp → Prop} (hb : ∀ {r d r'}, (ev c.g e r = .ok d r' ∨ ev c.g e r = .brw d r') → ∃ b, d = .bl b) (h : tT c e s H Q) : tE c e s H fun x H' => ∃ k, x = V.bl k ∧ Q k H' := by
  obtain ⟨r, Z, F, i0, hs, h⟩ := h
  refine ⟨r, Z, F, i0, hs, ?_⟩
  cases hv : ev c.g e r with
  | bad => rw [hv] at h; exact h
  | exc n v r' => rw [hv] at h; exact h
  | ok d r' =>
    obtain ⟨b, rfl⟩ := hb (.inl hv)
    rw [hv] at h
    exact fun x H' ⟨Z', F', f, st, rs, hr, pp⟩ => ⟨b, hr.1, h H' Z' F' (st.sub (List.sublist_append_right _ _)) rs fun p => ⟨(pp p).1, (pp p).2.1, (pp p).2.2.nil⟩⟩
  | brw d r' =>
    obtain ⟨b, rfl⟩ := hb (.inr hv)
    rw [hv] at h
    exact fun x H' ⟨Z', F', f, st, rs, hr, hsub, pp⟩ => ⟨b, hr.1, h H' Z' F' st rs pp⟩
theorem lift_ok {o : Option D} {r r' : Sl} {d : D} (h : RE.lift o r = .ok d r' ∨ RE.lift o r = .brw d r') : o = some d := by
  cases o with
  | none => rcases h with h | h <;> cases h
  | some e => rcases h with h | h <;> cases h; rfl
theorem ev_cmp_bl {g : G} {op : Cop} {a b : E} {r r' : Sl} {d : D} (h : ev g (.cmp op a b) r = .ok d r' ∨ ev g (.cmp op a b) r = .brw d r') : ∃ b, d = .bl b := by
  simp only [ev] at h
  have step : ∀ {res : RE} {p : Bool} {k : D → Sl → RE}, (res.o p k = .ok d r' ∨ res.o p k = .brw d r') → ∃ x r1, (k x r1 = .ok d r' ∨ k x r1 = .brw d r') := fun {res p k} h => by
    cases res with
    | ok x r1 => exact ⟨x, r1, h⟩
    | brw x r1 =>
      simp only [RE.o] at h
      split at h
      · exact ⟨x, r1, h⟩
      · rcases h with h | h <;> cases h
    | exc n v r1 => rcases h with h | h <;> cases h
    | bad => rcases h with h | h <;> cases h
  obtain ⟨x, r1, h⟩ := step h
  obtain ⟨y, r2, h⟩ := step h
  exact cop_bl (lift_ok h)
theorem ev_chain_bl {g : G} {o1 o2 : Cop} {a b e : E} {r r' : Sl} {d : D} (h : ev g (.chain o1 o2 a b e) r = .ok d r' ∨ ev g (.chain o1 o2 a b e) r = .brw d r') : ∃ b, d = .bl b := by
  simp only [ev] at h
  have step : ∀ {res : RE} {p : Bool} {k : D → Sl → RE}, (res.o p k = .ok d r' ∨ res.o p k = .brw d r') → ∃ x r1, (k x r1 = .ok d r' ∨ k x r1 = .brw d r') := fun {res p k} h => by
    cases res with
    | ok x r1 => exact ⟨x, r1, h⟩
    | brw x r1 =>
      simp only [RE.o] at h
      split at h
      · exact ⟨x, r1, h⟩
      · rcases h with h | h <;> cases h
    | exc n v r1 => rcases h with h | h <;> cases h
    | bad => rcases h with h | h <;> cases h
  have stepv : ∀ {res : RE} {k : D → Sl → RE}, (res.v k = .ok d r' ∨ res.v k = .brw d r') → ∃ x r1, (k x r1 = .ok d r' ∨ k x r1 = .brw d r') := fun {res k} h => by
    cases res with
    | ok x r1 => exact ⟨x, r1, h⟩
    | brw x r1 => rcases h with h | h <;> cases h
    | exc n v r1 => rcases h with h | h <;> cases h
    | bad => rcases h with h | h <;> cases h
  obtain ⟨x, r1, h⟩ := stepv h
  obtain ⟨y, r2, h⟩ := stepv h
  cases y <;> try (rcases h with h | h <;> cases h)
  rename_i j
  simp only at h
  cases ho : o1.run x (.int j) with
  | none => rw [ho] at h; rcases h with h | h <;> cases h
  | some dz =>
    rw [ho] at h
    obtain ⟨b, rfl⟩ := cop_bl ho
    cases b with
    | true =>
      simp only at h
      obtain ⟨z, r3, h⟩ := step h
      exact cop_bl (lift_ok h)
    | false => rcases h with h | h <;> cases h; exact ⟨_, rfl⟩
theorem st_cmp {op : Cop} {a b : E} {pa pb : Expr} {pos : Pos} (xk : Xk c X k sc) (ha : PE X pa (tE c a)) (hb : PE X pb (tE c b)) (hm : PySem.behindInMarks (cmpOf op) pb = false) : PT X (.Compare pa [cmpOf op] [pb] pos) (tT c (.cmp op a b)) := by
  have hu := xk.room.un
  obtain ⟨rr, h1, h2⟩ := cop_ok (C := c.C) X xk.K (by omega) op
  refine (L2.pt_cmpR h1 ha hb hm).imp fun s H Q h => ?_
  obtain ⟨r, Z, F, i0, hs, h⟩ := tT_tE ev_cmp_bl h
  exact tE.two h2 i0 hs h
theorem tE_chain {o1 o2 : Cop} {a b d : E} {pa pb pd : Expr} {pos : Pos} (xk : Xk c X k sc) (hd : PE X pd (tE c d)) : ∃ r1 r2, OpR X (PySem.compareOp (cmpOf o1)) r1 ∧ OpR X (PySem.compareOp (cmpOf o2)) r2 ∧ ∀ s H Q, tE c (.chain o1 o2 a b d) s H Q → L2.tChain r1 r2 (tE c a) (tE c b) (tE c d) s H Q := by
  have hu := xk.room.un
  obtain ⟨r1, h1, k1⟩ := cop_ok (C := c.C) X xk.K (by omega) o1
  obtain ⟨r2, h2, k2⟩ := cop_ok (C := c.C) X xk.K (by omega) o2
  refine ⟨r1, r2, h1, h2, fun s H Q ⟨r, Z, F, i0, hs, h⟩ => ?_⟩
  exact chain_imp k1 k2 i0 hs h
theorem st_chain {o1 o2 : Cop} {a b d : E} {pa pb pd : Expr} {pos : Pos} (xk : Xk c X k sc) (ha : PE X pa (tE c a)) (hb : PE X pb (tE c b)) (hd : PE X pd (tE c d)) (hm : PySem.lastMarks [cmpOf o1, cmpOf o2] [pb, pd] = false) :
    PT X (.Compare pa [cmpOf o1, cmpOf o2] [pb, pd] pos) (tT c (.chain o1 o2 a b d)) := by
  obtain ⟨r1, r2, h1, h2, h⟩ := tE_chain (a := a) (b := b) (o1 := o1) (o2 := o2) (pa := pa) (pb := pb) (pos := pos) xk hd
  exact (L2.pt_chain h1 h2 ha hb hd hm).imp fun s H Q q => h s H _ (tT_tE ev_chain_bl q)
/-! ### comprehensions -/
theorem Xk.blk {scope : Scope} {cl : List (Str × Addr)} {C : Addr} {s : Shared} {H : Hp} {fp : List Addr} (xk : Xk c X k sc) : Xk c.quiet (X.blk s H scope (PySem.compEnvC scope cl C X.env) fp) k (PySem.relabel scope X.env) :=
  ⟨xk.K, xk.calm, xk.room, xk.rm, xk.gd, xk.nd, rfl, fun s pins H sh e s' I ⟨_, _, _, _, _, _, _, _, _, _, _, _, h⟩ => h⟩
theorem se_lc {elt : E} {tg : Tg} {it : TW.It} {cond : E} {pelt ptg piter : Expr} {ifs : List Expr} {scope : Scope} {own : List (Str × Nat)} {pos : Pos} (xk : Xk c X k sc) (ch : c.hot = false) (hi : PI X ptg piter (tI c it)) (ok : L2.BlkOk X.N X.env.scope scope own)
    (hg : ∀ (s : Shared) (H : Hp) (C : Addr) (cl : List (Str × Addr)) (fp : List Addr), PG (X.blk s H scope (PySem.compEnvC scope cl C X.env) fp) ptg (tG c.quiet tg)) (ht : ∀ (s : Shared) (H : Hp) (C : Addr) (cl : List (Str × Addr)) (fp : List Addr), PTs (X.blk s H scope (PySem.compEnvC scope cl C X.env) fp) ifs (tT c.quiet cond))
    (he : ∀ (s : Shared) (H : Hp) (C : Addr) (cl : List (Str × Addr)) (fp : List Addr), PE (X.blk s H scope (PySem.compEnvC scope cl C X.env) fp) pelt (tE c.quiet elt)) (hs : ∀ x, PySem.foldedSetIterable piter X.env x = pure x) (hsub : ∀ i ∈ tg.slots, i ∈ own.map (·.2)) :
    PE X (.ListComp pelt [⟨ptg, piter, ifs, 0⟩] scope pos) (tE c (.lc elt tg it cond (own.map (·.2)))) :=
  (L2.pe_lc (xk.calm ch) xk.nd hi ok hg ht he hs).imp fun s H Q h => lc_imp hsub h
end TW
end

section
/-! three plain names at once -/
namespace TW
open PySem (Str Addr Expr Stmt Pos Value Obj Shared model PyData Scope Env)
open L2 (V HO Hp Rd upd upd_same upd_ne TE TT TA TS TI TG TGs VK XK Cx PE PT PW PA PS PSs PG PGs PI OpR R2 CallR PTs wipe Ends)
variable {c : Ct} {X : Cx} {k : Nat} {sc : Scope}
theorem asgv {i : Nat} {H H1 : Hp} {Z Z1 : Addr → Prop} {F F1 f g : List Addr} {s : L2.St} {r r' : Sl} {d : D} {x : V} (st : Stp H Z F H1 Z1 (f ++ (g ++ F1))) (rs : RSt c.C H1 Z1 c.xo 0 r s F1) (hr : R c.C H1 Z1 d x f) (h : asg c.g (.v i) d r = some r') :
    ∃ F2, Stp H Z F H1 Z1 (g ++ F2) ∧ RSt c.C H1 Z1 c.xo 0 r' (s.set i (some x)) F2 ∧ i ∉ c.g.prot := by
  simp only [asg] at h
  split at h
  · cases h
  · rename_i hp
    split at h
    · rename_i hlt
      cases h
      obtain ⟨p, g0, q, a1, a2, a3⟩ := rs.focus i hlt
      have hs2 := (a3 H1 Z1 ⟨fun _ z => z, fun _ _ _ e => e⟩).1 d x f (RX.of hr)
      refine ⟨_, ?_, hs2, fun z => hp (List.contains_iff_mem.mpr z)⟩
      have e1 : (f ++ (g ++ F1)).Perm (g ++ (f ++ F1)) := by
        have : ((f ++ g) ++ F1).Perm ((g ++ f) ++ F1) := List.Perm.append_right F1 List.perm_append_comm
        simpa using this
      have e2 : (f ++ F1).Perm ((p ++ f ++ q) ++ g0) := by
        rw [a1]
        have e1 : (f ++ (p ++ g0 ++ q)).Perm ((p ++ g0 ++ q) ++ f) := List.perm_append_comm
        refine e1.trans ?_
        simp only [List.append_assoc]
        refine List.Perm.append_left p ?_
        have : (g0 ++ (q ++ f)).Perm ((q ++ f) ++ g0) := List.perm_append_comm
        refine this.trans ?_
        have e2 : ((q ++ f) ++ g0).Perm ((f ++ q) ++ g0) := List.Perm.append_right g0 List.perm_append_comm
        simpa using e2
      have := (st.perm (e1.trans (List.Perm.append_left g e2)))
      rw [← List.append_assoc] at this
      exact this.sub (List.sublist_append_left _ _)
    · cases h
theorem ss_par3 {i j l : Nat} {e1 e2 e3 : E} {x y z : Str} {p1 p2 p3 : Expr} {px py pz pt : Pos} {kt k2 pt2 pos} (xk : Xk c X k sc) (ch : c.hot = false) (hi : X.N[i]? = some x) (hj : X.N[j]? = some y) (hl : X.N[l]? = some z) (hij : i ≠ j) (hil : i ≠ l) (hjl : j ≠ l)
    (hx : X.env.scope.names.lookup x = some .local) (hy : X.env.scope.names.lookup y = some .local) (hz : X.env.scope.names.lookup z = some .local) (ha : PA X [p1, p2, p3] (tEs c (.cons e1 (.cons e2 (.cons e3 .nil)))))
    (hw : PySem.swappedStores [.Tuple [.Name x px, .Name y py, .Name z pz] kt pt] (.Tuple [p1, p2, p3] k2 pt2) X.env = pure (some [x, y, z]))
    (hs : PySem.swapsWithSole [.Tuple [.Name x px, .Name y py, .Name z pz] kt pt] (.Tuple [p1, p2, p3] k2 pt2) pos.line X.env = pure false) :
    PS X (.Assign [.Tuple [.Name x px, .Name y py, .Name z pz] kt pt] (.Tuple [p1, p2, p3] k2 pt2) pos) (tS c (.par (.cons (.v i) (.cons (.v j) (.cons (.v l) .nil))) (.cons e1 (.cons e2 (.cons e3 .nil))))) :=
  (L2.ps_par3 (xk.calm ch) xk.nd hi hj hl hij hil hjl hx hy hz ha hw hs).imp fun En s H ⟨r, Z, F, i0, hs, h⟩ => by
    refine ⟨r, Z, F, i0, hs, ?_⟩
    simp only [ex] at h
    cases hv : evEs c.g (.cons e1 (.cons e2 (.cons e3 .nil))) r with
    | bad => rw [hv] at h; exact h
    | exc n v r' => rw [hv] at h; exact WnS.exc h
    | ok ds r1 =>
      rw [hv] at h
      simp only at h
      intro vs H1 ⟨Z1, F1, f1, st, rs, hr, pp⟩
      have hl := evEs_len hv
      obtain ⟨d1, d2, d3, rfl⟩ : ∃ d1 d2 d3, ds = [d1, d2, d3] := by
        match ds, hl with
        | [a, b, c], _ => exact ⟨a, b, c, rfl⟩
      obtain ⟨v, vr, g1, g2, rfl, hr1, ⟨w, wr, g3, g4, rfl, hr2, ⟨u, ur, g5, g6, rfl, hr3, ⟨rfl, rfl⟩, rfl⟩, rfl⟩, rfl⟩ := hr
      refine ⟨v, w, u, rfl, ?_⟩
      simp only [asgs] at h
      cases ha1 : asg c.g (.v i) d1 r1 with
      | none => rw [ha1] at h; exact h.elim
      | some r2 =>
        rw [ha1] at h
        simp only at h
        cases ha2 : asg c.g (.v j) d2 r2 with
        | none => rw [ha2] at h; exact h.elim
        | some r3 =>
          rw [ha2] at h
          simp only at h
          cases ha3 : asg c.g (.v l) d3 r3 with
          | none => rw [ha3] at h; exact h.elim
          | some r4 =>
            rw [ha3] at h
            have st1 : Stp H Z F H1 Z1 (g1 ++ ((g3 ++ g5) ++ F1)) := by simpa using st
            obtain ⟨F2, b1, b2, b3⟩ := asgv st1 rs hr1 ha1
            have st2 : Stp H Z F H1 Z1 (g3 ++ (g5 ++ F2)) := by simpa using b1
            obtain ⟨F3, c1, c2, c3⟩ := asgv st2 b2 hr2 ha2
            have st3 : Stp H Z F H1 Z1 (g5 ++ ([] ++ F3)) := by simpa using c1
            obtain ⟨F4, d1, d2, d3⟩ := asgv st3 c2 hr3 ha3
            refine h _ H1 Z1 F4 (by simpa using d1) d2 fun m hm => ?_
            rw [List.getElem?_set_ne (fun e : l = m => d3 (e ▸ hm)), List.getElem?_set_ne (fun e : j = m => c3 (e ▸ hm)), List.getElem?_set_ne (fun e : i = m => b3 (e ▸ hm))]
end TW
end

section
/-! dict displays; list.index; sorted(set(..)) -/
namespace TW
open PySem (Str Addr Expr Stmt Pos Value Obj Shared model PyData Scope Env)
open L2 (V HO Hp Rd upd upd_same upd_ne TE TT TA TS TI TG TGs VK XK Cx PE PT PW PA PS PSs PG PGs PI PO OpR R2 CallR PTs wipe Ends PPs)
variable {c : Ct} {X : Cx} {k : Nat} {sc : Scope}
def trs (c : Ct) : List Key → Es → List (TE × TE)
  | k :: ks, .cons e es => (L2.tC (L2.kV k), tE c e) :: trs c ks es
  | _, _ => []
theorem pairs_ok : ∀ {ks : List Key} {es : Es}, ks.length = es.n → ∀ {s : L2.St} {H : Hp} {Q : List (V × V) → Hp → Prop} {r : Sl} {Z : Addr → Prop} {F : List Addr}, Iv H Z F → RSt c.C H Z c.xo 0 r s F →
    WnA c H Z F s r false (fun ws H' => Q ((ks.zip ws).map fun q => (L2.kV q.1, q.2)) H') (evEs c.g es r) → L2.tPairs (trs c ks es) s H Q
  | [], .nil, _, s, H, Q, r, Z, F, i0, hs, h => h [] H ⟨Z, F, [], Stp.refl i0, hs, ⟨rfl, rfl⟩, fun p => by cases p⟩
  | [], .cons _ _, hl, _, _, _, _, _, _, _, _, _ => by simp [Es.n] at hl
  | _ :: _, .nil, hl, _, _, _, _, _, _, _, _, _ => by simp [Es.n] at hl
  | k :: ks, .cons e es, hl, s, H, Q, r, Z, F, i0, hs, h => by
    show tE c e s H _
    refine ⟨r, Z, F, i0, hs, ?_⟩
    simp only [evEs] at h
    cases hv : ev c.g e r with
    | bad => rw [hv] at h; exact h
    | exc n v r' => rw [hv] at h; exact h
    | brw d r' => rw [hv] at h; exact h.elim
    | ok d r1 =>
      rw [hv] at h
      intro x H1 ⟨Z1, F1, f1, st, rs, hr, pp⟩
      simp only at h
      have st0 : Stp H Z F H1 Z1 F1 := st.sub (List.sublist_append_right _ _)
      refine pairs_ok (ks := ks) (es := es) (by simpa [Es.n] using hl) (st.iv.sub (List.sublist_append_right _ _)) rs ?_
      cases hw : evEs c.g es r1 with
      | bad => rw [hw] at h; exact h
      | exc n v r' =>
        rw [hw] at h
        exact fun A dd H' ⟨Z', F', w, s2, rest⟩ => h A dd H' ⟨Z', F', w, st0.trans s2, rest⟩
      | ok ds r2 =>
        rw [hw] at h
        intro vs H2 ⟨Z2, F2, f2, s2, rs2, hl2, p2⟩
        exact h (x :: vs) H2 ⟨Z2, F2, f1 ++ f2, st.two s2, rs2, ⟨x, vs, f1, f2, rfl, hr.after st (s2.sub (List.sublist_append_right _ _)), hl2, rfl⟩, fun p => by cases p⟩
theorem merge_nd : ∀ (more acc : List (Key × V)), ((acc ++ more).map (·.1)).Nodup → L2.mergeK acc more = acc ++ more
  | [], acc, _ => by simp [L2.mergeK]
  | p :: r, acc, nd => by
    have h1 : L2.putK acc p.1 p.2 = acc ++ [p] := by
      have hn : p.1 ∉ acc.map (·.1) := fun z => by
        rw [List.map_append, List.nodup_append] at nd
        exact nd.2.2 p.1 z p.1 (by simp) rfl
      unfold L2.putK
      have : (acc.any fun kv => decide (kv.1 = p.1)) = false := by
        rw [List.any_eq_false]
        intro x hx e
        exact hn (List.mem_map.mpr ⟨x, hx, of_decide_eq_true e⟩)
      rw [this]
      rfl
    show L2.mergeK (L2.putK acc p.1 p.2) r = _
    rw [h1, merge_nd r (acc ++ [p]) (by simpa using nd)]
    simp
theorem RK.zip {C : C0} {H : Hp} {Z : Addr → Prop} : ∀ {ks : List Key} {ds : List D} {vs : List V} {f : List Addr}, RL C H Z ds vs f → ks.length = ds.length → RK C H Z (ks.zip ds) (ks.zip vs) f
  | [], [], vs, f, h, _ => by
    obtain ⟨rfl, rfl⟩ := h
    exact ⟨rfl, rfl⟩
  | [], _ :: _, _, _, _, e => by simp at e
  | _ :: _, [], _, _, _, e => by simp at e
  | k :: ks, d :: ds, vs, f, h, e => by
    obtain ⟨v, vr, f1, f2, rfl, h1, h2, rfl⟩ := h
    exact ⟨v, ks.zip vr, f1, f2, rfl, h1, RK.zip h2 (by simpa using e), rfl⟩
theorem se_dic {ks : List Key} {es : Es} {keys : List (Option Expr)} {values : List Expr} {pos : Pos} (hp : PPs X pos keys values (trs c ks es)) (hall : keys.all (·.isSome) = true) (hl : keys.length = values.length) (h0 : keys ≠ []) (h15 : keys.length ≤ 15) (hn : ks.length = es.n) (h15' : ks.length ≤ 15) (nd : ks.Nodup) :
    PE X (.Dict keys values pos) (tE c (.dic ks es)) :=
  (L2.pe_disp hp hall hl h0 h15).imp fun s H Q ⟨r, Z, F, i0, hs, h⟩ p hpn => by
    simp only [ev] at h
    have sN : Stp H Z F (upd H p (.dK [])) Z (p :: F) := Stp.new i0 hpn
    refine pairs_ok hn (sN.iv.sub (List.sublist_cons_self _ _)) (hs.mono (kpN' hpn)) ?_
    cases hv : evEs c.g es r with
    | bad => rw [hv] at h; exact h
    | exc n v r' =>
      rw [hv] at h
      exact fun A dd H' ⟨Z', F', w, s2, rest⟩ => h A dd H' ⟨Z', F', w, (sN.sub (List.sublist_cons_self _ _)).trans s2, rest⟩
    | ok ds r1 =>
      rw [hv] at h
      intro vs H1 ⟨Z1, F1, f1, st, rs, hr, pp⟩
      have fr : Stp (upd H p (.dK [])) Z ([p] ++ F) H1 Z1 ([p] ++ (f1 ++ F1)) := st.frame (g := [p]) sN.iv
      have hp1 : H1 p = some (.dK []) := (st.kp (sN.iv.sub (List.sublist_cons_self _ _)) (g := [p]) (fun a ha hb => by
        have e : a = p := by simpa using ha
        subst e
        exact (List.nodup_cons.mp sN.iv.nd).1 hb)).2 p _ (.inl (by simp)) upd_same
      have hlen : vs.length = ks.length := by rw [hr.len, evEs_len hv, hn]
      have hzl : (ks.zip vs).length ≤ 15 := by rw [List.length_zip]; omega
      refine ⟨hp1, ks.zip vs, rfl, hzl, ?_⟩
      have hkeys : (ks.zip vs).map (·.1) = ks := List.map_fst_zip (by omega)
      rw [merge_nd (ks.zip vs) [] (by simpa [hkeys] using nd), List.nil_append]
      have hds : ks.length = ds.length := by rw [← hr.len, hlen]
      simp only [if_pos hds] at h
      have i1 : Iv H1 Z1 ([p] ++ (f1 ++ F1)) := fr.iv
      have np : p ∉ f1 ++ F1 := (List.nodup_cons.mp i1.nd).1
      have nz : ¬ Z1 p := i1.nz p (by simp)
      have sW : Stp H1 Z1 ([p] ++ (f1 ++ F1)) (upd H1 p (.dK (ks.zip vs))) Z1 ([p] ++ (f1 ++ F1)) := Stp.write i1 (by simp)
      refine h _ _ ⟨Z1, F1, p :: f1, (sN.trans fr).trans sW, rs.mono (kpU (fun z => np (List.mem_append_right _ z)) nz), ⟨p, ks.zip vs, f1, rfl, upd_same, by rw [hkeys]; exact nd, (RK.zip hr hds).mono (kpU (fun z => np (List.mem_append_left _ z)) nz), rfl⟩, fun p => by simp [pur] at p⟩
theorem se_dic0 {pos : Pos} : PE X (.Dict [] [] pos) (tE c (.dic [] .nil)) :=
  L2.pe_dnewK.imp fun s H Q ⟨r, Z, F, i0, hs, h⟩ p hpn => by
    simp only [ev, evEs, List.length_nil, if_true] at h
    exact h _ _ ⟨Z, F, [p], Stp.new i0 hpn, hs.mono (kpN' hpn), ⟨p, [], [], rfl, upd_same, List.nodup_nil, ⟨rfl, rfl⟩, rfl⟩, fun p => by simp [pur] at p⟩
/-! ### l.index(x) -/
theorem findIdx_spec {ys : List D} {x : D} {j : Nat} (h : (ys.findIdx? fun y => y.eqF x) = some j) : ∃ z, ys[j]? = some z ∧ z.eqF x = true ∧ ∀ m z', m < j → ys[m]? = some z' → z'.eqF x = false := by
  rw [List.findIdx?_eq_some_iff_getElem] at h
  obtain ⟨hl, h1, h2⟩ := h
  refine ⟨ys[j], List.getElem?_eq_getElem hl, h1, fun m z' hm hz => ?_⟩
  have hml : m < ys.length := (List.getElem?_eq_some_iff.mp hz).1
  have e : ys[m] = z' := (List.getElem?_eq_some_iff.mp hz).2
  have := h2 m hm
  rw [← e]
  simpa using this
theorem RL.flatAt {C : C0} {H : Hp} {Z : Addr → Prop} {ds : List D} {vs : List V} {f : List Addr} (h : RL C H Z ds vs f) (hf : ds.all D.flat = true) {j : Nat} {d : D} (hj : ds[j]? = some d) : ∃ v g, vs[j]? = some v ∧ R C H Z d v g ∧ d.flat = true := by
  obtain ⟨v, p, g, q, a1, a2, a3, _⟩ := h.at hj
  exact ⟨v, g, a1, a3, List.all_eq_true.mp hf d (List.mem_of_getElem? hj)⟩
theorem op2_index {C : C0} : Op2 C (fun x y H Q => L2.rIndex C.K x [y] H Q) (fun a x => match a with
    | .lst _ _ => a.index x
    | _ => none) := by
  intro H Z d e dz x y f f' Q hz hx hy hk q
  cases d <;> simp only [reduceCtorEq] at hk
  rename_i o ys
  simp only [D.index] at hk
  split at hk
  · rename_i hfl
    rw [Bool.and_eq_true] at hfl
    split at hk
    · rename_i j hj
      cases hk
      obtain ⟨z, h1, h2, h3⟩ := findIdx_spec hj
      obtain ⟨a, vs, g, rfl, e2, e3⟩ := hx.lstAt
      obtain ⟨v, g1, a1, a2, a3⟩ := e3.flatAt hfl.2 h1
      refine ⟨a, vs, y, j, v, rfl, rfl, .inl (.inl e2), hy.flatV hfl.1, e3.flatV hfl.2, a1, by rw [a2.eqV hy a3 hfl.1]; exact h2, fun m z' hm hz' => ?_, q _ _ (res0 hz ⟨rfl, rfl⟩)⟩
      have hml : m < ys.length := by
        rw [← e3.len]
        exact (List.getElem?_eq_some_iff.mp hz').1
      obtain ⟨v', g2, b1, b2, b3⟩ := e3.flatAt hfl.2 (List.getElem?_eq_getElem hml)
      have ev : v' = z' := Option.some.inj (b1.symm.trans hz')
      subst ev
      rw [b2.eqV hy b3 hfl.1]
      exact h3 m _ hm (List.getElem?_eq_getElem hml)
    · cases hk
  · cases hk
/-- two operands, the first of a kind -/
theorem tE.twoP {a b : E} {k : D → D → Option D} {rr : R2} {gd : D → Bool} {pre : V → Hp → Prop} {H : Hp} {Z : Addr → Prop} {F : List Addr} {s : L2.St} {r : Sl} {Q : VK} (hpre : ∀ (H : Hp) (Z : Addr → Prop) (d : D) (x : V) (f : List Addr), R c.C H Z d x f → gd d = true → pre x H) (ho : Op2 c.C rr k) (i : Iv H Z F) (hs : RSt c.C H Z c.xo 0 r s F)
    (h : Wn c H Z F s r (pur a && pur b) Q ((ev c.g a r).o (pur b) fun x r1 => if gd x then (ev c.g b r1).o true fun y r2 => .lift (k x y) r2 else .bad)) :
    tE c a s H fun x H1 => pre x H1 ∧ tE c b s H1 fun y H2 => rr x y H2 Q := by
  refine ⟨r, Z, F, i, hs, ?_⟩
  have fin : ∀ {d e : D} {x y : V} {r2 : Sl} {H2 : Hp} {Z2 : Addr → Prop} {F2 f1 f2 T : List Addr} {pu : Bool}, Wn c H Z F s r pu Q (.lift (k d e) r2) → Stp H Z F H2 Z2 (T ++ F2) → RSt c.C H2 Z2 c.xo 0 r2 s F2 → R c.C H2 Z2 d x f1 → R c.C H2 Z2 e y f2 →
      (pu = true → r2 = r ∧ F2 = F ∧ Stp H Z [] H2 Z2 []) → rr x y H2 Q := fun {d e x y r2 H2 Z2 F2 f1 f2 T pu} h st rs hx hy pp => by
    cases hk : k d e with
    | none => rw [hk] at h; exact h.elim
    | some dz =>
      rw [hk] at h
      refine ho H2 Z2 d e dz x y f1 f2 _ st.iv.zh hx hy hk fun z H3 ⟨Z3, g, st3, hz⟩ => h z H3 ⟨Z3, F2, g, ?_, rs.mono st3.kpAll, hz, fun p => ?_⟩
      · exact (st.sub (List.sublist_append_right _ _)).trans (st3.lift (st.iv.sub (List.sublist_append_right _ _)))
      · obtain ⟨a1, a2, a3⟩ := pp p
        exact ⟨a1, a2, a3.trans st3⟩
  cases ha : ev c.g a r with
  | bad => rw [ha] at h; exact h
  | exc n v r1 => rw [ha] at h; exact h
  | ok d r1 =>
    rw [ha] at h
    intro x H1 ⟨Z1, F1, f1, st, rs, hr, pp⟩
    simp only [RE.o] at h
    split at h
    · rename_i hg
      refine ⟨hpre H1 Z1 d x f1 hr hg, tE.sec (cond := pur a) (T := f1) (K := fun _ _ => .bad) (Q2 := fun y _ H2 => rr x y H2 Q) st rs hr (.inl rfl) pp ?_⟩
      cases hb : ev c.g b r1 with
      | bad => rw [hb] at h; exact h
      | exc n v r2 => rw [hb] at h; exact h
      | ok e r2 =>
        rw [hb] at h
        intro y H2 Z2 F2 f2 st2 rs2 hx hy pp2
        exact fin h st2 rs2 hx hy pp2
      | brw e r2 =>
        rw [hb] at h
        intro y H2 Z2 F2 f2 st2 rs2 hx hy pp2
        exact fin (T := []) h st2 rs2 hx hy pp2
    · exact h.elim
  | brw d r1 =>
    rw [ha] at h
    intro x H1 ⟨Z1, F1, f1, st, rs, hr, hsub, pp⟩
    simp only [RE.o] at h
    by_cases hp : pur b = true
    · rw [if_pos hp] at h
      split at h
      · rename_i hg
        refine ⟨hpre H1 Z1 d x f1 hr hg, tE.sec (cond := pur a) (T := []) (K := fun _ _ => .bad) (Q2 := fun y _ H2 => rr x y H2 Q) st rs hr (.inr ⟨rfl, hp⟩) pp ?_⟩
        cases hb : ev c.g b r1 with
        | bad => rw [hb] at h; exact h
        | exc n v r2 => rw [hb] at h; exact h
        | ok e r2 =>
          rw [hb] at h
          intro y H2 Z2 F2 f2 st2 rs2 hx hy pp2
          exact fin h st2 rs2 hx hy pp2
        | brw e r2 =>
          rw [hb] at h
          intro y H2 Z2 F2 f2 st2 rs2 hx hy pp2
          exact fin (T := []) h st2 rs2 hx hy pp2
      · exact h.elim
    · rw [if_neg hp] at h
      exact h.elim
def isL : D → Bool
  | .lst _ _ => true
  | _ => false
theorem se_index {a e : E} {po pe : Expr} {apos cpos : Pos} (xk : Xk c X k sc) (ha : PE X po (tE c a)) (he : PE X pe (tE c e)) (mc : Mc X po "index" apos [pe] cpos) (pl : Pl X pe) : PE X (.Call (.Attribute po "index" apos) [pe] [] cpos) (tE c (.index a e)) :=
  (L2.pe_bm PySem.F.plainAttrs_list PySem.F.slot_list_index PySem.F.type_list_index L2.mt_index ha (L2.pa_cons he L2.pa_nil (pl [])) mc.base mc.few mc.line (pl []) rfl).imp fun s H Q ⟨r, Z, F, i0, hs, h⟩ => by
    rw [xk.K]
    refine tE.twoP (gd := isL) (pre := fun x H => L2.tyV c.C.K "list" x H) (fun H Z d x f hr hg => ?_) op2_index i0 hs ?_
    · cases d <;> try cases hg
      obtain ⟨a, vs, g, rfl, e2, e3⟩ := hr.lstAt
      exact .inl ⟨rfl, vs, .inl (.inl e2)⟩
    · simp only [ev] at h
      cases hv : ev c.g a r with
      | bad => rw [hv] at h; exact h
      | exc n v r' => rw [hv] at h; exact h
      | ok d r' => rw [hv] at h; cases d <;> exact h
      | brw d r' => rw [hv] at h; cases d <;> exact h
end TW
end

section
/-! sorted(set(tuple)) -/
namespace TWR
open PySem PySem.Spec PyProof.Rows L2
section
variable {X : Cx}
def rSetT (K : PySem.W.Frag) (w : World) : List V → Hp → VK → Prop := fun vs H Q => ∃ (a : Addr) (ns : List Int), vs = [V.ref a] ∧ SqT K H a (ns.map V.int) ∧ ns.length < 64 ∧
  ∀ p c, H p = none → c ≤ ns.length → Q (.ref p) (upd H p (SetO w p (fun j => decide (j ∈ ns)) c))
theorem cr_setT (hc : X.calm = true) : CallR X (.type "set") (rSetT X.K X.w) := by
  intro pins s σ H vs us Q I r h
  obtain ⟨a, ns, rfl, hs, hl, q⟩ := h
  obtain ⟨its, rv, ht, _⟩ := I.tuple hs
  rw [Vals.ref1 r]
  have hb : ns.length + 1 < scanBound := by
    have e : scanBound = 4096 := rfl
    omega
  refine call_set_tupI ns (I.ok.hd hc) (show s.heap.IsTuple a its.toArray from ht) (by simpa using rv.ints) hb fun h' tk c R hcn k => ?_
  exact ⟨.ref _, _, I.laid (t' := tk) k (Nat.le_refl _) (setO_new R), rfl, q _ c (I.hok.fresh (Nat.le_refl _)) hcn⟩
end
end TWR
namespace TW
open PySem (Str Addr Expr Stmt Pos Value Obj Shared model PyData Scope Env)
open L2 (V HO Hp Rd upd upd_same upd_ne TE TT TA TS TI TG TGs VK XK Cx PE PT PW PA PS PSs PG PGs PI PO OpR R2 CallR PTs wipe Ends PPs)
variable {c : Ct} {X : Cx} {k : Nat} {sc : Scope}
theorem uniq_mem : ∀ (l : List Int) (x : Int), x ∈ uniqI l ↔ x ∈ l
  | [], x => by simp [uniqI]
  | i :: r, x => by
    simp only [uniqI, List.mem_cons, List.mem_filter, uniq_mem r x, bne_iff_ne, ne_eq]
    by_cases e : x = i <;> simp [e]
theorem uniq_nd : ∀ l : List Int, (uniqI l).Nodup
  | [] => by simp [uniqI]
  | i :: r => by
    simp only [uniqI, List.nodup_cons, List.mem_filter]
    exact ⟨fun h => by simp at h, (uniq_nd r).filter _⟩
theorem srt_same {l : List Int} {ns : List Int} (h1 : ns.Pairwise (· < ·)) (h2 : ∀ k : Int, k ∈ ns ↔ decide (k ∈ l) = true) : ns = sortI (uniqI l) := by
  have nd : ns.Nodup := h1.imp fun {a b} h e => by omega
  have pm : ns.Perm (uniqI l) := (List.perm_ext_iff_of_nodup nd (uniq_nd l)).mpr fun a => by rw [h2 a, uniq_mem]; simp
  exact PySem.W.ksm_same (pm.trans (sortI_perm _).symm) (h1.imp fun {a b} h => Int.le_of_lt h) (sortI_sorted _)
theorem op1_srs {C : C0} {w : PySem.World} : Op1 C (fun x H Q => TWR.rSetT C.K w [x] H fun y H2 => L2.rSortedSet w [y] H2 Q) D.srs := by
  intro H Z d dz x f Q hz hx hk q
  cases d <;> simp only [D.srs, reduceCtorEq] at hk
  rename_i xs
  split at hk
  · rename_i ns hns
    split at hk
    · rename_i hlen
      cases hk
      obtain ⟨a, vs, rfl, e2, za, e3⟩ := hx.tupOf
      have ev := e3.ints hns
      subst ev
      refine ⟨a, ns, rfl, .inl (.inl e2), hlen, fun p n hp hn => ?_⟩
      refine ⟨p, _, n, rfl, upd_same, by omega, fun ms p2 s1 s2 s3 hp2 => ?_⟩
      have e := srt_same s1 s2
      subst e
      have st1 : Stp H Z [] (upd H p (L2.SetO w p (fun j => decide (j ∈ ns)) n)) Z [p] := Stp.new (iv0 hz) hp
      have st2 := Stp.new (o := .lst ((sortI (uniqI ns)).map V.int)) st1.iv hp2
      refine q _ _ ⟨Z, [p2], (st1.trans st2).sub (by simp), p2, _, [], rfl, upd_same, ?_, rfl⟩
      have : ∀ {H : Hp} {Z : Addr → Prop} (ns : List Int), RL C H Z (ns.map .int) (ns.map V.int) [] := fun {H Z} ns => by
        induction ns with
        | nil => exact ⟨rfl, rfl⟩
        | cons n ns ih => exact ⟨_, _, [], [], rfl, ⟨rfl, rfl⟩, ih, rfl⟩
      exact this _
    · cases hk
  · cases hk
theorem se_srs {a : E} {pa : Expr} {p p2 p3 pos : Pos} (xk : Xk c X k sc) (ch : c.hot = false) (b1 : Bt X "sorted") (b2 : Bt X "set") (ha : PE X pa (tE c a)) (pl : Pl X pa) (pl2 : Pl X (.Call (.Name "set" p) [pa] [] p2)) : PE X (.Call (.Name "sorted" p3) [.Call (.Name "set" p) [pa] [] p2] [] pos) (tE c (.srs a)) :=
  (L2.pe_callB (L2.cr_sortedSet (xk.calm ch)) b1.gl b1.no (by decide +kernel) (L2.pa_cons (L2.pe_callTy (TWR.cr_setT (xk.calm ch)) b2.gl b2.no (by decide +kernel) (L2.pa_cons ha L2.pa_nil (pl [])) (by decide) (by decide) (pl [])) L2.pa_nil (pl2 [])) (by decide) (by decide) (pl2 [])).imp fun s H Q ⟨r, Z, F, i0, hs, h⟩ => by
    rw [xk.K]
    exact tE.one op1_srs i0 hs h
end TW
end

section
/-! calls by keywords -/
namespace TW
open PySem (Str Addr Expr Pos Value Obj Shared model PyData Scope Keyword)
open L2 (V HO Hp Rd upd upd_same upd_ne TE TT TA TS VK XK Cx PE PT PW PA PS PSs PG PI OpR R2 PK)
variable {c : Ct} {X : Cx} {k : Nat} {sc : Scope}
theorem PK.imp {kws : List Keyword} {t t' : TA} (h : PK X kws t) (i : ∀ s H Q, t' s H Q → t s H Q) : PK X kws t' := ⟨fun pos pins s σ H Q I q => h.run pos pins s σ H Q I (i _ _ _ q)⟩
theorem sk_nil : PK X [] (tAs c .nil) := PK.imp L2.pk_nil fun s H Q ⟨r, Z, F, i0, hs, h⟩ => h [] H ⟨Z, F, [], Stp.refl i0, hs, ⟨rfl, rfl⟩, fun _ => ⟨rfl, rfl, Stp.refl i0.nil⟩⟩
theorem sk_v {e : E} {as : As} {pe : Expr} {kws : List Keyword} {nm : Option Str} {kp : Pos} (h1 : PE X pe (tE c e)) (h2 : PK X kws (tAs c as)) : PK X (⟨nm, pe, kp⟩ :: kws) (tAs c (.v e as)) := PK.imp (L2.pk_cons h1 h2) fun _ _ _ h => tAs_v h
theorem sk_l {p : P} {as : As} {pe : Expr} {kws : List Keyword} {nm : Option Str} {kp : Pos} (h1 : PE X pe (tP c p)) (h2 : PK X kws (tAs c as)) : PK X (⟨nm, pe, kp⟩ :: kws) (tAs c (.l p as)) := PK.imp (L2.pk_cons h1 h2) fun _ _ _ h => tAs_l h
/-! ### in another order -/
theorem takeN_vals {p : Str} : ∀ {ks : List Str} {vs : List V} {us : List Value} {v : V} {ks' : List Str} {vs' : List V}, L2.Vals vs us → takeN p ks vs = some (v, ks', vs') → ∃ u us', takeN p ks us = some (u, ks', us') ∧ L2.RelV v u ∧ L2.Vals vs' us'
  | [], vs, us, v, ks', vs', r, h => by simp [takeN] at h
  | k :: ks, [], us, v, ks', vs', r, h => by simp [takeN] at h
  | k :: ks, x :: xs, us, v, ks', vs', r, h => by
    cases r with
    | cons r1 r2 =>
      rename_i u us
      unfold takeN at h ⊢
      split at h
      · rename_i e
        cases h
        exact ⟨u, us, by rw [if_pos e], r1, r2⟩
      · rename_i e
        rw [if_neg e]
        cases hq : takeN p ks xs with
        | none => rw [hq] at h; cases h
        | some q =>
          rw [hq] at h
          cases h
          obtain ⟨u', us', h1, h2, h3⟩ := takeN_vals r2 hq
          exact ⟨u', u :: us', by rw [h1]; rfl, h2, .cons r1 h3⟩
theorem reord_vals : ∀ {ps ks : List Str} {vs vs' : List V} {us : List Value}, L2.Vals vs us → reord ps ks vs = some vs' → ∃ us', reord ps ks us = some us' ∧ L2.Vals vs' us'
  | [], ks, vs, vs', us, r, h => by
    cases ks with
    | nil =>
      cases r with
      | nil =>
        cases h
        exact ⟨[], rfl, .nil⟩
      | cons _ _ => cases h
    | cons _ _ => cases h
  | p :: ps, ks, vs, vs', us, r, h => by
    unfold reord at h ⊢
    cases hq : takeN p ks vs with
    | none => rw [hq] at h; cases h
    | some q =>
      rw [hq] at h
      obtain ⟨u, us1, h1, h2, h3⟩ := takeN_vals r hq
      cases hw : reord ps q.2.1 q.2.2 with
      | none => rw [Option.bind, hw] at h; cases h
      | some w =>
        rw [Option.bind, hw] at h
        cases h
        obtain ⟨us2, h4, h5⟩ := reord_vals h3 hw
        exact ⟨u :: us2, by rw [h1, Option.bind, h4]; rfl, .cons h2 h5⟩
theorem takeN_avs {C : C0} {H : Hp} {Z : Addr → Prop} {s : L2.St} {p : Str} : ∀ {ks : List Str} {as : List AV} {vs : List V} {f : List Addr} {a : AV} {ks' : List Str} {as' : List AV}, AVs C H Z s as vs f → takeN p ks as = some (a, ks', as') →
    ∃ v vs' f', takeN p ks vs = some (v, ks', vs') ∧ AVs C H Z s (a :: as') (v :: vs') f' ∧ f'.Perm f
  | [], as, vs, f, a, ks', as', r, h => by simp [takeN] at h
  | k :: ks, [], vs, f, a, ks', as', r, h => by simp [takeN] at h
  | k :: ks, .v d :: as, vs, f, a, ks', as', ⟨v, vr, f1, f2, e1, r1, r2, e2⟩, h => by
    subst e1 e2
    unfold takeN at h ⊢
    split at h
    · rename_i e
      cases h
      exact ⟨v, vr, f1 ++ f2, by rw [if_pos e], ⟨v, vr, f1, f2, rfl, r1, r2, rfl⟩, List.Perm.refl _⟩
    · rename_i e
      rw [if_neg e]
      cases hq : takeN p ks as with
      | none => rw [hq] at h; cases h
      | some q =>
        rw [hq] at h
        cases h
        obtain ⟨u, us, f', h1, h2, h3⟩ := takeN_avs r2 hq
        obtain ⟨qa, qk, qs⟩ := q
        cases qa with
        | v d' =>
          obtain ⟨_, _, g1, g2, ee, k1, k2, rfl⟩ := h2
          cases ee
          refine ⟨u, v :: us, g1 ++ (f1 ++ g2), by rw [h1]; rfl, ⟨u, v :: us, g1, f1 ++ g2, rfl, k1, ⟨v, us, f1, g2, rfl, r1, k2, rfl⟩, rfl⟩, ?_⟩
          have : (g1 ++ (f1 ++ g2)).Perm (f1 ++ (g1 ++ g2)) := by
            rw [← List.append_assoc, ← List.append_assoc]
            exact List.Perm.append_right g2 List.perm_append_comm
          exact this.trans (List.Perm.append_left f1 h3)
        | l w =>
          obtain ⟨_, _, ee, k1, k2⟩ := h2
          cases ee
          exact ⟨u, v :: us, f1 ++ f', by rw [h1]; rfl, ⟨u, v :: us, rfl, k1, ⟨v, us, f1, f', rfl, r1, k2, rfl⟩⟩, List.Perm.append_left f1 h3⟩
  | k :: ks, .l w :: as, vs, f, a, ks', as', ⟨v, vr, e1, r1, r2⟩, h => by
    subst e1
    unfold takeN at h ⊢
    split at h
    · rename_i e
      cases h
      exact ⟨v, vr, f, by rw [if_pos e], ⟨v, vr, rfl, r1, r2⟩, List.Perm.refl _⟩
    · rename_i e
      rw [if_neg e]
      cases hq : takeN p ks as with
      | none => rw [hq] at h; cases h
      | some q =>
        rw [hq] at h
        cases h
        obtain ⟨u, us, f', h1, h2, h3⟩ := takeN_avs r2 hq
        obtain ⟨qa, qk, qs⟩ := q
        cases qa with
        | v d' =>
          obtain ⟨_, _, g1, g2, ee, k1, k2, rfl⟩ := h2
          cases ee
          exact ⟨u, v :: us, g1 ++ g2, by rw [h1]; rfl, ⟨u, v :: us, g1, g2, rfl, k1, ⟨v, us, rfl, r1, k2⟩, rfl⟩, h3⟩
        | l w' =>
          obtain ⟨_, _, ee, k1, k2⟩ := h2
          cases ee
          exact ⟨u, v :: us, f', by rw [h1]; rfl, ⟨u, v :: us, rfl, k1, ⟨v, us, rfl, r1, k2⟩⟩, h3⟩
theorem reord_avs {C : C0} {H : Hp} {Z : Addr → Prop} {s : L2.St} : ∀ {ps ks : List Str} {as as' : List AV} {vs : List V} {f : List Addr}, AVs C H Z s as vs f → reord ps ks as = some as' → ∃ vs' f', reord ps ks vs = some vs' ∧ AVs C H Z s as' vs' f' ∧ f'.Perm f
  | [], ks, as, as', vs, f, r, h => by
    cases ks with
    | nil =>
      cases as with
      | nil =>
        cases h
        obtain ⟨rfl, rfl⟩ := r
        exact ⟨[], [], rfl, ⟨rfl, rfl⟩, List.Perm.refl _⟩
      | cons _ _ => cases h
    | cons _ _ => cases h
  | p :: ps, ks, as, as', vs, f, r, h => by
    unfold reord at h ⊢
    cases hq : takeN p ks as with
    | none => rw [hq] at h; cases h
    | some q =>
      rw [hq] at h
      obtain ⟨u, us, f1, h1, h2, h3⟩ := takeN_avs r hq
      cases hw : reord ps q.2.1 q.2.2 with
      | none => rw [Option.bind, hw] at h; cases h
      | some w =>
        rw [Option.bind, hw] at h
        cases h
        obtain ⟨qa, qk, qs⟩ := q
        rw [h1, Option.bind]
        cases qa with
        | v d =>
          obtain ⟨_, _, g1, g2, ee, k1, k2, rfl⟩ := h2
          cases ee
          obtain ⟨vs2, f2, m1, m2, m3⟩ := reord_avs k2 hw
          exact ⟨u :: vs2, g1 ++ f2, by simp only [m1]; rfl, ⟨u, vs2, g1, f2, rfl, k1, m2, rfl⟩, (List.Perm.append_left g1 m3).trans h3⟩
        | l w =>
          obtain ⟨_, _, ee, k1, k2⟩ := h2
          cases ee
          obtain ⟨vs2, f2, m1, m2, m3⟩ := reord_avs k2 hw
          exact ⟨u :: vs2, f2, by simp only [m1]; rfl, ⟨u, vs2, rfl, k1, m2⟩, m3.trans h3⟩
/-- how a def binds keywords alone -/
def KB (K : PySem.W.Frag) (fd : PySem.FuncData) (ps ks : List Str) : Prop := ∀ (s : Shared) (us zs : List Value), K.In s.heap → reord ps ks us = some zs → PySem.BindsTo s fd ⟨[], ks.zip us⟩ (ps.zip zs)
structure Kk (c : Ct) (X : Cx) (k : Nat) (f : Str) (ks : List Str) : Prop where
  ok : ∃ fa fd ps, c.g.ps f = ps ∧ X.mg f = some (.ref fa) ∧ PySem.W.keepIn X.K (.ref fa) = true ∧ KB X.K fd ps ks ∧ FnG X.prog X.w X.K X.mg X.base k fa fd ps (SpF c.C c.g.fld (c.g.call f))
def tCallKw (sp : L2.Sp) (ps ks : List Str) (E : L2.St → XK) (t : TA) : TE := fun σ H Q => t σ H fun vs H1 => ∃ ws, reord ps ks vs = some ws ∧ sp ws H1 Q (E σ)
theorem pe_callKw {f : Addr} {fd : PySem.FuncData} {ps ks : List Str} {sp : L2.Sp} {x : Str} {p pos : Pos} {kws : List Keyword} {t : TA} {E : L2.St → XK} (F : FnG X.prog X.w X.K X.mg X.base k f fd ps sp) (hr : RoomG k X.A) (hg : L2.Gl X x) (hm : X.mg x = some (.ref f)) (hk : PySem.W.keepIn X.K (.ref f) = true) (hb : KB X.K fd ps ks) (hx : ∀ σ, L2.PassesAt (L2.CX X.prog X.w) X σ (E σ))
    (ha : PK X kws t) (hall : (PySem.backToKw pos (PySem.keywordEach kws X.env)).all (·.1.isSome) = true) (hks : (PySem.backToKw pos (PySem.keywordEach kws X.env)).filterMap (·.1) = ks) (hdb : (x == ("__debug__" : Str)) = false)
    (hpl : ((PySem.backTo pos (PySem.starEach [] X.env)).any (·.1) || (PySem.backToKw pos (PySem.keywordEach kws X.env)).any (·.1.isNone)) = false) :
    PE X (.Call (.Name x p) [] kws pos) (tCallKw sp ps ks E t) := by
  refine ⟨fun pins s σ H Q I h => ?_⟩
  refine PySem.wpAny_Call_Name_kw (L2.ld_glob I hg hm ?_ hdb)
  refine PySem.W.callWith_KW0 (h₀ := X.base) I.ok.mod.kin hk hall (L2.thn (ha.run pos pins s σ H _ I h) fun us s1 ⟨vs, H1, I1, r, ws, hw, q⟩ => ⟨I1.kIn, ?_⟩) hpl
  rw [hks]
  obtain ⟨zs, h1, h2⟩ := reord_vals r hw
  have hl : zs.length = ps.length := by rw [← h2.length]; exact F.len _ _ _ _ q
  refine PySem.wpAny_call (PySem.codeAny_mono (F.run X.A X.stack s1 H1 ⟨[], ks.zip us⟩ zs ws Q (E σ) hr I1.env0 (hb s1 us zs I1.kIn h1) h2 q) fun r s' hq => ?_)
  cases r with
  | error e => exact hx σ pins H1 s1 e s' I1 hq
  | ok fl =>
    cases fl with
    | ret u => exact I1.after hq
    | next => exact False.elim hq
    | brk => exact False.elim hq
    | cont => exact False.elim hq
theorem se_callk {f : Str} {as : As} {ks : List Str} {kws : List Keyword} {p pos : Pos} (xk : Xk c X k sc) (ch : c.hot = false) (dk : Kk c X k f ks) (hg : L2.Gl X f) (ha : PK X kws (tAs c as)) (hall : (PySem.backToKw pos (PySem.keywordEach kws X.env)).all (·.1.isSome) = true) (hks : (PySem.backToKw pos (PySem.keywordEach kws X.env)).filterMap (·.1) = ks) (hdb : (f == ("__debug__" : Str)) = false)
    (hpl : ((PySem.backTo pos (PySem.starEach [] X.env)).any (·.1) || (PySem.backToKw pos (PySem.keywordEach kws X.env)).any (·.1.isNone)) = false) : PE X (.Call (.Name f p) [] kws pos) (tE c (.callk f as ks)) := by
  obtain ⟨fa, fd, ps, h0, h1, h2, h3, h4⟩ := dk.ok
  refine (pe_callKw h4 ⟨xk.rm ch, xk.gd⟩ hg h1 h2 h3 xk.pass ha hall hks hdb hpl).imp fun s H Q ⟨r, Z, F, i0, hs, h⟩ => ⟨r, Z, F, i0, hs, ?_⟩
  simp only [ev] at h
  cases hv : evAs c.g as r with
  | bad => rw [hv] at h; exact h
  | exc n v r' => rw [hv] at h; exact h
  | ok vs r1 =>
    rw [hv] at h
    simp only at h
    intro ws H1 ⟨Z1, F1, f1, st, rs, hav, pp⟩
    cases hb : byName (c.g.ps f) ks vs with
    | none => rw [hb] at h; exact h.elim
    | some as' =>
      rw [hb] at h
      rw [h0] at hb
      obtain ⟨vs', f', m1, m2, m3⟩ := reord_avs hav hb
      exact ⟨vs', m1, doCall_ok (st.perm (List.Perm.append_right F1 m3.symm)) rs m2 h⟩
end TW
end

section
set_option maxHeartbeats 1600000
/-! sorted(xs): whole numbers; tuples of whole numbers, of any lengths -/
namespace TWR
open PySem PySem.Spec PyProof.Rows L2
/-- one ahead of the other, number by number -/
def lexL : List Int → List Int → Bool
  | _, [] => false
  | [], _ :: _ => true
  | x :: xs, y :: ys => if x = y then lexL xs ys else decide (x < y)
theorem lexL_asym : ∀ xs ys : List Int, lexL xs ys = true → lexL ys xs = false
  | [], [], h => by simp [lexL] at h
  | _ :: _, [], h => by simp [lexL] at h
  | [], _ :: _, _ => rfl
  | x :: xs, y :: ys, h => by
    simp only [lexL] at h ⊢
    by_cases e : x = y
    · rw [if_pos e] at h
      rw [if_pos e.symm]
      exact lexL_asym xs ys h
    · rw [if_neg e, decide_eq_true_eq] at h
      rw [if_neg (fun z => e z.symm)]
      exact decide_eq_false (by omega)
theorem lexL_tr : ∀ xs ys zs : List Int, lexL ys xs = false → lexL zs ys = false → lexL zs xs = false
  | [], _, _, _, _ => by simp [lexL]
  | x :: xs, [], zs, h, _ => by simp [lexL] at h
  | x :: xs, y :: ys, [], h, k => by simp [lexL] at k
  | x :: xs, y :: ys, z :: zs, h, k => by
    simp only [lexL] at h k ⊢
    by_cases e : y = x
    · by_cases e2 : z = y
      · rw [if_pos e] at h
        rw [if_pos e2] at k
        rw [if_pos (e2.trans e)]
        exact lexL_tr xs ys zs h k
      · rw [if_neg e2, decide_eq_false_iff_not] at k
        rw [if_neg (fun q => e2 (q.trans e.symm))]
        exact decide_eq_false (by omega)
    · rw [if_neg e, decide_eq_false_iff_not] at h
      by_cases e2 : z = y
      · rw [if_neg (fun q => e (e2.symm.trans q))]
        exact decide_eq_false (by omega)
      · rw [if_neg e2, decide_eq_false_iff_not] at k
        rw [if_neg (by omega)]
        exact decide_eq_false (by omega)
theorem lexL_swo {α : Type} (f : α → List Int) : SrtO.Swo fun x y => lexL (f x) (f y) := ⟨fun x y => lexL_asym _ _, fun x y z => lexL_tr _ _ _⟩
theorem lexL_tot : ∀ xs ys : List Int, lexL xs ys = false → lexL ys xs = false → xs = ys
  | [], [], _, _ => rfl
  | _ :: _, [], _, h => by simp [lexL] at h
  | [], _ :: _, h, _ => by simp [lexL] at h
  | x :: xs, y :: ys, h, k => by
    simp only [lexL] at h k
    by_cases e : x = y
    · rw [if_pos e] at h
      rw [if_pos e.symm] at k
      rw [e, lexL_tot xs ys h k]
    · rw [if_neg e, decide_eq_false_iff_not] at h
      rw [if_neg (fun z => e z.symm), decide_eq_false_iff_not] at k
      omega
/-- a tuple of whole numbers -/
def ITup (h : Heap) (v : Value) (ns : List Int) : Prop := ∃ a o xs n, v = .ref a ∧ h.get? a = some o ∧ o.cls = .type "tuple" ∧ o.data = .seq xs n ∧ IntsAre xs.toList ns
section
variable {prog : Program} {w : World} {A : Around} {s : Shared}
theorem kat_ints {Q : Bool → Shared → Prop} : ∀ {us vs : List Value} {ns ms : List Int} {fin : Bool} {i : Nat}, IntsAre us ns → IntsAre vs ms → (∀ r, r = lexL ns ms → Q r s) → fin = decide (ns.length < ms.length) → PySem.W.KatLex prog w A true fin Q (us.zip vs) i s
  | [], vs, _, ms, fin, i, .nil, hv, q, hf => by
    refine PySem.W.kat_nil (q fin ?_)
    rw [hf]
    cases ms with
    | nil => rfl
    | cons m ms => simp [lexL]
  | us, [], ns, _, fin, i, hu, .nil, q, hf => by
    rw [List.zip_nil_right]
    refine PySem.W.kat_nil (q fin ?_)
    rw [hf]
    cases ns <;> simp [lexL]
  | _, _, _, _, fin, i, .cons (vs := us) (ns := ns) x t hu, .cons (vs := vs) (ns := ms) y u hv, q, hf => by
    rw [List.zip_cons_cons]
    refine PySem.W.kat_cons (SeqAt.EqAt.int_int x t y u prog w _ _ ?_)
    refine PySem.W.kat_go (fun e1 => ?_) (fun e1 => ?_)
    · have ex : x = y := by simpa using e1
      subst ex
      refine PySem.W.kat_yes (kat_ints hu hv (fun r hr => q r ?_) (by simpa using hf))
      simp only [lexL, if_true]
      exact hr
    · have ex : ¬ x = y := by simpa using e1
      refine PySem.W.kat_no (TS.oneLt_ints _ (q _ ?_))
      simp only [lexL, if_neg ex]
theorem ITup.keeps {h h' : Heap} {v : Value} {ns : List Int} (p : ITup h v ns) (k : ∀ b o, h.get? b = some o → o.cls = .type "tuple" → h'.get? b = some o) : ITup h' v ns := by
  obtain ⟨a, o, xs, n, e, ho, hc, hd, hi⟩ := p
  exact ⟨a, o, xs, n, e, k _ _ ho hc, hc, hd, hi⟩
theorem tups_cmp {vs : List Value} {k : Value → List Int} (hp : ∀ v ∈ vs, ITup s.heap v (k v)) : SrtO.Cmp prog w A s (tuples' true) (fun p => p.1 ∈ vs) (SrtO.lt2 fun v u => lexL (k v) (k u)) := by
  intro p q hm hm'
  obtain ⟨a, o, xs, n, e, ho, hc, hd, hi⟩ := hp _ hm
  obtain ⟨a', o', ys, n', e', ho', hc', hd', hi'⟩ := hp _ hm'
  show wpAny (model prog w) A (keyLt' (tuples' true) p.1 q.1) (fun r s' => s' = s ∧ r = lexL (k p.1) (k q.1)) (fun _ _ => False) s
  rw [e] at hi ⊢
  rw [e'] at hi' ⊢
  refine PySem.W.kat_lt ho hd ho' hd' (kat_ints hi hi' (fun r hr => ⟨rfl, hr⟩) ?_)
  have h1 := hi.length
  have h2 := hi'.length
  simp only [Array.length_toList] at h1 h2
  rw [h1, h2]
theorem firsts_ints {h : Heap} {k : Value → List Int} : ∀ {vs : List Value}, (∀ v ∈ vs, ITup h v (k v) ∧ k v ≠ []) → ∃ fs : List Value, PySem.W.KatTups h vs fs ∧ fs.length = vs.length ∧ ∀ f ∈ fs, ∃ x t, f = Value.int x t
  | [], _ => ⟨[], PySem.W.KatTups.nil, rfl, fun _ hm => by simp at hm⟩
  | v :: vs, hp => by
    obtain ⟨fs, h1, h2, h3⟩ := firsts_ints (vs := vs) fun v' hm => hp v' (List.mem_cons_of_mem _ hm)
    obtain ⟨⟨a, o, xs, n, e, ho, hc, hd, hi⟩, hne⟩ := hp v (List.mem_cons_self ..)
    obtain ⟨l⟩ := xs
    generalize k v = kv at hi hne
    cases hi with
    | nil => exact absurd rfl hne
    | cons x t hi =>
      subst e
      refine ⟨.int x t :: fs, PySem.W.KatTups.cons ho hc hd (by simp) h1, by rw [List.length_cons, List.length_cons, h2], fun f hm => ?_⟩
      rcases List.mem_cons.mp hm with rfl | hm
      · exact ⟨x, t, rfl⟩
      · exact h3 f hm
theorem tups_sortable {a : Addr} {vs : List Value} {k : Value → List Int} (h0 : 0 < vs.length) (hp : ∀ v ∈ vs, ITup s.heap v (k v) ∧ k v ≠ []) (ha : ∀ o, s.heap.get? a = some o → o.cls ≠ .type "tuple") : SrtO.SortableO prog w A s a vs fun v u => lexL (k v) (k u) := by
  intro h' keep
  have hp' : ∀ v ∈ vs, ITup h' v (k v) ∧ k v ≠ [] := fun v hm => ⟨(hp v hm).1.keeps fun b o e c => keep b o (fun z => by subst z; exact ha o e c) e, (hp v hm).2⟩
  obtain ⟨fs, h1, h2, h3⟩ := firsts_ints hp'
  refine ⟨tuples' true, fun Q E hq => ?_, tups_cmp fun v hm => (hp' v hm).1⟩
  refine PySem.W.kat_kind (T := .type "int") h1 (by omega) (fun f hm => ?_) (by rfl) ?_
  · obtain ⟨x, t, rfl⟩ := h3 f hm
    exact PySem.W.Looks.now
  · have e : (Value.type "int" != Value.type "tuple") = true := by first | decide +kernel | rfl | decide
    rw [e]
    exact hq
end
/-- the numbers of the tuple at x -/
def keyV (H : Hp) : V → List Int
  | .ref a => match H a with
    | some (.tup vs) => vs.map fun v => match v with
      | .int i => i
      | _ => 0
    | _ => []
  | _ => []
theorem keyV_of {H : Hp} {a : Addr} {ns : List Int} (h : H a = some (.tup (ns.map V.int))) : keyV H (.ref a) = ns := by
  have : ∀ ns : List Int, (ns.map V.int).map (fun v => match v with
      | .int i => i
      | _ => 0) = ns := fun ns => by
    induction ns with
    | nil => rfl
    | cons n ns ih => rw [List.map_cons, List.map_cons, ih]
  simp only [keyV, h]
  exact this ns
def rSortTup (K : PySem.W.Frag) : List V → Hp → VK → Prop := fun vs H Q => ∃ (a : Addr) (xs : List V), vs = [V.ref a] ∧ SqL K H a xs ∧ (∀ x ∈ xs, ∃ t ns, x = V.ref t ∧ H t = some (.tup (ns.map V.int)) ∧ ns ≠ []) ∧
  ∀ ys p, SrtO.Srtd (fun x y => lexL (keyV H x) (keyV H y)) ys → ys.Perm xs → H p = none → Q (.ref p) (upd H p (.lst ys))
section
variable {X : Cx}
theorem cr_sortTup : CallR X (.builtin "sorted") (rSortTup X.K) := by
  intro pins s σ H vs us Q I r h
  obtain ⟨a, xs, rfl, hs, hx, q⟩ := h
  obtain ⟨its, rv, hl, hz⟩ := I.list hs
  obtain ⟨u, rfl, ru⟩ := vals1 r
  obtain rfl : u = Value.ref a := ru
  obtain ⟨e1, e2⟩ := refs_back rv fun x m => by
    obtain ⟨t, _, e, _⟩ := hx x m
    exact ⟨t, e⟩
  have hk : ∀ v ∈ its, ITup s.heap v (keyV H (backV v)) ∧ keyV H (backV v) ≠ [] := fun v hv => by
    obtain ⟨t, rfl⟩ := e2 v hv
    have hm : V.ref t ∈ xs := by rw [e1]; exact List.mem_map.mpr ⟨_, hv, rfl⟩
    obtain ⟨t', ns, e, ht, hne⟩ := hx _ hm
    cases e
    obtain ⟨_, its2, r2, o, ho, hc, n, hd⟩ := I.hok _ _ ht
    show ITup s.heap (.ref t) (keyV H (.ref t)) ∧ keyV H (.ref t) ≠ []
    rw [keyV_of ht]
    exact ⟨⟨t, o, its2.toArray, n, rfl, ho, hc, hd, by simpa using r2.ints⟩, hne⟩
  refine SrtO.sorted_ord (ltv := fun v u => lexL (keyV H (backV v)) (keyV H (backV u))) (lexL_swo fun v => keyV H (backV v)) hl.isList (by rw [← rv.length]; exact hz) (fun h2 h₁ b hb kk => ?_) fun out h1 h2 => ?_
  · refine tups_sortable (s := { s with heap := h₁ }) (k := fun v => keyV H (backV v)) (by omega) (fun v hm => ⟨(hk v hm).1.keeps fun b o e _ => (kk b o e).2, (hk v hm).2⟩) fun o e => ?_
    have e' : some o = some (seqObj "list" its.toArray 0) := e.symm.trans hb
    cases e'
    intro c
    exact absurd (Value.type.inj c) (by decide)
  · obtain ⟨ep, he'⟩ := PyProof.Rows.sortedAll_at s.heap its out.toArray
    have h3 : ∀ u ∈ out, ∃ a, u = Value.ref a := fun u hu => e2 u (h2.perm.mem_iff.mp hu)
    have pm : (out.map backV).Perm xs := by rw [e1]; exact h2.perm.map backV
    refine ⟨.ref _, upd H (s.heap.objs.size + 1) (.lst (out.map backV)), I.laid (t' := s.toks) (fun _ _ => PyProof.Rows.sortedAll_old) (Nat.le_succ _) ⟨?_, out, ep, vals_back h3, he'⟩, rfl, q _ _ (SrtO.srtd_map h1) pm (I.hok.fresh (Nat.le_succ _))⟩
    rw [pm.length_eq]
    exact hz
end
end TWR
end

section
set_option maxHeartbeats 1600000
/-! sorted, repr -/
namespace TW
open PySem (Str Addr Expr Stmt Pos Value Obj Shared model PyData Scope Env)
open L2 (V HO Hp Rd upd upd_same upd_ne TE TT TA TS TI TG TGs VK XK Cx PE PT PW PA PS PSs PG PGs PI PO OpR R2 CallR PTs wipe Ends)
variable {c : Ct} {X : Cx} {k : Nat} {sc : Scope} {C : C0}
/-! ### sorted -/
theorem leL_lex : ∀ xs ys : List Int, leL xs ys = !TWR.lexL ys xs
  | [], ys => by cases ys <;> simp [leL, TWR.lexL]
  | x :: xs, [] => by simp [leL, TWR.lexL]
  | x :: xs, y :: ys => by
    simp only [leL, TWR.lexL]
    by_cases e : x = y
    · rw [if_pos e, if_pos e.symm]
      exact leL_lex xs ys
    · rw [if_neg e, if_neg (fun z => e z.symm)]
      rw [Bool.eq_iff_iff]
      simp
      omega
theorem insT_perm (i : List Int) : ∀ l : List (List Int), (insT i l).Perm (i :: l)
  | [] => List.Perm.refl _
  | j :: r => by
    simp only [insT]
    split
    · exact List.Perm.refl _
    · exact ((insT_perm i r).cons j).trans (List.Perm.swap i j r)
theorem sortT_perm : ∀ l : List (List Int), (sortT l).Perm l
  | [] => List.Perm.refl _
  | i :: r => (insT_perm i _).trans ((sortT_perm r).cons i)
theorem insT_sorted (i : List Int) : ∀ l : List (List Int), l.Pairwise (fun a b => TWR.lexL b a = false) → (insT i l).Pairwise (fun a b => TWR.lexL b a = false)
  | [], _ => by simp [insT]
  | j :: r, h => by
    have h' := List.pairwise_cons.mp h
    simp only [insT]
    split
    · rename_i hij
      rw [leL_lex, Bool.not_eq_true'] at hij
      refine List.pairwise_cons.mpr ⟨fun a ha => ?_, h⟩
      rcases List.mem_cons.mp ha with e | ha
      · rw [e]; exact hij
      · exact TWR.lexL_tr _ _ _ hij (h'.1 a ha)
    · rename_i hij
      rw [leL_lex] at hij
      have hij' : TWR.lexL j i = true := by simpa using hij
      refine List.pairwise_cons.mpr ⟨fun a ha => ?_, insT_sorted i r h'.2⟩
      rcases List.mem_cons.mp ((insT_perm i r).mem_iff.mp ha) with e | ha
      · rw [e]; exact TWR.lexL_asym _ _ hij'
      · exact h'.1 a ha
theorem sortT_sorted : ∀ l : List (List Int), (sortT l).Pairwise (fun a b => TWR.lexL b a = false)
  | [] => List.Pairwise.nil
  | i :: r => insT_sorted i _ (sortT_sorted r)
theorem RL.intsV {H : Hp} {Z : Addr → Prop} : ∀ ns : List Int, RL C H Z (ns.map .int) (ns.map V.int) []
  | [] => ⟨rfl, rfl⟩
  | n :: ns => ⟨_, _, [], [], rfl, ⟨rfl, rfl⟩, RL.intsV ns, rfl⟩
theorem RL.tups {H : Hp} {Z : Addr → Prop} : ∀ {ds : List D} {vs : List V} {f : List Addr} {ts : List (List Int)}, RL C H Z ds vs f → tupsD ds = some ts →
    vs.map (TWR.keyV H) = ts ∧ ∀ x ∈ vs, ∃ t, ∃ ns : List Int, x = V.ref t ∧ H t = some (.tup (ns.map V.int)) ∧ Z t ∧ ns ∈ ts
  | [], vs, f, ts, h, e => by
    have : ts = [] := by simpa [tupsD] using e.symm
    rw [h.1, this]
    exact ⟨rfl, fun x hx => by cases hx⟩
  | d :: ds, vs, f, ts, h, e => by
    obtain ⟨v, vr, f1, f2, rfl, h1, h2, rfl⟩ := h
    cases d <;> simp only [tupsD, reduceCtorEq] at e
    rename_i xs
    split at e
    · rename_i a b ha hb
      cases e
      obtain ⟨p, vs, rfl, e2, za, e3⟩ := h1.tupOf
      have ev := e3.ints ha
      subst ev
      obtain ⟨i1, i2⟩ := RL.tups h2 hb
      refine ⟨by rw [List.map_cons, i1, TWR.keyV_of e2], fun x hx => ?_⟩
      rcases List.mem_cons.mp hx with rfl | hx
      · exact ⟨p, a, rfl, e2, za, List.mem_cons_self⟩
      · obtain ⟨t, ns, q1, q2, q3, q4⟩ := i2 x hx
        exact ⟨t, ns, q1, q2, q3, List.mem_cons_of_mem _ q4⟩
    · cases e
theorem RL.ofTups {H : Hp} {Z : Addr → Prop} : ∀ {vs : List V}, (∀ x ∈ vs, ∃ t, ∃ ns : List Int, x = V.ref t ∧ H t = some (.tup (ns.map V.int)) ∧ Z t) → RL C H Z ((vs.map (TWR.keyV H)).map fun t => .tup (t.map .int)) vs []
  | [], _ => ⟨rfl, rfl⟩
  | v :: vs, h => by
    obtain ⟨t, ns, rfl, e2, hz⟩ := h v List.mem_cons_self
    refine ⟨_, vs, [], [], rfl, ⟨rfl, t, _, rfl, e2, hz, ?_⟩, RL.ofTups fun x hx => h x (List.mem_cons_of_mem _ hx), rfl⟩
    rw [TWR.keyV_of e2]
    exact RL.intsV ns
theorem op1_sorted : Op1 C (fun x H Q => L2.rSortedI C.K [x] H Q ∨ TWR.rSortTup C.K [x] H Q) (B1.run .sorted) := by
  intro H Z d dz x f Q hz hx hk q
  simp only [B1.run] at hk
  cases d <;> simp only [D.sorted, reduceCtorEq] at hk
  rename_i o xs
  split at hk
  · rename_i ns hns
    exact .inl (op1_sortI H Z (.lst o xs) dz x f Q hz hx (by simp only [hns, Option.map_some]; exact hk) q)
  · split at hk
    · rename_i ts hts
      split at hk
      · rename_i hall
        cases hk
        obtain ⟨a, vs, g, rfl, e2, e3⟩ := hx.lstAt
        obtain ⟨i1, i2⟩ := e3.tups hts
        refine .inr ⟨a, vs, rfl, .inl (.inl e2), fun y hy => ?_, fun ys p h1 h2 hp => ?_⟩
        · obtain ⟨t, ns, q1, q2, q3, q4⟩ := i2 y hy
          refine ⟨t, ns, q1, q2, fun z => ?_⟩
          have := List.all_eq_true.mp hall ns q4
          rw [z] at this
          cases this
        · have e : ys.map (TWR.keyV H) = sortT ts := by
            refine List.Perm.eq_of_pairwise (le := fun a b => TWR.lexL b a = false) (fun a b _ _ p1 p2 => TWR.lexL_tot _ _ p2 p1) (List.pairwise_map.mpr h1) (sortT_sorted ts) ?_
            rw [← i1]
            exact (h2.map _).trans (sortT_perm _).symm
          rw [← e] at q
          refine q _ _ (resL hz hp (RL.ofTups fun y hy => ?_))
          obtain ⟨t, ns, q1, q2, q3, q4⟩ := i2 y (h2.mem_iff.mp hy)
          exact ⟨t, ns, q1, q2, q3⟩
      · cases hk
    · cases hk
/-! ### repr -/
mutual
theorem D.plain_ok : ∀ {d : D} {p : PyData}, d.plain = true → d.py = some p → p.showable = true ∧ p.hasDict = false ∧ p.leavesShort 2000 = true ∧ p.bulk = d.bulk ∧ p.depth = d.deep
  | .non, p, _, e => by
    have : p = .none := by simpa [D.py] using e.symm
    subst this; simp [PyData.showable, PyData.hasDict, PyData.leavesShort, PyData.bulk, PyData.depth, D.bulk, D.deep]
  | .bl b, p, _, e => by
    have : p = .bool b := by simpa [D.py] using e.symm
    subst this; simp [PyData.showable, PyData.hasDict, PyData.leavesShort, PyData.bulk, PyData.depth, D.bulk, D.deep]
  | .int i, p, h, e => by
    have : p = .int i := by simpa [D.py] using e.symm
    subst this
    simp only [D.plain, decide_eq_true_eq] at h
    have h2 : i.natAbs.log2 < 1920 := by
      by_cases z : i.natAbs = 0
      · rw [z]; decide
      · exact (Nat.log2_lt z).mpr (Nat.lt_of_lt_of_le h (Nat.pow_le_pow_right (by decide) (by decide)))
    have h3 := PySem.int_text_length_le10 (a := i) (k := 200) (by decide) (Nat.lt_of_lt_of_le h (Nat.pow_le_pow_left (by decide) 200))
    refine ⟨by simpa [PyData.showable] using h2, by simp [PyData.hasDict], ?_, by simp [PyData.bulk, D.bulk], by simp [PyData.depth, D.deep]⟩
    simp only [PyData.leavesShort, decide_eq_true_eq]
    have e2 : (PySem.Str.ofString (toString i)).length = (toString i).length := PySem.ofString_length _
    clear h h2
    show (PySem.Str.ofString (toString i)).length ≤ 2000
    omega
  | .str s, p, h, e => by
    have : p = .str s := by simpa [D.py] using e.symm
    subst this
    refine ⟨by simp [PyData.showable], by simp [PyData.hasDict], ?_, by simp [PyData.bulk, D.bulk, PySem.Str.length], by simp [PyData.depth, D.deep]⟩
    simpa only [PyData.leavesShort, D.plain] using h
  | .tup xs, p, h, e => by
    simp only [D.py] at e
    split at e
    · rename_i ps hps
      cases e
      simp only [D.plain] at h
      obtain ⟨a1, a2, a3, a4, a5⟩ := plainL_ok h hps
      simp only [PyData.showable, PyData.hasDict, PyData.leavesShort, PyData.bulk, PyData.depth, D.bulk, D.deep]
      exact ⟨a1, a2, a3, a4, by rw [a5]⟩
    · cases e
  | .lst o xs, p, h, e => by
    simp only [D.py] at e
    split at e
    · rename_i ps hps
      cases e
      simp only [D.plain] at h
      obtain ⟨a1, a2, a3, a4, a5⟩ := plainL_ok h hps
      simp only [PyData.showable, PyData.hasDict, PyData.leavesShort, PyData.bulk, PyData.depth, D.bulk, D.deep]
      exact ⟨a1, a2, a3, a4, by rw [a5]⟩
    · cases e
  | .dic _ _, p, h, _ => by simp [D.plain] at h
  | .ins _ _ _, p, h, _ => by simp [D.plain] at h
  | .exc _ _, p, h, _ => by simp [D.plain] at h
  | .scr _, p, h, _ => by simp [D.plain] at h
  | .hole, p, h, _ => by simp [D.plain] at h
theorem plainL_ok : ∀ {ds : List D} {ps : List PyData}, plainL ds = true → pyL ds = some ps → PyData.showableAll ps = true ∧ PyData.hasDictAll ps = false ∧ PyData.leavesShortAll 2000 ps = true ∧ PyData.bulkAll ps = bulkL ds ∧ PyData.depthAll ps = deepL ds
  | [], ps, _, e => by
    have : ps = [] := by simpa [pyL] using e.symm
    subst this; simp [PyData.showableAll, PyData.hasDictAll, PyData.leavesShortAll, PyData.bulkAll, PyData.depthAll, bulkL, deepL]
  | d :: ds, ps, h, e => by
    simp only [plainL, Bool.and_eq_true] at h
    simp only [pyL] at e
    split at e
    · rename_i p qs hp hqs
      cases e
      obtain ⟨a1, a2, a3, a4, a5⟩ := D.plain_ok h.1 hp
      obtain ⟨b1, b2, b3, b4, b5⟩ := plainL_ok h.2 hqs
      simp only [PyData.showableAll, PyData.hasDictAll, PyData.leavesShortAll, PyData.bulkAll, PyData.depthAll, bulkL, deepL, a1, a2, a3, a4, a5, b1, b2, b3, b4, b5, Bool.and_self, Bool.or_self, and_self]
    · cases e
end
mutual
theorem D.plain_py : ∀ {d : D}, d.plain = true → ∃ p, d.py = some p
  | .non, _ => ⟨_, rfl⟩
  | .bl _, _ => ⟨_, rfl⟩
  | .int _, _ => ⟨_, rfl⟩
  | .str _, _ => ⟨_, rfl⟩
  | .tup xs, h => by
    simp only [D.plain] at h
    obtain ⟨ps, e⟩ := plainL_py h
    exact ⟨.tuple ps, by simp only [D.py, e]⟩
  | .lst o xs, h => by
    simp only [D.plain] at h
    obtain ⟨ps, e⟩ := plainL_py h
    exact ⟨.list ps, by simp only [D.py, e]⟩
  | .dic _ _, h => by simp [D.plain] at h
  | .ins _ _ _, h => by simp [D.plain] at h
  | .exc _ _, h => by simp [D.plain] at h
  | .scr _, h => by simp [D.plain] at h
  | .hole, h => by simp [D.plain] at h
theorem plainL_py : ∀ {ds : List D}, plainL ds = true → ∃ ps, pyL ds = some ps
  | [], _ => ⟨[], rfl⟩
  | d :: ds, h => by
    simp only [plainL, Bool.and_eq_true] at h
    obtain ⟨p, e⟩ := D.plain_py h.1
    obtain ⟨ps, e2⟩ := plainL_py h.2
    exact ⟨p :: ps, by simp only [pyL, e, e2]⟩
end
def rReprD (K : PySem.W.Frag) : List V → Hp → VK → Prop := fun xs H Q => ∃ x p, xs = [x] ∧ L2.Dp K H x p ∧ p.showable = true ∧ p.hasDict = false ∧ p.shown.length ≤ PySem.sizeLine ∧ p.depth ≤ 50 ∧ Q (.str p.shown) H
theorem cr_repr (hg : X.A.guards = some []) (hu : X.A.units + 64 < PySem.cLine) : CallR X (.builtin "repr") (rReprD X.K) := by
  intro pins s σ H vs us Q I r h
  obtain ⟨x, p, rfl, hp, h1, h2, h3, h4, q⟩ := h
  obtain ⟨u, rfl, ru⟩ := L2.vals1 r
  obtain ⟨as, rd⟩ := L2.Dp.reads I p x u hp ru
  have fin : ∀ (h' : PySem.Heap) (t tk : PySem.Tok), (∀ b o, s.heap.get? b = some o → h'.get? b = some o) → L2.EP X pins σ Q (.str p.shown t) { s with heap := h', toks := tk } := fun h' t tk hk => ⟨.str p.shown, H, I.kept hk, ⟨_, rfl⟩, q⟩
  cases rd with
  | none => exact PySem.P.repr_of_none (fin _ _ _ fun _ _ e => e)
  | bool b => exact PySem.P.repr_of_bool (fin _ _ _ fun _ _ e => e)
  | int i t => exact PySem.P.repr_of_int (by simpa [PyData.showable] using h1) (fin _ _ _ fun _ _ e => e)
  | str y t => exact PySem.P.repr_of_str (fin _ _ _ fun _ _ e => e) (by simpa only [PyData.shown] using h3)
  | list a1 a2 a3 a4 => exact PySem.repr_of_reads' (.list a1 a2 a3 a4) h1 (PyData.noDict_hsm h2) hg (by omega) (fun _ _ e => e) (fun h' u tk hk => fin h' u tk hk) h3
  | tuple a1 a2 a3 a4 => exact PySem.repr_of_reads' (.tuple a1 a2 a3 a4) h1 (PyData.noDict_hsm h2) hg (by omega) (fun _ _ e => e) (fun h' u tk hk => fin h' u tk hk) h3
  | dict a1 a2 a3 a4 a5 => exact PySem.repr_of_reads' (.dict a1 a2 a3 a4 a5) h1 (PyData.noDict_hsm h2) hg (by omega) (fun _ _ e => e) (fun h' u tk hk => fin h' u tk hk) h3
theorem op1_repr : Op1 C (fun x H Q => rReprD C.K [x] H Q) (B1.run .repr) := by
  intro H Z d dz x f Q hz hx hk q
  simp only [B1.run] at hk
  split at hk
  · rename_i ht
    cases hk
    simp only [D.told, Bool.and_eq_true, decide_eq_true_eq] at ht
    obtain ⟨⟨t1, t2⟩, t3⟩ := ht
    obtain ⟨p, hp⟩ := D.plain_py t1
    obtain ⟨a1, a2, a3, a4, a5⟩ := D.plain_ok t1 hp
    have hs := PyData.shown_le_bulk 2000 (by decide) p a3
    refine ⟨x, p, rfl, hx.dp rfl hp, a1, a2, ?_, by omega, ?_⟩
    · rw [PySem.sizeLine_eq]
      rw [a4] at hs
      have : (2000 + 2) * d.bulk ≤ 2002 * 3000 := Nat.mul_le_mul_left _ t2
      omega
    · have : d.shown = p.shown := by simp only [D.shown, hp]
      rw [← this]
      exact q _ _ (res0 hz ⟨rfl, rfl⟩)
  · cases hk
/-! ### a new thing that changes no more -/
theorem se_shv {e : E} {pe : Expr} (he : PE X pe (tE c e)) : PE X pe (tE c (.shv e)) :=
  he.imp fun s H Q ⟨r, Z, F, i0, hs, h⟩ => by
    refine ⟨r, Z, F, i0, hs, ?_⟩
    simp only [ev] at h
    cases hv : ev c.g e r with
    | bad => rw [hv] at h; exact h
    | brw d r' => rw [hv] at h; exact h.elim
    | exc n v r' => rw [hv] at h; exact h
    | ok d r1 =>
      rw [hv] at h
      intro x H1 ⟨Z1, F1, f1, st, rs, hr, pp⟩
      exact h x H1 ⟨Zf Z1 f1, F1, [], st.trans (Stp.shared st.iv), rs.mono kp_zf, hr.share, fun p => by
        obtain ⟨a1, a2, a3⟩ := pp p
        exact ⟨a1, a2, a3.trans (by simpa using Stp.shared (g := f1) (F := []) (by simpa using a3.iv))⟩⟩
theorem sb_sorted {a : E} {pa : Expr} {p pos : Pos} (xk : Xk c X k sc) (ha : PE X pa (tE c a)) (pl : Pl X pa) (bt : Bt X "sorted") : PE X (.Call (.Name "sorted" p) [pa] [] pos) (tE c (.b1 .sorted a)) :=
  (L2.pe_callB (L2.cr_sortedI.or TWR.cr_sortTup) bt.gl bt.no (by decide +kernel) (L2.pa_cons ha L2.pa_nil (pl [])) (by decide) (by decide) (pl [])).imp fun s H Q ⟨r, Z, F, i0, hs, h⟩ => by
    rw [xk.K]
    exact tE.one op1_sorted i0 hs h
theorem sb_repr {a : E} {pa : Expr} {p pos : Pos} (xk : Xk c X k sc) (ha : PE X pa (tE c a)) (pl : Pl X pa) (bt : Bt X "repr") : PE X (.Call (.Name "repr" p) [pa] [] pos) (tE c (.b1 .repr a)) :=
  (L2.pe_callB (cr_repr xk.gd xk.room.units) bt.gl bt.no (by decide +kernel) (L2.pa_cons ha L2.pa_nil (pl [])) (by decide) (by decide) (pl [])).imp fun s H Q ⟨r, Z, F, i0, hs, h⟩ => by
    rw [xk.K]
    exact tE.one op1_repr i0 hs h
end TW
end

section
set_option maxHeartbeats 1600000
/-! p.setdefault(k, []).append(x) -/
namespace TW
open PySem (Str Addr Expr Stmt Pos Value Obj Shared model PyData Scope Env)
open L2 (V HO Hp Rd upd upd_same upd_ne TE TT TA TS TI TG TGs VK XK Cx PE PT PW PA PS PSs PG PGs PI PO OpR R2 CallR PTs wipe Ends)
variable {c : Ct} {X : Cx} {k : Nat} {sc : Scope}
/-- what follows the look into the dict -/
theorem sda_tail {x : E} {H Ha : Hp} {Z Za : Addr → Prop} {F Fa p1 g1 q1 : List Addr} {s : L2.St} {r ρ1 : Sl} {w : Pth} {kvs1 : List (Key × D)} {vs1 : List (Key × V)} {a : Addr} {ky : Key} {v : V} {Q : VK} {pu : Bool} (hpu : pu = false) (hpx : pur x = true)
    (st : Stp H Z F Ha Za Fa) (rs : RSt c.C Ha Za c.xo 0 ρ1 s Fa) (hf : Foc c.C Ha Za c.xo ρ1 s Fa w (.dic true kvs1) (.ref a) p1 g1 q1) (ha : Ha a = some (.dK vs1)) (hv : lookK ky vs1 = some v)
    (h : Wn c H Z F s r pu Q (match posK ky kvs1 with
      | some n => (match getP ρ1 ⟨w.s, w.r ++ [.i n]⟩, ev c.g x ρ1 with
        | some (.lst true xs), .ok d _ => if xs.length < LINE then (match setP ρ1 ⟨w.s, w.r ++ [.i n]⟩ (.lst true (xs ++ [d])) with
            | some ρ2 => .ok .non ρ2
            | none => .bad) else .bad
        | _, _ => .bad)
      | none => .bad)) : L2.tyV X.K "list" v Ha ∧ L2.tCons (tE c x) L2.tNil s Ha fun xs H2 => L2.rAppend v xs H2 Q := by
  cases hp : posK ky kvs1 with
  | none => rw [hp] at h; exact h.elim
  | some n =>
    rw [hp] at h
    simp only at h
    obtain ⟨a', vs', e, y0, p2, g2, q2, ea, e2, hacc, hval, hf'⟩ := hf.dic hp
    cases ea
    have evs : vs' = vs1 := by
      have := e2.symm.trans ha
      injection this with this
      injection this
    subst evs
    have ey : y0 = v := by
      rw [valV_eq] at hval
      exact Option.some.inj (hval.symm.trans hv)
    subst ey
    rw [hf'.gt] at h
    cases hx : ev c.g x ρ1 with
    | bad => rw [hx] at h; cases e <;> first | exact h.elim | (rename_i o _; cases o <;> exact h.elim)
    | brw d r' => rw [hx] at h; cases e <;> first | exact h.elim | (rename_i o _; cases o <;> exact h.elim)
    | exc m u r' => rw [hx] at h; cases e <;> first | exact h.elim | (rename_i o _; cases o <;> exact h.elim)
    | ok d r' =>
      rw [hx] at h
      obtain ⟨xs, rfl⟩ : ∃ xs, e = .lst true xs := by
        cases e with
        | lst o xs => cases o with
          | true => exact ⟨xs, rfl⟩
          | false => exact h.elim
        | _ => exact h.elim
      simp only at h
      split at h
      · rename_i hlen
        cases hset : setP ρ1 ⟨w.s, w.r ++ [.i n]⟩ (.lst true (xs ++ [d])) with
        | none => rw [hset] at h; exact h.elim
        | some ρ2 =>
          rw [hset] at h
          obtain ⟨b, ys0, g0, rfl, b2, b3, b4⟩ := hf'.at_
          refine ⟨.inl ⟨rfl, ys0, .inl (.inl b2)⟩, ρ1, Za, Fa, st.iv, rs, ?_⟩
          rw [hx]
          intro y Hb ⟨Zb, Fb, fb, sb, rsb, hy, pp⟩
          obtain ⟨c1, c2, c3⟩ := pp hpx
          subst c1 c2
          have hfb := hf'.mono c3
          obtain ⟨b', ys, g3, eb, e4, e5, e6⟩ := hfb.at_
          cases eb
          obtain ⟨n1, n2, n3, nz, hin⟩ := hfb.away sb.iv e6
          refine ⟨b, ys, y, rfl, rfl, e4, by rw [e5.len, ← line_eq]; exact hlen, ?_⟩
          obtain ⟨s1, s2⟩ := hfb.wrote (d' := .lst true (xs ++ [d])) (f := fb) (o := .lst (ys ++ [y])) (gn := g3 ++ fb) (rest := []) sb.iv e6 (by simp) ⟨b, _, _, rfl, upd_same, (e5.mono (kpU n2 nz)).snoc (hy.mono (kpU n1 nz)), rfl⟩ hset
          exact h _ _ ⟨Zb, _, [], (st.trans sb).trans s1, s2, ⟨rfl, rfl⟩, fun p => by rw [hpu] at p; cases p⟩
      · exact h.elim
theorem se_sda {p : P} {e x : E} {po pk px : Expr} {ap1 cp1 ap2 cp2 lp : Pos} (xk : Xk c X k sc) (hp : PE X po (tP c p)) (hk : PE X pk (tE c e)) (hx : PE X px (tE c x)) (m : L2.M2 X po "setdefault" ap1 pk (.List [] lp) cp1)
    (mc : Mc X (.Call (.Attribute po "setdefault" ap1) [pk, .List [] lp] [] cp1) "append" ap2 [px] cp2) (pl : Pl X px) : PE X (.Call (.Attribute (.Call (.Attribute po "setdefault" ap1) [pk, .List [] lp] [] cp1) "append" ap2) [px] [] cp2) (tE c (.sda p e x)) :=
  (L2.pe_bm PySem.F.plainAttrs_list PySem.F.slot_list_append PySem.F.type_list_append L2.mt_append (L2.pe_dsetd hp hk (L2.pe_lst L2.pa_nil) m) (L2.pa_cons hx L2.pa_nil (pl [])) mc.base mc.few mc.line (pl []) rfl).imp fun s H Q ⟨r, Z, F, i0, hs, h⟩ => by
    simp only [ev] at h
    split at h
    · rename_i hpu
      rw [Bool.and_eq_true] at hpu
      cases hw : evP c.g p r with
      | none => rw [hw] at h; exact h.elim
      | some w =>
        rw [hw] at h
        simp only at h
        cases hg : getP r w with
        | none => rw [hg] at h; exact h.elim
        | some d0 =>
          rw [hg] at h
          obtain ⟨kvs, rfl⟩ : ∃ kvs, d0 = .dic true kvs := by
            cases d0 with
            | dic o xs => cases o with
              | true => exact ⟨xs, rfl⟩
              | false => exact h.elim
            | _ => exact h.elim
          simp only at h
          refine ⟨r, Z, F, w, _, i0, hs, hw, hg, fun xv H1 Z1 st ⟨p1, g1, q1, hf⟩ => ?_⟩
          have st0 : Stp H Z F H1 Z1 F := by simpa using st.lift i0
          obtain ⟨a, vs0, g0, rfl, e2, nd, e3, e4⟩ := hf.at_
          refine ⟨a, rfl, .inl ⟨vs0, .inl e2⟩, r, Z1, F, st0.iv, hs.mono st.kpAll, ?_⟩
          cases hv : ev c.g e r with
          | bad => rw [hv] at h; exact h
          | brw d r' => rw [hv] at h; exact h.elim
          | exc n v r' => rw [hv] at h; exact h.elim
          | ok kd r1 =>
            rw [hv] at h
            simp only at h
            cases hkey : kd.key with
            | none => rw [hkey] at h; exact h.elim
            | some ky =>
              rw [hkey] at h
              simp only at h
              split at h
              · rename_i hlen
                intro y H2 ⟨Z2, F2, f2, s2, rs2, hy, pp⟩
                obtain ⟨b1, b2, b3⟩ := pp hpu.1
                subst b1 b2
                refine ⟨Nat.zero_le _, fun l hl => ?_⟩
                have b3' := b3.nil
                have st23 : Stp H2 Z2 [] (upd H2 l (.lst [])) Z2 [l] := Stp.new b3'.iv hl
                have hf3 := (hf.mono b3').mono st23
                have stF2 : Stp H Z F2 H2 Z2 F2 := st0.trans (by simpa using b3'.lift st0.iv)
                have stF3 : Stp H Z F2 (upd H2 l (.lst [])) Z2 ([l] ++ F2) := stF2.trans (st23.lift stF2.iv)
                obtain ⟨a', vs, g3, ea, e2', nd', e3', e4'⟩ := hf3.at_
                cases ea
                have rs3 : RSt c.C (upd H2 l (.lst [])) Z2 c.xo 0 r1 s F2 := rs2.mono st23.kpAll
                refine ⟨vs, ky, e2', hy.key hkey, by rw [e3'.len, ← line_eq]; exact hlen, fun v hvv => ?_, fun hnone => ?_⟩
                · rw [valV_eq] at hvv
                  cases hl2 : lookK ky kvs with
                  | none =>
                    rw [e3'.nolook hl2] at hvv
                    cases hvv
                  | some d1 =>
                    rw [hl2] at h
                    simp only [hg] at h
                    exact sda_tail (pu := pur (.sda p e x)) rfl hpu.2 (stF3.sub (List.sublist_append_right _ _)) rs3 hf3 e2' hvv h
                · rw [valV_eq] at hnone
                  cases hl2 : lookK ky kvs with
                  | some d1 =>
                    obtain ⟨v1, _, _, _, hv1, _⟩ := e3'.look hl2
                    rw [hv1] at hnone
                    cases hnone
                  | none =>
                    rw [hl2] at h
                    simp only at h
                    cases hset : setP r1 w (.dic true (putKD ky (.lst true []) kvs)) with
                    | none => rw [hset] at h; exact h.elim
                    | some ρ1 =>
                      rw [hset] at h
                      simp only at h
                      rw [putK_eq nd']
                      have i3 : Iv (upd H2 l (.lst [])) Z2 ([l] ++ F2) := stF3.iv
                      obtain ⟨n1, n2, n3, nz, hin⟩ := hf3.away i3 e4'
                      have hrl : R c.C (upd (upd H2 l (.lst [])) a (.dK (putKV ky (.ref l) vs))) Z2 (.lst true []) (.ref l) [l] := ⟨l, [], [], rfl, by rw [upd_ne (fun z => n1 (by rw [z]; simp))]; exact upd_same, ⟨rfl, rfl⟩, rfl⟩
                      have hL := RK.put (e3'.mono (kpU (o := .dK (putKV ky (.ref l) vs)) n2 nz)) hrl hl2
                      obtain ⟨s1, s2'⟩ := hf3.wrote (d' := .dic true (putKD ky (.lst true []) kvs)) (f := [l]) (o := .dK (putKV ky (.ref l) vs)) (gn := g3 ++ [l]) (rest := []) i3 e4' (by simp) ⟨a, _, _, rfl, upd_same, putKV_nodup nd', hL, rfl⟩ hset
                      have hvg : vgS (upd (upd H2 l (.lst [])) a (.dK (putKV ky (.ref l) vs))) s w = some (.ref a) := hf3.vg _ Z2 (kpU n3 nz)
                      cases hg2 : getP ρ1 w with
                      | none => rw [hg2] at h; exact h.elim
                      | some d2 =>
                        rw [hg2] at h
                        obtain ⟨kvs1, rfl⟩ : ∃ kvs, d2 = .dic true kvs := by
                          cases d2 with
                          | dic o xs => cases o with
                            | true => exact ⟨xs, rfl⟩
                            | false => exact h.elim
                          | _ => exact h.elim
                        simp only at h
                        obtain ⟨p5, g5, q5, hf5⟩ := s2'.focAt hg2 hvg
                        refine sda_tail (pu := pur (.sda p e x)) rfl hpu.2 (stF3.trans s1) s2' hf5 upd_same ?_ h
                        have hput : ∀ (l2 : List (Key × V)), lookK ky l2 = none → lookK ky (putKV ky (.ref l) l2) = some (.ref l) := fun l2 => by
                          induction l2 with
                          | nil => intro _; simp [putKV, lookK]
                          | cons q l2 ih =>
                            obtain ⟨k0, v0⟩ := q
                            intro hq
                            by_cases e0 : k0 = ky
                            · simp [lookK, e0] at hq
                            · simp only [putKV, if_neg e0, lookK]
                              exact ih (by simpa [lookK, e0] using hq)
                        exact hput vs hnone
              · exact h.elim
    · exact h.elim
end TW
end

section
set_option maxHeartbeats 1600000
/-! for v in d.values(): the dict is had no more -/
namespace TW
open PySem (Str Addr Expr Stmt Pos Value Obj Shared model PyData Scope Env)
open L2 (V HO Hp Rd upd upd_same upd_ne TE TT TA TS TI TG TGs VK XK Cx PE PT PW PA PS PSs PG PGs PI PO OpR R2 CallR PTs wipe Ends)
variable {c : Ct} {X : Cx} {k : Nat} {sc : Scope}
/-- what is told is locked -/
theorem pe_lockV {e : Expr} {t : TE} (h : PE X e t) : PE X e (fun σ H Q => t σ H fun x H1 => ∃ d u, H1 d = some u ∧ L2.Mut (some u) ∧ ∀ od, Q x (upd H1 d (.frz od u))) :=
  ⟨fun pins s σ H Q I hq => L2.thn (h.run pins s σ H _ I hq) fun v s1 ⟨x, H1, I1, r, d, u, hd, mu, q⟩ => by
    obtain ⟨od, I2⟩ := I1.lock hd mu
    exact ⟨x, _, I2, r, q od⟩⟩
theorem si_val {i : Nat} {tg pe : Expr} {apos cpos : Pos} (hp : PE X pe (tP c (.var i))) (hbase : PySem.attributeBase pe "values" X.env (PySem.eval pe X.env) = PySem.eval pe X.env) (hline : (apos.endLine == cpos.line) = true) :
    PI X tg (.Call (.Attribute pe "values" apos) [] [] cpos) (tI c (.val (.pl (.var i)))) :=
  (L2.pi_values (pe_lockV hp) hbase hline).imp fun s H Q ⟨r, Z, F, i0, hs, h⟩ => by
    simp only [evIt] at h
    split at h
    · rename_i kvs hri
      split at h
      · exact h.elim
      · have hg : getP r ⟨i, []⟩ = some (.dic true kvs) := by simp [getP, hri, getA]
        refine ⟨r, Z, F, ⟨i, []⟩, .dic true kvs, i0, hs, rfl, hg, fun x H1 Z1 st ⟨p1, g1, q1, hf⟩ => ?_⟩
        have st0 : Stp H Z F H1 Z1 F := by simpa using st.lift i0
        have hv : s[i]? = some (some x) := by
          have := hf.vg0
          unfold vgS at this
          simp only at this
          split at this
          · rename_i y hy
            rw [hy]
            simpa [vget] using this
          · cases this
        have hlt : i < r.length := (List.getElem?_eq_some_iff.mp hri).1
        obtain ⟨p, g, q, a1, a2, a3⟩ := (hs.mono st.kpAll).focus i hlt
        obtain ⟨x', hx', hR⟩ := a2 _ hri
        have ex : x' = x := by
          rw [hv] at hx'
          exact (Option.some.inj (Option.some.inj hx')).symm
        subst ex
        have hR' : R c.C H1 Z1 (.dic true kvs) x' g := hR
        obtain ⟨a, vs, g0, rfl, e2, nd, e3, rfl⟩ := hR'
        refine ⟨a, .dK vs, e2, trivial, fun od => ⟨a, od, vs, rfl, upd_same, ?_⟩⟩
        have hin : a ∈ F := by rw [a1]; simp
        have i1 := st0.iv
        have nz : ¬ Z1 a := i1.nz a hin
        have nd1 := i1.nd
        rw [a1] at nd1
        have n3 : a ∉ p ++ q := by
          simp only [List.append_assoc, List.cons_append, List.nodup_append, List.nodup_cons, List.mem_append, not_or] at nd1 ⊢
          exact ⟨fun z => nd1.2.2 a z a (by simp) rfl, nd1.2.1.1.2⟩
        have n2 : a ∉ g0 := by
          simp only [List.append_assoc, List.cons_append, List.nodup_append, List.nodup_cons, List.mem_append, not_or] at nd1
          exact nd1.2.1.1.1
        have sW : Stp H1 Z1 F (upd H1 a (.frz od (.dK vs))) Z1 F := Stp.write i1 hin
        have pm : F.Perm (g0 ++ ([a] ++ (p ++ q))) := by
          rw [a1]
          have e1 : (p ++ (a :: g0) ++ q).Perm ((a :: g0) ++ p ++ q) := List.Perm.append_right q List.perm_append_comm
          refine e1.trans ?_
          have e2 : ((a :: g0) ++ p ++ q).Perm ((g0 ++ [a]) ++ p ++ q) := List.Perm.append_right q (List.Perm.append_right p (List.perm_append_comm (l₁ := [a]) (l₂ := g0)))
          simpa using e2
        have sT : Stp H Z F (upd H1 a (.frz od (.dK vs))) (Zf Z1 g0) ([a] ++ (p ++ q)) := by
          have s1 := (st0.trans sW).perm pm
          exact s1.trans (Stp.shared s1.iv)
        have kz : Kp H1 (upd H1 a (.frz od (.dK vs))) Z1 (Zf Z1 g0) (p ++ q) := ⟨fun _ z => .inl z, (kpU (o := .frz od (.dK vs)) n3 nz).2⟩
        have hk := (e3.mono (kpU (o := .frz od (.dK vs)) n2 nz)).share
        refine h _ _ (Zf Z1 g0) (p ++ q) [] [a] (by simpa using sT) (a3 _ _ kz).2.2 rfl ?_
        have hlen : ((shareK kvs).map (·.2)).length = vs.length := by rw [List.length_map]; exact hk.len.symm
        refine ⟨fun H => H a = some (.frz od (.dK vs)), fun i H x H' => H' = H ∧ ∃ k, vs[i]? = some (k, x), by rw [hlen]; exact L2.walk_values, fun H2 Z2 kp => kp.2 a _ (.inl (by simp)) upd_same, fun j d x H2 Z2 H3 hj kp hz ⟨e1, ky, e2⟩ => ?_⟩
        subst e1
        rw [List.getElem?_map] at hj
        obtain ⟨⟨k', d'⟩, hj1, hj2⟩ := Option.map_eq_some_iff.mp hj
        subst hj2
        obtain ⟨y, pp, gg, qq, b1, b2, b3, _⟩ := hk.at hj1
        have eg : gg = [] := by
          have := congrArg List.length b2
          simp at this
          exact List.eq_nil_of_length_eq_zero (by omega)
        subst eg
        have ey : y = x := by
          have := b1.symm.trans e2
          have := (show k' = ky ∧ y = x by simpa using this)
          exact this.2
        subst ey
        exact ⟨Z2, Stp.refl (iv0 hz), b3.mono (kp.sub (fun _ z => nomatch z))⟩
    · exact h.elim
end TW
end

section
/-! a test: a if q else b -/
namespace TW
open PySem (Str Addr Expr Stmt Pos Value Obj Shared model PyData Scope Env wpAny wpAny_bind wpAny_mono)
open L2 (V HO Hp Rd upd upd_same upd_ne TE TT TA TS TI TG TGs VK XK Cx PE PT PW PA PS PSs PG PGs PI PO OpR R2 CallR PTs wipe Ends)
variable {c : Ct} {X : Cx} {k : Nat} {sc : Scope}
theorem pt_if {q a b : Expr} {pos : Pos} {tq ta tb : TT} (hq : PT X q tq) (ha : PT X a ta) (hb : PT X b tb) : PT X (.IfExp q a b pos) (fun σ H Q => tq σ H fun d H1 => if d = true then ta σ H1 Q else tb σ H1 Q) := by
  refine ⟨fun pins s σ H Q I h => ?_⟩
  have e : PySem.isTrue (.IfExp q a b pos) X.env (PySem.eval (.IfExp q a b pos) X.env) = (do if ← PySem.isTrue q X.env (PySem.eval q X.env) then PySem.isTrue a X.env (PySem.eval a X.env) else PySem.isTrue b X.env (PySem.eval b X.env)) := rfl
  rw [e]
  refine wpAny_bind (wpAny_mono (hq.run pins s σ H _ I h) (fun d s1 ⟨H1, I1, q1⟩ => ?_) fun _ _ x => x)
  cases d with
  | true => exact ha.run pins s1 σ H1 Q I1 q1
  | false => exact hb.run pins s1 σ H1 Q I1 q1
theorem WnT.weak {H : Hp} {Z : Addr → Prop} {F : List Addr} {s : L2.St} {r : Sl} {pu pu' : Bool} {Q : Bool → Hp → Prop} {res : RE} (w : pu' = true → pu = true) (h : WnT c H Z F s r pu' Q res) : WnT c H Z F s r pu Q res := by
  cases res with
  | bad => exact h
  | exc n v r' => exact h
  | ok d r' =>
    simp only [WnT] at h ⊢
    cases ht : d.tru with
    | none => rw [ht] at h; exact h
    | some b => rw [ht] at h; exact fun H' Z' F' st rs pp => h H' Z' F' st rs fun p => pp (w p)
  | brw d r' =>
    simp only [WnT] at h ⊢
    cases ht : d.tru with
    | none => rw [ht] at h; exact h
    | some b => rw [ht] at h; exact fun H' Z' F' st rs pp => h H' Z' F' st rs fun p => pp (w p)
theorem st_ite {q a b : E} {pq pa pb : Expr} {pos : Pos} (hq : PT X pq (tT c q)) (ha : PT X pa (tT c a)) (hb : PT X pb (tT c b)) : PT X (.IfExp pq pa pb pos) (tT c (.ite q a b)) :=
  (pt_if hq ha hb).imp fun s H Q ⟨r, Z, F, i0, hs, h⟩ => by
    refine ⟨r, Z, F, i0, hs, ?_⟩
    simp only [ev] at h
    have p1 : pur (.ite q a b) = true → (pur q && pur a) = true := fun p => by
      have p' : (pur q && pur a && pur b) = true := p
      exact (Bool.and_eq_true_iff.mp p').1
    have p2 : pur (.ite q a b) = true → (pur q && pur b) = true := fun p => by
      have p' : (pur q && pur a && pur b) = true := p
      simp only [Bool.and_eq_true] at p' ⊢
      exact ⟨p'.1.1, p'.2⟩
    have go : ∀ {d : D} {r' : Sl}, WnT c H Z F s r (pur (.ite q a b)) Q (match d.tru with
        | some true => ev c.g a r'
        | some false => ev c.g b r'
        | none => .bad) → match d.tru with
        | some bb => ∀ H' Z' F', Stp H Z F H' Z' F' → RSt c.C H' Z' c.xo 0 r' s F' → (pur q = true → r' = r ∧ F' = F ∧ Stp H Z [] H' Z' []) → (if bb = true then tT c a s H' Q else tT c b s H' Q)
        | none => False := fun {d r'} h => by
      cases ht : d.tru with
      | none => rw [ht] at h; exact h
      | some bb =>
        rw [ht] at h
        intro H' Z' F' st rs pp
        cases bb with
        | true =>
          rw [if_pos rfl]
          exact ⟨r', Z', F', st.iv, rs, WnT.from st pp (WnT.weak p1 h)⟩
        | false =>
          rw [if_neg Bool.false_ne_true]
          exact ⟨r', Z', F', st.iv, rs, WnT.from st pp (WnT.weak p2 h)⟩
    cases hv : ev c.g q r with
    | bad => rw [hv] at h; exact h
    | exc n v r' => rw [hv] at h; exact h
    | ok d r' => rw [hv] at h; exact go h
    | brw d r' => rw [hv] at h; exact go h
end TW
end

section
set_option maxRecDepth 100000
set_option maxHeartbeats 2000000
/-! an own error (of ValueError) whose __init__ calls super().__init__ and stores a field -/
namespace PySem
namespace TWX
open PySem.W PySem.Calls PyProof.Rows PySem.HandSPX
/-- where the words of __init__ stand -/
structure InitPos where
  p0 : Pos
  p1 : Pos
  p2 : Pos
  p3 : Pos
  p4 : Pos
  p5 : Pos
  p6 : Pos
  q1 : Pos
  q2 : Pos
  q3 : Pos
  q4 : Pos
  a1 : Pos
  a2 : Pos
  k : Nat
def iA (ar : Str) (P : InitPos) : Arguments := { posonlyargs := [], args := [{ arg := "self", annotation := none, pos := P.a1 }, { arg := ar, annotation := none, pos := P.a2 }], vararg := none, kwonlyargs := [], kw_defaults := [], kwarg := none, defaults := [] }
def iB (ar fl msg : Str) (P : InitPos) : List Stmt := [.Expr (.Call (.Attribute (.Call (.Name "super" P.p0) [] [] P.p1) "__init__" P.p2) [.Constant (.str msg) P.k P.p3, .Name ar P.p4] [] P.p5) P.p6,
  .Assign [.Attribute (.Name "self" P.q1) fl P.q2] (.Name ar P.q3) P.q4]
def iS (ar : Str) : Scope := { kind := .function, names := [("self", .local), (ar, .local), ("__class__", .free), ("super", .globalImplicit)], isGenerator := false, isCoroutine := false, more := [] }
/-- the call of super().__init__ goes by the method's name (the text of it stands on one line) -/
def SupEv (ar msg : Str) (P : InitPos) : Prop := ∀ env : Env, ∃ pl : Sem Bool, eval (.Call (.Attribute (.Call (.Name "super" P.p0) [] [] P.p1) "__init__" P.p2) [.Constant (.str msg) P.k P.p3, .Name ar P.p4] [] P.p5) env = (do
      let ov ← attributeBase (.Call (.Name "super" P.p0) [] [] P.p1) "__init__" env (eval (.Call (.Name "super" P.p0) [] [] P.p1) env)
      standAt P.p2.atName
      let (f, first) ← holding [ov] (getMethod ov "__init__" pl)
      callWith P.p5 f first (backTo P.p5 (starEach [.Constant (.str msg) P.k P.p3, .Name ar P.p4] env)) [])
abbrev veB : List Value := [.type "ValueError", .type "Exception", .type "BaseException", .type "object"]
structure ErrTxt (prog : Program) (K : Frag) (mg : Str → Option Value) (C fI : Addr) (cn ar fl msg : Str) : Prop where
  gC : mg cn = some (.ref C)
  cls : ∃ nm q N bs bm sn sub ab col dd k0 k1 k2 k3 k5, K.lookup C = some (excClassObj nm q C N bs bm true sn sub ab col dd k0 k1 k2 k3 k5 "ValueError.__new__") ∧ refsVE bm = true
  sa : findIn K (.ref C) "__setattr__" = some (some (.builtin "object.__setattr__"))
  ga : findIn K (.ref C) "__getattribute__" = some (some (.builtin "BaseException.__getattribute__"))
  gg : findIn K (.ref C) "__getattr__" = some none
  noN : findIn K (.ref C) fl = some none
  iC : findIn K (.ref C) "__init__" = some (some (.ref fI))
  tC : typeIn K (.ref fI) = some (.type "function")
  kC : keepIn K (.ref C) = true
  exC : subIn K (.ref C) (.type "BaseException") = some true
  veC : subIn K (.ref C) (.type "ValueError") = some true
  tyC : typeIn K (.ref C) = some (.type "type")
  hdC : hasDictIn K C = true
  te : exmOne K (.ref C) (.ref C) = some true
  cc : findIn K (.ref C) "__class__" = some (some (.builtin "object.__class__"))
  cg : PySem.W.specialIn K (.builtin "object.__class__") "__get__" = some (some (.builtin "getset_descriptor.__get__"))
  ct : PySem.W.takesIn K (.builtin "object.__class__") = some true
  cm : mroIn K C (.type "object") = some true
  sup : mg "super" = none
  sm : ks_superIn K C C "__init__" = some (some (.builtin "ValueError.__init__"))
  mro : mroIn K C (.ref C) = some true
  xi : excInitIn K C veB "ValueError.__new__" = true
  top : (prog.main.scope.names.lookup ("super" : Str)).isSome = false
  tp : nsIn K cStatics "thirdparty.any" = some none
  ne1 : ar ≠ "self"
  ne4 : (ar == ("__debug__" : Str)) = false
  ks : (iS ar).names.lookup ("self" : Str) = some .local
  ka : (iS ar).names.lookup ar = some .local
  kc : (iS ar).names.lookup ("__class__" : Str) = some .free
  ku : (iS ar).names.lookup ("super" : Str) = some .globalImplicit
  kn : ∀ x ∈ (iS ar).names, x.2 ≠ .cell
  bd : ∀ (qual : Str) (P : InitPos) (doc pm : Value) (an : Option Addr) (cdv ct : Value) (cc : Addr) (x v : Value), bindArgs (ksFn "__init__" qual (iA ar P) (iB ar fl msg P) (iS ar) .none .none doc pm an cdv ct cc) ⟨[x, v], []⟩ = pure [(("self" : Str), x), (ar, v)]
  fn : ∃ (oc : Value) (od : Option Addr) (doc pm : Value) (an : Option Addr) (cda cc : Addr) (ct : Value) (osl : Array (Option Value)) (P : InitPos) (ccl : Value) (cdd : Option Addr) (vs : Array Value) (ccs : Array (Option Value)) (file : Str) (tf : Tok) (cl : Value) (cld : Option Addr) (csl : Array (Option Value)) (qual : Str),
    K.lookup fI = some ⟨oc, od, .func (ksFn "__init__" qual (iA ar P) (iB ar fl msg P) (iS ar) .none .none doc pm an (.ref cda) ct cc), osl⟩ ∧ codeIn K (.ref cda) qual = true ∧
    K.lookup cda = some ⟨ccl, cdd, .fields vs, ccs⟩ ∧ vs[2]? = some (.str file tf) ∧ ((prog.main.file : Str) == file) = true ∧ K.lookup cc = some ⟨cl, cld, .cell (some (.ref C)), csl⟩ ∧ SupEv ar msg P
/-- what __init__ leaves of a fresh exception at x -/
structure InitEnd (h h' : Heap) (x C dx : Addr) (fl : Str) (v : Value) : Prop where
  keep : ∀ b o, b ≠ x → h.get? b = some o → h'.get? b = some o
  obj : ∃ t1, h'.get? x = some { cls := .ref C, dict := some dx, data := .fields #[.ref t1, .none, .none, .none, .bool false, .none] }
  dbig : h.objs.size ≤ dx
  dne : dx ≠ x
  ns : h'.Ns1 dx (fun y => if y = fl then some v else none)
structure OwnMade (h h' : Heap) (e C d : Addr) (fl : Str) (v : Value) : Prop where
  keep : ∀ b o, h.get? b = some o → h'.get? b = some o
  new : h.objs.size ≤ e
  obj : ∃ oe vs, h'.get? e = some oe ∧ oe.cls = .ref C ∧ oe.dict = some d ∧ oe.data = .fields vs ∧ vs[1]? = some .none
  dbig : h.objs.size ≤ d
  dne : d ≠ e
  ns : h'.Ns1 d (fun y => if y = fl then some v else none)
theorem one_size (v : Value) : [v].length ≤ sizeLine := by
  rw [sizeLine_eq]
  exact (by decide : 1 ≤ 16777216)
theorem two_size (u v : Value) : [u, v].length ≤ sizeLine := by
  rw [sizeLine_eq]
  exact (by decide : 2 ≤ 16777216)
theorem kind_of {ar : Str} {env : Env} {y : Str} {kd : NameKind} (he : env.scope = iS ar) (h : (iS ar).names.lookup y = some kd) : env.kindOf y = some kd := by
  show env.scope.names.lookup y = _
  rw [he]; exact h
section
variable {prog : Program} {w : World} {A : Around} {E : Value → Shared → Prop} {R : Result → Shared → Prop} {s : Shared} {K : Frag} {mg : Str → Option Value} {C fI : Addr} {cn ar fl msg : Str}
theorem super_node {h₀ : Heap} {L : Addr} {m mb : Str → Option Value} {news : List (Addr × Obj)} {x D f cc cda : Addr} {ox : Obj} {odx : Option Obj} {body : List Stmt} {q : Str} {scope : Scope} {p0 p1 : Pos} {attr : Str} {whole : Sem Value} {fd : FuncData} {arg : Arg} {vs : Array Value} {file : Str} {tf : Tok} {oc ccl cl : Value} {od cdd cld : Option Addr} {osl ccs csl : Array (Option Value)} {cdD : ClassData} {Q : Value → Shared → Prop}
    (F : Fr h₀ L s.heap m) (X₀ : K.In h₀) (N : News h₀ L s.heap news) (hg : s.heap.Ns mainGlobals mg) (hb : s.heap.Ns builtinsNs mb) (hmb : mb "super" = some (.type "super"))
    (hf : K.lookup f = some ⟨oc, od, .func fd, osl⟩) (hp : (fd.params.posonlyargs ++ fd.params.args).head? = some arg) (hv : m arg.arg = some (.ref x)) (I : InstAt s.heap x ox C odx)
    (hcode : K.lookup cda = some ⟨ccl, cdd, .fields vs, ccs⟩) (hvs : vs[2]? = some (.str file tf)) (hfile : ((prog.main.file : Str) == file) = true)
    (hcell : K.lookup cc = some ⟨cl, cld, .cell (some (.ref D)), csl⟩) (hD : clsIn K D = some cdD) (hsub : mroIn K C (.ref D) = some true) (hsuper : mg "super" = none)
    (hat : (attr == ("__class__" : Str)) = false) (hks : scope.names.lookup ("super" : Str) = some .globalImplicit) (hkc : scope.names.lookup ("__class__" : Str) = some .free) (hka : scope.names.lookup arg.arg = some .local) (hk : scope.kind = .function)
    (htop : (prog.main.scope.names.lookup ("super" : Str)).isSome = false)
    (h : ∀ so h', Fr h₀ L h' m → News h₀ L h' ((so, ks_superObj D x C) :: news) → (∀ p ∈ news, p.1 < so) → Q (.ref so) { s with heap := h' }) :
    _root_.PySem.wpAt (model prog w) A (.func body (ksEnv q scope L f (.ref cda) cc)) (attributeBase (.Call (.Name "super" p0) [] [] p1) attr (ksEnv q scope L f (.ref cda) cc) whole) Q E s := by
  have X : K.In s.heap := X₀.keeps F.keep
  obtain ⟨hh, g, d, t, os⟩ := s
  obtain ⟨oD, hD1, hD2⟩ : ∃ oD, hh.get? D = some oD ∧ oD.data = .cls cdD := by
    unfold clsIn at hD
    split at hD
    · rename_i c d cd' sl ho
      cases hD
      exact ⟨_, X _ _ ho, rfl⟩
    · cases hD
  refine ks_wpAt_super_base (env := ksEnv q scope L f (.ref cda) cc) hks hkc hat rfl (X _ _ hf) rfl hp rfl (X _ _ hcode) rfl hvs hfile htop ?_
  refine ks_loadName_global hk hks (loadGlobal_builtin (env := ksEnv q scope L f (.ref cda) cc) hg hsuper hb hmb ⟨rfl, ?_⟩)
  refine wpAny_loadName_free hk hkc rfl ⟨_, X _ _ hcell, rfl⟩ ?_
  refine wpAny_loadName_local hk hka F.ns hv ?_
  refine ks_wpAny_isType_cls hD1 hD2 ⟨rfl, ?_⟩
  refine ks_wpAny_call_super hD1 hD2 I.at_ I.cls (fun c e => ?_) (looks_mroIn X hsub) (fun h' e k => ?_)
  · have := I.no
    unfold notCls at this
    rw [e] at this
    exact Bool.noConfusion this
  · obtain ⟨F', N', l'⟩ := ks_newsPush (s := ⟨hh, g, d, t, os⟩) F N rfl e k
    exact h _ _ F' N' l'
theorem err_init (T : ErrTxt prog K mg C fI cn ar fl msg) {x t0 : Addr} {v : Value} (X : K.In s.heap) (hlim : s.heap.NoLimit) (G : s.heap.Ns mainGlobals mg) (B : ∃ mb, s.heap.Ns builtinsNs mb ∧ mb "super" = some (.type "super")) (hx : s.heap.get? x = some (excO C t0)) (hnx : K.lookup x = none) (hroom : A.depth < recursionLimit)
    (hq : ∀ h' tk dx, InitEnd s.heap h' x C dx fl v → R (.ok (.ret .none)) { s with heap := h', toks := tk }) :
    codeAny (model prog w) A (.call (.ref fI) ⟨[.ref x, v], []⟩) R s := by
  obtain ⟨oc, od, doc, pm, an, cda, cc, ct, osl, P, ccl, cdd, vs, ccs, file, tf, cl, cld, csl, qual, ho, hcd, hcda, hvs, hfile, hcc, hev⟩ := T.fn
  obtain ⟨nm, q, N, bs, bm, sn, sub, ab, col, dd, k0, k1, k2, k3, k5, hC, hbm⟩ := T.cls
  have hcl : clsIn K C = some { name := nm, bases := bs, mro := .ref C :: bm, ns := N, qualname := q, hasDict := true, slotNames := sn, subclasses := sub, abstract := ab, collection := col, hasDel := false } := by unfold clsIn; rw [hC] <;> rfl
  refine ks_codeAny_call_defAt (fd := ksFn "__init__" qual (iA ar P) (iB ar fl msg P) (iS ar) .none .none doc pm an (.ref cda) ct cc) (body := iB ar fl msg P) (binds := [(("self" : Str), .ref x), (ar, v)]) hroom (X _ _ ho) rfl hlim (codeRec_of X hcd) rfl
    (BindsTo.of_eq (T.bd ..)) T.kn (fun y hy => by
      rcases List.mem_cons.mp hy with rfl | hy
      · exact T.ks
      · rcases List.mem_cons.mp hy with rfl | hy
        · exact T.ka
        · cases hy) (fun h₁ hns hk₁ => ?_) rfl rfl rfl
  have hxL : s.heap.objs.size ≠ x := Nat.ne_of_gt (Heap.lt_size hx)
  have X₁ : K.In h₁ := X.keeps hk₁
  let m : Str → Option Value := fun y => [(("self" : Str), Value.ref x), (ar, v)].reverse.lookup y
  have mself : m "self" = some (.ref x) := by
    show List.lookup ("self" : Str) [(ar, v), (("self" : Str), Value.ref x)] = _
    rw [List.lookup_cons, show (("self" : Str) == ar) = false by simpa using Ne.symm T.ne1]
    rfl
  have mar : m ar = some v := by
    show List.lookup ar [(ar, v), (("self" : Str), Value.ref x)] = _
    rw [List.lookup_cons, show (ar == ar) = true by simp]
  -- the frame over the entry's heap without x
  let h₀ := hideAll s.heap [x]
  have k₀ : ∀ b o, h₀.get? b = some o → h₁.get? b = some o := fun b o e => hk₁ b o (of_hideAll _ e)
  have F₀ : Fr h₀ s.heap.objs.size h₁ m := ⟨hns, k₀, Nat.le_of_eq (hideAll_size _ _)⟩
  have X₀ : K.In h₀ := fun b o e => hideAll_get _ (X b o e) (fun z => by
    rcases List.mem_cons.mp z with z | z
    · rw [z, hnx] at e; cases e
    · cases z)
  have N₀ : News h₀ s.heap.objs.size h₁ [(x, excObj C t0 none .none)] := fun p hp => by
    rcases List.mem_cons.mp hp with rfl | hp
    · exact ⟨hk₁ _ _ hx, Ne.symm hxL, hideAll_none _ List.mem_cons_self⟩
    · cases hp
  obtain ⟨mb, hB, hBs⟩ := B
  have hsup : ks_superIn K C C "__init__" = some (some (.builtin "ValueError.__init__")) := T.sm
  have hni : interactive (callEnv (ksFn "__init__" qual (iA ar P) (iB ar fl msg P) (iS ar) .none .none doc pm an (.ref cda) ct cc) s.heap.objs.size fI) = false := rfl
  obtain ⟨pl, hpl⟩ := hev (callEnv (ksFn "__init__" qual (iA ar P) (iB ar fl msg P) (iS ar) .none .none doc pm an (.ref cda) ct cc) s.heap.objs.size fI)
  refine ks_wpAt_execs_cons (ks_wpAt_Expr_any (ks_wpAt_MethodCall (pl := pl) (super_node (news := [(x, excObj C t0 none .none)]) (m := m) (D := C) F₀ X₀ N₀ (G.keeps hk₁) (hB.keeps hk₁) hBs ho rfl mself (InstAt.of_exc0 N₀ List.mem_cons_self) hcda hvs hfile hcc hcl T.mro T.sup (by decide) T.ku T.kc T.ks rfl T.top
    (fun so h₂ F₂ N₂ l₂ => ?_)) hpl))
  refine kxs_method kxs_ValueError F₂ X₀ N₂ List.mem_cons_self (InstAt.of_exc0 N₂ (List.mem_cons_of_mem _ List.mem_cons_self)) T.tp T.sm T.veC (by decide) (fun u h₃ F₃ N₃ l₃ => ?_)
  refine kxs_callWith1 N₃ List.mem_cons_self ?_
  refine spliced_more (wpAny_Constant_str (spliced_more (wpAny_Name (wpAny_loadName_local rfl T.ka F₃.ns mar (spliced_none ⟨kxs_at N₃ List.mem_cons_self, ?_⟩)) T.ne4)))
  have ux : u ≠ x := Nat.ne_of_gt (l₃ _ (List.mem_cons_of_mem _ List.mem_cons_self))
  have sx : so ≠ x := Nat.ne_of_gt (l₂ _ List.mem_cons_self)
  refine kxs_call F₃ X₀ N₃ F.excBase_ValueError T.xi List.mem_cons_self (.tail ux (.tail sx (.head (fun p hp => by cases hp)))) (two_size _ _) (fun t' h₄ F₄ N₄ l₄ => ?_)
  have X₄ : K.In h₄ := X₀.keeps F₄.keep
  have hx₄ : h₄.get? x = some (excO C t') := (N₄ (x, excObj C t' none .none) (by simp)).1
  refine wpAt_of_wpAny (wpAny_execs_cons (plainObj_wpAny_Assign_Attribute ?_))
  refine wpAny_Name (wpAny_loadName_local rfl T.ka F₄.ns mar (wpAny_Name (wpAny_loadName_local rfl T.ks F₄.ns mself ?_) (by decide))) T.ne4
  refine set_plain X₄ (ox := excO C t') (od := none) ⟨hx₄, rfl, rfl, trivial⟩ T.sa ?_
  refine exc_osa X₄ hx₄ hcl (show refsVE (.ref C :: bm) = true from hbm) rfl T.noN (fun h₅ tk₅ dx k₅ dn dne hx₅ hn₅ => ?_)
  show wpAny _ _ (execs _ _) _ _ _
  have z : s.heap.objs.size < h₄.objs.size := F₄.ns.lt
  refine wpAny_execs_nil (hq h₅ _ dx ⟨fun b o hb e => k₅ b o hb (F₄.keep b o (hideAll_get _ e (fun z => ?_))), ⟨t', hx₅⟩, Nat.le_of_lt (Nat.lt_of_lt_of_le z dn), dne, hn₅⟩)
  rcases List.mem_cons.mp z with z | z
  · exact hb z
  · cases z
theorem err_made (T : ErrTxt prog K mg C fI cn ar fl msg) {v : Value} (X : K.In s.heap) (hlim : s.heap.NoLimit) (G : s.heap.Ns mainGlobals mg) (B : ∃ mb, s.heap.Ns builtinsNs mb ∧ mb "super" = some (.type "super")) (hroom : A.depth + 1 < recursionLimit)
    (hq : ∀ h' tk e d, OwnMade s.heap h' e C d fl v → R (.ok (.ret (.ref e))) { s with heap := h', toks := tk }) :
    codeAny (model prog w) A (.call (.ref C) ⟨[v], []⟩) R s := by
  obtain ⟨nm, q, N, bs, bm, sn, sub, ab, col, dd, k0, k1, k2, k3, k5, hC, hbm⟩ := T.cls
  obtain ⟨hp, g, dr, tk, os⟩ := s
  have k : ∀ b o, hp.get? b = some o → ((hp.push (kdv_tup [v])).push (excO C hp.objs.size)).get? b = some o := fun b o e => Heap.get?_push_of_some _ (Heap.get?_push_of_some _ e)
  have hget : ((hp.push (kdv_tup [v])).push (excO C hp.objs.size)).get? (hp.objs.size + 1) = some (excO C hp.objs.size) := by heap_get
  have hnx : K.lookup (hp.objs.size + 1) = none := by
    cases e : K.lookup (hp.objs.size + 1) with
    | none => rfl
    | some o =>
      have z : hp.get? (hp.objs.size + 1) = some o := X _ _ e
      exact absurd (Nat.lt_of_succ_lt (Heap.lt_size z)) (Nat.lt_irrefl _)
  refine call_own F.excBase_ValueError (fun X => refsVE_contains X bm hbm) (X _ _ hC) (looks_findIn X T.iC) (fun self => bind_fn X self T.tC) (one_size v) ?_
  obtain ⟨mb, hB, hBs⟩ := B
  refine err_init (s := ⟨(hp.push (kdv_tup [v])).push (excO C hp.objs.size), g, dr, tk, os⟩) T (X.keeps k) (hlim.keeps k) (G.keeps k) ⟨mb, hB.keeps k, hBs⟩ hget hnx ?_ fun h' tk' dx ⟨k', ⟨t1, hx⟩, dn, dne, hns⟩ => ?_
  · show A.depth + 1 < recursionLimit
    exact hroom
  · have old : ∀ b o, hp.get? b = some o → h'.get? b = some o := fun b o e => k' b o (Nat.ne_of_lt (Nat.lt_succ_of_lt (Heap.lt_size e))) (k b o e)
    have z : hp.objs.size + 1 + 1 ≤ dx := by
      first
        | (simpa only [Heap.size_push] using dn)
        | exact dn
        | (have q := dn; rw [Heap.size_push, Heap.size_push] at q; exact q)
    exact ⟨rfl, hq h' tk' (hp.objs.size + 1) dx ⟨old, Nat.le_succ _, ⟨_, _, hx, rfl, rfl, rfl, rfl⟩, Nat.le_trans (Nat.le_trans (Nat.le_succ _) (Nat.le_succ _)) z, dne, hns⟩⟩
end
end TWX
end PySem
namespace TW
open PySem (Str Addr Expr Pos Value Obj Shared model PyData Scope)
open L2 (V HO Hp Rd upd upd_same upd_ne TE TT TA TS VK XK Cx PE PT PW PA PS PSs PG PI OpR R2)
theorem relO_one {fl : Str} {v : V} {v' : Value} (r : L2.RelV v v') (f : Str) : L2.RelO (List.lookup f [(fl, v)]) (if f = fl then some v' else none) := by
  by_cases hw : f = fl
  · subst hw
    rw [if_pos rfl]
    have q : List.lookup f [(f, v)] = some v := by simp [List.lookup]
    rw [q]
    exact r
  · rw [if_neg hw]
    have qw : (f == fl) = false := by simpa using hw
    have q2 : List.lookup f [(fl, v)] = none := by simp [List.lookup, qw]
    rw [q2]
    trivial
section
variable {X : Cx} {C fI : Addr} {cn ar fl msg : Str}
/-- E(e): for every new d the error's class and its own dict -/
def tMkErr (C : Addr) (fl : Str) (ta : TA) : L2.St → Hp → XK → Prop := fun σ H Q => ta σ H fun vs H1 => ∃ v, vs = [v] ∧ ∀ d, H1 d = none → Q (.ref C) (some d) (upd H1 d (.xd [(fl, v)]))
theorem pmk_err {a : Expr} {ta : TA} {p pos : Pos} {k : Nat} (T : PySem.TWX.ErrTxt X.prog X.K X.mg C fI cn ar fl msg) (hr : L2.Room k X.A) (ha : PA X [a] ta) (hg : L2.Gl X cn) (hd : (cn == ("__debug__" : Str)) = false)
    (he : PySem.starEach (a :: []) X.env = (false, PySem.eval a X.env) :: PySem.starEach [] X.env) :
    L2.PMk X (.Call (.Name cn p) [a] [] pos) (tMkErr C fl ta) := by
  intro pins s σ H Q I h
  refine PySem.wpAny_Call_Name_kw (L2.ld_glob I hg T.gC ?_ hd)
  refine PySem.W.callWith_K (h₀ := X.base) I.ok.mod.kin T.kC (L2.thn (ha.run pos pins s σ H _ I h) fun us s1 hh => ?_) he rfl
  obtain ⟨vs, H1, I1, r1, v, ev, q1⟩ := hh
  subst ev
  refine ⟨I1.kIn, ?_⟩
  cases r1 with
  | cons rv rn =>
    rename_i v' us'
    cases rn
    show PySem.wpAny _ _ (PySem.call (.ref C) [v']) _ _ _
    have hlim := I1.nolimit
    have hG := I1.mod.glob.keeps I1.bk
    have hB : ∃ mb, s1.heap.Ns PySem.builtinsNs mb ∧ mb "super" = some (.type "super") := by
      obtain ⟨mb, h1, h2⟩ := I1.mod.blt
      exact ⟨mb, h1.keeps I1.bk, (h2 "super" (by decide)).trans (by decide +kernel)⟩
    have hK := I1.kIn
    obtain ⟨hp, g, dr, tk, os⟩ := s1
    refine PySem.wpAny_call (PySem.TWX.err_made T hK hlim hG hB (by have := hr.dp; omega) fun h' tk' e d M => ?_)
    show L2.MkP X pins σ Q (.ref e) ⟨h', g, dr, tk', os⟩
    obtain ⟨oe, fv, hoe, hc, hd, hdat, h1⟩ := M.obj
    have hns := M.ns
    obtain ⟨G', g1, g2⟩ := L2.restrict h' fun b => decide (b ≠ e)
    have gk : ∀ b, b ≠ e → G'.get? b = h'.get? b := fun b hb => g1 b (decide_eq_true hb)
    have ge : G'.get? e = none := g2 e (by simp)
    have old : ∀ b o, hp.get? b = some o → G'.get? b = some o := fun b o q => (gk b (Nat.ne_of_lt (Nat.lt_of_lt_of_le (PySem.Heap.lt_size q) M.new))).trans (M.keep b o q)
    have ob : L2.ObjOk X.prog X.w (upd H1 d (.xd [(fl, v)])) G' d (.xd [(fl, v)]) :=
      ⟨_, hns.at (fun o q => (gk d M.dne).trans q), fun f => relO_one rv f⟩
    have J : L2.Inv X pins σ (upd H1 d (.xd [(fl, v)])) ⟨G', g, dr, tk', os⟩ := I1.laid (t' := tk') old M.dbig ob
    refine ⟨e, oe, fv, ⟨G', g, dr, tk', os⟩, _, .ref C, some d, rfl, J, fun b o q => ?_, ge, hoe, ⟨hc, hd⟩, hdat, h1, ?_, rfl, I1.bare, L2.raises_own T.exC T.tyC, q1 d (I1.hok.fresh M.dbig)⟩
    · by_cases hb : b = e
      · have q' : G'.get? b = some o := q
        rw [hb, ge] at q'; cases q'
      · exact (gk b hb).symm.trans q
    · rw [upd_ne (Ne.symm M.dne)]
      exact I1.hok.fresh M.new
end
end TW
end

section
/-! raise of an own error -/
namespace TW
open PySem (Str Addr Expr Stmt Pos Value Obj Shared model PyData Scope)
open L2 (V HO Hp Rd upd upd_same upd_ne TE TT TA TS TI TG TGs VK XK Cx PE PT PW PA PS PSs PG PGs PI OpR R2 CallR PTs wipe Ends)
variable {c : Ct} {X : Cx} {k : Nat} {sc : Scope}
/-- an own error, as the text leaves its class -/
structure Ek (c : Ct) (X : Cx) (n : Str) : Prop where
  ok : ∃ C fI ar msg, c.C.ecl n = some C ∧ PySem.TWX.ErrTxt X.prog X.K X.mg C fI n ar (c.g.fld n) msg
theorem ss_rse {n : Str} {e : E} {pe : Expr} {p pos pos2 : Pos} (xk : Xk c X k sc) (ch : c.hot = false) (tk : L2.Takes X c.W) (ek : Ek c X n) (hg : L2.Gl X n) (hd : (n == ("__debug__" : Str)) = false) (he : PE X pe (tE c e)) (pl : Pl X pe) :
    PS X (.Raise (some (.Call (.Name n p) [pe] [] pos)) none pos2) (tS c (.rse n e)) := by
  obtain ⟨C, fI, ar, msg, hC, T⟩ := ek.ok
  refine (L2.ps_raise (xk.calm ch) tk (pmk_err T (xk.rm ch) (L2.pa_cons he L2.pa_nil (pl [])) hg hd (pl []))).imp fun D s H ⟨r, Z, F, i0, hs, h⟩ => ?_
  show tE c e s H _
  refine ⟨r, Z, F, i0, hs, ?_⟩
  simp only [ex] at h
  cases hv : ev c.g e r with
  | bad => rw [hv] at h; exact h
  | brw d r' => rw [hv] at h; exact h.elim
  | exc n v r' => rw [hv] at h; exact WnS.exc h
  | ok d r' =>
    rw [hv] at h
    simp only [RE.s] at h
    intro x H1 ⟨Z1, F1, f1, st, rs, hr, pp⟩
    refine ⟨x, rfl, fun dd hdd => ?_⟩
    have s1 : Stp H Z F H1 (Zf Z1 f1) F1 := st.trans (Stp.shared st.iv)
    have s2 : Stp H1 (Zf Z1 f1) F1 (upd H1 dd (.xd [(c.g.fld n, x)])) (Zf (Zf Z1 f1) [dd]) F1 := Stp.newZ s1.iv hdd
    have kp0 : Kp H1 H1 Z1 (Zf Z1 f1) F1 := kp_zf
    refine h C dd s _ ⟨Zf (Zf Z1 f1) [dd], F1, x, s1.trans s2, (rs.mono kp0).mono ?_, hC, upd_same, .inr List.mem_cons_self, hr.share.mono ?_⟩ SKp.refl
    · exact ⟨s2.z, fun a o _ e => (upd_ne (fun z => by rw [z, hdd] at e; cases e)).trans e⟩
    · exact ⟨s2.z, fun a o _ e => (upd_ne (fun z => by rw [z, hdd] at e; cases e)).trans e⟩
end TW
end

section
/-! an except suite: the error's field -/
namespace TW
open PySem (Str Addr Expr Stmt Pos Value Obj Shared model PyData Scope)
open L2 (V HO Hp Rd upd upd_same upd_ne TE TT TA TS TI TG TGs VK XK Cx PE PT PW PA PS PSs PG PGs PI OpR R2 CallR PTs wipe Ends)
variable {c : Ct} {X : Cx} {k : Nat} {sc : Scope}
theorem RSt.atX {C : C0} {H : Hp} {Z : Addr → Prop} {xo : Option Xo} : ∀ {r : Sl} {s : L2.St} {F : List Addr} {n j : Nat} {d : D}, RSt C H Z xo n r s F → r[j]? = some (some d) → ∃ x f, s[j]? = some (some x) ∧ RX C H Z xo (n + j) d x f
  | [], s, F, n, j, d, h, e => by simp at e
  | some d0 :: r, s, F, n, 0, d, h, e => by
    have e0 : d0 = d := by simpa using e
    subst e0
    obtain ⟨x, s', f1, f2, rfl, h1, h2, rfl⟩ := h
    exact ⟨x, f1, rfl, h1⟩
  | none :: r, s, F, n, 0, d, h, e => by simp at e
  | some d0 :: r, s, F, n, j + 1, d, h, e => by
    obtain ⟨x, s', f1, f2, rfl, h1, h2, rfl⟩ := h
    obtain ⟨y, f, a, b⟩ := RSt.atX h2 (j := j) (by simpa using e)
    exact ⟨y, f, by simpa using a, by rw [show n + (j + 1) = n + 1 + j by omega]; exact b⟩
  | none :: r, s, F, n, j + 1, d, h, e => by
    obtain ⟨y0, s', rfl, h2⟩ := h
    obtain ⟨y, f, a, b⟩ := RSt.atX h2 (j := j) (by simpa using e)
    exact ⟨y, f, by simpa using a, by rw [show n + (j + 1) = n + 1 + j by omega]; exact b⟩
theorem RX.toX {C : C0} {H : Hp} {Z : Addr → Prop} {xo : Option Xo} {n : Nat} {d : D} {x : V} {f : List Addr} (h : RX C H Z none n d x f) : RX C H Z xo n d x f := by
  cases d with
  | exc m v =>
    obtain ⟨_, o, _, e, _⟩ := h
    cases e
  | _ => exact h
theorem RX.far {C : C0} {H : Hp} {Z : Addr → Prop} {o : Xo} {n : Nat} {d : D} {x : V} {f : List Addr} (ne : o.s ≠ n) (h : RX C H Z (some o) n d x f) : RX C H Z none n d x f := by
  cases d with
  | exc m v =>
    obtain ⟨_, o', _, e, ⟨e2, _⟩, _⟩ := h
    cases e
    exact absurd e2 ne
  | _ => exact h
theorem RSt.toX {C : C0} {H : Hp} {Z : Addr → Prop} {xo : Option Xo} : ∀ {r : Sl} {s : L2.St} {F : List Addr} {n : Nat}, RSt C H Z none n r s F → RSt C H Z xo n r s F
  | [], _, _, _, h => h
  | none :: r, _, _, _, ⟨y, s', e, h⟩ => ⟨y, s', e, RSt.toX h⟩
  | some d :: r, _, _, _, ⟨x, s', f1, f2, e, h1, h2, e2⟩ => ⟨x, s', f1, f2, e, h1.toX, RSt.toX h2, e2⟩
theorem RSt.farX {C : C0} {H : Hp} {Z : Addr → Prop} {o : Xo} : ∀ {r : Sl} {s : L2.St} {F : List Addr} {n : Nat}, o.s < n → RSt C H Z (some o) n r s F → RSt C H Z none n r s F
  | [], _, _, _, _, h => h
  | none :: r, _, _, _, l, ⟨y, s', e, h⟩ => ⟨y, s', e, RSt.farX (Nat.lt_succ_of_lt l) h⟩
  | some d :: r, _, _, _, l, ⟨x, s', f1, f2, e, h1, h2, e2⟩ => ⟨x, s', f1, f2, e, h1.far (Nat.ne_of_lt l), RSt.farX (Nat.lt_succ_of_lt l) h2, e2⟩
/-- behind the suite: the error's slot is empty -/
theorem RSt.clrX {C : C0} {H : Hp} {Z : Addr → Prop} {o : Xo} : ∀ {r : Sl} {s : L2.St} {F : List Addr} {n i : Nat}, o.s = n + i → RSt C H Z (some o) n r s F → ∃ F', F'.Sublist F ∧ RSt C H Z none n (r.set i none) (s.set i none) F'
  | [], s, F, n, i, e, h => by
    obtain ⟨rfl, rfl⟩ := h
    exact ⟨[], List.Sublist.refl _, by simp [RSt]⟩
  | none :: r, s, F, n, 0, e, h => by
    obtain ⟨y, s', rfl, h⟩ := h
    exact ⟨F, List.Sublist.refl _, none, s', rfl, RSt.farX (by omega) h⟩
  | some d :: r, s, F, n, 0, e, h => by
    obtain ⟨x, s', f1, f2, rfl, h1, h2, rfl⟩ := h
    exact ⟨f2, List.sublist_append_right _ _, none, s', rfl, RSt.farX (by omega) h2⟩
  | none :: r, s, F, n, i + 1, e, h => by
    obtain ⟨y, s', rfl, h⟩ := h
    obtain ⟨F', a, b⟩ := RSt.clrX (i := i) (by omega) h
    exact ⟨F', a, y, _, rfl, b⟩
  | some d :: r, s, F, n, i + 1, e, h => by
    obtain ⟨x, s', f1, f2, rfl, h1, h2, rfl⟩ := h
    obtain ⟨F', a, b⟩ := RSt.clrX (i := i) (by omega) h2
    exact ⟨f1 ++ F', List.Sublist.append_left a _, x, _, f1, F', rfl, h1.far (by omega), b, rfl⟩
/-- what is known in a suite of the error that it holds: a its address, oe its object -/
structure Hk (c : Ct) (X : Cx) (i : Nat) (n : Str) (a dd : Addr) (oe : Obj) : Prop where
  xo : c.xo = some ⟨i, a, dd, n, c.g.fld n⟩
  pn : (a, oe) ∈ X.pn
  z : ∃ C, L2.Zc (.ref C) (some dd) oe ∧ c.C.ecl n = some C ∧ ∃ fI ar msg, PySem.TWX.ErrTxt X.prog X.K X.mg C fI n ar (c.g.fld n) msg
  f : ∃ vs, oe.data = .fields vs
/-- e.field -/
theorem se_efld {i : Nat} {f x n : Str} {a dd : Addr} {oe : Obj} {p pos : Pos} (hk : Hk c X i n a dd oe) (hN : X.N[i]? = some x) (hv : L2.Vis X.env.scope x) (hd : (x == ("__debug__" : Str)) = false) (hcd : (x == ("__classdict__" : Str)) = false) :
    PE X (.Attribute (.Name x p) f pos) (tE c (.efld i f)) := by
  refine ⟨fun pins s σ H Q I ⟨r, Z, F, i0, hs, h⟩ => ?_⟩
  simp only [ev] at h
  cases hr : r[i]? with
  | none => rw [hr] at h; exact h.elim
  | some z =>
    rw [hr] at h
    cases z with
    | none => exact h.elim
    | some d =>
      cases d with
      | exc m v =>
        simp only at h
        by_cases hf : c.g.fld m = f
        · rw [if_pos hf] at h
          obtain ⟨y, fp, hy, _, o, w, ho, ⟨_, hm⟩, rfl, hod, hZ, hR⟩ := RSt.atX hs hr
          rw [hk.xo] at ho
          cases ho
          simp only at hm hod hZ hy
          subst hm
          subst hf
          refine L2.attr_of rfl (L2.thn ((L2.pe_var hN hv hd hcd).run pins s σ H (fun y H1 => y = .ref a ∧ H1 = H) I ⟨_, hy, rfl, rfl⟩) fun u s1 hh => ?_)
          obtain ⟨y, H1, I1, ry, rfl, rfl⟩ := hh
          obtain rfl : u = Value.ref a := ry
          obtain ⟨C, hz, hC, fI, ar, msg, T⟩ := hk.z
          obtain ⟨ha, _⟩ := I1.pin (a, oe) (List.mem_append_left _ hk.pn)
          obtain ⟨vs, hdt⟩ := hk.f
          have hx : L2.ObjOk X.prog X.w H1 s1.heap dd (.xd [(c.g.fld n, w)]) := I1.hok dd _ hod
          obtain ⟨mA, hns, hrl⟩ := hx
          obtain ⟨od, hod2, hl⟩ := L2.lookIn_ns hns
          have l : List.lookup (c.g.fld n) [(c.g.fld n, w)] = some w := by simp [List.lookup]
          obtain ⟨u, hu, ru⟩ := L2.RelO.some_of (v := w) (o := mA (c.g.fld n)) (by rw [← l]; exact hrl _)
          have J : PySem.W.InstAt s1.heap a oe C (some od) := ⟨ha, hz.1, by unfold PySem.W.notCls; rw [hdt] <;> rfl, by rw [hz.2]; exact hod2⟩
          refine PySem.HandSPX.exc_get I1.kIn J T.ga T.gg T.exC (PySem.W.findObj_own T.hdC T.noN rfl (by rw [hl, hu])) (L2.handed_of ru) ⟨w, H1, I1.tok _, ru, ?_⟩
          exact h w H1 ⟨Z, F, [], Stp.refl i0, hs, hR, fun _ => ⟨rfl, rfl, Stp.refl i0.nil⟩⟩
        · rw [if_neg hf] at h
          exact h.elim
      | _ => exact h.elim
end TW
end

section
/-! try: .. except C as e: .. -/
namespace TW
open PySem (Str Addr Expr Stmt Pos Value Obj Shared model PyData Scope)
open L2 (V HO Hp Rd upd upd_same upd_ne TE TT TA TS TI TG TGs VK XK Cx PE PT PW PA PS PSs PG PGs PI PO OpR R2 CallR PTs wipe Ends)
variable {c : Ct} {X : Cx} {k : Nat} {sc : Scope}
def Ct.wx (c : Ct) (W : L2.WX) : Ct := { c with W := W }
/-- within the suite -/
def Ct.sx (c : Ct) (i : Nat) (a dd : Addr) (n : Str) : Ct := { c with xo := some ⟨i, a, dd, n, c.g.fld n⟩, W := fun _ _ _ _ => False, hot := true }
def tSx (c : Ct) (i : Nat) (h : TW.S) (a : Addr) (cls : Value) (d : Option Addr) : TS := fun D s H => ∃ n A dd, (cls = .ref A ∧ d = some dd ∧ c.C.ecl n = some A ∧ c.g.sub n n = true) ∧ tS (c.sx i a dd n) h D s H
theorem _root_.L2.PSs.pre {X : Cx} {e : List Stmt} {p : Prop} {t : TS} (h : p → PSs X e t) : PSs X e (fun D s H => p ∧ t D s H) := ⟨fun pins s σ H D I q => (h q.1).run pins s σ H D I q.2⟩
theorem focSet {C : C0} {H : Hp} {Z : Addr → Prop} {xo : Option Xo} {r : Sl} {s : L2.St} {F : List Addr} (i : Nat) (h : RSt C H Z xo 0 r s F) (hl : i < r.length) :
    ∃ p q : List Addr, (p ++ q).Sublist F ∧ ∀ d' x', RX C H Z xo i d' x' [] → RSt C H Z xo 0 (r.set i (some d')) (s.set i (some x')) (p ++ q) := by
  obtain ⟨p, g, q, e, _, hh⟩ := RSt.focus i h hl
  subst e
  refine ⟨p, q, List.Sublist.append_right (List.sublist_append_left _ _) _, fun d' x' hx => ?_⟩
  have := (hh H Z ⟨fun _ z => z, fun _ _ _ e => e⟩).1 d' x' [] (by rw [Nat.zero_add]; exact hx)
  simpa using this
theorem ss_try {b h : TW.S} {cn x : Str} {i : Nat} {C' : Addr} {body suite : List Stmt} {b₀ : Stmt} {np pos pos' : Pos} (xk : Xk c X k sc) (hxo : c.xo = none) (hs : X.stack = X.env :: X.outer) (hf : X.env.frame = some X.env.locals) (hi : X.N[i]? = some x) (hln : X.env.kindOf x = some .local) (hc : L2.Names X cn (.ref C')) (tk : L2.Takes X c.W)
    (hb : ∀ (W : L2.WX) (pn : List (Addr × Obj)) (xe : Value → Shared → Prop), L2.Takes (X.tr pn xe) W → PySem.PassesOwn (model X.prog X.w) X.A X.env xe → PSs (X.tr pn xe) body (tS (c.wx W) b))
    (hsu : ∀ (a : Addr) (oe : Obj) (n : Str) (A dd : Addr) (pn : List (Addr × Obj)), L2.Zc (.ref A) (some dd) oe → (∃ vs, oe.data = .fields vs) → c.C.ecl n = some A → c.g.sub n n = true → PSs (X.suite a ((a, oe) :: pn)) (b₀ :: suite) (tS (c.sx i a dd n) h))
    (hsub : ∀ n A, c.g.sub n n = true → c.C.ecl n = some A → PySem.W.exmOne X.K (.ref A) (.ref C') = some (c.g.sub n cn)) :
    PS X (.Try body [.ExceptHandler (some (.Name cn np)) (some x) (b₀ :: suite) pos'] [] [] pos) (tS c (.try b (.hd cn (some i) h .hnil))) := by
  refine (L2.ps_try_as (tb := fun W => tS (c.wx W) b) (ts := tSx c i h) (Wout := c.W) hs hf xk.nd hi hln hc tk hb (fun a oe cls d pn hz hfl => ?_)).imp fun D s H ⟨r, Z, F, i0, hrs, hw⟩ => ?_
  · refine L2.PSs.ex fun n => L2.PSs.ex fun A => L2.PSs.ex fun dd => L2.PSs.pre fun ⟨e1, e2, e3, e4⟩ => ?_
    subst e1 e2
    exact hsu a oe n A dd pn hz hfl e3 e4
  · refine ⟨r, Z, F, i0, hrs, ?_⟩
    simp only [ex] at hw
    show WnS (c.wx _) H Z F s D (ex b c.g r)
    cases hv : ex b c.g r with
    | bad => rw [hv] at hw; exact hw
    | ok f r' => rw [hv] at hw; cases f <;> exact hw
    | exc n v r1 =>
      rw [hv] at hw
      simp only [exH] at hw
      intro A dd s1 H1 ⟨Z1, F1, w, st, rs, hA, hdd, hZ, hR⟩ sk
      by_cases g1 : c.g.sub n n = true
      · rw [if_pos g1] at hw
        refine ⟨c.g.sub n cn, hsub n A g1 hA, fun hy a ha => ?_, fun hn => ?_⟩
        · rw [if_pos hy] at hw
          by_cases hp : (some i).any c.g.prot.contains = true
          · rw [if_pos hp] at hw
            exact hw.elim
          · rw [if_neg hp] at hw
            have hpi : i ∉ c.g.prot := fun z => hp (by simpa using z)
            have rsx : RSt c.C H1 Z1 (some ⟨i, a, dd, n, c.g.fld n⟩) 0 r1 s1 F1 := RSt.toX (by rw [← hxo]; exact rs)
            have hset : ∃ F2, F2.Sublist F1 ∧ RSt c.C H1 Z1 (some ⟨i, a, dd, n, c.g.fld n⟩) 0 (r1.set i (some (.exc n v))) (s1.set i (some (.ref a))) F2 := by
              by_cases hl : i < r1.length
              · obtain ⟨p, q, e, hh⟩ := focSet i rsx hl
                exact ⟨_, e, hh _ _ ⟨rfl, _, w, rfl, ⟨by simp, rfl⟩, rfl, hdd, hZ, hR⟩⟩
              · rw [List.set_eq_of_length_le (Nat.le_of_not_lt hl), List.set_eq_of_length_le (by rw [rsx.len]; exact Nat.le_of_not_lt hl)]
                exact ⟨F1, List.Sublist.refl _, rsx⟩
            obtain ⟨F2, sb, rs2⟩ := hset
            have st2 : Stp H Z F H1 Z1 F2 := st.sub sb
            refine ⟨n, A, dd, ⟨rfl, rfl, hA, g1⟩, _, Z1, F2, st2.iv, rs2, ?_⟩
            have skj : ∀ {s' : L2.St}, SKp c.g.prot (s1.set i (some (.ref a))) s' → SKp c.g.prot s (s'.set i none) := fun {s'} k j hj => by
              have ne : i ≠ j := fun z => hpi (z ▸ hj)
              rw [List.getElem?_set_ne ne, k j hj, List.getElem?_set_ne ne, sk j hj]
            have out : ∀ {s' : L2.St} {H' : Hp} {Z' : Addr → Prop} {F' f : List Addr} {r' : Sl}, Stp H1 Z1 F2 H' Z' (f ++ F') → RSt c.C H' Z' (some ⟨i, a, dd, n, c.g.fld n⟩) 0 r' s' F' → ∃ F3, Stp H Z F H' Z' (f ++ F3) ∧ RSt c.C H' Z' c.xo 0 (r'.set i none) (s'.set i none) F3 := fun {s' H' Z' F' f r'} t rr => by
              obtain ⟨F3, a1, a2⟩ := RSt.clrX (i := i) (by simp) rr
              exact ⟨F3, (st2.trans t).sub (List.Sublist.append_left a1 _), by rw [hxo]; exact a2⟩
            show WnS (c.sx i a dd n) H1 Z1 F2 _ _ (ex h c.g (setO r1 (some i) (some (.exc n v))))
            cases hx : ex h c.g (setO r1 (some i) (some (.exc n v))) with
            | bad => rw [hx] at hw; exact hw
            | exc m u r' => rw [hx] at hw; exact hw.elim
            | ok f r' =>
              rw [hx] at hw
              cases f with
              | nx =>
                intro s' H' Z' F' t rr kk
                obtain ⟨F3, b1, b2⟩ := out (f := []) t rr
                exact hw _ H' Z' F3 b1 b2 (skj kk)
              | bk =>
                intro s' H' Z' F' t rr kk
                obtain ⟨F3, b1, b2⟩ := out (f := []) t rr
                exact hw _ H' Z' F3 b1 b2 (skj kk)
              | ct =>
                intro s' H' Z' F' t rr kk
                obtain ⟨F3, b1, b2⟩ := out (f := []) t rr
                exact hw _ H' Z' F3 b1 b2 (skj kk)
              | rt d =>
                intro y s' H' Z' F' f t rr hy kk
                obtain ⟨F3, b1, b2⟩ := out t rr
                exact hw y _ H' Z' F3 f b1 b2 hy (skj kk)
        · rw [if_neg (by rw [hn]; exact Bool.false_ne_true)] at hw
          exact hw A dd s1 H1 ⟨Z1, F1, w, st, rs, hA, hdd, hZ, hR⟩ sk
      · rw [if_neg g1] at hw
        exact hw.elim
end TW
end

section
/-! the text agrees with what is reckoned: expressions -/
namespace TW
open PySem (Str Addr Expr Stmt Pos Value Obj Shared model PyData Scope Env)
open L2 (V HO Hp Rd upd upd_same upd_ne TE TT TA TS TI TG TGs VK XK Cx PE PT PW PA PS PSs PG PGs PI PO OpR R2 CallR PTs wipe Ends)
/-- what is told of a def's surroundings -/
structure Ag where
  N : List Str
  bts : List Str
  fns : List (Str × List Str)
  cons : List Str
  flds : List Str
  kws : List (Str × List Str) := []
  errs : List Str := []
  fc : Bool := true
variable {c : Ct} {X : Cx} {k : Nat} {sc : Scope} {a : Ag}
structure Gk (a : Ag) (c : Ct) (X : Cx) (k : Nat) (sc : Scope) : Prop extends Xk c X k sc where
  cold : c.hot = false
  N : X.N = a.N
  bt : ∀ x, a.bts.contains x = true → X.mg x = none
  fn : ∀ f, (a.fns.any fun q => q.1 == f) = true → ∃ ps, Dk c X k f ps
  con : ∀ x, a.cons.contains x = true → ∀ d, c.g.con x = some d → ∃ i u, d = .int i ∧ X.mg x = some u ∧ L2.RelV (.int i) u
  fk : ∀ f, a.flds.contains f = true → Fk c X.K f
  ck : ClsOk c X.K
  kw : ∀ f ks, a.kws.contains (f, ks) = true → Kk c X k f ks
  fnc : a.fc = true → ∀ x, X.env.scope.names.lookup x = some .cell → X.fn x = true
def Ag.in (a : Ag) : Ag := { a with fc := false }
theorem Dk.pr {f : Str} {ps : List Str} {p : List Nat} (h : Dk c X k f ps) : Dk (c.pr p) X k f ps := ⟨h.ok⟩
theorem Gk.pr {p : List Nat} (g : Gk a c X k sc) : Gk a (c.pr p) X k sc :=
  { g with fn := fun f h => let ⟨ps, d⟩ := g.fn f h; ⟨ps, d.pr⟩, fk := fun f h => ⟨(g.fk f h).at_⟩, kw := fun f ks h => ⟨(g.kw f ks h).ok⟩, K := g.K, pass := g.pass }
theorem Gk.blk {scope : Scope} {cl : List (Str × Addr)} {C : Addr} {s : Shared} {H : Hp} {fp : List Addr} (g : Gk a c X k sc) : Gk a.in c.quiet (X.blk s H scope (PySem.compEnvC scope cl C X.env) fp) k (PySem.relabel scope X.env) :=
  { fnc := fun h => (by cases h), toXk := g.toXk.blk, cold := g.cold, N := g.N, bt := g.bt, fn := fun f h => let ⟨ps, d⟩ := g.fn f h; ⟨ps, ⟨d.ok⟩⟩, con := g.con, fk := fun f h => ⟨(g.fk f h).at_⟩, kw := fun f ks h => ⟨(g.kw f ks h).ok⟩, ck := g.ck }
/-! ### what must be seen of the text -/
def visB (sc : Scope) (x : Str) : Bool := match sc.names.lookup x with
  | some .local => true
  | some .cell => true
  | some .free => true
  | _ => false
def glB (sc : Scope) (x : Str) : Bool := match sc.names.lookup x with
  | some .globalImplicit => true
  | _ => false
def locB (sc : Scope) (x : Str) : Bool := match sc.names.lookup x with
  | some .local => true
  | _ => false
theorem vis_of {x : Str} (xk : Xk c X k sc) (h : visB sc x = true) : L2.Vis X.env.scope x := by
  rw [xk.sc]
  unfold visB at h
  unfold L2.Vis
  split at h <;> first | (rename_i e; simp [e]) | cases h
theorem gl_of {x : Str} (xk : Xk c X k sc) (h : glB sc x = true) : L2.Gl X x := by
  show X.env.scope.names.lookup x = _
  rw [xk.sc]
  unfold glB at h
  split at h
  · assumption
  · cases h
theorem loc_of {x : Str} (xk : Xk c X k sc) (h : locB sc x = true) : X.env.scope.names.lookup x = some .local := by
  rw [xk.sc]
  unfold locB at h
  split at h
  · assumption
  · cases h
def cellB (sc : Scope) (x : Str) : Bool := match sc.names.lookup x with
  | some .cell => true
  | _ => false
/-- a test of which the plain rule holds -/
def isD : Expr → Bool
  | .IfExp _ _ _ _ => false
  | .UnaryOp .Not _ _ => false
  | .BoolOp _ _ _ => false
  | .Compare _ _ _ _ => false
  | _ => true
def nsB : Expr → Bool
  | .Starred _ _ => false
  | _ => true
theorem pl_of {pe : Expr} (h : nsB pe = true) : Pl X pe := by
  intro es
  cases pe <;> first | rfl | cases h
def allNs : List Expr → Bool
  | [] => true
  | e :: es => nsB e && allNs es
theorem stars_of : ∀ {es : List Expr} {env : Env} {pos : Pos}, allNs es = true → (PySem.backTo pos (PySem.starEach es env)).any (·.1) = false
  | [], _, _, _ => rfl
  | e :: es, env, pos, h => by
    simp only [allNs, Bool.and_eq_true] at h
    have h1 : PySem.starEach (e :: es) env = (false, PySem.eval e env) :: PySem.starEach es env := by
      have := h.1
      cases e <;> first | rfl | cases this
    rw [h1]
    have h2 := stars_of (es := es) (env := env) (pos := pos) h.2
    unfold PySem.backTo at h2 ⊢
    simpa using h2
def nslB : Expr → Bool
  | .Slice _ _ _ _ => false
  | _ => true
theorem plainIx_of {pe : Expr} (h : nslB pe = true) : L2.PlainIx pe := by
  intro o i
  cases pe <;> first | rfl | cases h
def nbB : Expr → Bool
  | .Set _ _ _ => false
  | _ => true
theorem behind_of {op : PySem.CmpOp} {pe : Expr} (h : nbB pe = true) : PySem.behindInMarks op pe = false := by
  cases pe <;> first | rfl | cases h
theorem folded_of {pe : Expr} {env : Env} (h : nbB pe = true) : ∀ x, PySem.foldedSetIterable pe env x = pure x := by
  intro x
  cases pe <;> first | rfl | cases h
/-- not a call of a name without arguments -/
def abB : Expr → Bool
  | .Call _ _ _ _ => false
  | _ => true
theorem abase_of {pe : Expr} {f : Str} {env : Env} (h : abB pe = true) : PySem.attributeBase pe f env (PySem.eval pe env) = PySem.eval pe env := by
  cases pe <;> first | rfl | cases h
def btB (a : Ag) (sc : Scope) (x : Str) : Bool := glB sc x && a.bts.contains x
theorem bt_of {x : Str} (g : Gk a c X k sc) (h : btB a sc x = true) : Bt X x := by
  unfold btB at h
  rw [Bool.and_eq_true] at h
  exact ⟨gl_of g.toXk h.1, g.bt x h.2⟩
/-- a name that is had in slot i -/
def agV (a : Ag) (sc : Scope) (i : Nat) : Expr → Bool
  | .Name x _ => decide (a.N[i]? = some x) && visB sc x && !(x == ("__debug__" : Str)) && !(x == ("__classdict__" : Str))
  | _ => false
def opB (op : Bop) (o : PySem.Operator) : Bool := decide (o = opOf op)
def cmB (op : Cop) (o : PySem.CmpOp) : Bool := decide (o = cmpOf op)
def ownP (a : Ag) : List Nat → Option (List (Str × Nat))
  | [] => some []
  | i :: is => match a.N[i]?, ownP a is with
    | some x, some r => some ((x, i) :: r)
    | _, _ => none
theorem ownP_ix : ∀ {is : List Nat} {l : List (Str × Nat)}, ownP a is = some l → l.map (·.2) = is
  | [], l, h => by
    have : l = [] := by simpa [ownP] using h.symm
    rw [this]; rfl
  | i :: is, l, h => by
    simp only [ownP] at h
    split at h
    · rename_i x r h1 h2
      cases h
      rw [List.map_cons, ownP_ix h2]
    · cases h
def subB (ts own : List Nat) : Bool := ts.all fun i => own.contains i
theorem sub_of {ts own : List Nat} (h : subB ts own = true) : ∀ i ∈ ts, i ∈ own := fun i hi => List.contains_iff_mem.mp (List.all_eq_true.mp h i hi)
def relS (scope sc : Scope) : Scope := { scope with names := scope.names.map fun (n, k) => if (k == .free && sc.kind == .function && sc.names.lookup n == some .cell) then (n, .cell) else (n, k) }
theorem relS_eq {scope : Scope} {env : Env} : PySem.relabel scope env = relS scope env.scope := rfl
def lineB (ap cp : Pos) : Bool := ap.endLine == cp.line
def nonB : E → Bool
  | .non => true
  | _ => false
def B1.okB : B1 → Bool
  | .len | .abs | .sum | .max | .min | .any | .all | .int | .list | .tuple | .sorted | .repr => true
  | _ => false
def agKs : List L2.Key → List (Option Expr) → Bool
  | [], [] => true
  | k :: ks, some (.Constant (.int j) _ _) :: es => decide (k = .inl j) && agKs ks es
  | k :: ks, some (.Constant (.str j) _ _) :: es => decide (k = .inr j) && agKs ks es
  | _, _ => false
def esN : Es → Bool
  | .nil => true
  | _ => false
/-! ### agreement -/
mutual
def agE (a : Ag) (sc : Scope) : E → Expr → Bool
  | .non, pe => match pe with
    | .Constant .none _ _ => true
    | _ => false
  | .bl b, pe => match pe with
    | .Constant (.bool b') _ _ => b == b'
    | _ => false
  | .int i, pe => match pe with
    | .Constant (.int j) _ _ => decide (i = j)
    | _ => false
  | .str s, pe => match pe with
    | .Constant (.str t) _ _ => decide (s = t)
    | _ => false
  | .glb x, pe => match pe with
    | .Name y _ => decide (y = x) && a.cons.contains x && glB sc x && !(x == ("__debug__" : Str))
    | _ => false
  | .rd p, pe => agP a sc p pe
  | .sh p, pe => agP a sc p pe
  | .mv i, pe => agV a sc i pe
  | .bin op x y, pe => match pe with
    | .BinOp px o py _ => opB op o && agE a sc x px && agE a sc y py
    | _ => false
  | .un .neg x, pe => match pe with
    | .UnaryOp .USub px _ => agE a sc x px
    | _ => false
  | .not x, pe => match pe with
    | .UnaryOp .Not px _ => agE a sc x px
    | _ => false
  | .and x y, pe => match pe with
    | .BoolOp .And [px, py] _ => agE a sc x px && agE a sc y py
    | .BoolOp .And (px :: py :: pz :: rest) pos => agE a sc x px && agE a sc y (.BoolOp .And (py :: pz :: rest) pos)
    | _ => false
  | .or x y, pe => match pe with
    | .BoolOp .Or [px, py] _ => agE a sc x px && agE a sc y py
    | .BoolOp .Or (px :: py :: pz :: rest) pos => agE a sc x px && agE a sc y (.BoolOp .Or (py :: pz :: rest) pos)
    | _ => false
  | .cmp op x y, pe => match pe with
    | .Compare px [o] [py] _ => cmB op o && nbB py && agE a sc x px && agE a sc y py
    | _ => false
  | .chain o1 o2 x y z, pe => match pe with
    | .Compare px [p1, p2] [py, pz] _ => cmB o1 p1 && cmB o2 p2 && nbB pz && agE a sc x px && agE a sc y py && agE a sc z pz
    | _ => false
  | .ite q x y, pe => match pe with
    | .IfExp pq px py _ => agT a sc q pq && agE a sc x px && agE a sc y py
    | _ => false
  | .tup es, pe => match pe with
    | .Tuple pes _ _ => decide (pes.length ≤ 1000) && decide (es.n = pes.length) && agEs a sc es pes
    | _ => false
  | .lst es, pe => match pe with
    | .List pes _ => decide (pes.length ≤ 1000) && decide (es.n = pes.length) && agEs a sc es pes
    | _ => false
  | .idx x i, pe => match pe with
    | .Subscript px pi _ => nslB pi && agE a sc x px && agE a sc i pi
    | _ => false
  | .slc x lo hi, pe => match pe with
    | .Subscript px (.Slice plo phi none _) _ => pur lo && pur hi && agE a sc x px && (match plo with
        | none => nonB lo
        | some pl => !(nonB lo) && agE a sc lo pl) && (match phi with
        | none => nonB hi
        | some ph => !(nonB hi) && agE a sc hi ph)
    | _ => false
  | .rev x, pe => match pe with
    | .Subscript px (.Slice none none (some (.UnaryOp .USub (.Constant (.int 1) _ _) _)) _) _ => agE a sc x px
    | _ => false
  | .call f as, pe => match pe with
    | .Call (.Name g _) (pa :: ps) [] _ => decide (g = f) && glB sc f && (a.fns.any fun q => q.1 == f) && !(f == ("__debug__" : Str)) && allNs (pa :: ps) && agAs a sc as (pa :: ps)
    | _ => false
  | .b1 b x, pe => match pe with
    | .Call (.Name g _) [px] [] _ => decide (g = b.nm) && btB a sc g && nsB px && agE a sc x px && b.okB
    | _ => false
  | .min2 x y, pe => match pe with
    | .Call (.Name g _) [px, py] [] _ => decide (g = "min") && btB a sc g && nsB px && nsB py && agE a sc x px && agE a sc y py
    | _ => false
  | .max2 x y, pe => match pe with
    | .Call (.Name g _) [px, py] [] _ => decide (g = "max") && btB a sc g && nsB px && nsB py && agE a sc x px && agE a sc y py
    | _ => false
  | .isi x t, pe => match pe with
    | .Call (.Name g _) [px, .Name t' _] [] _ => decide (g = "isinstance") && decide (t' = t) && btB a sc g && btB a sc t && nsB px && (isiT t).isSome && agE a sc x px
    | _ => false
  | .rg1 t x, pe => match pe with
    | .Call (.Name g _) [.Call (.Name h _) [px] [] _] [] _ => decide (h = "range") && (if t then decide (g = "tuple") else decide (g = "list")) && btB a sc g && btB a sc h && nsB px && agE a sc x px
    | _ => false
  | .rg2 t x y, pe => match pe with
    | .Call (.Name g _) [.Call (.Name h _) [px, py] [] _] [] _ => decide (h = "range") && (if t then decide (g = "tuple") else decide (g = "list")) && btB a sc g && btB a sc h && nsB px && nsB py && agE a sc x px && agE a sc y py
    | _ => false
  | .bm .append p (.cons x .nil), pe => match pe with
    | .Call (.Attribute po m ap) [px] [] cp => decide (m = "append") && abB po && lineB ap cp && nsB px && agP a sc p po && agE a sc x px
    | _ => false
  | .lc elt tg it cond own, pe => match pe with
    | .ListComp pelt [⟨ptg, pit, ifs, 0⟩] scope _ => nbB pit && agI a sc it pit ptg && (match ownP a own with
      | some l => L2.blkC a.N sc scope l
      | none => false) && subB tg.slots own && agG a.in (relS scope sc) tg ptg && (match ifs with
      | [] => (match cond with
        | .bl true => true
        | _ => false)
      | [pc] => agT a.in (relS scope sc) cond pc
      | _ => false) && agE a.in (relS scope sc) elt pelt
    | _ => false
  | .dic ks vs, pe => match pe with
    | .Dict keys values _ => match ks with
      | [] => keys.isEmpty && values.isEmpty && esN vs
      | _ => agKs ks keys && decide (ks.length ≤ 15) && decide (ks.length = values.length) && decide (ks.length = vs.n) && decide ks.Nodup && agEs a sc vs values
    | _ => false
  | .callk f as ks, pe => match pe with
    | .Call (.Name g _) [] kws _ => decide (g = f) && glB sc f && a.kws.contains (f, ks) && !(f == ("__debug__" : Str)) && decide (kws.map (·.arg) = ks.map some) && agK a sc as kws
    | _ => false
  | .index x y, pe => match pe with
    | .Call (.Attribute po m ap) [px] [] cp => decide (m = "index") && abB po && lineB ap cp && nsB px && agE a sc x po && agE a sc y px
    | _ => false
  | .shv x, pe => agE a sc x pe
  | .sda p x y, pe => match pe with
    | .Call (.Attribute (.Call (.Attribute po m1 ap1) [pk, .List [] _] [] cp1) m2 ap2) [px] [] cp2 => decide (m1 = "setdefault") && decide (m2 = "append") && abB po && lineB ap1 cp1 && lineB ap2 cp2 && nsB pk && nsB px && agP a sc p po && agE a sc x pk && agE a sc y px
    | _ => false
  | .srs x, pe => match pe with
    | .Call (.Name g _) [.Call (.Name h _) [px] [] _] [] _ => decide (g = "sorted") && decide (h = "set") && btB a sc g && btB a sc h && nsB px && agE a sc x px
    | _ => false
  | _, _ => false
def agT (a : Ag) (sc : Scope) : E → Expr → Bool
  | .not x, pe => match pe with
    | .UnaryOp .Not px _ => agT a sc x px
    | _ => false
  | .and x y, pe => match pe with
    | .BoolOp .And [px, py] _ => agT a sc x px && agT a sc y py
    | .BoolOp .And (px :: py :: pz :: rest) pos => agT a sc x px && agT a sc y (.BoolOp .And (py :: pz :: rest) pos)
    | _ => false
  | .or x y, pe => match pe with
    | .BoolOp .Or [px, py] _ => agT a sc x px && agT a sc y py
    | .BoolOp .Or (px :: py :: pz :: rest) pos => agT a sc x px && agT a sc y (.BoolOp .Or (py :: pz :: rest) pos)
    | _ => false
  | .cmp op x y, pe => match pe with
    | .Compare px [o] [py] _ => cmB op o && nbB py && agE a sc x px && agE a sc y py
    | _ => false
  | .chain o1 o2 x y z, pe => match pe with
    | .Compare px [p1, p2] [py, pz] _ => cmB o1 p1 && cmB o2 p2 && nbB pz && agE a sc x px && agE a sc y py && agE a sc z pz
    | _ => false
  | .ite q x y, pe => match pe with
    | .IfExp pq px py _ => agT a sc q pq && agT a sc x px && agT a sc y py
    | _ => false
  | .rd p, pe => isD pe && agP a sc p pe
  | .isi x t, pe => match pe with
    | .Call (.Name g _) [px, .Name t' _] [] _ => decide (g = "isinstance") && decide (t' = t) && btB a sc g && btB a sc t && nsB px && (isiT t).isSome && agE a sc x px
    | _ => false
  | .call f as, pe => match pe with
    | .Call (.Name g _) (pa :: ps) [] _ => decide (g = f) && glB sc f && (a.fns.any fun q => q.1 == f) && !(f == ("__debug__" : Str)) && allNs (pa :: ps) && agAs a sc as (pa :: ps)
    | _ => false
  | .b1 b x, pe => match pe with
    | .Call (.Name g _) [px] [] _ => decide (g = b.nm) && btB a sc g && nsB px && agE a sc x px && b.okB
    | _ => false
  | _, _ => false
def agP (a : Ag) (sc : Scope) : P → Expr → Bool
  | .var i, pe => agV a sc i pe
  | .fld p f, pe => match pe with
    | .Attribute po g _ => decide (g = f) && a.flds.contains f && abB po && agP a sc p po
    | _ => false
  | .sub p e, pe => match pe with
    | .Subscript po pi _ => nslB pi && agP a sc p po && agE a sc e pi
    | _ => false
def agEs (a : Ag) (sc : Scope) : Es → List Expr → Bool
  | .nil, pes => match pes with
    | [] => true
    | _ => false
  | .cons e es, pes => match pes with
    | pe :: pes => nsB pe && agE a sc e pe && agEs a sc es pes
    | _ => false
def agAs (a : Ag) (sc : Scope) : As → List Expr → Bool
  | .nil, pes => match pes with
    | [] => true
    | _ => false
  | .v e as, pes => match pes with
    | pe :: pes => nsB pe && agE a sc e pe && agAs a sc as pes
    | _ => false
  | .l p as, pes => match pes with
    | pe :: pes => nsB pe && agP a sc p pe && agAs a sc as pes
    | _ => false
def agK (a : Ag) (sc : Scope) : As → List PySem.Keyword → Bool
  | .nil, pes => match pes with
    | [] => true
    | _ => false
  | .v e as, pes => match pes with
    | pe :: pes => agE a sc e pe.value && agK a sc as pes
    | _ => false
  | .l p as, pes => match pes with
    | pe :: pes => agP a sc p pe.value && agK a sc as pes
    | _ => false
def agF (a : Ag) (sc : Scope) : Lf → Expr → Bool
  | .pl p, pe => agP a sc p pe
  | .ex e, pe => agE a sc e pe
def agI (a : Ag) (sc : Scope) : TW.It → Expr → Expr → Bool
  | .one l, pe, _ => agF a sc l pe
  | .rng1 x, pe, _ => match pe with
    | .Call (.Name g _) [px] [] _ => decide (g = "range") && btB a sc g && nsB px && agE a sc x px
    | _ => false
  | .rng2 x y, pe, _ => match pe with
    | .Call (.Name g _) [px, py] [] _ => decide (g = "range") && btB a sc g && nsB px && nsB py && agE a sc x px && agE a sc y py
    | _ => false
  | .enu l, pe, tg => match pe, tg with
    | .Call (.Name g _) [px] [] _, .Tuple _ _ _ => decide (g = "enumerate") && btB a sc g && nsB px && agF a sc l px
    | _, _ => false
  | .zip l m, pe, tg => match pe, tg with
    | .Call (.Name g _) [px, py] [] _, .Tuple _ _ _ => decide (g = "zip") && btB a sc g && nsB px && nsB py && agF a sc l px && agF a sc m py
    | _, _ => false
  | .val l, pe, _ => match l, pe with
    | .pl (.var i), .Call (.Attribute po m ap) [] [] cp => decide (m = "values") && abB po && lineB ap cp && agV a sc i po
    | _, _ => false
  | _, _, _ => false
def agG (a : Ag) (sc : Scope) : Tg → Expr → Bool
  | .v i, pe => match pe with
    | .Name x _ => decide (a.N[i]? = some x) && (locB sc x || (a.fc && cellB sc x))
    | _ => false
  | .t ts, pe => match pe with
    | .Tuple pes _ _ => decide (ts.n = pes.length) && allNs pes && agGs a sc ts pes
    | _ => false
  | .s p e, pe => match pe with
    | .Subscript po pi _ => nslB pi && agP a sc p po && agE a sc e pi
    | _ => false
  | .f _ _, _ => false
def agGs (a : Ag) (sc : Scope) : Tgs → List Expr → Bool
  | .nil, pes => match pes with
    | [] => true
    | _ => false
  | .cons t ts, pes => match pes with
    | pe :: pes => agG a sc t pe && agGs a sc ts pes
    | _ => false
end
end TW
end

section
set_option maxHeartbeats 1600000
/-! the text that agrees does what is reckoned -/
namespace TW
open PySem (Str Addr Expr Stmt Pos Value Obj Shared model PyData Scope Env)
open L2 (V HO Hp Rd upd upd_same upd_ne TE TT TA TS TI TG TGs VK XK Cx PE PT PW PA PS PSs PG PGs PI PO OpR R2 CallR PTs wipe Ends)
variable {c : Ct} {X : Cx} {k : Nat} {sc : Scope} {a : Ag}
theorem isD_ok {pe : Expr} {env : Env} (h : isD pe = true) : ∀ whole, PySem.isTrue pe env whole = (do let v ← whole; PySem.standAt pe.pos; PySem.holding [v] (PySem.truthy v)) := by
  intro w
  cases pe with
  | UnaryOp op x pos => cases op <;> first | rfl | cases h
  | IfExp _ _ _ _ => cases h
  | BoolOp _ _ _ => cases h
  | Compare _ _ _ _ => cases h
  | _ => rfl
theorem pw_of {op : PySem.BoolOp} {vs : List Expr} {pos : Pos} {t : TT} (h : PT X (.BoolOp op vs pos) t) : PW X (.BoolOp op vs pos) t := ⟨fun _ pins s σ H Q I q => h.run pins s σ H Q I q⟩
theorem sp_v {i : Nat} {pe : Expr} (g : Gk a c X k sc) (h : agV a sc i pe = true) : PE X pe (tP c (.var i)) := by
  cases pe <;> simp only [agV, Bool.false_eq_true] at h
  simp only [Bool.and_eq_true, decide_eq_true_eq, Bool.not_eq_true'] at h
  obtain ⟨⟨⟨h1, h2⟩, h3⟩, h4⟩ := h
  exact sp_var (by rw [g.N]; exact h1) (vis_of g.toXk h2) h3 h4
theorem se_mvB {i : Nat} {pe : Expr} (g : Gk a c X k sc) (h : agV a sc i pe = true) : PE X pe (tE c (.mv i)) := by
  cases pe <;> simp only [agV, Bool.false_eq_true] at h
  simp only [Bool.and_eq_true, decide_eq_true_eq, Bool.not_eq_true'] at h
  obtain ⟨⟨⟨h1, h2⟩, h3⟩, h4⟩ := h
  exact se_mv (by rw [g.N]; exact h1) (vis_of g.toXk h2) h3 h4
theorem b1_ok {b : B1} {x : E} {px : Expr} {f : Str} {p pos : Pos} (g : Gk a c X k sc) (hf : f = b.nm) (bt : Bt X f) (pl : Pl X px) (hx : PE X px (tE c x)) (hb : b.okB = true) : PE X (.Call (.Name f p) [px] [] pos) (tE c (.b1 b x)) := by
  subst hf
  cases b <;> simp only [B1.okB, Bool.false_eq_true] at hb
  · exact sb_len g.toXk hx pl bt
  · exact sb_abs g.toXk hx pl bt
  · exact sb_sum g.toXk hx pl g.cold bt
  · exact sb_min g.toXk hx pl g.cold bt
  · exact sb_max g.toXk hx pl g.cold bt
  · exact sb_sorted g.toXk hx pl bt
  · exact sb_list g.toXk hx pl bt
  · exact sb_tuple g.toXk hx pl bt
  · exact sb_int g.toXk hx pl bt
  · exact sb_any g.toXk hx pl g.cold bt
  · exact sb_all g.toXk hx pl g.cold bt
  · exact sb_repr g.toXk hx pl bt
theorem nonB_eq {e : E} (h : nonB e = true) : e = .non := by
  cases e <;> first | rfl | cases h
theorem nonB_ne {e : E} (h : (!nonB e) = true) : e ≠ .non := fun z => by
  subst z
  cases h
theorem cell_of {x : Str} (xk : Xk c X k sc) (h : cellB sc x = true) : X.env.scope.names.lookup x = some .cell := by
  rw [xk.sc]
  unfold cellB at h
  split at h
  · assumption
  · cases h
theorem asg1_of {e : Expr} {es : List Expr} {env : Env} (h : nsB e = true) : (PySem.assignEach (e :: es) env).map (·.2) = PySem.assign e env :: (PySem.assignEach es env).map (·.2) := by
  cases e <;> first | rfl | cases h
theorem assigns_of : ∀ {es : List Expr} {env : Env}, allNs es = true → (PySem.assignEach es env).length = es.length ∧ (PySem.assignEach es env).findIdx? (·.1) = none
  | [], _, _ => ⟨rfl, rfl⟩
  | e :: es, env, h => by
    simp only [allNs, Bool.and_eq_true] at h
    have h1 : PySem.assignEach (e :: es) env = (false, PySem.assign e env) :: PySem.assignEach es env := by
      have := h.1
      cases e <;> first | rfl | cases this
    obtain ⟨b1, b2⟩ := assigns_of (env := env) h.2
    rw [h1]
    exact ⟨by rw [List.length_cons, List.length_cons, b1], by rw [List.findIdx?_cons]; simp [b2]⟩
theorem asub_of {po pi : Expr} {pos : Pos} {env : Env} (h : nslB pi = true) : ∀ v, PySem.assign (.Subscript po pi pos) env v = (do
      let ov ← PySem.holding [v] (PySem.eval po env)
      let iv ← PySem.holding [v, ov] (PySem.eval pi env)
      PySem.standAt pos
      PySem.holding [v, ov, iv] (PySem.setItem ov iv v)
      PySem.release [v, ov, iv] []) := by
  intro v
  cases pi <;> first | rfl | cases h
theorem se_glbX {x : Str} {pos : Pos} (hg : L2.Gl X x) (hd : (x == ("__debug__" : Str)) = false) (hv : ∀ d, c.g.con x = some d → ∃ i u, d = .int i ∧ X.mg x = some u ∧ L2.RelV (.int i) u) : PE X (.Name x pos) (tE c (.glb x)) := by
  cases hc : c.g.con x with
  | some d => exact se_glb hg hd hc (hv d hc)
  | none => exact ⟨fun pins s σ H Q I ⟨r, Z, F, i0, hs, h⟩ => by
      simp only [ev, hc, RE.lift] at h
      exact h.elim⟩
theorem agKs_ok {X : Cx} : ∀ {ks : List L2.Key} {keys : List (Option Expr)}, agKs ks keys = true → keys.length = ks.length ∧ keys.all (·.isSome) = true
  | [], [], _ => ⟨rfl, rfl⟩
  | [], _ :: _, h => by simp [agKs] at h
  | k :: ks, [], h => by simp [agKs] at h
  | k :: ks, e :: keys, h => by
    unfold agKs at h
    split at h
    · cases ‹_ = []›
    · rename_i e1 e2; cases e1; cases e2
      rw [Bool.and_eq_true] at h
      obtain ⟨b1, b2⟩ := agKs_ok (X := X) h.2
      exact ⟨by simp [b1], by simp only [List.all_cons, b2]; rfl⟩
    · rename_i e1 e2; cases e1; cases e2
      rw [Bool.and_eq_true] at h
      obtain ⟨b1, b2⟩ := agKs_ok (X := X) h.2
      exact ⟨by simp [b1], by simp only [List.all_cons, b2]; rfl⟩
    · cases h
theorem pps_ag {pos : Pos} {k : L2.Key} {ks : List L2.Key} {e : Option Expr} {keys : List (Option Expr)} {v : Expr} {vs : List Expr} {x : E} {es : Es} (h : agKs (k :: ks) (e :: keys) = true) (hv : PE X v (tE c x)) (hr : agKs ks keys = true → L2.PPs X pos keys vs (trs c ks es)) : L2.PPs X pos (e :: keys) (v :: vs) (trs c (k :: ks) (.cons x es)) := by
  unfold agKs at h
  split at h
  · cases ‹_ = []›
  · rename_i e1 e2; cases e1; cases e2
    rw [Bool.and_eq_true] at h
    rw [of_decide_eq_true h.1]
    exact L2.pps_cons L2.pe_int hv (hr h.2)
  · rename_i e1 e2; cases e1; cases e2
    rw [Bool.and_eq_true] at h
    rw [of_decide_eq_true h.1]
    exact L2.pps_cons L2.pe_str hv (hr h.2)
  · cases h
theorem kwEach : ∀ {kws : List PySem.Keyword} {env : Env}, PySem.keywordEach kws env = kws.map fun q => (q.arg, PySem.eval q.value env)
  | [], _ => rfl
  | ⟨_, _, _⟩ :: kws, env => by
    show _ :: PySem.keywordEach kws env = _
    rw [kwEach]; rfl
theorem kw_arg {kws : List PySem.Keyword} {env : Env} {pos : Pos} : (PySem.backToKw pos (PySem.keywordEach kws env)).map (·.1) = kws.map (·.arg) := by
  rw [kwEach]
  unfold PySem.backToKw
  simp
theorem kw_all {l : List (Option Str × PySem.Sem Value)} {ks : List Str} (h : l.map (·.1) = ks.map some) : l.all (·.1.isSome) = true ∧ l.filterMap (·.1) = ks ∧ l.any (·.1.isNone) = false := by
  induction l generalizing ks with
  | nil =>
    cases ks with
    | nil => exact ⟨rfl, rfl, rfl⟩
    | cons _ _ => cases h
  | cons x l ih =>
    cases ks with
    | nil => cases h
    | cons k ks =>
      simp only [List.map_cons, List.cons.injEq] at h
      obtain ⟨a, b, c⟩ := ih h.2
      refine ⟨?_, ?_, ?_⟩
      · rw [List.all_cons, a, h.1]; rfl
      · rw [List.filterMap_cons, h.1]; simp [b]
      · rw [List.any_cons, c, h.1]; rfl
mutual
theorem agE_ok : ∀ (e : E) {pe : Expr} {sc : Scope} {c : Ct} {X : Cx} {k : Nat} {a : Ag}, Gk a c X k sc → agE a sc e pe = true → PE X pe (tE c e)
  | .non, pe, sc, c, X, k, a, g, h => by
    simp only [agE] at h
    split at h
    · exact se_non
    · cases h
  | .bl b, pe, sc, c, X, k, a, g, h => by
    simp only [agE] at h
    split at h
    · have := beq_iff_eq.mp h
      subst this
      exact se_bl
    · cases h
  | .int i, pe, sc, c, X, k, a, g, h => by
    simp only [agE] at h
    split at h
    · have := of_decide_eq_true h
      subst this
      exact se_int
    · cases h
  | .str s, pe, sc, c, X, k, a, g, h => by
    simp only [agE] at h
    split at h
    · have := of_decide_eq_true h
      subst this
      exact se_str
    · cases h
  | .glb x, pe, sc, c, X, k, a, g, h => by
    simp only [agE] at h
    split at h
    · simp only [Bool.and_eq_true, decide_eq_true_eq, Bool.not_eq_true'] at h
      obtain ⟨⟨⟨rfl, h2⟩, h3⟩, h4⟩ := h
      exact se_glbX (gl_of g.toXk h3) h4 (g.con _ h2)
    · cases h
  | .rd p, pe, sc, c, X, k, a, g, h => by
    simp only [agE] at h
    exact se_rd (agP_ok p g h)
  | .sh p, pe, sc, c, X, k, a, g, h => by
    simp only [agE] at h
    exact se_sh (agP_ok p g h)
  | .mv i, pe, sc, c, X, k, a, g, h => by
    simp only [agE] at h
    exact se_mvB g h
  | .bin op x y, pe, sc, c, X, k, a, g, h => by
    simp only [agE] at h
    split at h
    · simp only [Bool.and_eq_true] at h
      obtain ⟨⟨h1, h2⟩, h3⟩ := h
      have := of_decide_eq_true h1
      subst this
      exact se_bin g.toXk (agE_ok x g h2) (agE_ok y g h3)
    · cases h
  | .un .neg x, pe, sc, c, X, k, a, g, h => by
    simp only [agE] at h
    split at h
    · exact se_neg (agE_ok x g h)
    · cases h
  | .not x, pe, sc, c, X, k, a, g, h => by
    simp only [agE] at h
    split at h
    · exact se_not (agE_ok x g h) g.K
    · cases h
  | .and x y, pe, sc, c, X, k, a, g, h => by
    simp only [agE] at h
    split at h
    · rw [Bool.and_eq_true] at h
      exact se_and (agE_ok x g h.1) (L2.pe_one (agE_ok y g h.2))
    · rw [Bool.and_eq_true] at h
      exact se_and (agE_ok x g h.1) (agE_ok y g h.2)
    · cases h
  | .or x y, pe, sc, c, X, k, a, g, h => by
    simp only [agE] at h
    split at h
    · rw [Bool.and_eq_true] at h
      exact se_or (agE_ok x g h.1) (L2.pe_one (agE_ok y g h.2))
    · rw [Bool.and_eq_true] at h
      exact se_or (agE_ok x g h.1) (agE_ok y g h.2)
    · cases h
  | .cmp op x y, pe, sc, c, X, k, a, g, h => by
    simp only [agE] at h
    split at h
    · simp only [Bool.and_eq_true] at h
      obtain ⟨⟨⟨h1, h2⟩, h3⟩, h4⟩ := h
      have := of_decide_eq_true h1
      subst this
      exact se_cmp g.toXk (agE_ok x g h3) (agE_ok y g h4) (behind_of h2)
    · cases h
  | .chain o1 o2 x y z, pe, sc, c, X, k, a, g, h => by
    simp only [agE] at h
    split at h
    · simp only [Bool.and_eq_true] at h
      obtain ⟨⟨⟨⟨⟨h1, h2⟩, h3⟩, h4⟩, h5⟩, h6⟩ := h
      have e1 := of_decide_eq_true h1
      have e2 := of_decide_eq_true h2
      subst e1 e2
      exact se_chain g.toXk (agE_ok x g h4) (agE_ok y g h5) (agE_ok z g h6) (behind_of h3)
    · cases h
  | .ite q x y, pe, sc, c, X, k, a, g, h => by
    simp only [agE] at h
    split at h
    · simp only [Bool.and_eq_true] at h
      obtain ⟨⟨h1, h2⟩, h3⟩ := h
      exact se_ite (agT_ok q g h1) (agE_ok x g h2) (agE_ok y g h3)
    · cases h
  | .tup es, pe, sc, c, X, k, a, g, h => by
    simp only [agE] at h
    split at h
    · simp only [Bool.and_eq_true, decide_eq_true_eq] at h
      obtain ⟨⟨h1, h2⟩, h3⟩ := h
      exact se_tup (agEs_ok es g h3) h1 fun e => (evEs_len e).trans h2
    · cases h
  | .lst es, pe, sc, c, X, k, a, g, h => by
    simp only [agE] at h
    split at h
    · simp only [Bool.and_eq_true, decide_eq_true_eq] at h
      obtain ⟨⟨h1, h2⟩, h3⟩ := h
      exact se_lst (agEs_ok es g h3) h1 fun e => (evEs_len e).trans h2
    · cases h
  | .idx x i, pe, sc, c, X, k, a, g, h => by
    simp only [agE] at h
    split at h
    · simp only [Bool.and_eq_true] at h
      obtain ⟨⟨h1, h2⟩, h3⟩ := h
      exact se_idx g.toXk (agE_ok x g h2) (agE_ok i g h3) (plainIx_of h1)
    · cases h
  | .slc x lo hi, pe, sc, c, X, k, a, g, h => by
    simp only [agE] at h
    split at h
    · rename_i px plo phi p2 pos
      simp only [Bool.and_eq_true] at h
      obtain ⟨⟨⟨⟨h1, h2⟩, h3⟩, h4⟩, h5⟩ := h
      have hlo : ∃ tl, PO X plo tl ∧ PartOk c lo tl := by
        cases plo with
        | none =>
          have := nonB_eq h4
          subst this
          exact ⟨_, L2.po_none, part_no⟩
        | some pl =>
          simp only [Bool.and_eq_true] at h4
          exact ⟨_, L2.po_some (agE_ok lo g h4.2), part_some h1 (nonB_ne h4.1)⟩
      have hhi : ∃ tl, PO X phi tl ∧ PartOk c hi tl := by
        cases phi with
        | none =>
          have := nonB_eq h5
          subst this
          exact ⟨_, L2.po_none, part_no⟩
        | some pl =>
          simp only [Bool.and_eq_true] at h5
          exact ⟨_, L2.po_some (agE_ok hi g h5.2), part_some h2 (nonB_ne h5.1)⟩
      obtain ⟨tl, a1, a2⟩ := hlo
      obtain ⟨th, b1, b2⟩ := hhi
      exact se_slc g.toXk (agE_ok x g h3) a1 b1 a2 b2 ⟨h1, h2⟩
    · cases h
  | .rev x, pe, sc, c, X, k, a, g, h => by
    simp only [agE] at h
    split at h
    · exact se_rev g.toXk (agE_ok x g h)
    · cases h
  | .call f as, pe, sc, c, X, k, a, g, h => by
    simp only [agE] at h
    split at h
    · simp only [Bool.and_eq_true, decide_eq_true_eq, Bool.not_eq_true'] at h
      obtain ⟨⟨⟨⟨⟨rfl, h2⟩, h3⟩, h4⟩, h5⟩, h6⟩ := h
      obtain ⟨ps, dk⟩ := g.fn _ h3
      simp only [allNs, Bool.and_eq_true] at h5
      exact se_call g.toXk g.cold dk (gl_of g.toXk h2) (agAs_ok as g h6) h4 (pl_of h5.1 _) (stars_of h5.2)
    · cases h
  | .b1 b x, pe, sc, c, X, k, a, g, h => by
    simp only [agE] at h
    split at h
    · simp only [Bool.and_eq_true, decide_eq_true_eq] at h
      obtain ⟨⟨⟨⟨h1, h2⟩, h3⟩, h4⟩, h5⟩ := h
      exact b1_ok g h1 (bt_of g h2) (pl_of h3) (agE_ok x g h4) h5
    · cases h
  | .min2 x y, pe, sc, c, X, k, a, g, h => by
    simp only [agE] at h
    split at h
    · simp only [Bool.and_eq_true, decide_eq_true_eq] at h
      obtain ⟨⟨⟨⟨⟨rfl, h2⟩, h3⟩, h4⟩, h5⟩, h6⟩ := h
      exact se_min2 g.toXk g.cold (bt_of g h2) (agE_ok x g h5) (agE_ok y g h6) (pl_of h3) (pl_of h4)
    · cases h
  | .max2 x y, pe, sc, c, X, k, a, g, h => by
    simp only [agE] at h
    split at h
    · simp only [Bool.and_eq_true, decide_eq_true_eq] at h
      obtain ⟨⟨⟨⟨⟨rfl, h2⟩, h3⟩, h4⟩, h5⟩, h6⟩ := h
      exact se_max2 g.toXk g.cold (bt_of g h2) (agE_ok x g h5) (agE_ok y g h6) (pl_of h3) (pl_of h4)
    · cases h
  | .isi x t, pe, sc, c, X, k, a, g, h => by
    simp only [agE] at h
    split at h
    · simp only [Bool.and_eq_true, decide_eq_true_eq] at h
      obtain ⟨⟨⟨⟨⟨⟨rfl, rfl⟩, h3⟩, h4⟩, h5⟩, h6⟩, h7⟩ := h
      obtain ⟨T, hT⟩ := Option.isSome_iff_exists.mp h6
      exact se_isi g.toXk (bt_of g h3) (bt_of g h4) hT (agE_ok x g h7) (pl_of h5) (pl_of rfl)
    · cases h
  | .rg1 t x, pe, sc, c, X, k, a, g, h => by
    simp only [agE] at h
    split at h
    · simp only [Bool.and_eq_true, decide_eq_true_eq] at h
      obtain ⟨⟨⟨⟨⟨rfl, h2⟩, h3⟩, h4⟩, h5⟩, h6⟩ := h
      cases t with
      | true =>
        have e := of_decide_eq_true (if_pos (rfl : true = true) ▸ h2)
        subst e
        exact se_rgT1 g.toXk g.cold (bt_of g h4) (bt_of g h3) (agE_ok x g h6) (pl_of h5) (pl_of rfl)
      | false =>
        have e := of_decide_eq_true (if_neg Bool.false_ne_true ▸ h2)
        subst e
        exact se_rgL1 g.toXk g.cold (bt_of g h4) (bt_of g h3) (agE_ok x g h6) (pl_of h5) (pl_of rfl)
    · cases h
  | .rg2 t x y, pe, sc, c, X, k, a, g, h => by
    simp only [agE] at h
    split at h
    · simp only [Bool.and_eq_true, decide_eq_true_eq] at h
      obtain ⟨⟨⟨⟨⟨⟨⟨rfl, h2⟩, h3⟩, h4⟩, h5⟩, h6⟩, h7⟩, h8⟩ := h
      cases t with
      | true =>
        have e := of_decide_eq_true (if_pos (rfl : true = true) ▸ h2)
        subst e
        exact se_rgT2 g.toXk g.cold (bt_of g h4) (bt_of g h3) (agE_ok x g h7) (agE_ok y g h8) (pl_of h5) (pl_of h6) (pl_of rfl)
      | false =>
        have e := of_decide_eq_true (if_neg Bool.false_ne_true ▸ h2)
        subst e
        exact se_rgL2 g.toXk g.cold (bt_of g h4) (bt_of g h3) (agE_ok x g h7) (agE_ok y g h8) (pl_of h5) (pl_of h6) (pl_of rfl)
    · cases h
  | .bm .append p (.cons x .nil), pe, sc, c, X, k, a, g, h => by
    simp only [agE] at h
    split at h
    · simp only [Bool.and_eq_true, decide_eq_true_eq] at h
      obtain ⟨⟨⟨⟨⟨rfl, h2⟩, h3⟩, h4⟩, h5⟩, h6⟩ := h
      refine se_append g.toXk (agP_ok p g h5) (agE_ok x g h6) ⟨abase_of h2, ?_, h3⟩ (pl_of h4)
      rw [pl_of h4 []]; rfl
    · cases h
  | .lc elt tg it cond own, pe, sc, c, X, k, a, g, h => by
    simp only [agE] at h
    split at h
    · rename_i pelt ptg pit ifs scope pos
      simp only [Bool.and_eq_true] at h
      obtain ⟨⟨⟨⟨⟨⟨h1, h2⟩, h3⟩, h4⟩, h5⟩, h6⟩, h7⟩ := h
      cases ho : ownP a own with
      | none => rw [ho] at h3; cases h3
      | some l =>
        rw [ho] at h3
        simp only at h3
        have hix := ownP_ix ho
        have hh := se_lc (elt := elt) (cond := cond) (own := l) (pelt := pelt) (ifs := ifs) (pos := pos) (c := c) (tg := tg) (it := it) g.toXk g.cold (agI_ok it g h2) (L2.blkOk_by (by rw [g.N, g.sc]; exact h3))
          (fun s H C cl fp => agG_ok tg g.blk (by rw [relS_eq, g.sc]; exact h5))
          (fun s H C cl fp => by
            cases ifs with
            | nil =>
              simp only at h6
              cases cond with
              | bl b =>
                cases b with
                | true => exact sts_nil
                | false => cases h6
              | _ => cases h6
            | cons pc rest =>
              cases rest with
              | nil => exact sts_one (agT_ok cond g.blk (by rw [relS_eq, g.sc]; exact h6))
              | cons _ _ => cases h6)
          (fun s H C cl fp => agE_ok elt g.blk (by rw [relS_eq, g.sc]; exact h7)) (folded_of h1) (by rw [hix]; exact sub_of h4)
        rw [hix] at hh
        exact hh
    · cases h
  | .dic ks vs, pe, sc, c, X, k, a, g, h => by
    simp only [agE] at h
    split at h
    · rename_i keys values pos
      split at h
      · simp only [Bool.and_eq_true, List.isEmpty_iff] at h
        obtain ⟨⟨rfl, rfl⟩, h3⟩ := h
        cases vs with
        | nil => exact se_dic0
        | cons _ _ => cases h3
      · rename_i ne
        simp only [Bool.and_eq_true, decide_eq_true_eq] at h
        obtain ⟨⟨⟨⟨⟨h1, h2⟩, h3⟩, h4⟩, h5⟩, h6⟩ := h
        obtain ⟨b1, b2⟩ := agKs_ok (X := X) h1
        exact se_dic (agD_ok vs g h4 h1 h6) b2 (b1.trans h3) (fun z => ne (by
          rw [z] at b1
          exact List.length_eq_zero_iff.mp b1.symm)) (b1 ▸ h2) h4 h2 h5
    · cases h
  | .callk f as ks, pe, sc, c, X, k, a, g, h => by
    simp only [agE] at h
    split at h
    · rename_i kws pos
      simp only [Bool.and_eq_true, decide_eq_true_eq, Bool.not_eq_true'] at h
      obtain ⟨⟨⟨⟨⟨rfl, h2⟩, h3⟩, h4⟩, h5⟩, h6⟩ := h
      obtain ⟨b1, b2, b3⟩ := kw_all (l := PySem.backToKw pos (PySem.keywordEach kws X.env)) (ks := ks) (kw_arg.trans h5)
      exact se_callk g.toXk g.cold (g.kw _ _ h3) (gl_of g.toXk h2) (agK_ok as g h6) b1 b2 h4 (by rw [b3]; rfl)
    · cases h
  | .meth _ _ _ _, _, _, _, _, _, _, _, h => by simp [agE] at h
  | .new _ _, _, _, _, _, _, _, _, h => by simp [agE] at h
  | .bm .pop _ _, _, _, _, _, _, _, _, h => by simp [agE] at h
  | .bm .popAt _ _, _, _, _, _, _, _, _, h => by simp [agE] at h
  | .bm .extend _ _, _, _, _, _, _, _, _, h => by simp [agE] at h
  | .bm .insert _ _, _, _, _, _, _, _, _, h => by simp [agE] at h
  | .bm .remove _ _, _, _, _, _, _, _, _, h => by simp [agE] at h
  | .bm .append _ .nil, _, _, _, _, _, _, _, h => by simp [agE] at h
  | .bm .append _ (.cons _ (.cons _ _)), _, _, _, _, _, _, _, h => by simp [agE] at h
  | .index x y, pe, sc, c, X, k, a, g, h => by
    simp only [agE] at h
    split at h
    · simp only [Bool.and_eq_true, decide_eq_true_eq] at h
      obtain ⟨⟨⟨⟨⟨rfl, h2⟩, h3⟩, h4⟩, h5⟩, h6⟩ := h
      refine se_index g.toXk (agE_ok x g h5) (agE_ok y g h6) ⟨abase_of h2, ?_, h3⟩ (pl_of h4)
      rw [pl_of h4 []]; rfl
    · cases h
  | .get1 _ _, _, _, _, _, _, _, _, h => by simp [agE] at h
  | .get2 _ _ _, _, _, _, _, _, _, _, h => by simp [agE] at h
  | .dc _ _ _ _ _ _, _, _, _, _, _, _, _, h => by simp [agE] at h
  | .srs x, pe, sc, c, X, k, a, g, h => by
    simp only [agE] at h
    split at h
    · simp only [Bool.and_eq_true, decide_eq_true_eq] at h
      obtain ⟨⟨⟨⟨⟨rfl, rfl⟩, h3⟩, h4⟩, h5⟩, h6⟩ := h
      exact se_srs g.toXk g.cold (bt_of g h3) (bt_of g h4) (agE_ok x g h6) (pl_of h5) (pl_of rfl)
    · cases h
  | .shv x, pe, sc, c, X, k, a, g, h => by
    simp only [agE] at h
    exact se_shv (agE_ok x g h)
  | .sda p x y, pe, sc, c, X, k, a, g, h => by
    simp only [agE] at h
    split at h
    · simp only [Bool.and_eq_true, decide_eq_true_eq] at h
      obtain ⟨⟨⟨⟨⟨⟨⟨⟨⟨rfl, rfl⟩, h3⟩, h4⟩, h5⟩, h6⟩, h7⟩, h8⟩, h9⟩, h10⟩ := h
      refine se_sda g.toXk (agP_ok p g h8) (agE_ok x g h9) (agE_ok y g h10) ⟨abase_of h3, ?_, h4, ?_⟩ ⟨rfl, ?_, h5⟩ (pl_of h7)
      · rw [pl_of h6 _]; rfl
      · rw [pl_of h6 _]; rfl
      · rw [pl_of h7 []]; rfl
    · cases h
  | .efld _ _, _, _, _, _, _, _, _, h => by simp [agE] at h
  | .eisi _ _, _, _, _, _, _, _, _, h => by simp [agE] at h
theorem agT_ok : ∀ (e : E) {pe : Expr} {sc : Scope} {c : Ct} {X : Cx} {k : Nat} {a : Ag}, Gk a c X k sc → agT a sc e pe = true → PT X pe (tT c e)
  | .not x, pe, sc, c, X, k, a, g, h => by
    simp only [agT] at h
    split at h
    · exact st_not (agT_ok x g h)
    · cases h
  | .and x y, pe, sc, c, X, k, a, g, h => by
    simp only [agT] at h
    split at h
    · rw [Bool.and_eq_true] at h
      exact (sw_and (agT_ok x g h.1) (sw_and1 (agT_ok y g h.2))).pt
    · rw [Bool.and_eq_true] at h
      exact (sw_and (agT_ok x g h.1) (pw_of (agT_ok y g h.2))).pt
    · cases h
  | .or x y, pe, sc, c, X, k, a, g, h => by
    simp only [agT] at h
    split at h
    · rw [Bool.and_eq_true] at h
      exact (sw_or (agT_ok x g h.1) (sw_or1 (agT_ok y g h.2))).pt
    · rw [Bool.and_eq_true] at h
      exact (sw_or (agT_ok x g h.1) (pw_of (agT_ok y g h.2))).pt
    · cases h
  | .cmp op x y, pe, sc, c, X, k, a, g, h => by
    simp only [agT] at h
    split at h
    · simp only [Bool.and_eq_true] at h
      obtain ⟨⟨⟨h1, h2⟩, h3⟩, h4⟩ := h
      have := of_decide_eq_true h1
      subst this
      exact st_cmp g.toXk (agE_ok x g h3) (agE_ok y g h4) (behind_of h2)
    · cases h
  | .chain o1 o2 x y z, pe, sc, c, X, k, a, g, h => by
    simp only [agT] at h
    split at h
    · simp only [Bool.and_eq_true] at h
      obtain ⟨⟨⟨⟨⟨h1, h2⟩, h3⟩, h4⟩, h5⟩, h6⟩ := h
      have e1 := of_decide_eq_true h1
      have e2 := of_decide_eq_true h2
      subst e1 e2
      exact st_chain g.toXk (agE_ok x g h4) (agE_ok y g h5) (agE_ok z g h6) (behind_of h3)
    · cases h
  | .rd p, pe, sc, c, X, k, a, g, h => by
    simp only [agT, Bool.and_eq_true] at h
    exact st_of (se_rd (agP_ok p g h.2)) g.K (isD_ok h.1)
  | .isi x t, pe, sc, c, X, k, a, g, h => by
    simp only [agT] at h
    split at h
    · simp only [Bool.and_eq_true, decide_eq_true_eq] at h
      obtain ⟨⟨⟨⟨⟨⟨rfl, rfl⟩, h3⟩, h4⟩, h5⟩, h6⟩, h7⟩ := h
      obtain ⟨T, hT⟩ := Option.isSome_iff_exists.mp h6
      exact st_of (se_isi g.toXk (bt_of g h3) (bt_of g h4) hT (agE_ok x g h7) (pl_of h5) (pl_of rfl)) g.K (isD_ok rfl)
    · cases h
  | .call f as, pe, sc, c, X, k, a, g, h => by
    simp only [agT] at h
    split at h
    · simp only [Bool.and_eq_true, decide_eq_true_eq, Bool.not_eq_true'] at h
      obtain ⟨⟨⟨⟨⟨rfl, h2⟩, h3⟩, h4⟩, h5⟩, h6⟩ := h
      obtain ⟨ps, dk⟩ := g.fn _ h3
      simp only [allNs, Bool.and_eq_true] at h5
      exact st_of (se_call g.toXk g.cold dk (gl_of g.toXk h2) (agAs_ok as g h6) h4 (pl_of h5.1 _) (stars_of h5.2)) g.K (isD_ok rfl)
    · cases h
  | .b1 b x, pe, sc, c, X, k, a, g, h => by
    simp only [agT] at h
    split at h
    · simp only [Bool.and_eq_true, decide_eq_true_eq] at h
      obtain ⟨⟨⟨⟨h1, h2⟩, h3⟩, h4⟩, h5⟩ := h
      exact st_of (b1_ok g h1 (bt_of g h2) (pl_of h3) (agE_ok x g h4) h5) g.K (isD_ok rfl)
    · cases h
  | .non, _, _, _, _, _, _, _, h => by simp [agT] at h
  | .bl _, _, _, _, _, _, _, _, h => by simp [agT] at h
  | .int _, _, _, _, _, _, _, _, h => by simp [agT] at h
  | .str _, _, _, _, _, _, _, _, h => by simp [agT] at h
  | .glb _, _, _, _, _, _, _, _, h => by simp [agT] at h
  | .sh _, _, _, _, _, _, _, _, h => by simp [agT] at h
  | .mv _, _, _, _, _, _, _, _, h => by simp [agT] at h
  | .bin _ _ _, _, _, _, _, _, _, _, h => by simp [agT] at h
  | .un _ _, _, _, _, _, _, _, _, h => by simp [agT] at h
  | .ite q x y, pe, sc, c, X, k, a, g, h => by
    simp only [agT] at h
    split at h
    · simp only [Bool.and_eq_true] at h
      exact st_ite (agT_ok q g h.1.1) (agT_ok x g h.1.2) (agT_ok y g h.2)
    · cases h
  | .tup _, _, _, _, _, _, _, _, h => by simp [agT] at h
  | .lst _, _, _, _, _, _, _, _, h => by simp [agT] at h
  | .dic _ _, _, _, _, _, _, _, _, h => by simp [agT] at h
  | .idx _ _, _, _, _, _, _, _, _, h => by simp [agT] at h
  | .slc _ _ _, _, _, _, _, _, _, _, h => by simp [agT] at h
  | .rev _, _, _, _, _, _, _, _, h => by simp [agT] at h
  | .callk _ _ _, _, _, _, _, _, _, _, h => by simp [agT] at h
  | .meth _ _ _ _, _, _, _, _, _, _, _, h => by simp [agT] at h
  | .new _ _, _, _, _, _, _, _, _, h => by simp [agT] at h
  | .min2 _ _, _, _, _, _, _, _, _, h => by simp [agT] at h
  | .max2 _ _, _, _, _, _, _, _, _, h => by simp [agT] at h
  | .bm _ _ _, _, _, _, _, _, _, _, h => by simp [agT] at h
  | .index _ _, _, _, _, _, _, _, _, h => by simp [agT] at h
  | .get1 _ _, _, _, _, _, _, _, _, h => by simp [agT] at h
  | .get2 _ _ _, _, _, _, _, _, _, _, h => by simp [agT] at h
  | .lc _ _ _ _ _, _, _, _, _, _, _, _, h => by simp [agT] at h
  | .dc _ _ _ _ _ _, _, _, _, _, _, _, _, h => by simp [agT] at h
  | .rg1 _ _, _, _, _, _, _, _, _, h => by simp [agT] at h
  | .rg2 _ _ _, _, _, _, _, _, _, _, h => by simp [agT] at h
  | .srs _, _, _, _, _, _, _, _, h => by simp [agT] at h
  | .shv _, _, _, _, _, _, _, _, h => by simp [agT] at h
  | .sda _ _ _, _, _, _, _, _, _, _, h => by simp [agT] at h
  | .efld _ _, _, _, _, _, _, _, _, h => by simp [agT] at h
  | .eisi _ _, _, _, _, _, _, _, _, h => by simp [agT] at h
theorem agP_ok : ∀ (p : P) {pe : Expr} {sc : Scope} {c : Ct} {X : Cx} {k : Nat} {a : Ag}, Gk a c X k sc → agP a sc p pe = true → PE X pe (tP c p)
  | .var i, pe, sc, c, X, k, a, g, h => by
    simp only [agP] at h
    exact sp_v g h
  | .fld p f, pe, sc, c, X, k, a, g, h => by
    simp only [agP] at h
    split at h
    · simp only [Bool.and_eq_true, decide_eq_true_eq] at h
      obtain ⟨⟨⟨rfl, h2⟩, h3⟩, h4⟩ := h
      exact sp_fld (agP_ok p g h4) g.K (g.fk _ h2) g.ck (abase_of h3)
    · cases h
  | .sub p e, pe, sc, c, X, k, a, g, h => by
    simp only [agP] at h
    split at h
    · simp only [Bool.and_eq_true] at h
      obtain ⟨⟨h1, h2⟩, h3⟩ := h
      exact sp_sub (agP_ok p g h2) (agE_ok e g h3) g.toXk (plainIx_of h1)
    · cases h
theorem agEs_ok : ∀ (es : Es) {pes : List Expr} {sc : Scope} {c : Ct} {X : Cx} {k : Nat} {a : Ag}, Gk a c X k sc → agEs a sc es pes = true → PA X pes (tEs c es)
  | .nil, pes, sc, c, X, k, a, g, h => by
    simp only [agEs] at h
    split at h
    · exact sa_nil
    · cases h
  | .cons e es, pes, sc, c, X, k, a, g, h => by
    simp only [agEs] at h
    split at h
    · simp only [Bool.and_eq_true] at h
      obtain ⟨⟨h1, h2⟩, h3⟩ := h
      exact sa_cons (agE_ok e g h2) (agEs_ok es g h3) (pl_of h1 _)
    · cases h
theorem agD_ok : ∀ (es : Es) {ks : List L2.Key} {keys : List (Option Expr)} {pes : List Expr} {sc : Scope} {c : Ct} {X : Cx} {k : Nat} {a : Ag} {pos : Pos}, Gk a c X k sc → ks.length = es.n → agKs ks keys = true → agEs a sc es pes = true → L2.PPs X pos keys pes (trs c ks es)
  | .nil, ks, keys, pes, sc, c, X, k, a, pos, g, hl, h0, h => by
    simp only [agEs] at h
    split at h
    · have e : ks = [] := List.length_eq_zero_iff.mp hl
      subst e
      have e2 : keys = [] := List.length_eq_zero_iff.mp (agKs_ok (X := X) h0).1
      subst e2
      exact L2.pps_nil
    · cases h
  | .cons e es, ks, keys, pes, sc, c, X, k, a, pos, g, hl, h0, h => by
    simp only [agEs] at h
    split at h
    · simp only [Bool.and_eq_true] at h
      obtain ⟨⟨h1, h2⟩, h3⟩ := h
      cases ks with
      | nil => simp [Es.n] at hl
      | cons k0 ks =>
        cases keys with
        | nil => simp [agKs] at h0
        | cons e0 keys => exact pps_ag h0 (agE_ok e g h2) (fun q => agD_ok es g (by simpa [Es.n] using hl) q h3)
    · cases h
theorem agAs_ok : ∀ (es : As) {pes : List Expr} {sc : Scope} {c : Ct} {X : Cx} {k : Nat} {a : Ag}, Gk a c X k sc → agAs a sc es pes = true → PA X pes (tAs c es)
  | .nil, pes, sc, c, X, k, a, g, h => by
    simp only [agAs] at h
    split at h
    · exact sl_nil
    · cases h
  | .v e es, pes, sc, c, X, k, a, g, h => by
    simp only [agAs] at h
    split at h
    · simp only [Bool.and_eq_true] at h
      obtain ⟨⟨h1, h2⟩, h3⟩ := h
      exact sl_v (agE_ok e g h2) (agAs_ok es g h3) (pl_of h1 _)
    · cases h
  | .l p es, pes, sc, c, X, k, a, g, h => by
    simp only [agAs] at h
    split at h
    · simp only [Bool.and_eq_true] at h
      obtain ⟨⟨h1, h2⟩, h3⟩ := h
      exact sl_l (agP_ok p g h2) (agAs_ok es g h3) (pl_of h1 _)
    · cases h
theorem agK_ok : ∀ (es : As) {pes : List PySem.Keyword} {sc : Scope} {c : Ct} {X : Cx} {k : Nat} {a : Ag}, Gk a c X k sc → agK a sc es pes = true → L2.PK X pes (tAs c es)
  | .nil, pes, sc, c, X, k, a, g, h => by
    simp only [agK] at h
    split at h
    · exact sk_nil
    · cases h
  | .v e es, pes, sc, c, X, k, a, g, h => by
    simp only [agK] at h
    split at h
    · rw [Bool.and_eq_true] at h
      rename_i q qs
      obtain ⟨_, _, _⟩ := q
      exact sk_v (agE_ok e g h.1) (agK_ok es g h.2)
    · cases h
  | .l p es, pes, sc, c, X, k, a, g, h => by
    simp only [agK] at h
    split at h
    · rw [Bool.and_eq_true] at h
      rename_i q qs
      obtain ⟨_, _, _⟩ := q
      exact sk_l (agP_ok p g h.1) (agK_ok es g h.2)
    · cases h
theorem agF_ok : ∀ (l : Lf) {pe : Expr} {sc : Scope} {c : Ct} {X : Cx} {k : Nat} {a : Ag}, Gk a c X k sc → agF a sc l pe = true → PE X pe (tLf c l)
  | .pl p, pe, sc, c, X, k, a, g, h => by
    simp only [agF] at h
    exact sf_pl (agP_ok p g h)
  | .ex e, pe, sc, c, X, k, a, g, h => by
    simp only [agF] at h
    exact sf_ex (agE_ok e g h)
theorem agI_ok : ∀ (it : TW.It) {pe tg : Expr} {sc : Scope} {c : Ct} {X : Cx} {k : Nat} {a : Ag}, Gk a c X k sc → agI a sc it pe tg = true → PI X tg pe (tI c it)
  | .one l, pe, tg, sc, c, X, k, a, g, h => by
    simp only [agI] at h
    exact si_one g.K (agF_ok l g h)
  | .rng1 x, pe, tg, sc, c, X, k, a, g, h => by
    simp only [agI] at h
    split at h
    · simp only [Bool.and_eq_true, decide_eq_true_eq] at h
      obtain ⟨⟨⟨rfl, h2⟩, h3⟩, h4⟩ := h
      exact si_rng1 (bt_of g h2) (agE_ok x g h4) (pl_of h3)
    · cases h
  | .rng2 x y, pe, tg, sc, c, X, k, a, g, h => by
    simp only [agI] at h
    split at h
    · simp only [Bool.and_eq_true, decide_eq_true_eq] at h
      obtain ⟨⟨⟨⟨⟨rfl, h2⟩, h3⟩, h4⟩, h5⟩, h6⟩ := h
      exact si_rng2 (bt_of g h2) (agE_ok x g h5) (agE_ok y g h6) (pl_of h3) (pl_of h4)
    · cases h
  | .enu l, pe, tg, sc, c, X, k, a, g, h => by
    simp only [agI] at h
    split at h
    · simp only [Bool.and_eq_true, decide_eq_true_eq] at h
      obtain ⟨⟨⟨rfl, h2⟩, h3⟩, h4⟩ := h
      exact si_enu g.K (bt_of g h2) (agF_ok l g h4) (pl_of h3)
    · cases h
  | .zip l m, pe, tg, sc, c, X, k, a, g, h => by
    simp only [agI] at h
    split at h
    · simp only [Bool.and_eq_true, decide_eq_true_eq] at h
      obtain ⟨⟨⟨⟨⟨rfl, h2⟩, h3⟩, h4⟩, h5⟩, h6⟩ := h
      exact si_zip g.K (bt_of g h2) (agF_ok l g h5) (agF_ok m g h6) (pl_of h3) (pl_of h4)
    · cases h
  | .rngD _ _, _, _, _, _, _, _, _, _, h => by simp [agI] at h
  | .itm _, _, _, _, _, _, _, _, _, h => by simp [agI] at h
  | .val l, pe, tg, sc, c, X, k, a, g, h => by
    simp only [agI] at h
    split at h
    · simp only [Bool.and_eq_true, decide_eq_true_eq] at h
      obtain ⟨⟨⟨rfl, h2⟩, h3⟩, h4⟩ := h
      exact si_val (sp_v g h4) (abase_of h2) h3
    · cases h
theorem agG_ok : ∀ (t : Tg) {pe : Expr} {sc : Scope} {c : Ct} {X : Cx} {k : Nat} {a : Ag}, Gk a c X k sc → agG a sc t pe = true → PG X pe (tG c t)
  | .v i, pe, sc, c, X, k, a, g, h => by
    simp only [agG] at h
    split at h
    · simp only [Bool.and_eq_true, decide_eq_true_eq, Bool.or_eq_true] at h
      obtain ⟨h1, h2⟩ := h
      rcases h2 with h2 | ⟨h2, h3⟩
      · have e := loc_of g.toXk h2
        exact sg_v g.nd (by rw [g.N]; exact h1) (.inl e) (.inr e)
      · have e := cell_of g.toXk h3
        exact sg_v g.nd (by rw [g.N]; exact h1) (.inr e) (.inl (g.fnc h2 _ e))
    · cases h
  | .t ts, pe, sc, c, X, k, a, g, h => by
    simp only [agG] at h
    split at h
    · simp only [Bool.and_eq_true, decide_eq_true_eq] at h
      obtain ⟨⟨h1, h2⟩, h3⟩ := h
      obtain ⟨b1, b2⟩ := assigns_of (env := X.env) h2
      exact sg_t (g.calm g.cold) g.K (agGs_ok ts g h3 h2) b1 (fun e => (asgs_len e).trans h1) b2
    · cases h
  | .s p e, pe, sc, c, X, k, a, g, h => by
    simp only [agG] at h
    split at h
    · simp only [Bool.and_eq_true] at h
      obtain ⟨⟨h1, h2⟩, h3⟩ := h
      exact sg_s g.toXk (agP_ok p g h2) (agE_ok e g h3) (asub_of h1)
    · cases h
  | .f _ _, _, _, _, _, _, _, _, h => by simp [agG] at h
theorem agGs_ok : ∀ (ts : Tgs) {pes : List Expr} {sc : Scope} {c : Ct} {X : Cx} {k : Nat} {a : Ag}, Gk a c X k sc → agGs a sc ts pes = true → allNs pes = true → PGs X pes (tGs c ts)
  | .nil, pes, sc, c, X, k, a, g, h, hn => by
    simp only [agGs] at h
    split at h
    · exact sgs_nil
    · cases h
  | .cons t ts, pes, sc, c, X, k, a, g, h, hn => by
    simp only [agGs] at h
    split at h
    · simp only [Bool.and_eq_true] at h
      simp only [allNs, Bool.and_eq_true] at hn
      exact sgs_cons (agG_ok t g h.1) (agGs_ok ts g h.2 hn.2) (asg1_of hn.1)
    · cases h
end
end TW
end

section
/-! agreement in an except suite -/
namespace TW
open PySem (Str Addr Expr Stmt Pos Value Obj Shared model PyData Scope Env)
open L2 (V HO Hp Rd upd upd_same upd_ne TE TT TA TS TI TG TGs VK XK Cx PE PT PW PA PS PSs PG PGs PI PO OpR R2 CallR PTs wipe Ends)
variable {c : Ct} {X : Cx} {k : Nat} {sc : Scope}
/-- what is known in a suite besides -/
structure Su (a : Ag) (c : Ct) (X : Cx) (n : Str) : Prop where
  N : X.N = a.N
  bt : ∀ x, a.bts.contains x = true → X.mg x = none
  ik : ∀ n' A, c.C.ecl n = some A → ∀ b, c.g.isk n n' = some b → ∃ A', X.mg n' = some (.ref A') ∧ PySem.W.kitOne X.K (.ref A) (.ref A') = some b
def rIsX (K : PySem.W.Frag) (A a dd : Addr) (fl : Str) : List V → Hp → VK → Prop := fun xs H Q => ∃ A' b w, xs = [.ref a, .ref A'] ∧ H dd = some (.xd [(fl, w)]) ∧ PySem.W.kitOne K (.ref A) (.ref A') = some b ∧ Q (.bl b) H
theorem se_eisi {i : Nat} {x cn n : Str} {a dd : Addr} {oe : Obj} {ag : Ag} {p p2 p3 pos : Pos} (hk : Hk c X i n a dd oe) (su : Su ag c X n) (hN : X.N[i]? = some x) (hv : L2.Vis X.env.scope x) (hd : (x == ("__debug__" : Str)) = false) (hcd : (x == ("__classdict__" : Str)) = false) (bt : Bt X "isinstance") (hg : L2.Gl X cn) (hcn : (cn == ("__debug__" : Str)) = false) :
    PE X (.Call (.Name "isinstance" p) [.Name x p2, .Name cn p3] [] pos) (tE c (.eisi i cn)) := by
  obtain ⟨C, hz, hC, fI, ar, msg, T⟩ := hk.z
  obtain ⟨vs, hdt⟩ := hk.f
  have cr : CallR X (.builtin "isinstance") (rIsX X.K C a dd (c.g.fld n)) := by
    intro pins s σ H xs us Q I r h
    obtain ⟨A', b, w, rfl, hod, e, q⟩ := h
    cases r with
    | cons rx rr =>
      cases rr with
      | cons rt rr =>
        cases rr
        cases rx
        cases rt
        obtain ⟨ha, _⟩ := I.pin (a, oe) (List.mem_append_left _ hk.pn)
        have hx : L2.ObjOk X.prog X.w H s.heap dd (.xd [(c.g.fld n, w)]) := I.hok dd _ hod
        obtain ⟨mA, hns, hrl⟩ := hx
        obtain ⟨od, hod2, hl⟩ := L2.lookIn_ns hns
        have J : PySem.W.InstAt s.heap a oe C (some od) := ⟨ha, hz.1, by unfold PySem.W.notCls; rw [hdt] <;> rfl, by rw [hz.2]; exact hod2⟩
        obtain ⟨cd, hcd2, _⟩ := PySem.W.any_some T.hdC
        exact PySem.W.kia_one (PySem.W.kitx_exc (by rw [hcd2]; rfl) T.ga T.gg T.exC T.cc T.cg T.ct T.cm) I.kIn J e (fun z => nomatch z) fun tk => ⟨.bl b, H, I.kept (t' := tk) fun _ _ z => z, rfl, q⟩
  cases hi : c.g.isk n cn with
  | none =>
    refine ⟨fun pins s σ H Q I ⟨r, Z, F, i0, hs, h⟩ => ?_⟩
    simp only [ev] at h
    cases hr : r[i]? with
    | none => rw [hr] at h; exact h.elim
    | some z =>
      rw [hr] at h
      cases z with
      | none => exact h.elim
      | some d =>
        cases d with
        | exc m v =>
          obtain ⟨y, fp, hy, _, o, w, ho, ⟨_, hm⟩, _⟩ := RSt.atX hs hr
          rw [hk.xo] at ho
          cases ho
          simp only at hm
          subst hm
          simp only [hi, Option.map_none, RE.lift] at h
          exact h.elim
        | _ => exact h.elim
  | some b =>
    obtain ⟨A', m', e'⟩ := su.ik cn C hC b hi
    refine (L2.pe_callB cr bt.gl bt.no (by decide +kernel) (L2.pa_cons (L2.pe_var hN hv hd hcd) (L2.pa_cons (L2.pe_glob hg m' (v := .ref A') rfl hcn) L2.pa_nil)) (by decide) (by decide) rfl).imp fun s H Q ⟨r, Z, F, i0, hs, h⟩ => ?_
    simp only [ev] at h
    cases hr : r[i]? with
    | none => rw [hr] at h; exact h.elim
    | some z =>
      rw [hr] at h
      cases z with
      | none => exact h.elim
      | some d =>
        cases d with
        | exc m v =>
          obtain ⟨y, fp, hy, _, o, w, ho, ⟨_, hm⟩, rfl, hod, hZ, hR⟩ := RSt.atX hs hr
          rw [hk.xo] at ho
          cases ho
          simp only at hm hod hZ hy
          subst hm
          simp only [hi, Option.map_some, RE.lift] at h
          refine ⟨_, hy, A', b, w, rfl, hod, e', ?_⟩
          exact h _ H ⟨Z, F, [], Stp.refl i0, hs, ⟨rfl, rfl⟩, fun _ => ⟨rfl, rfl, Stp.refl i0.nil⟩⟩
        | _ => exact h.elim
mutual
def suE (a : Ag) (sc : Scope) (i : Nat) : E → Expr → Bool
  | .efld j f, pe => match pe with
    | .Attribute (.Name x _) g _ => decide (j = i) && decide (g = f) && decide (a.N[i]? = some x) && visB sc x && !(x == ("__debug__" : Str)) && !(x == ("__classdict__" : Str))
    | _ => false
  | .eisi j cn, pe => match pe with
    | .Call (.Name g _) [.Name x _, .Name y _] [] _ => decide (g = "isinstance") && decide (y = cn) && decide (j = i) && decide (a.N[i]? = some x) && visB sc x && !(x == ("__debug__" : Str)) && !(x == ("__classdict__" : Str)) && btB a sc g && glB sc cn && !(cn == ("__debug__" : Str))
    | _ => false
  | .non, pe => match pe with
    | .Constant .none _ _ => true
    | _ => false
  | .bl b, pe => match pe with
    | .Constant (.bool b') _ _ => b == b'
    | _ => false
  | .int n, pe => match pe with
    | .Constant (.int m) _ _ => decide (n = m)
    | _ => false
  | .str n, pe => match pe with
    | .Constant (.str m) _ _ => decide (n = m)
    | _ => false
  | .rd (.var j), pe => agV a sc j pe
  | .tup es, pe => match pe with
    | .Tuple pes _ _ => decide (pes.length ≤ 1000) && decide (es.n = pes.length) && suEs a sc i es pes
    | _ => false
  | .b1 .repr x, pe => match pe with
    | .Call (.Name g _) [px] [] _ => decide (g = "repr") && btB a sc g && nsB px && suE a sc i x px
    | _ => false
  | .cmp op x y, pe => match pe with
    | .Compare px [o] [py] _ => cmB op o && nbB py && suE a sc i x px && suE a sc i y py
    | _ => false
  | .ite q x y, pe => match pe with
    | .IfExp pq px py _ => suT a sc i q pq && suE a sc i x px && suE a sc i y py
    | _ => false
  | _, _ => false
def suEs (a : Ag) (sc : Scope) (i : Nat) : Es → List Expr → Bool
  | .nil, pes => match pes with
    | [] => true
    | _ => false
  | .cons e es, pes => match pes with
    | pe :: pes => nsB pe && suE a sc i e pe && suEs a sc i es pes
    | _ => false
def suT (a : Ag) (sc : Scope) (i : Nat) : E → Expr → Bool
  | .cmp op x y, pe => match pe with
    | .Compare px [o] [py] _ => cmB op o && nbB py && suE a sc i x px && suE a sc i y py
    | _ => false
  | .or x y, pe => match pe with
    | .BoolOp .Or [px, py] _ => suT a sc i x px && suT a sc i y py
    | _ => false
  | .rd (.var j), pe => isD pe && agV a sc j pe
  | .eisi j cn, pe => match pe with
    | .Call (.Name g _) [.Name x _, .Name y _] [] _ => decide (g = "isinstance") && decide (y = cn) && decide (j = i) && decide (a.N[i]? = some x) && visB sc x && !(x == ("__debug__" : Str)) && !(x == ("__classdict__" : Str)) && btB a sc g && glB sc cn && !(cn == ("__debug__" : Str))
    | _ => false
  | _, _ => false
end
theorem su_var {a : Ag} {n : Str} {j : Nat} {pe : Expr} (xk : Xk c X k sc) (su : Su a c X n) (h : agV a sc j pe = true) : PE X pe (tP c (.var j)) := by
  cases pe <;> simp only [agV, Bool.false_eq_true] at h
  simp only [Bool.and_eq_true, decide_eq_true_eq, Bool.not_eq_true'] at h
  obtain ⟨⟨⟨h1, h2⟩, h3⟩, h4⟩ := h
  exact sp_var (by rw [su.N]; exact h1) (vis_of xk h2) h3 h4
theorem su_bt {a : Ag} {n x : Str} (xk : Xk c X k sc) (su : Su a c X n) (h : btB a sc x = true) : Bt X x := by
  unfold btB at h
  rw [Bool.and_eq_true] at h
  exact ⟨gl_of xk h.1, su.bt x h.2⟩
mutual
theorem suE_ok {a : Ag} {i : Nat} {n : Str} {p0 dd : Addr} {oe : Obj} (xk : Xk c X k sc) (su : Su a c X n) (hk : Hk c X i n p0 dd oe) : ∀ (e : E) {pe : Expr}, suE a sc i e pe = true → PE X pe (tE c e)
  | .efld j f, pe, h => by
    simp only [suE] at h
    split at h
    · simp only [Bool.and_eq_true, decide_eq_true_eq, Bool.not_eq_true'] at h
      obtain ⟨⟨⟨⟨⟨rfl, rfl⟩, h3⟩, h4⟩, h5⟩, h6⟩ := h
      exact se_efld hk (by rw [su.N]; exact h3) (vis_of xk h4) h5 h6
    · cases h
  | .eisi j cn, pe, h => by
    simp only [suE] at h
    split at h
    · simp only [Bool.and_eq_true, decide_eq_true_eq, Bool.not_eq_true'] at h
      obtain ⟨⟨⟨⟨⟨⟨⟨⟨⟨rfl, rfl⟩, rfl⟩, h3⟩, h4⟩, h5⟩, h6⟩, h7⟩, h8⟩, h9⟩ := h
      exact se_eisi hk su (by rw [su.N]; exact h3) (vis_of xk h4) h5 h6 (su_bt xk su h7) (gl_of xk h8) h9
    · cases h
  | .non, pe, h => by
    simp only [suE] at h
    split at h
    · exact se_non
    · cases h
  | .bl b, pe, h => by
    simp only [suE] at h
    split at h
    · have := beq_iff_eq.mp h
      subst this
      exact se_bl
    · cases h
  | .int b, pe, h => by
    simp only [suE] at h
    split at h
    · have := of_decide_eq_true h
      subst this
      exact se_int
    · cases h
  | .str b, pe, h => by
    simp only [suE] at h
    split at h
    · have := of_decide_eq_true h
      subst this
      exact se_str
    · cases h
  | .rd (.var j), pe, h => by
    simp only [suE] at h
    exact se_rd (su_var xk su h)
  | .rd (.fld _ _), _, h => by simp [suE] at h
  | .rd (.sub _ _), _, h => by simp [suE] at h
  | .tup es, pe, h => by
    simp only [suE] at h
    split at h
    · simp only [Bool.and_eq_true, decide_eq_true_eq] at h
      obtain ⟨⟨h1, h2⟩, h3⟩ := h
      exact se_tup (suEs_ok xk su hk es h3) h1 fun e => (evEs_len e).trans h2
    · cases h
  | .b1 .repr x, pe, h => by
    simp only [suE] at h
    split at h
    · simp only [Bool.and_eq_true, decide_eq_true_eq] at h
      obtain ⟨⟨⟨rfl, h2⟩, h3⟩, h4⟩ := h
      exact sb_repr xk (suE_ok xk su hk x h4) (pl_of h3) (su_bt xk su h2)
    · cases h
  | .b1 .len _, _, h => by simp [suE] at h
  | .b1 .abs _, _, h => by simp [suE] at h
  | .b1 .sum _, _, h => by simp [suE] at h
  | .b1 .min _, _, h => by simp [suE] at h
  | .b1 .max _, _, h => by simp [suE] at h
  | .b1 .sorted _, _, h => by simp [suE] at h
  | .b1 .list _, _, h => by simp [suE] at h
  | .b1 .tuple _, _, h => by simp [suE] at h
  | .b1 .int _, _, h => by simp [suE] at h
  | .b1 .any _, _, h => by simp [suE] at h
  | .b1 .all _, _, h => by simp [suE] at h
  | .b1 .bool _, _, h => by simp [suE] at h
  | .b1 .set _, _, h => by simp [suE] at h
  | .b1 .str _, _, h => by simp [suE] at h
  | .cmp op x y, pe, h => by
    simp only [suE] at h
    split at h
    · simp only [Bool.and_eq_true] at h
      obtain ⟨⟨⟨h1, h2⟩, h3⟩, h4⟩ := h
      have := of_decide_eq_true h1
      subst this
      exact se_cmp xk (suE_ok xk su hk x h3) (suE_ok xk su hk y h4) (behind_of h2)
    · cases h
  | .ite q x y, pe, h => by
    simp only [suE] at h
    split at h
    · simp only [Bool.and_eq_true] at h
      obtain ⟨⟨h1, h2⟩, h3⟩ := h
      exact se_ite (suT_ok xk su hk q h1) (suE_ok xk su hk x h2) (suE_ok xk su hk y h3)
    · cases h
  | .glb _, _, h => by simp [suE] at h
  | .sh _, _, h => by simp [suE] at h
  | .mv _, _, h => by simp [suE] at h
  | .bin _ _ _, _, h => by simp [suE] at h
  | .un _ _, _, h => by simp [suE] at h
  | .not _, _, h => by simp [suE] at h
  | .and _ _, _, h => by simp [suE] at h
  | .or _ _, _, h => by simp [suE] at h
  | .chain _ _ _ _ _, _, h => by simp [suE] at h
  | .lst _, _, h => by simp [suE] at h
  | .dic _ _, _, h => by simp [suE] at h
  | .idx _ _, _, h => by simp [suE] at h
  | .slc _ _ _, _, h => by simp [suE] at h
  | .rev _, _, h => by simp [suE] at h
  | .call _ _, _, h => by simp [suE] at h
  | .callk _ _ _, _, h => by simp [suE] at h
  | .meth _ _ _ _, _, h => by simp [suE] at h
  | .new _ _, _, h => by simp [suE] at h
  | .min2 _ _, _, h => by simp [suE] at h
  | .max2 _ _, _, h => by simp [suE] at h
  | .isi _ _, _, h => by simp [suE] at h
  | .bm _ _ _, _, h => by simp [suE] at h
  | .index _ _, _, h => by simp [suE] at h
  | .get1 _ _, _, h => by simp [suE] at h
  | .get2 _ _ _, _, h => by simp [suE] at h
  | .lc _ _ _ _ _, _, h => by simp [suE] at h
  | .dc _ _ _ _ _ _, _, h => by simp [suE] at h
  | .rg1 _ _, _, h => by simp [suE] at h
  | .rg2 _ _ _, _, h => by simp [suE] at h
  | .srs _, _, h => by simp [suE] at h
  | .shv _, _, h => by simp [suE] at h
  | .sda _ _ _, _, h => by simp [suE] at h
theorem suEs_ok {a : Ag} {i : Nat} {n : Str} {p0 dd : Addr} {oe : Obj} (xk : Xk c X k sc) (su : Su a c X n) (hk : Hk c X i n p0 dd oe) : ∀ (es : Es) {pes : List Expr}, suEs a sc i es pes = true → PA X pes (tEs c es)
  | .nil, pes, h => by
    simp only [suEs] at h
    split at h
    · exact sa_nil
    · cases h
  | .cons e es, pes, h => by
    simp only [suEs] at h
    split at h
    · simp only [Bool.and_eq_true] at h
      obtain ⟨⟨h1, h2⟩, h3⟩ := h
      exact sa_cons (suE_ok xk su hk e h2) (suEs_ok xk su hk es h3) (pl_of h1 _)
    · cases h
theorem suT_ok {a : Ag} {i : Nat} {n : Str} {p0 dd : Addr} {oe : Obj} (xk : Xk c X k sc) (su : Su a c X n) (hk : Hk c X i n p0 dd oe) : ∀ (e : E) {pe : Expr}, suT a sc i e pe = true → PT X pe (tT c e)
  | .cmp op x y, pe, h => by
    simp only [suT] at h
    split at h
    · simp only [Bool.and_eq_true] at h
      obtain ⟨⟨⟨h1, h2⟩, h3⟩, h4⟩ := h
      have := of_decide_eq_true h1
      subst this
      exact st_cmp xk (suE_ok xk su hk x h3) (suE_ok xk su hk y h4) (behind_of h2)
    · cases h
  | .or x y, pe, h => by
    simp only [suT] at h
    split at h
    · rw [Bool.and_eq_true] at h
      exact (sw_or (suT_ok xk su hk x h.1) (sw_or1 (suT_ok xk su hk y h.2))).pt
    · cases h
  | .rd (.var j), pe, h => by
    simp only [suT, Bool.and_eq_true] at h
    exact st_of (se_rd (su_var xk su h.2)) xk.K (isD_ok h.1)
  | .rd (.fld _ _), _, h => by simp [suT] at h
  | .rd (.sub _ _), _, h => by simp [suT] at h
  | .eisi j cn, pe, h => by
    simp only [suT] at h
    split at h
    · simp only [Bool.and_eq_true, decide_eq_true_eq, Bool.not_eq_true'] at h
      obtain ⟨⟨⟨⟨⟨⟨⟨⟨⟨rfl, rfl⟩, rfl⟩, h3⟩, h4⟩, h5⟩, h6⟩, h7⟩, h8⟩, h9⟩ := h
      exact st_of (se_eisi hk su (by rw [su.N]; exact h3) (vis_of xk h4) h5 h6 (su_bt xk su h7) (gl_of xk h8) h9) xk.K (isD_ok rfl)
    · cases h
  | .non, _, h => by simp [suT] at h
  | .bl _, _, h => by simp [suT] at h
  | .int _, _, h => by simp [suT] at h
  | .str _, _, h => by simp [suT] at h
  | .glb _, _, h => by simp [suT] at h
  | .sh _, _, h => by simp [suT] at h
  | .mv _, _, h => by simp [suT] at h
  | .bin _ _ _, _, h => by simp [suT] at h
  | .un _ _, _, h => by simp [suT] at h
  | .not _, _, h => by simp [suT] at h
  | .and _ _, _, h => by simp [suT] at h
  | .chain _ _ _ _ _, _, h => by simp [suT] at h
  | .ite _ _ _, _, h => by simp [suT] at h
  | .tup _, _, h => by simp [suT] at h
  | .lst _, _, h => by simp [suT] at h
  | .dic _ _, _, h => by simp [suT] at h
  | .idx _ _, _, h => by simp [suT] at h
  | .slc _ _ _, _, h => by simp [suT] at h
  | .rev _, _, h => by simp [suT] at h
  | .call _ _, _, h => by simp [suT] at h
  | .callk _ _ _, _, h => by simp [suT] at h
  | .meth _ _ _ _, _, h => by simp [suT] at h
  | .new _ _, _, h => by simp [suT] at h
  | .b1 _ _, _, h => by simp [suT] at h
  | .min2 _ _, _, h => by simp [suT] at h
  | .max2 _ _, _, h => by simp [suT] at h
  | .isi _ _, _, h => by simp [suT] at h
  | .bm _ _ _, _, h => by simp [suT] at h
  | .index _ _, _, h => by simp [suT] at h
  | .get1 _ _, _, h => by simp [suT] at h
  | .get2 _ _ _, _, h => by simp [suT] at h
  | .lc _ _ _ _ _, _, h => by simp [suT] at h
  | .dc _ _ _ _ _ _, _, h => by simp [suT] at h
  | .rg1 _ _, _, h => by simp [suT] at h
  | .rg2 _ _ _, _, h => by simp [suT] at h
  | .srs _, _, h => by simp [suT] at h
  | .efld _ _, _, h => by simp [suT] at h
  | .shv _, _, h => by simp [suT] at h
  | .sda _ _ _, _, h => by simp [suT] at h
end
theorem bothS {st : Stmt} {t : TS} (h : PS X st t) : (∀ st', [st] = [st'] → PS X st' t) ∧ PSs X [st] t := ⟨fun st' e => by
  injection e with e1 _
  exact e1 ▸ h, L2.pss_one h⟩
def suS (a : Ag) (sc : Scope) (i : Nat) : TW.S → List Stmt → Bool
  | .pass, sts => match sts with
    | [] => true
    | [.Pass _] => true
    | _ => false
  | .cont, sts => match sts with
    | [.Continue _] => true
    | _ => false
  | .ret e, sts => match sts with
    | [.Return (some pe) _] => suE a sc i e pe
    | _ => false
  | .ite q x y, sts => match sts with
    | [.If pq pa pb _] => suT a sc i q pq && suS a sc i x pa && suS a sc i y pb
    | _ => false
  | .seq x y, sts => match sts with
    | st :: st2 :: rest => suS a sc i x [st] && suS a sc i y (st2 :: rest)
    | _ => false
  | _, _ => false
theorem suS_ok {a : Ag} {i : Nat} {n : Str} {p0 dd : Addr} {oe : Obj} (xk : Xk c X k sc) (su : Su a c X n) (hk : Hk c X i n p0 dd oe) : ∀ (S : TW.S) {sts : List Stmt}, suS a sc i S sts = true → (∀ st, sts = [st] → PS X st (tS c S)) ∧ PSs X sts (tS c S)
  | .pass, sts, h => by
    simp only [suS] at h
    split at h
    · exact ⟨fun st e => (by cases e), sss_nil⟩
    · exact bothS ss_pass
    · cases h
  | .cont, sts, h => by
    simp only [suS] at h
    split at h
    · exact bothS ss_cont
    · cases h
  | .ret e, sts, h => by
    simp only [suS] at h
    split at h
    · exact bothS (ss_ret (suE_ok xk su hk _ h))
    · cases h
  | .ite q x y, sts, h => by
    simp only [suS] at h
    split at h
    · simp only [Bool.and_eq_true] at h
      exact bothS (ss_ite (suT_ok xk su hk _ h.1.1) (suS_ok xk su hk x h.1.2).2 (suS_ok xk su hk y h.2).2)
    · cases h
  | .seq x y, sts, h => by
    simp only [suS] at h
    split at h
    · rw [Bool.and_eq_true] at h
      exact ⟨fun st e => (by injection e with _ e2; cases e2), sss_cons ((suS_ok xk su hk x h.1).1 _ rfl) (suS_ok xk su hk y h.2).2⟩
    · cases h
  | .ex _, _, h => by simp [suS] at h
  | .asg _ _, _, h => by simp [suS] at h
  | .par _ _, _, h => by simp [suS] at h
  | .aug _ _ _, _, h => by simp [suS] at h
  | .retN, _, h => by simp [suS] at h
  | .whl _ _, _, h => by simp [suS] at h
  | .for _ _ _, _, h => by simp [suS] at h
  | .brk, _, h => by simp [suS] at h
  | .rse _ _, _, h => by simp [suS] at h
  | .try _ _, _, h => by simp [suS] at h
  | .hd _ _ _ _, _, h => by simp [suS] at h
  | .hnil, _, h => by simp [suS] at h
  | .sda _ _ _, _, h => by simp [suS] at h
end TW
end

section
set_option maxHeartbeats 1600000
/-! the text agrees with what is reckoned: statements -/
namespace TW
open PySem (Str Addr Expr Stmt Pos Value Obj Shared model PyData Scope Env)
open L2 (V HO Hp Rd upd upd_same upd_ne TE TT TA TS TI TG TGs VK XK Cx PE PT PW PA PS PSs PG PGs PI PO OpR R2 CallR PTs wipe Ends)
variable {c : Ct} {X : Cx} {k : Nat} {sc : Scope} {a : Ag}
structure Sk (a : Ag) (c : Ct) (X : Cx) (k : Nat) (sc : Scope) : Prop extends Gk a c X k sc where
  po : PySem.PassesOwn (model X.prog X.w) X.A X.env X.xe
  wl : WlOk c.g
  kf : X.env.scope.kind = .function
  tk : L2.Takes X c.W
  er : ∀ n, a.errs.contains n = true → Ek c X n
  xo : c.xo = none
  hs : X.stack = X.env :: X.outer
  hf : X.env.frame = some X.env.locals
  ers : ∀ n, c.g.sub n n = true → Ek c X n
  ik : ∀ n n' A, c.C.ecl n = some A → ∀ b, c.g.isk n n' = some b → ∃ A', X.mg n' = some (.ref A') ∧ PySem.W.kitOne X.K (.ref A) (.ref A') = some b
  sb : ∀ n n' A A', c.g.sub n n = true → c.C.ecl n = some A → a.errs.contains n' = true → c.C.ecl n' = some A' → PySem.W.exmOne X.K (.ref A) (.ref A') = some (c.g.sub n n')
theorem Sk.pr {p : List Nat} (g : Sk a c X k sc) : Sk a (c.pr p) X k sc := { g.toGk.pr with po := g.po, wl := g.wl, kf := g.kf, tk := g.tk, er := fun n h => ⟨(g.er n h).ok⟩, xo := g.xo, hs := g.hs, hf := g.hf, ers := fun n h => ⟨(g.ers n h).ok⟩, sb := g.sb, ik := g.ik }
theorem Sk.tr {W : L2.WX} {pn : List (Addr × Obj)} {xe : Value → Shared → Prop} (g : Sk a c X k sc) (tk : L2.Takes (X.tr pn xe) W) (po : PySem.PassesOwn (model X.prog X.w) X.A X.env xe) : Sk a (c.wx W) (X.tr pn xe) k sc :=
  { K := g.K, calm := g.calm, cold := g.cold, room := g.room, rm := g.rm, gd := g.gd, nd := g.nd, sc := g.sc, pass := fun s => L2.passAt tk s, N := g.N, bt := g.bt, fn := fun f h => let ⟨ps, d⟩ := g.fn f h; ⟨ps, ⟨d.ok⟩⟩, con := g.con, fk := fun f h => ⟨(g.fk f h).at_⟩, ck := g.ck, kw := fun f ks h => ⟨(g.kw f ks h).ok⟩, fnc := g.fnc, po := po, wl := g.wl, kf := g.kf, tk := tk, er := fun n h => ⟨(g.er n h).ok⟩, xo := g.xo, hs := g.hs, hf := g.hf, ers := fun n h => ⟨(g.ers n h).ok⟩, sb := g.sb, ik := g.ik }
def ncB : Expr → Bool
  | .ListComp _ _ _ _ => false
  | .SetComp _ _ _ _ => false
  | .DictComp _ _ _ _ _ => false
  | _ => true
theorem nc_sw {pe : Expr} {t : Option Expr} {l : Nat} {env : Env} (h : ncB pe = true) : PySem.swapsWith pe t l env = pure false := by
  cases pe <;> first | rfl | cases h
/-- the store is an own step -/
def swF (sc : Scope) (pt pe : Expr) : Bool := ncB pe || (match pt with
  | .Name y _ => !(locB sc y)
  | .Tuple _ _ _ => true
  | .Subscript _ _ _ => true
  | _ => false)
theorem swF_ok {pt pe : Expr} {l : Nat} (xk : Xk c X k sc) (h : swF sc pt pe = true) : PySem.swapsWithSole [pt] pe l X.env = pure false := by
  show PySem.swapsWith pe (some pt) l X.env = _
  unfold swF at h
  rw [Bool.or_eq_true] at h
  rcases h with h | h
  · exact nc_sw h
  · cases pt with
    | Name y py =>
      have hk : (X.env.kindOf y == some PySem.NameKind.local) = false := by
        show (X.env.scope.names.lookup y == some PySem.NameKind.local) = false
        rw [xk.sc]
        have h2 : (!locB sc y) = true := h
        unfold locB at h2
        cases hl : sc.names.lookup y with
        | none => rfl
        | some kd =>
          rw [hl] at h2
          cases kd <;> first | rfl | cases h2
      cases pe <;> first | rfl | (unfold PySem.swapsWith; simp only [hk, Bool.and_false, Bool.false_and])
    | Tuple _ _ _ => cases pe <;> rfl
    | Subscript _ _ _ => cases pe <;> rfl
    | _ => cases h
def stB : Expr → Expr → Bool
  | .Tuple _ _ _, .Tuple _ _ _ => false
  | .List _ _, .Tuple _ _ _ => false
  | _, _ => true
theorem stB_ok {pt pe : Expr} {env : Env} (h : stB pt pe = true) : PySem.swappedStores [pt] pe env = pure none := by
  cases pt <;> first | rfl | (cases pe <;> first | rfl | cases h)
/-- which names are stored from the right -/
def swS (sc : Scope) (ts vs : List Expr) : Option (Option (List Str)) :=
  if (!(ts.length == 2 || ts.length == 3) || vs.length != ts.length) = true then some none
  else if (vs.any fun | .Starred .. => true | _ => false) = true then some none
  else
    let line := (ts.head?.map (·.pos.line)).getD 0
    let names := ts.filterMap fun
      | .Name id pos => if (sc.names.lookup id == some .local && pos.line == line) = true then some id else none
      | _ => none
    if (names.length != ts.length || names.eraseDups.length != names.length) = true then some none
    else if vs.all (PySem.foldedForSure 8) = true then some none
    else if vs.all (PySem.constantsAlone 8) = true then none
    else some (some names)
theorem swS_ok {ts vs : List Expr} {kt k2 : Nat} {pt pt2 : Pos} {env : Env} {o : Option (List Str)} (hs : env.scope = sc) (hk : sc.kind = .function) (h : swS sc ts vs = some o) : PySem.swappedStores [.Tuple ts kt pt] (.Tuple vs k2 pt2) env = pure o := by
  have hb : env.blockKind = .function := by
    unfold PySem.Env.blockKind
    rw [hs, hk]; rfl
  have hko : ∀ x, env.kindOf x = sc.names.lookup x := fun x => by
    show env.scope.names.lookup x = _
    rw [hs]
  unfold swS at h
  unfold PySem.swappedStores
  simp only [hb, hko] at h ⊢
  rw [show (PySem.ScopeKind.function != PySem.ScopeKind.function) = false from rfl, Bool.or_false]
  split at h
  · rename_i h1
    cases h
    exact if_pos h1
  · rename_i h1
    refine (if_neg h1).trans ?_
    split at h
    · rename_i h2
      cases h
      exact if_pos h2
    · rename_i h2
      refine (if_neg h2).trans ?_
      split at h
      · rename_i h3
        cases h
        exact if_pos h3
      · rename_i h3
        refine (if_neg h3).trans ?_
        split at h
        · rename_i h4
          cases h
          exact if_pos h4
        · rename_i h4
          refine (if_neg h4).trans ?_
          split at h
          · cases h
          · rename_i h5
            cases h
            exact if_neg h5
/-- [..] stored by one step -/
def lcB (sc : Scope) (y : Str) (py : Pos) (scope : Scope) (pos : Pos) : Bool := locB sc y && py.line == pos.line && !(scope.names.any fun (n, k) => n == y && (k == .local || k == .cell))
def agS (a : Ag) (sc : Scope) : TW.S → List Stmt → Bool
  | .seq x y, sts => match sts with
    | st :: st2 :: rest => agS a sc x [st] && agS a sc y (st2 :: rest)
    | _ => false
  | .pass, sts => match sts with
    | [] => true
    | [.Pass _] => true
    | [.Expr (.Constant (.str _) _ _) _] => true
    | _ => false
  | .ex e, sts => match sts with
    | [.Expr pe _] => ncB pe && agE a sc e pe
    | _ => false
  | .asg t e, sts => match sts with
    | [.Assign [pt] pe _] => (match t with
      | .f p f => (match pt with
        | .Attribute po g _ => decide (g = f) && a.flds.contains f && ncB pe && agP a sc p po && agE a sc e pe
        | _ => false)
      | .v i => (match pt, pe, e with
        | .Name y py, .ListComp pelt [⟨ptg, pit, ifs, 0⟩] scope pos, .lc elt tg it cond own => if lcB sc y py scope pos then
            decide (a.N[i]? = some y) && nbB pit && agI a sc it pit ptg && (match ownP a own with
              | some l => L2.blkC a.N sc scope l
              | none => false) && subB tg.slots own && agG a.in (relS scope sc) tg ptg && (match ifs with
              | [] => (match cond with
                | .bl true => true
                | _ => false)
              | [pc] => agT a.in (relS scope sc) cond pc
              | _ => false) && agE a.in (relS scope sc) elt pelt
          else swF sc pt pe && stB pt pe && nsB pt && agG a sc t pt && agE a sc e pe
        | _, _, _ => swF sc pt pe && stB pt pe && nsB pt && agG a sc t pt && agE a sc e pe)
      | t => swF sc pt pe && stB pt pe && nsB pt && agG a sc t pt && agE a sc e pe)
    | _ => false
  | .par ts es, sts => match sts with
    | [.Assign [.Tuple pts _ _] (.Tuple pes _ _) _] => agEs a sc es pes && (match swS sc pts pes with
      | some none => decide (pes.length ≤ 1000) && allNs pts && agGs a sc ts pts && decide (es.n = pes.length) && decide (ts.n = pts.length)
      | some (some names) => (match ts, es, pts, pes with
        | .cons (.v i) (.cons (.v j) .nil), .cons _ (.cons _ .nil), [.Name x _, .Name y _], [_, _] => decide (a.N[i]? = some x) && decide (a.N[j]? = some y) && decide (i ≠ j) && locB sc x && locB sc y && decide (names = [x, y])
        | .cons (.v i) (.cons (.v j) (.cons (.v l) .nil)), .cons _ (.cons _ (.cons _ .nil)), [.Name x _, .Name y _, .Name z _], [_, _, _] => decide (a.N[i]? = some x) && decide (a.N[j]? = some y) && decide (a.N[l]? = some z) && decide (i ≠ j) && decide (i ≠ l) && decide (j ≠ l) && locB sc x && locB sc y && locB sc z && decide (names = [x, y, z])
        | _, _, _, _ => false)
      | none => false)
    | _ => false
  | .ret e, sts => match sts with
    | [.Return (some pe) _] => agE a sc e pe
    | _ => false
  | .retN, sts => match sts with
    | [.Return none _] => true
    | _ => false
  | .ite q x y, sts => match sts with
    | [.If pq pa pb _] => agT a sc q pq && agS a sc x pa && agS a sc y pb
    | _ => false
  | .whl q b, sts => match sts with
    | [.While pq pb [] _] => agT a sc q pq && agS a sc b pb
    | _ => false
  | .for t it b, sts => match sts with
    | [.For pt pit pb [] _] => nbB pit && agI a sc it pit pt && agG a sc t pt && agS a sc b pb
    | _ => false
  | .brk, sts => match sts with
    | [.Break _] => true
    | _ => false
  | .cont, sts => match sts with
    | [.Continue _] => true
    | _ => false
  | .rse n e, sts => match sts with
    | [.Raise (some (.Call (.Name x _) [pe] [] _)) none _] => decide (x = n) && glB sc n && a.errs.contains n && !(n == ("__debug__" : Str)) && nsB pe && agE a sc e pe
    | _ => false
  | .try b hs, sts => match hs, sts with
    | .hd cn (some i) h .hnil, [.Try pb [.ExceptHandler (some (.Name x _)) (some y) (b0 :: suite) _] [] [] _] => decide (x = cn) && glB sc cn && a.errs.contains cn && !(cn == ("__debug__" : Str)) && decide (a.N[i]? = some y) && locB sc y && visB sc y && agS a sc b pb && suS a sc i h (b0 :: suite)
    | _, _ => false
  | .hnil, _ => true
  | _, _ => false
theorem both {st : Stmt} {t : TS} (h : PS X st t) : (∀ st', [st] = [st'] → PS X st' t) ∧ PSs X [st] t := ⟨fun st' e => by
  injection e with e1 _
  exact e1 ▸ h, L2.pss_one h⟩
theorem asg_ok {t : Tg} {e : E} {pt pe : Expr} {pos : Pos} (g : Sk a c X k sc) (h : (swF sc pt pe && stB pt pe && nsB pt && agG a sc t pt && agE a sc e pe) = true) : PS X (.Assign [pt] pe pos) (tS c (.asg t e)) := by
  simp only [Bool.and_eq_true] at h
  obtain ⟨⟨⟨⟨h1, h2⟩, h3⟩, h4⟩, h5⟩ := h
  exact ss_asg (agE_ok e g.toGk h5) (agG_ok t g.toGk h4) (swF_ok g.toXk h1) (stB_ok h2) (asg1_of h3)
theorem agS_ok : ∀ (S : TW.S) {sts : List Stmt} {sc : Scope} {c : Ct} {X : Cx} {k : Nat} {a : Ag}, Sk a c X k sc → agS a sc S sts = true → (∀ st, sts = [st] → PS X st (tS c S)) ∧ PSs X sts (tS c S)
  | .seq x y, sts, sc, c, X, k, a, g, h => by
    simp only [agS] at h
    split at h
    · rw [Bool.and_eq_true] at h
      exact ⟨fun st e => (by injection e with _ e2; cases e2), sss_cons ((agS_ok x g h.1).1 _ rfl) (agS_ok y g h.2).2⟩
    · cases h
  | .pass, sts, sc, c, X, k, a, g, h => by
    simp only [agS] at h
    split at h
    · exact ⟨fun st e => (by cases e), sss_nil⟩
    · exact both ss_pass
    · exact both ss_doc
    · cases h
  | .ex e, sts, sc, c, X, k, a, g, h => by
    simp only [agS] at h
    split at h
    · rw [Bool.and_eq_true] at h
      exact both (ss_ex (agE_ok e g.toGk h.2) (nc_sw h.1))
    · cases h
  | .asg t e, sts, sc, c, X, k, a, g, h => by
    simp only [agS] at h
    split at h
    · rename_i pt pe spos0
      refine both ?_
      cases t with
      | f p f =>
        simp only at h
        split at h
        · simp only [Bool.and_eq_true, decide_eq_true_eq] at h
          have ⟨⟨⟨⟨hgf, h2⟩, h3⟩, h4⟩, h5⟩ := h
          subst hgf
          exact ss_fld (agP_ok p g.toGk h4) (agE_ok e g.toGk h5) g.K (g.fk _ h2) g.ck (nc_sw h3)
        · cases h
      | t ts => exact asg_ok g h
      | s p i => exact asg_ok g h
      | v i =>
        simp only at h
        split at h
        · rename_i y py pelt ptg pit ifs scope pos elt tg it cond own
          split at h
          · rename_i hlc
            simp only [Bool.and_eq_true, decide_eq_true_eq] at h
            obtain ⟨⟨⟨⟨⟨⟨⟨h0, h1⟩, h2⟩, h3⟩, h4⟩, h5⟩, h6⟩, h7⟩ := h
            simp only [lcB, Bool.and_eq_true, Bool.not_eq_true'] at hlc
            obtain ⟨⟨l1, l2⟩, l3⟩ := hlc
            have el := loc_of g.toXk l1
            cases ho : ownP a own with
            | none => rw [ho] at h3; cases h3
            | some l =>
              rw [ho] at h3
              simp only at h3
              have hix := ownP_ix ho
              have hh := ss_asgLc (elt := elt) (cond := cond) (own := l) (pelt := pelt) (ifs := ifs) (pos := pos) (c := c) (tg := tg) (it := it) (i := i) (py := py) (spos := spos0) g.toXk g.cold (by rw [g.N]; exact h0) el (L2.sw_true g.kf el l2 l3) (agI_ok it g.toGk h2) (L2.blkOk_by (by rw [g.N, g.sc]; exact h3))
                (fun s H C cl fp => agG_ok tg g.toGk.blk (by rw [relS_eq, g.sc]; exact h5))
                (fun s H C cl fp => by
                  cases ifs with
                  | nil =>
                    simp only at h6
                    cases cond with
                    | bl b =>
                      cases b with
                      | true => exact sts_nil
                      | false => cases h6
                    | _ => cases h6
                  | cons pc rest =>
                    cases rest with
                    | nil => exact sts_one (agT_ok cond g.toGk.blk (by rw [relS_eq, g.sc]; exact h6))
                    | cons _ _ => cases h6)
                (fun s H C cl fp => agE_ok elt g.toGk.blk (by rw [relS_eq, g.sc]; exact h7)) (folded_of h1) (by rw [hix]; exact sub_of h4) (sg_v g.nd (by rw [g.N]; exact h0) (.inl el) (.inr el))
              rw [hix] at hh
              exact hh
          · exact asg_ok g h
        · exact asg_ok g h
    · cases h
  | .par ts es, sts, sc, c, X, k, a, g, h => by
    simp only [agS] at h
    split at h
    · rename_i pts kt ppt pes k2 ppt2 pos
      rw [Bool.and_eq_true] at h
      obtain ⟨h0, h⟩ := h
      refine both ?_
      have hnc : PySem.swapsWithSole [.Tuple pts kt ppt] (.Tuple pes k2 ppt2) pos.line X.env = pure false := nc_sw (pe := .Tuple pes k2 ppt2) (t := some (.Tuple pts kt ppt)) (l := pos.line) (env := X.env) rfl
      split at h
      · rename_i hw
        simp only [Bool.and_eq_true, decide_eq_true_eq] at h
        obtain ⟨⟨⟨⟨h1, h2⟩, h3⟩, h4⟩, h5⟩ := h
        obtain ⟨b1, b2⟩ := assigns_of (env := X.env) h2
        exact ss_par g.toXk g.cold (agEs_ok es g.toGk h0) (agGs_ok ts g.toGk h3 h2) h1 b1 b2 h4 h5 hnc (swS_ok g.sc (by rw [← g.sc]; exact g.kf) hw) rfl
      · rename_i names hw
        split at h
        · simp only [Bool.and_eq_true, decide_eq_true_eq] at h
          obtain ⟨⟨⟨⟨⟨h1, h2⟩, h3⟩, h4⟩, h5⟩, rfl⟩ := h
          exact ss_par2 g.toXk g.cold (by rw [g.N]; exact h1) (by rw [g.N]; exact h2) h3 (loc_of g.toXk h4) (loc_of g.toXk h5) (agEs_ok _ g.toGk h0) (swS_ok g.sc (by rw [← g.sc]; exact g.kf) hw) hnc
        · simp only [Bool.and_eq_true, decide_eq_true_eq] at h
          obtain ⟨⟨⟨⟨⟨⟨⟨⟨⟨h1, h2⟩, h3⟩, h4⟩, h5⟩, h6⟩, h7⟩, h8⟩, h9⟩, rfl⟩ := h
          exact ss_par3 g.toXk g.cold (by rw [g.N]; exact h1) (by rw [g.N]; exact h2) (by rw [g.N]; exact h3) h4 h5 h6 (loc_of g.toXk h7) (loc_of g.toXk h8) (loc_of g.toXk h9) (agEs_ok _ g.toGk h0) (swS_ok g.sc (by rw [← g.sc]; exact g.kf) hw) hnc
        · cases h
      · cases h
    · cases h
  | .ret e, sts, sc, c, X, k, a, g, h => by
    simp only [agS] at h
    split at h
    · exact both (ss_ret (agE_ok e g.toGk h))
    · cases h
  | .retN, sts, sc, c, X, k, a, g, h => by
    simp only [agS] at h
    split at h
    · exact both ss_retN
    · cases h
  | .ite q x y, sts, sc, c, X, k, a, g, h => by
    simp only [agS] at h
    split at h
    · simp only [Bool.and_eq_true] at h
      exact both (ss_ite (agT_ok q g.toGk h.1.1) (agS_ok x g h.1.2).2 (agS_ok y g h.2).2)
    · cases h
  | .whl q b, sts, sc, c, X, k, a, g, h => by
    simp only [agS] at h
    split at h
    · rw [Bool.and_eq_true] at h
      exact both (ss_whl g.po g.wl (agT_ok q g.toGk h.1) (agS_ok b g h.2).2)
    · cases h
  | .for t it b, sts, sc, c, X, k, a, g, h => by
    simp only [agS] at h
    split at h
    · simp only [Bool.and_eq_true] at h
      obtain ⟨⟨⟨h1, h2⟩, h3⟩, h4⟩ := h
      exact both (ss_for g.po g.toXk g.cold (agI_ok it g.toGk h2) (fun p => agG_ok t g.pr.toGk h3) (fun p => (agS_ok b g.pr h4).2) (folded_of h1))
    · cases h
  | .brk, sts, sc, c, X, k, a, g, h => by
    simp only [agS] at h
    split at h
    · exact both ss_brk
    · cases h
  | .cont, sts, sc, c, X, k, a, g, h => by
    simp only [agS] at h
    split at h
    · exact both ss_cont
    · cases h
  | .hnil, sts, sc, c, X, k, a, g, h => by
    have hn : ∀ D s H, tS c .hnil D s H → L2.tNever D s H := fun D s H ⟨r, Z, F, i0, hs, h⟩ => by
      simp only [ex] at h
      exact h
    exact ⟨fun st e => L2.ps_never.imp hn, L2.pss_never.imp hn⟩
  | .aug _ _ _, _, _, _, _, _, _, _, h => by simp [agS] at h
  | .rse n e, sts, sc, c, X, k, a, g, h => by
    simp only [agS] at h
    split at h
    · simp only [Bool.and_eq_true, decide_eq_true_eq, Bool.not_eq_true'] at h
      obtain ⟨⟨⟨⟨⟨rfl, h2⟩, h3⟩, h4⟩, h5⟩, h6⟩ := h
      exact both (ss_rse g.toXk g.cold g.tk (g.er _ h3) (gl_of g.toXk h2) h4 (agE_ok e g.toGk h6) (pl_of h5))
    · cases h
  | .try b hs, sts, sc, c, X, k, a, g, h => by
    simp only [agS] at h
    split at h
    · simp only [Bool.and_eq_true, decide_eq_true_eq, Bool.not_eq_true'] at h
      obtain ⟨⟨⟨⟨⟨⟨⟨⟨rfl, h2⟩, h3⟩, h4⟩, h5⟩, h6⟩, h7⟩, h8⟩, h9⟩ := h
      obtain ⟨C', fI, ar, msg, hC, T⟩ := (g.er _ h3).ok
      refine both (ss_try (C' := C') g.toXk g.xo g.hs g.hf (by rw [g.N]; exact h5) (loc_of g.toXk h6) ⟨gl_of g.toXk h2, h4, .inl T.gC⟩ g.tk (fun W pn xe tk po => (agS_ok b (g.tr tk po) h8).2) (fun a' oe n A dd pn hz hfl hcl hsu => ?_) (fun n A h1 hA => g.sb n _ A C' h1 hA h3 hC))
      obtain ⟨E0, fI2, ar2, msg2, hE, T2⟩ := (g.ers n hsu).ok
      rw [hE] at hcl
      cases hcl
      exact (suS_ok (k := k) (sc := sc) (X := X.suite a' ((a', oe) :: pn)) (c := c.sx _ a' dd n) ⟨g.K, fun z => Bool.noConfusion z, ⟨g.room.dp, g.room.un⟩, fun z => Bool.noConfusion z, g.gd, g.nd, g.sc, fun s pins H sh e s' I ⟨_, _, _, _, _, _, _, _, _, _, _, _, h⟩ => h⟩ ⟨g.N, g.bt, fun n' A hA b hb => g.ik n n' A hA b hb⟩ ⟨rfl, List.mem_cons_self, ⟨_, hz, hE, fI2, ar2, msg2, T2⟩, hfl⟩ _ h9).2
    · cases h
  | .hd _ _ _ _, _, _, _, _, _, _, _, h => by simp [agS] at h
  | .sda _ _ _, _, _, _, _, _, _, _, h => by simp [agS] at h
end TW
end

section
/-! the defs of a module, all together -/
namespace TW
open PySem (Str Addr Expr Stmt Pos Value Obj Shared model PyData Scope Env Arguments Program World Heap FuncData)
open L2 (V HO Hp Rd upd upd_same upd_ne TE TT TA TS TI TG TGs VK XK Cx PE PT PW PA PS PSs PG PGs PI PO OpR R2 CallR PTs wipe Ends)
structure Ent where
  name : Str
  ps : List Str
  N : List Str
  args : Arguments
  body : List Stmt
  sc : Scope
  F : Fn
abbrev Tab := List Ent
def Tab.fn (tb : Tab) (f : Str) : Option Fn := (tb.find? fun e => e.name == f).map (·.F)
/-- what all defs share -/
structure Md where
  bts : List Str
  cons : List Str
  flds : List Str
  kws : List (Str × List Str) := []
  errs : List Str := []
def Tab.ag (tb : Tab) (m : Md) (e : Ent) : Ag := { N := e.N, bts := m.bts, fns := tb.map fun e => (e.name, e.ps), cons := m.cons, flds := m.flds, kws := m.kws, errs := m.errs }
def entB (tb : Tab) (m : Md) (e : Ent) : Bool := C8.scC e.N e.ps e.sc && decide (e.F.np = e.ps.length) && decide (e.F.ns = e.N.length) && agS (tb.ag m e) e.sc e.F.body e.body
section
variable {C : C0} {H H' : Hp} {Z Z' : Addr → Prop} {xo : Option Xo}
theorem RSt.start : ∀ {ds : List D} {vs : List V} {f : List Addr} {n m : Nat}, RL C H Z ds vs f → RSt C H Z xo n (ds.map some ++ List.replicate m none) (vs.map some ++ List.replicate m none) f
  | [], vs, f, n, m, h => by
    obtain ⟨rfl, rfl⟩ := h
    simp only [List.map_nil, List.nil_append]
    induction m generalizing n with
    | zero => exact ⟨rfl, rfl⟩
    | succ m ih => exact ⟨none, _, rfl, ih _⟩
  | d :: ds, vs, f, n, m, h => by
    obtain ⟨v, vr, f1, f2, rfl, h1, h2, rfl⟩ := h
    exact ⟨v, _, f1, f2, rfl, RX.of h1, RSt.start h2, rfl⟩
theorem finals_ok : ∀ {ds : List D} {vs : List V} {f0 : List Addr} {ρ : Sl} {s : L2.St} {n : Nat} {F : List Addr} {ds' : List D}, RL C H Z ds vs f0 → RSt C H' Z' none n ρ s F → Kp H H' Z Z' [] → (∀ (i : Nat) (d : D), ds[i]? = some d → d.own = true → ∃ v, vs[i]? = some v ∧ s[i]? = some (some v)) → finals ds ρ = some ds' →
    ∃ Fa, Fa.Sublist F ∧ RL C H' Z' ds' vs Fa
  | [], vs, f0, ρ, s, n, F, ds', h, hs, kp, hp, e => by
    have : ds' = [] := by simpa [finals] using e.symm
    subst this
    exact ⟨[], List.nil_sublist _, ⟨h.1, rfl⟩⟩
  | d :: ds, vs, f0, ρ, s, n, F, ds', h, hs, kp, hp, e => by
    obtain ⟨v, vr, f1, f2, rfl, h1, h2, rfl⟩ := h
    cases ρ with
    | nil => simp [finals] at e
    | cons o ρ =>
      have tailP : ∀ {y : Option V} {s' : L2.St}, s = y :: s' → (∀ (i : Nat) (d : D), ds[i]? = some d → d.own = true → ∃ v, vr[i]? = some v ∧ s'[i]? = some (some v)) := fun {y s'} es i d' hd ho => by
        obtain ⟨v', a1, a2⟩ := hp (i + 1) d' (by simpa using hd) ho
        subst es
        exact ⟨v', by simpa using a1, by simpa using a2⟩
      have rest : ∀ {s' : L2.St} {F2 : List Addr} {y : Option V}, s = y :: s' → RSt C H' Z' none (n + 1) ρ s' F2 → ∀ {x : D} {es : List D}, finals ds ρ = some es → ∃ Fa, Fa.Sublist F2 ∧ RL C H' Z' es vr Fa := fun {s' F2 y} es hs2 {x es'} hf => finals_ok h2 hs2 kp (tailP es) hf
      have head : ∃ y s' F1 F2, s = y :: s' ∧ RSt C H' Z' none (n + 1) ρ s' F2 ∧ F = F1 ++ F2 ∧ (∀ e, o = some e → ∃ x, y = some x ∧ RX C H' Z' none n e x F1) ∧ (o = none → F1 = []) := by
        cases o with
        | none =>
          obtain ⟨y, s', es, hs2⟩ := hs
          exact ⟨y, s', [], F, es, hs2, rfl, (fun e q => by cases q), fun _ => rfl⟩
        | some e =>
          obtain ⟨x, s', g1, g2, es, hR, hs2, ef⟩ := hs
          exact ⟨some x, s', g1, g2, es, hs2, ef, (fun e' q => by cases q; exact ⟨x, rfl, hR⟩), fun q => by cases q⟩
      obtain ⟨y, s', F1, F2, es, hs2, ef, hR, hN⟩ := head
      subst ef
      simp only [finals] at e
      split at e
      · rename_i ho
        cases o with
        | none => cases e
        | some ed =>
          simp only at e
          obtain ⟨es', he, rfl⟩ := Option.map_eq_some_iff.mp e
          obtain ⟨Fa, b1, b2⟩ := rest es hs2 (x := d) he
          obtain ⟨x, ey, hx⟩ := hR ed rfl
          obtain ⟨v', c1, c2⟩ := hp 0 d rfl ho
          have ev : v' = v := by simpa using c1.symm
          subst ev
          subst es
          have exv : x = v' := by
            have : y = some v' := by simpa using c2
            rw [ey] at this
            exact Option.some.inj this
          subst exv
          have hRR : R C H' Z' ed x F1 := by
            cases ed with
            | exc n v =>
              obtain ⟨_, o, _, eo, _⟩ := hx
              cases eo
            | _ => exact hx
          exact ⟨F1 ++ Fa, List.Sublist.append_left b1 _, x, vr, F1, Fa, rfl, hRR, b2, rfl⟩
      · rename_i ho
        obtain ⟨es', he, rfl⟩ := Option.map_eq_some_iff.mp e
        obtain ⟨Fa, b1, b2⟩ := rest es hs2 (x := d) he
        have e1 := h1.noown (by simpa using ho)
        subst e1
        exact ⟨Fa, b1.trans (List.sublist_append_right _ _), v, vr, [], Fa, rfl, h1.mono kp, b2, rfl⟩
theorem lentAt_mem : ∀ {ds : List D} {n i : Nat} {d : D}, ds[i]? = some d → d.own = true → n + i ∈ lentAt n ds
  | [], _, _, _, h, _ => by simp at h
  | d :: ds, n, 0, d', h, ho => by
    have e : d = d' := by simpa using h
    subst e
    simp [lentAt, ho]
  | d :: ds, n, i + 1, d', h, ho => by
    have h' : ds[i]? = some d' := by simpa using h
    have := lentAt_mem (n := n + 1) h' ho
    have e : n + 1 + i = n + (i + 1) := by omega
    rw [e] at this
    simp only [lentAt]
    split
    · exact List.mem_cons_of_mem _ this
    · exact this
end
section
variable {P : Program} {w : World} {K : PySem.W.Frag} {mg : Str → Option Value} {base : Heap} {C : C0} {g : G} {tb : Tab} {m : Md}
/-- what the head tells of the module -/
structure Mo (P : Program) (w : World) (K : PySem.W.Frag) (mg : Str → Option Value) (base : Heap) (C : C0) (g : G) (tb : Tab) (m : Md) : Prop where
  hK : C.K = K
  wl : WlOk g
  bt : ∀ x, m.bts.contains x = true → mg x = none
  con : ∀ x, m.cons.contains x = true → ∀ d, g.con x = some d → ∃ i u, d = .int i ∧ mg x = some u ∧ L2.RelV (.int i) u
  fk : ∀ f, m.flds.contains f = true → ∀ n A, C.cls n = some A → L2.NoAttr K A f
  ck : ∀ n A, C.cls n = some A → L2.Cls K A
  df : ∀ e ∈ tb, ∃ fa fd, L2.FunD K e.name e.name e.args e.body e.sc [] [] fa fd ∧ mg e.name = some (.ref fa) ∧ L2.Binds K fd e.ps []
  kw : ∀ f ks, m.kws.contains (f, ks) = true → ∃ e ∈ tb, e.name = f ∧ tb.fn e.name = some e.F ∧ g.ps f = e.ps ∧ ∃ fa fd, L2.FunD K e.name e.name e.args e.body e.sc [] [] fa fd ∧ mg e.name = some (.ref fa) ∧ KB K fd e.ps ks
  er : ∀ n, m.errs.contains n = true → ∃ E fI ar msg, C.ecl n = some E ∧ PySem.TWX.ErrTxt P K mg E fI n ar (g.fld n) msg
  ers : ∀ n, g.sub n n = true → ∃ E fI ar msg, C.ecl n = some E ∧ PySem.TWX.ErrTxt P K mg E fI n ar (g.fld n) msg
  sb : ∀ n n' A A', g.sub n n = true → C.ecl n = some A → m.errs.contains n' = true → C.ecl n' = some A' → PySem.W.exmOne K (.ref A) (.ref A') = some (g.sub n n')
  ik : ∀ n n' A, C.ecl n = some A → ∀ b, g.isk n n' = some b → ∃ A', mg n' = some (.ref A') ∧ PySem.W.kitOne K (.ref A) (.ref A') = some b
  ok : ∀ e ∈ tb, entB tb m e = true
theorem SpF.len {cr : List D → CR} {np : Nat} (h : ∀ ds, cr ds ≠ .bad → ds.length = np) : ∀ vs H Q E, SpF C g.fld cr vs H Q E → vs.length = np := fun vs H Q E ⟨ds, Z, F, i, hr, q⟩ => by
  rw [hr.len]
  refine h ds fun e => ?_
  rw [e] at q
  exact q
theorem run_len {T : Str → Option Fn} {n : Nat} {f : Str} {F : Fn} (hT : T f = some F) {ds : List D} (h : run T g n f ds ≠ .bad) : ds.length = F.np := by
  cases n with
  | zero => exact absurd rfl h
  | succ n =>
    simp only [run, hT] at h
    split at h
    · assumption
    · exact absurd rfl h
theorem find_mem {f : Str} (h : (tb.any fun e : Ent => e.name == f) = true) : ∃ e ∈ tb, e.name = f ∧ tb.fn f = some e.F := by
  unfold Tab.fn
  cases hf : tb.find? (fun e : Ent => e.name == f) with
  | none =>
    rw [List.find?_eq_none] at hf
    obtain ⟨e, he, e2⟩ := List.any_eq_true.mp h
    exact absurd e2 (hf e he)
  | some e => exact ⟨e, List.mem_of_find?_eq_some hf, beq_iff_eq.mp (List.find?_some (p := fun e : Ent => e.name == f) hf), rfl⟩
theorem tab_ok (M : Mo P w K mg base C g tb m) : ∀ n : Nat, ∀ e ∈ tb, tb.fn e.name = some e.F → ∀ fa fd, L2.FunD K e.name e.name e.args e.body e.sc [] [] fa fd → FnG P w K mg base n fa fd e.ps (SpF C g.fld (run tb.fn g n e.name))
  | 0, e, he, hT, fa, fd, F => ⟨fun vs H Q E ⟨_, _, _, _, _, q⟩ => q.elim, fun _ _ _ _ _ _ _ _ _ _ _ _ _ ⟨_, _, _, _, _, q⟩ => q.elim⟩
  | n + 1, e, he, hT, fa, fd, F => by
    have hB := M.ok e he
    simp only [entB, Bool.and_eq_true, decide_eq_true_eq] at hB
    obtain ⟨⟨⟨b1, b2⟩, b3⟩, b4⟩ := hB
    have S := C8.fnScope_by b1
    refine FnG.fn F S (SpF.len (g := g) fun ds h => (run_len hT h).trans b2) fun cdv A outer s H vs Q E hr hsp => ?_
    obtain ⟨ds, Z, F0, i0, hds, q⟩ := hsp
    have hlen : ds.length = e.F.np := run_len (n := n + 1) (g := g) hT (ds := ds) fun z => by
      rw [z] at q
      exact q
    simp only [run, hT, hlen, if_true] at q
    let c : Ct := { C := C, g := { g with call := run tb.fn g n, prot := lentAt 0 ds }, xo := none, W := fun A d _ H => E A d H }
    have sk : Sk (tb.ag m e) c (L2.cxOf (L2.CX P w) P w K mg base e.N e.name e.sc fa cdv A outer s H E) n e.sc := {
      K := M.hK.symm
      calm := fun _ => rfl
      cold := rfl
      room := ⟨hr.rm.dp, hr.rm.un⟩
      rm := fun _ => hr.rm
      gd := hr.gd
      nd := S.nd
      sc := rfl
      pass := fun s => L2.passAt (L2.takes_of rfl rfl rfl rfl) s
      N := rfl
      bt := fun x h => M.bt x h
      fn := fun f h => by
        have h' : (tb.any fun e : Ent => e.name == f) = true := by
          have : ((tb.map fun e : Ent => (e.name, e.ps)).any fun q => q.1 == f) = true := h
          simpa [List.any_map] using this
        obtain ⟨e', he', rfl, hT'⟩ := find_mem h'
        obtain ⟨fa', fd', F', m', b'⟩ := M.df e' he'
        exact ⟨e'.ps, ⟨fa', fd', m', F'.kp, b', tab_ok M n e' he' hT' fa' fd' F'⟩⟩
      con := fun x h d hd => M.con x h d hd
      fk := fun f h => ⟨fun n A hc => M.fk f h n A hc⟩
      ck := fun n A hc => M.ck n A hc
      kw := fun f ks h => by
        obtain ⟨e', he', rfl, hT', hps, fa', fd', F', m', b'⟩ := M.kw f ks h
        exact ⟨fa', fd', e'.ps, hps, m', F'.kp, b', tab_ok M n e' he' hT' fa' fd' F'⟩
      fnc := fun _ _ _ => rfl
      po := L2.passes_of rfl
      wl := fun step ρ h => M.wl step ρ h
      kf := S.kind
      tk := L2.takes_of rfl rfl rfl rfl
      er := fun n h => ⟨M.er n h⟩
      xo := rfl
      hs := rfl
      hf := rfl
      ers := fun n h => ⟨M.ers n h⟩
      sb := fun n n' A A' h1 h2 h3 h4 => M.sb n n' A A' h1 h2 h3 h4
      ik := fun n n' A hA b hb => M.ik n n' A hA b hb }
    refine ⟨tS c e.F.body, (agS_ok e.F.body sk b4).2, ?_⟩
    have hpl : vs.length = e.ps.length := by rw [hds.len, hlen, b2]
    refine ⟨startD e.F ds, Z, F0, i0, ?_, ?_⟩
    · have := RSt.start (xo := none) (n := 0) (m := e.F.ns - e.F.np) hds
      have em : e.N.length - vs.length = e.F.ns - e.F.np := by rw [hpl, b3, b2]
      show RSt C H Z none 0 (ds.map some ++ List.replicate (e.F.ns - e.F.np) none) (L2.start e.N vs) F0
      unfold L2.start
      rw [em]
      exact this
    · change match finish ds (ex e.F.body c.g (startD e.F ds)) with
        | .ok d ds' => ∀ x H' Z' F' f, Stp H Z F0 H' Z' (f ++ F') → RL C H' Z' ds' vs F' → R C H' Z' d x f → Q x H'
        | .exc n v ds' => ∀ A dd H' Z' F' w, C.ecl n = some A → Stp H Z F0 H' Z' F' → RL C H' Z' ds' vs F' → H' dd = some (.xd [(g.fld n, w)]) → Z' dd → R C H' Z' v w [] → E (.ref A) (some dd) H'
        | .bad => False at q
      have args : ∀ {s' : L2.St} {H' : Hp} {Z' : Addr → Prop} {F' f : List Addr} {ρ : Sl} {ds' : List D}, Stp H Z F0 H' Z' (f ++ F') → RSt C H' Z' none 0 ρ s' F' → SKp c.g.prot (L2.start e.N vs) s' → finals ds ρ = some ds' → ∃ Fa, Stp H Z F0 H' Z' (f ++ Fa) ∧ RL C H' Z' ds' vs Fa := fun {s' H' Z' F' f ρ ds'} st rs skp hf => by
        obtain ⟨Fa, a1, a2⟩ := finals_ok hds rs ⟨st.z, fun a o hz ho => st.keep a o ho fun hF => by
          rcases hz with hz | hz
          · cases hz
          · exact i0.nz a hF hz⟩ (fun i d hd ho => by
            have hm := lentAt_mem (n := 0) hd ho
            rw [Nat.zero_add] at hm
            have hi : i < vs.length := by
              rw [hds.len]
              exact (List.getElem?_eq_some_iff.mp hd).1
            refine ⟨vs[i], List.getElem?_eq_getElem hi, ?_⟩
            rw [skp i hm]
            unfold L2.start
            rw [List.getElem?_append_left (by simpa using hi)]
            simp [List.getElem?_eq_getElem hi]) hf
        exact ⟨Fa, st.sub (List.Sublist.append_left a1 _), a2⟩
      cases hx : ex e.F.body c.g (startD e.F ds) with
      | bad =>
        rw [hx] at q
        exact q
      | exc n v ρ =>
        rw [hx] at q
        intro A dd s' H' ⟨Z', F', w, c1, c2, c3, c4, c5, c6⟩ skp
        simp only [finish] at q
        cases hf : finals ds ρ with
        | none => rw [hf] at q; exact q.elim
        | some ds' =>
          rw [hf] at q
          obtain ⟨Fa, d1, d2⟩ := args (f := []) c1 c2 skp hf
          exact q A dd H' Z' Fa w c3 d1 d2 c4 c5 c6
      | ok fl ρ =>
        rw [hx] at q
        simp only [finish] at q
        cases hf : finals ds ρ with
        | none => rw [hf] at q; exact q.elim
        | some ds' =>
          rw [hf] at q
          cases fl with
          | nx =>
            intro s' H' Z' F' c1 c2 skp
            obtain ⟨Fa, d1, d2⟩ := args (f := []) c1 c2 skp hf
            exact q .non H' Z' Fa [] d1 d2 ⟨rfl, rfl⟩
          | bk => exact q.elim
          | ct => exact q.elim
          | rt d =>
            intro x s' H' Z' F' f c1 c2 c3 skp
            obtain ⟨Fa, d1, d2⟩ := args c1 c2 skp hf
            exact q x H' Z' Fa f d1 d2 c3
end
end TW
end

section
set_option maxRecDepth 100000
/-! how plain defs bind -/
open PySem TW
namespace TW
theorem lookup_zip_some {ps : List Str} {us : List Value} (hl : us.length = ps.length) : ∀ n ∈ ps, ((ps.zip us).lookup n).isNone = false := by
  induction ps generalizing us with
  | nil => intro n h; cases h
  | cons p ps ih =>
    intro n hn
    cases us with
    | nil => simp at hl
    | cons u us =>
      simp only [List.length_cons, Nat.add_right_cancel_iff] at hl
      rw [List.zip_cons_cons, List.lookup_cons]
      split
      · rfl
      · rename_i h
        rcases List.mem_cons.mp hn with rfl | hn
        · simp at h
        · exact ih hl n hn
theorem lookup_zip {ps : List Str} {us : List Value} (nd : ps.Nodup) (hl : us.length = ps.length) : ps.filterMap (fun n => ((ps.zip us).lookup n).map (n, ·)) = ps.zip us := by
  induction ps generalizing us with
  | nil => rfl
  | cons p ps ih =>
    cases us with
    | nil => simp at hl
    | cons u us =>
      simp only [List.nodup_cons] at nd
      simp only [List.length_cons, Nat.add_right_cancel_iff] at hl
      rw [List.zip_cons_cons, List.filterMap_cons, List.lookup_cons_self]
      simp only [Option.map_some]
      congr 1
      refine Eq.trans ?_ (ih nd.2 hl)
      have hh : ∀ l : List Str, (∀ x ∈ l, x ≠ p) → l.filterMap (fun n => (((p, u) :: ps.zip us).lookup n).map (n, ·)) = l.filterMap (fun n => ((ps.zip us).lookup n).map (n, ·)) := by
        intro l
        induction l with
        | nil => intro _; rfl
        | cons x l ihl =>
          intro hx
          have hxp : (x == p) = false := beq_eq_false_iff_ne.mpr (hx x List.mem_cons_self)
          rw [List.filterMap_cons, List.filterMap_cons, List.lookup_cons, hxp, ihl fun y hy => hx y (List.mem_cons_of_mem _ hy)]
      exact hh ps fun x hx z => nd.1 (z ▸ hx)
structure Plain (a : Arguments) (ps : List Str) : Prop where
  po : a.posonlyargs = []
  ar : a.args.map (·.arg) = ps
  va : a.vararg = none
  ko : a.kwonlyargs = []
  kw : a.kwarg = none
  nd : ps.Nodup
theorem bind_plain {name qual : Str} {a : Arguments} {ps : List Str} {body : List Stmt} {sc : Scope} {kV doc pm cdv ct : Value} {an : Option Addr} {us : List Value} (h : Plain a ps) (hl : us.length = ps.length) :
    bindArgs (PySem.W.fnOf name qual a body sc .none kV doc pm an cdv ct) ⟨us, []⟩ = pure (ps.zip us) := by
  obtain ⟨po, ar, va, ko, kk, _, _⟩ := a
  obtain ⟨h1, h2, h3, h4, h5, nd⟩ := h
  simp only at h1 h2 h3 h4 h5
  subst h1 h2 h3 h4 h5
  unfold bindArgs
  simp only [PySem.W.fnOf, List.map_nil, List.nil_append]
  have e : seqItems? Value.none = pure none := rfl
  have key := lookup_zip (us := us) nd hl
  have hlen : ((ar.map (·.arg)).zip us).length = us.length := by simp [hl]
  have hm : ∀ l : List Str, (∀ n ∈ l, n ∈ ar.map (·.arg)) → l.filter (fun n => (List.lookup n ((ar.map (·.arg)).zip us)).isNone) = [] := fun l hs => List.filter_eq_nil_iff.mpr fun n hn => by
    rw [lookup_zip_some hl n (hs n hn)]
    exact Bool.false_ne_true
  simp [e, hl]
  refine (if_neg ?_).trans ?_
  · rw [hm _ fun n hn => List.mem_of_mem_take hn]
    exact Bool.false_ne_true
  · rw [List.filterMap_map] at key
    exact congrArg pure key

theorem takeN_keys {α : Type} {p : Str} : ∀ {ks : List Str} {vs : List α} {v : α} {ks' : List Str} {vs' : List α}, takeN p ks vs = some (v, ks', vs') → ks.length = vs.length → ks'.length = vs'.length ∧ (ks.zip vs).lookup p = some v ∧ (∀ x, x ≠ p → (ks.zip vs).lookup x = (ks'.zip vs').lookup x) ∧ (∀ x, x ∈ ks ↔ x = p ∨ x ∈ ks') ∧ (ks.Nodup → ks'.Nodup ∧ p ∉ ks')
  | [], _, _, _, _, h, _ => by simp [takeN] at h
  | k :: ks, [], _, _, _, h, _ => by simp [takeN] at h
  | k :: ks, u :: vs, v, ks', vs', h, hl => by
    simp only [takeN] at h
    simp only [List.length_cons, Nat.add_right_cancel_iff] at hl
    split at h
    · rename_i e
      subst e
      cases h
      refine ⟨hl, by simp, fun x hx => ?_, fun x => List.mem_cons, fun nd => ?_⟩
      · have : (x == k) = false := beq_eq_false_iff_ne.mpr hx
        simp [List.lookup_cons, this]
      · simp only [List.nodup_cons] at nd
        exact ⟨nd.2, nd.1⟩
    · rename_i e
      obtain ⟨⟨v0, k0, u0⟩, hq, hz⟩ := Option.map_eq_some_iff.mp h
      cases hz
      obtain ⟨a1, a2, a3, a4, a5⟩ := takeN_keys hq hl
      have epk : (p == k) = false := beq_eq_false_iff_ne.mpr fun z => e z.symm
      refine ⟨by simp [a1], by simp [List.lookup_cons, epk, a2], fun x hx => ?_, fun x => ?_, fun nd => ?_⟩
      · simp only [List.zip_cons_cons, List.lookup_cons]
        rw [a3 x hx]
      · simp only [List.mem_cons, a4]
        constructor
        · rintro (h | h | h)
          · exact .inr (.inl h)
          · exact .inl h
          · exact .inr (.inr h)
        · rintro (h | h | h)
          · exact .inr (.inl h)
          · exact .inl h
          · exact .inr (.inr h)
      · simp only [List.nodup_cons] at nd ⊢
        obtain ⟨b1, b2⟩ := a5 nd.2
        refine ⟨⟨fun z => nd.1 ((a4 k).mpr (.inr z)), b1⟩, ?_⟩
        simp only [List.mem_cons, not_or]
        exact ⟨fun z => e z.symm, b2⟩
theorem reord_look {ps : List Str} : ∀ {ks : List Str} {us zs : List Value}, ps.Nodup → ks.length = us.length → reord ps ks us = some zs → ps.length = zs.length ∧ (∀ x, x ∈ ks ↔ x ∈ ps) ∧ ∀ l : List Str, (∀ x ∈ l, x ∈ ps) → l.map (fun n => ((ks.zip us).lookup n)) = l.map fun n => ((ps.zip zs).lookup n) := by
  induction ps with
  | nil =>
    intro ks us zs _ hl h
    cases ks with
    | nil =>
      cases us with
      | nil =>
        simp [reord] at h
        subst h
        exact ⟨rfl, fun x => Iff.rfl, fun l _ => rfl⟩
      | cons _ _ => simp at hl
    | cons _ _ => cases us <;> simp [reord] at h
  | cons p ps ih =>
    intro ks us zs nd hl h
    simp only [List.nodup_cons] at nd
    simp only [reord] at h
    obtain ⟨⟨v, k', u'⟩, hq, h2⟩ := Option.bind_eq_some_iff.mp h
    obtain ⟨zs', hz, rfl⟩ := Option.map_eq_some_iff.mp h2
    obtain ⟨a1, a2, a3, a4, a5⟩ := takeN_keys hq hl
    obtain ⟨b1, b2, b3⟩ := ih nd.2 a1 hz
    refine ⟨by simp [b1], fun x => by rw [a4, b2, List.mem_cons], fun l hlm => List.map_congr_left fun x hx => ?_⟩
    by_cases e : x = p
    · subst e
      simp [a2, List.lookup_cons]
    · have e2 : (x == p) = false := beq_eq_false_iff_ne.mpr e
      rw [a3 x e, List.zip_cons_cons, List.lookup_cons, e2]
      have hxp : x ∈ ps := by
        rcases List.mem_cons.mp (hlm x hx) with h | h
        · exact absurd h e
        · exact h
      have := b3 [x] (fun y hy => by rw [List.mem_singleton.mp hy]; exact hxp)
      simpa using this
abbrev KV : Type := List (Str × Value)
theorem forIn_kw (f : Str × Value → KV × KV → Sem (ForInStep (KV × KV))) : ∀ (l s0 : KV), (∀ q ∈ l, ∀ s : KV × KV, (s.1.lookup q.1).isSome = false → f q s = pure (.yield (s.1 ++ [(q.1, q.2)], s.2))) → (∀ q ∈ l, (s0.lookup q.1) = none) → (l.map (·.1)).Nodup → forIn l (s0, []) f = pure (s0 ++ l, [])
  | [], s0, _, _, _ => by simp
  | q :: l, s0, h, h0, nd => by
    simp only [List.map_cons, List.nodup_cons] at nd
    rw [List.forIn_cons, h q List.mem_cons_self _ (by rw [h0 q List.mem_cons_self]; rfl), pure_bind]
    show forIn l (s0 ++ [(q.1, q.2)], []) f = _
    rw [forIn_kw f l _ (fun q' hq => h q' (List.mem_cons_of_mem _ hq)) (fun q' hq => ?_) nd.2]
    · simp
    · have ne : q'.1 ≠ q.1 := fun z => nd.1 (z ▸ List.mem_map_of_mem hq)
      rw [List.lookup_append, h0 q' (List.mem_cons_of_mem _ hq)]
      have : (q'.1 == q.1) = false := beq_eq_false_iff_ne.mpr ne
      simp [List.lookup_cons, this]
theorem bind_kw {name qual : Str} {a : Arguments} {ps ks : List Str} {body : List Stmt} {sc : Scope} {kV doc pm cdv ct : Value} {an : Option Addr} {us zs : List Value} (h : Plain a ps) (ndk : ks.Nodup) (hl : ks.length = us.length) (hr : reord ps ks us = some zs) :
    bindArgs (PySem.W.fnOf name qual a body sc .none kV doc pm an cdv ct) ⟨[], ks.zip us⟩ = pure (ps.zip zs) := by
  obtain ⟨po, ar, va, ko, kk, _, _⟩ := a
  obtain ⟨h1, h2, h3, h4, h5, nd⟩ := h
  simp only at h1 h2 h3 h4 h5
  subst h1 h2 h3 h4 h5
  obtain ⟨r1, r2, r3⟩ := reord_look nd hl hr
  unfold bindArgs
  simp only [PySem.W.fnOf, List.map_nil, List.nil_append]
  have e : seqItems? Value.none = pure none := rfl
  have key := lookup_zip (us := zs) nd r1.symm
  have hk1 : (ks.zip us).map (·.1) = ks := by
    rw [List.map_fst_zip]; omega
  have hmem : ∀ q ∈ ks.zip us, q.1 ∈ ar.map (·.arg) := fun q hq => (r2 q.1).mp (by rw [← hk1]; exact List.mem_map_of_mem hq)
  have hlk : ∀ n ∈ ar.map (·.arg), (ks.zip us).lookup n = ((ar.map (·.arg)).zip zs).lookup n := fun n hn => by
    have := r3 [n] (fun x hx => by rw [List.mem_singleton.mp hx]; exact hn)
    simpa using this
  have hm : ∀ l : List Str, (∀ n ∈ l, n ∈ ar.map (·.arg)) → l.filter (fun n => (List.lookup n (ks.zip us)).isNone) = [] := fun l hs => List.filter_eq_nil_iff.mpr fun n hn => by
    rw [hlk n (hs n hn), lookup_zip_some r1.symm n (hs n hn)]
    exact Bool.false_ne_true
  simp [e]
  refine Eq.trans (congrArg (fun z => z >>= _) (forIn_kw _ (ks.zip us) [] (fun q hq s hs => ?_) (fun q _ => rfl) (by rw [hk1]; exact ndk))) ?_
  · have : ∃ a, a ∈ ar ∧ a.arg = q.1 := by simpa using hmem q hq
    rw [if_pos this, if_neg (by rw [hs]; exact Bool.false_ne_true)]
  · rw [pure_bind]
    simp only [List.nil_append]
    refine (if_neg ?_).trans ?_
    · rw [hm _ fun n hn => List.mem_of_mem_take hn]
      exact Bool.false_ne_true
    · refine congrArg pure ?_
      rw [← key]
      have : ∀ l : List Str, (∀ n ∈ l, n ∈ ar.map (·.arg)) → l.filterMap (fun n => Option.map (fun x => (n, x)) (List.lookup n (ks.zip us))) = l.filterMap (fun n => Option.map (fun x => (n, x)) (List.lookup n ((ar.map (·.arg)).zip zs))) := by
        intro l
        induction l with
        | nil => intro _; rfl
        | cons x l ih =>
          intro hx
          rw [List.filterMap_cons, List.filterMap_cons, hlk x (hx x List.mem_cons_self), ih fun y hy => hx y (List.mem_cons_of_mem _ hy)]
      have h3 := this (ar.map (·.arg)) fun n hn => hn
      rw [List.filterMap_map] at h3
      rw [List.filterMap_map] at h3
      rw [h3, List.filterMap_map]
theorem takeN_len {α : Type} {p : Str} : ∀ {ks : List Str} {vs : List α} {v : α} {ks' : List Str} {vs' : List α}, takeN p ks vs = some (v, ks', vs') → ks'.length = vs'.length → ks.length = vs.length
  | [], _, _, _, _, h, _ => by simp [takeN] at h
  | k :: ks, [], _, _, _, h, _ => by simp [takeN] at h
  | k :: ks, u :: vs, v, ks', vs', h, hl => by
    simp only [takeN] at h
    split at h
    · cases h
      simp [hl]
    · obtain ⟨⟨v0, k0, u0⟩, hq, hz⟩ := Option.map_eq_some_iff.mp h
      cases hz
      simp only [List.length_cons, Nat.add_right_cancel_iff] at hl ⊢
      exact takeN_len hq hl
theorem reord_len {α : Type} : ∀ {ps ks : List Str} {us zs : List α}, reord ps ks us = some zs → ks.length = us.length
  | [], [], [], _, _ => rfl
  | [], _ :: _, _, _, h => by cases h
  | [], [], _ :: _, _, h => by cases h
  | p :: ps, ks, us, zs, h => by
    simp only [reord] at h
    obtain ⟨⟨v, k', u'⟩, hq, h2⟩ := Option.bind_eq_some_iff.mp h
    obtain ⟨zs', hz, rfl⟩ := Option.map_eq_some_iff.mp h2
    exact takeN_len hq (reord_len hz)
def plainB (a : Arguments) (ps : List Str) : Bool := a.posonlyargs.isEmpty && decide (a.args.map (·.arg) = ps) && a.vararg.isNone && a.kwonlyargs.isEmpty && a.kwarg.isNone && decide ps.Nodup
theorem plainB_ok {a : Arguments} {ps : List Str} (h : plainB a ps = true) : Plain a ps := by
  simp only [plainB, Bool.and_eq_true, decide_eq_true_eq, List.isEmpty_iff, Option.isNone_iff_eq_none] at h
  obtain ⟨⟨⟨⟨⟨h1, h2⟩, h3⟩, h4⟩, h5⟩, h6⟩ := h
  exact ⟨h1, h2, h3, h4, h5, h6⟩
end TW
end

section
set_option maxRecDepth 100000
/-! the head: what the module's top leaves, by one look -/
namespace TW
open PySem (Str Addr Expr Stmt Pos Value Obj Shared model PyData Scope Env Arguments Program World Heap FuncData FuncBody mainGlobals builtinsNs cStatics)
open PySem.W (Frag nsIn findIn typeIn keepIn subIn hasDictIn exmOne codeIn)
open PySem.TWX (ErrTxt InitPos iA iB iS SupEv veB)
open He (ga ma fAd FnW DefD eqO ba frG frG_in asD fnW)
/-! ### own errors -/
/-- where the words of an __init__ stand, off its text -/
def posI (a : Arguments) : List Stmt → InitPos
  | [.Expr (.Call (.Attribute (.Call (.Name _ p0) [] [] p1) _ p2) [.Constant _ k p3, .Name _ p4] [] p5) p6, .Assign [.Attribute (.Name _ q1) _ q2] (.Name _ q3) q4] =>
    ⟨p0, p1, p2, p3, p4, p5, p6, q1, q2, q3, q4, (a.args.map (·.pos)).getD 0 p0, (a.args.map (·.pos)).getD 1 p0, k⟩
  | _ => let p : Pos := ⟨0, 0, 0, 0⟩; ⟨p, p, p, p, p, p, p, p, p, p, p, p, p, 0⟩
/-- .. of a class's text -/
def posC : Stmt → InitPos
  | .ClassDef _ _ _ (.FunctionDef _ a b _ _ _ _ _ _ _ :: _) _ _ _ _ _ _ _ => posI a b
  | _ => posI ⟨[], [], none, [], [], none, []⟩ []
structure HErr where
  name : Str
  ar : Str
  fl : Str
  msg : Str
  qual : Str
  pos : InitPos
abbrev FnI : Type := Option (Str × Str × Arguments × FuncBody × Scope × Addr × List Str × Value × Value × Addr)
def fnI (K : Frag) (p : Str × Option Str) : FnI := match K.lookup (fAd K p) with
  | some ⟨_, _, .func fd, _⟩ => some (fd.name, fd.qualname, fd.params, fd.body, fd.scope, fd.globals, fd.closure.map (·.1), fd.defaults, fd.kwdefaults, fd.builtins)
  | _ => none
def HErr.val (e : HErr) : FnI := some ("__init__", e.qual, iA e.ar e.pos, .stmts (iB e.ar e.fl e.msg e.pos), iS e.ar, mainGlobals, ["__class__"], .none, .none, builtinsNs)
def eqV (a b : Option Value) : Bool := decide (a = b)
def clsVE (K : Frag) (C : Addr) : Bool := match K.lookup C with
  | some ⟨.type "type", _, .cls cd, sl⟩ => (match cd.mro, sl.toList with
    | .ref C' :: bm, [_, _, _, _, some (.builtin n), _] => C' == C && n == "ValueError.__new__" && !cd.hasDel && cd.hasDict && PySem.HandSPX.refsVE bm
    | _, _ => false)
  | _ => false
theorem clsVE_ok {K : Frag} {C : Addr} (q : clsVE K C = true) : ∃ nm q N bs bm sn sub ab col dd k0 k1 k2 k3 k5, K.lookup C = some (PySem.excClassObj nm q C N bs bm true sn sub ab col dd k0 k1 k2 k3 k5 "ValueError.__new__") ∧ PySem.HandSPX.refsVE bm = true := by
  unfold clsVE at q
  split at q
  · rename_i dd cd sl ho
    split at q
    · rename_i C' bm k0 k1 k2 k3 n k5 hm hs
      simp only [Bool.and_eq_true, beq_iff_eq, Bool.not_eq_true'] at q
      obtain ⟨⟨⟨⟨rfl, rfl⟩, hdel⟩, hdict⟩, ht⟩ := q
      obtain ⟨nm, bs, mro, ns, qn, hd, sn, sub, ab, col, del⟩ := cd
      dsimp only at hm hdel hdict
      subst hm hdel hdict
      have hsl : sl = #[k0, k1, k2, k3, some (.builtin "ValueError.__new__"), k5] := by
        obtain ⟨l⟩ := sl
        simp only at hs
        rw [hs]
      subst hsl
      exact ⟨nm, qn, ns, bs, bm, sn, sub, ab, col, dd, k0, k1, k2, k3, k5, ho, ht⟩
    · cases q
  · cases q
/-- what stands behind the __init__ -/
def codI (file : Str) (K : Frag) (C fI : Addr) (q : Str) : Bool := match K.lookup fI with
  | some ⟨_, _, .func fd, _⟩ => codeIn K fd.code q && (match fd.code with
    | .ref cda => (match K.lookup cda with
      | some ⟨_, _, .fields vs, _⟩ => (match vs[2]? with
        | some (Value.str f _) => file == f
        | _ => false)
      | _ => false)
    | _ => false) && (match fd.closure with
    | [(_, cc)] => (match K.lookup cc with
      | some ⟨_, _, .cell (some (.ref C')), _⟩ => C' == C
      | _ => false)
    | _ => false)
  | _ => false
def errB (file : Str) (K : Frag) (e : HErr) : Bool :=
  eqO (nsIn K mainGlobals e.name) (some (some (.ref (ga K e.name)))) &&
  (clsVE K (ga K e.name) &&
  (eqO (findIn K (.ref (ga K e.name)) "__setattr__") (some (some (.builtin "object.__setattr__"))) &&
  (eqO (findIn K (.ref (ga K e.name)) "__getattribute__") (some (some (.builtin "BaseException.__getattribute__"))) &&
  (eqO (findIn K (.ref (ga K e.name)) "__getattr__") (some none) &&
  (eqO (findIn K (.ref (ga K e.name)) e.fl) (some none) &&
  (eqO (findIn K (.ref (ga K e.name)) "__init__") (some (some (.ref (ma K (ga K e.name) "__init__")))) &&
  (eqV (typeIn K (.ref (ma K (ga K e.name) "__init__"))) (some (.type "function")) &&
  (keepIn K (.ref (ga K e.name)) &&
  (decide (subIn K (.ref (ga K e.name)) (.type "BaseException") = some true) &&
  (decide (subIn K (.ref (ga K e.name)) (.type "ValueError") = some true) &&
  (eqV (typeIn K (.ref (ga K e.name))) (some (.type "type")) &&
  (hasDictIn K (ga K e.name) &&
  (decide (exmOne K (.ref (ga K e.name)) (.ref (ga K e.name)) = some true) &&
  (eqO (PySem.W.ks_superIn K (ga K e.name) (ga K e.name) "__init__") (some (some (.builtin "ValueError.__init__"))) &&
  (decide (PySem.W.mroIn K (ga K e.name) (.ref (ga K e.name)) = some true) &&
  (PySem.W.excInitIn K (ga K e.name) veB "ValueError.__new__" &&
  (eqO (findIn K (.ref (ga K e.name)) "__class__") (some (some (.builtin "object.__class__"))) &&
  (eqO (PySem.W.specialIn K (.builtin "object.__class__") "__get__") (some (some (.builtin "getset_descriptor.__get__"))) &&
  (decide (PySem.W.takesIn K (.builtin "object.__class__") = some true) &&
  (decide (PySem.W.mroIn K (ga K e.name) (.type "object") = some true) &&
  codI file K (ga K e.name) (ma K (ga K e.name) "__init__") e.qual))))))))))))))))))))
/-- what the text alone says of it -/
structure HErr.Ok (e : HErr) : Prop where
  ne1 : e.ar ≠ "self"
  ne4 : (e.ar == ("__debug__" : Str)) = false
  ks : (iS e.ar).names.lookup ("self" : Str) = some .local
  ka : (iS e.ar).names.lookup e.ar = some .local
  kc : (iS e.ar).names.lookup ("__class__" : Str) = some .free
  ku : (iS e.ar).names.lookup ("super" : Str) = some .globalImplicit
  kn : ∀ x ∈ (iS e.ar).names, x.2 ≠ .cell
  bd : ∀ (qual : Str) (P : InitPos) (doc pm : Value) (an : Option Addr) (cdv ct : Value) (cc : Addr) (x v : Value), PySem.bindArgs (PySem.W.ksFn "__init__" qual (iA e.ar P) (iB e.ar e.fl e.msg P) (iS e.ar) .none .none doc pm an cdv ct cc) ⟨[x, v], []⟩ = pure [(("self" : Str), x), (e.ar, v)]
  sup : SupEv e.ar e.msg e.pos
theorem err_txt {prog : Program} {K : Frag} {mg : Str → Option Value} {h : Heap} {e : HErr} (X : K.In h) (G : h.Ns mainGlobals mg) (hf : fnI K (e.name, some "__init__") = e.val) (c : errB prog.main.file K e = true) (ok : e.Ok) (sup : mg "super" = none) (top : (prog.main.scope.names.lookup ("super" : Str)).isSome = false) (tp : nsIn K cStatics "thirdparty.any" = some none) :
    ErrTxt prog K mg (ga K e.name) (ma K (ga K e.name) "__init__") e.name e.ar e.fl e.msg := by
  obtain ⟨c1, c⟩ := ba c
  obtain ⟨c2, c⟩ := ba c
  obtain ⟨c3, c⟩ := ba c
  obtain ⟨c4, c⟩ := ba c
  obtain ⟨c5, c⟩ := ba c
  obtain ⟨c6, c⟩ := ba c
  obtain ⟨c7, c⟩ := ba c
  obtain ⟨c8, c⟩ := ba c
  obtain ⟨c9, c⟩ := ba c
  obtain ⟨c10, c⟩ := ba c
  obtain ⟨c11, c⟩ := ba c
  obtain ⟨c12, c⟩ := ba c
  obtain ⟨c13, c⟩ := ba c
  obtain ⟨c14, c⟩ := ba c
  obtain ⟨c15, c⟩ := ba c
  obtain ⟨c16, c⟩ := ba c
  obtain ⟨c17, c⟩ := ba c
  obtain ⟨d1, c⟩ := ba c
  obtain ⟨d2, c⟩ := ba c
  obtain ⟨d3, c⟩ := ba c
  obtain ⟨d4, c18⟩ := ba c
  refine { gC := PySem.W.mg_of X G (He.eqO_ok c1), cls := clsVE_ok c2, sa := He.eqO_ok c3, ga := He.eqO_ok c4, gg := He.eqO_ok c5, noN := He.eqO_ok c6, iC := He.eqO_ok c7, tC := of_decide_eq_true c8, kC := c9, exC := of_decide_eq_true c10, veC := of_decide_eq_true c11, tyC := of_decide_eq_true c12, hdC := c13, te := of_decide_eq_true c14, cc := He.eqO_ok d1, cg := He.eqO_ok d2, ct := of_decide_eq_true d3, cm := of_decide_eq_true d4, sup := sup, sm := He.eqO_ok c15, mro := of_decide_eq_true c16, xi := c17, top := top, tp := tp, ne1 := ok.ne1, ne4 := ok.ne4, ks := ok.ks, ka := ok.ka, kc := ok.kc, ku := ok.ku, kn := ok.kn, bd := ok.bd, fn := ?_ }
  have hA : fAd K (e.name, some "__init__") = ma K (ga K e.name) "__init__" := rfl
  unfold fnI HErr.val at hf
  rw [hA] at hf
  unfold codI at c18
  cases q : K.lookup (ma K (ga K e.name) "__init__") with
  | none =>
    rw [q] at c18
    cases c18
  | some o =>
    obtain ⟨oc, od, dt, osl⟩ := o
    rw [q] at c18 hf
    cases dt with
    | func fd =>
      obtain ⟨n1, n2, n3, n4, n5, n6, n7, n8, n9, n10, n11, n12, n13, n14, n15⟩ := fd
      simp only [Option.some.injEq, Prod.mk.injEq] at hf
      obtain ⟨h1, h2, h3, h4, h5, h6, h7, h8, h9, h10⟩ := hf
      simp only [Bool.and_eq_true] at c18
      obtain ⟨⟨k1, k2⟩, k3⟩ := c18
      cases n7 with
      | nil => cases h7
      | cons p7 r7 =>
        obtain ⟨p71, cc⟩ := p7
        cases r7 with
        | cons _ _ => simp at h7
        | nil =>
          simp only [List.map_cons, List.map_nil, List.cons.injEq, and_true] at h7
          subst h1 h2 h3 h4 h5 h6 h7 h8 h9 h10
          split at k2
          · rename_i cda
            cases q2 : K.lookup cda with
            | none => rw [q2] at k2; cases k2
            | some o2 =>
              obtain ⟨oc2, od2, dt2, osl2⟩ := o2
              rw [q2] at k2
              cases dt2 with
              | fields vs =>
                simp only at k2
                split at k2
                · rename_i file tf hv
                  cases q3 : K.lookup cc with
                  | none => simp only [q3] at k3; cases k3
                  | some o3 =>
                    obtain ⟨oc3, od3, dt3, osl3⟩ := o3
                    simp only [q3] at k3
                    cases dt3 with
                    | cell ov =>
                      cases ov with
                      | none => cases k3
                      | some v =>
                        cases v with
                        | ref C' =>
                          have e3 : C' = ga K e.name := beq_iff_eq.mp k3
                          subst e3
                          exact ⟨oc, od, _, _, _, cda, cc, _, osl, e.pos, oc2, od2, vs, osl2, file, tf, oc3, od3, osl3, e.qual, rfl, k1, q2, hv, k2, q3, ok.sup⟩
                        | _ => cases k3
                    | _ => cases k3
                · cases k2
              | _ => cases k2
          · cases k2
    | _ => cases c18
/-! ### the look -/
structure HD where
  tb : Tab
  md : Md
  ers : List HErr
  cis : List (Str × Int)
  /-- pairs of errors: one, another, whether the one is of the other -/
  subs : List (Str × Str × Bool)
  /-- what isinstance answers of errors: one, a class, whether -/
  isk : List (Str × Str × Bool)
def Ent.dd (e : Ent) : DefD := ⟨(e.name, none), e.name, e.name, e.args, e.body, e.sc, [], []⟩
abbrev AlH : Type := Bool × List FnW × List FnI
def subE (K : Frag) (q : Str × Str × Bool) : Bool := decide (exmOne K (.ref (ga K q.1)) (.ref (ga K q.2.1)) = some q.2.2)
def iskE (K : Frag) (q : Str × Str × Bool) : Bool := decide (PySem.W.kitOne K (.ref (ga K q.1)) (.ref (ga K q.2.1)) = some q.2.2) && eqO (nsIn K mainGlobals q.2.1) (some (some (.ref (ga K q.2.1))))
def HD.b (d : HD) (file : Str) (K : Frag) : Bool :=
  (d.tb.all fun e => e.dd.ok K && (He.Fa.glo e.name).ok K) && ((d.md.bts.all fun x => (He.Fa.free x).ok K) && ((d.cis.all fun q => (He.Fa.int q.1 q.2).ok K) &&
  ((d.ers.all fun e => errB file K e) && (eqO (nsIn K cStatics "thirdparty.any") (some none) && ((d.subs.all fun q => subE K q) && d.isk.all fun q => iskE K q)))))
def HD.obs (d : HD) (file : Str) (K : Frag) : AlH := (d.b file K, d.tb.map fun e => fnW K (e.name, none), d.ers.map fun e => fnI K (e.name, some "__init__"))
def HD.val (d : HD) : AlH := (true, d.tb.map fun e => e.dd.val, d.ers.map HErr.val)
def HD.Says (d : HD) (file : Str) (K : Frag) : Prop := d.obs file K = d.val
def HD.fr (n : Nat) (g : Addr → Option Obj) : Frag := frG g (asD g n ++ [cStatics])
def HD.obsG (d : HD) (file : Str) (n : Nat) (g : Addr → Option Obj) : AlH := d.obs file (HD.fr n g)
def HD.hook (d : HD) (file : Str) (n : Nat) : PySem.W.Hook where
  α := AlH
  obs := fun s => d.obsG file n s.heap.get?
  val := fun _ => d.val
  says := fun _ h => ∃ K : Frag, K.In h ∧ d.Says file K
  of := fun _ _ e => ⟨_, frG_in, e⟩
  keeps := fun _ _ _ ⟨K, hK, c⟩ k => ⟨K, PySem.W.Frag.In.keeps hK k, c⟩
theorem HD.obsG_eq {d : HD} {file : Str} {n : Nat} {g : Addr → Option Obj} {s : Shared} (h : ∀ a, g a = s.heap.get? a) : d.obsG file n g = (d.hook file n).obs s := by
  have e : g = s.heap.get? := funext h
  rw [e] <;> rfl
theorem map_at {α β : Type} {f g : α → β} {l : List α} (h : l.map f = l.map g) {a : α} (ha : a ∈ l) : f a = g a := List.map_inj_left.mp h a ha
section
variable {d : HD} {file : Str} {K : Frag} {h : Heap} {mg : Str → Option Value}
theorem HD.Says.bb (c : d.Says file K) : d.b file K = true := congrArg (fun z : AlH => z.1) c
theorem HD.Says.def_ (c : d.Says file K) {e : Ent} (he : e ∈ d.tb) (X : K.In h) (G : h.Ns mainGlobals mg) : ∃ fa fd, L2.FunD K e.name e.name e.args e.body e.sc [] [] fa fd ∧ mg e.name = some (.ref fa) := by
  have b := (ba (HD.Says.bb c)).1
  obtain ⟨b1, b2⟩ := ba (List.all_eq_true.mp b e he)
  have e1 : fnW K (e.name, none) = e.dd.val := map_at (congrArg (fun z : AlH => z.2.1) c) he
  obtain ⟨fd, F⟩ := DefD.funD (d := e.dd) e1 b1
  exact ⟨_, fd, F, He.glo_ok X G b2⟩
theorem HD.Says.free (c : d.Says file K) {x : Str} (hx : x ∈ d.md.bts) (X : K.In h) (G : h.Ns mainGlobals mg) : mg x = none :=
  He.free_ok X G (List.all_eq_true.mp (ba (ba (HD.Says.bb c)).2).1 x hx)
theorem HD.Says.int (c : d.Says file K) {q : Str × Int} (hx : q ∈ d.cis) (X : K.In h) (G : h.Ns mainGlobals mg) : ∃ t, mg q.1 = some (.int q.2 t) :=
  He.int_ok X G (List.all_eq_true.mp (ba (ba (ba (HD.Says.bb c)).2).2).1 q hx)
theorem HD.Says.err {prog : Program} (c : d.Says prog.main.file K) {e : HErr} (hx : e ∈ d.ers) (ok : e.Ok) (sup : mg "super" = none) (top : (prog.main.scope.names.lookup ("super" : Str)).isSome = false) (X : K.In h) (G : h.Ns mainGlobals mg) :
    ErrTxt prog K mg (ga K e.name) (ma K (ga K e.name) "__init__") e.name e.ar e.fl e.msg := by
  have b := (ba (ba (ba (HD.Says.bb c)).2).2).2
  have e1 : fnI K (e.name, some "__init__") = e.val := map_at (congrArg (fun z : AlH => z.2.2) c) hx
  exact err_txt X G e1 (List.all_eq_true.mp (ba b).1 e hx) ok sup top (He.eqO_ok (ba (ba b).2).1)
theorem HD.Says.sub (c : d.Says file K) {q : Str × Str × Bool} (hx : q ∈ d.subs) : exmOne K (.ref (ga K q.1)) (.ref (ga K q.2.1)) = some q.2.2 :=
  of_decide_eq_true (List.all_eq_true.mp (ba (ba (ba (ba (ba (ba (HD.Says.bb c)).2).2).2).2).2).1 q hx)
theorem HD.Says.isk (c : d.Says file K) {q : Str × Str × Bool} (hx : q ∈ d.isk) (X : K.In h) (G : h.Ns mainGlobals mg) : PySem.W.kitOne K (.ref (ga K q.1)) (.ref (ga K q.2.1)) = some q.2.2 ∧ mg q.2.1 = some (.ref (ga K q.2.1)) := by
  obtain ⟨a, b⟩ := ba (List.all_eq_true.mp (ba (ba (ba (ba (ba (ba (HD.Says.bb c)).2).2).2).2).2).2 q hx)
  exact ⟨of_decide_eq_true a, PySem.W.mg_of X G (He.eqO_ok b)⟩
end
/-! ### what is fixed, from the look -/
open Classical in
noncomputable def wlC (step : Sl → Option (Sum Sl RS)) (ρ : Sl) : RS := if h : ∃ n r, wlN step n ρ = some r then Classical.choose (Classical.choose_spec h) else .bad
theorem wlC_ok (step : Sl → Option (Sum Sl RS)) (ρ : Sl) (h : wlC step ρ ≠ .bad) : ∃ n, wlN step n ρ = some (wlC step ρ) := by
  unfold wlC at h ⊢
  split
  · rename_i hx
    exact ⟨_, Classical.choose_spec (Classical.choose_spec hx)⟩
  · rename_i hx
    rw [dif_neg hx] at h
    exact absurd rfl h
theorem wlN_mono {step : Sl → Option (Sum Sl RS)} {r : RS} : ∀ {n m : Nat} {ρ : Sl}, wlN step n ρ = some r → n ≤ m → wlN step m ρ = some r
  | 0, _, _, h, _ => by cases h
  | n + 1, 0, _, _, l => by omega
  | n + 1, m + 1, ρ, h, l => by
    unfold wlN at h ⊢
    split at h
    · exact h
    · exact wlN_mono h (by omega)
    · exact h
theorem wlC_eq {step : Sl → Option (Sum Sl RS)} {ρ : Sl} {n : Nat} {r : RS} (h : wlN step n ρ = some r) : wlC step ρ = r := by
  have hx : ∃ n r, wlN step n ρ = some r := ⟨n, r, h⟩
  unfold wlC
  rw [dif_pos hx]
  have h2 := Classical.choose_spec (Classical.choose_spec hx)
  have a := wlN_mono h2 (Nat.le_max_left _ n)
  have b := wlN_mono h (Nat.le_max_right (Classical.choose hx) n)
  rw [a] at b
  exact Option.some.inj b
noncomputable def HD.g (d : HD) : G where
  call := fun _ _ => .bad
  prot := []
  con := fun x => (d.cis.lookup x).map .int
  ps := fun f => match d.tb.find? fun e => e.name == f with
    | some e => e.ps
    | none => []
  sub := fun a b => match d.subs.find? fun q => q.1 == a && q.2.1 == b with
    | some q => q.2.2
    | none => false
  isk := fun a b => (d.isk.find? fun q => q.1 == a && q.2.1 == b).map fun q => q.2.2
  fld := fun n => match d.ers.find? fun e => e.name == n with
    | some e => e.fl
    | none => ""
  wl := wlC
def HD.cls (d : HD) (K : Frag) (n : Str) : Option Addr := if d.ers.any (fun e => e.name == n) then some (ga K n) else none
/-- what is to be looked at in the data alone -/
structure HD.Ok (d : HD) (prog : Program) : Prop where
  ent : (d.tb.all fun e => entB d.tb d.md e) = true
  cons : (d.md.cons.all fun x => (d.cis.lookup x).isSome) = true
  nofl : d.md.flds = []
  errs : (d.md.errs.all fun n => d.ers.any fun e => e.name == n) = true
  subs : (d.ers.all fun e => d.md.errs.all fun n' => (d.subs.any fun q => q.1 == e.name && q.2.1 == n')) = true
  subo : (d.subs.all fun q => d.ers.any fun e => e.name == q.1) = true
  ero : ∀ e ∈ d.ers, e.Ok
  erd : (d.ers.all fun e => (d.ers.find? fun e' => e'.name == e.name).any fun e' => e'.fl == e.fl) = true
  sup : ("super" : Str) ∈ d.md.bts
  top : (prog.main.scope.names.lookup ("super" : Str)).isSome = false
  bind : (d.tb.all fun e => plainB e.args e.ps) = true
  kwe : (d.md.kws.all fun q => decide q.2.Nodup && (d.tb.find? fun e => e.name == q.1).isSome) = true
theorem lookup_mem {α : Type} {x : Str} {v : α} : ∀ {l : List (Str × α)}, l.lookup x = some v → (x, v) ∈ l
  | [], h => by cases h
  | (k, u) :: r, h => by
    rw [List.lookup_cons] at h
    split at h
    · rename_i e
      have : x = k := by simpa using e
      subst this
      cases h
      exact List.mem_cons_self
    · exact List.mem_cons_of_mem _ (lookup_mem h)
section
variable {P : Program} {w : World} {K : Frag} {mg : Str → Option Value} {base h : Heap} {d : HD}
theorem HD.mo (ok : d.Ok P) (X : K.In h) (G : h.Ns mainGlobals mg) (c : d.Says P.main.file K) : Mo P w K mg base ⟨K, fun _ => none, d.cls K⟩ d.g d.tb d.md := by
  have sup : mg "super" = none := c.free ok.sup X G
  have er : ∀ n e, d.ers.find? (fun e => e.name == n) = some e → ∃ A fI ar msg, d.cls K n = some A ∧ PySem.TWX.ErrTxt P K mg A fI n ar (d.g.fld n) msg := fun n e hf => by
    have hm := List.mem_of_find?_eq_some hf
    have hn : e.name = n := beq_iff_eq.mp (List.find?_some (p := fun e : HErr => e.name == n) hf)
    have T := c.err hm (ok.ero e hm) sup ok.top X G
    refine ⟨ga K n, ma K (ga K e.name) "__init__", e.ar, e.msg, ?_, ?_⟩
    · unfold HD.cls
      rw [if_pos (List.any_eq_true.mpr ⟨e, hm, by simpa using hn⟩)]
    · have hfl : d.g.fld n = e.fl := by
        show (match d.ers.find? fun e => e.name == n with
          | some e => e.fl
          | none => "") = e.fl
        rw [hf]
      rw [hfl, ← hn]
      exact T
  have er2 : ∀ n, (d.ers.any fun e => e.name == n) = true → ∃ A fI ar msg, d.cls K n = some A ∧ PySem.TWX.ErrTxt P K mg A fI n ar (d.g.fld n) msg := fun n hn => by
    cases hf : d.ers.find? (fun e => e.name == n) with
    | some e => exact er n e hf
    | none =>
      obtain ⟨e, he, h2⟩ := List.any_eq_true.mp hn
      rw [List.find?_eq_none] at hf
      exact absurd h2 (hf e he)
  have clsG : ∀ n A, HD.cls d K n = some A → A = ga K n ∧ (d.ers.any fun e => e.name == n) = true := fun n A hA => by
    unfold HD.cls at hA
    split at hA
    · rename_i hh
      exact ⟨(Option.some.inj hA).symm, hh⟩
    · cases hA
  have hsub : ∀ a b, d.g.sub a b = true → (d.ers.any fun e => e.name == a) = true := fun a b hs => by
    have hs2 : (match d.subs.find? fun q => q.1 == a && q.2.1 == b with
      | some q => q.2.2
      | none => false) = true := hs
    split at hs2
    · rename_i q hq
      have hm := List.mem_of_find?_eq_some hq
      have hn := List.find?_some (p := fun q : Str × Str × Bool => q.1 == a && q.2.1 == b) hq
      have h3 := List.all_eq_true.mp ok.subo q hm
      have e1 : q.1 = a := beq_iff_eq.mp (Bool.and_eq_true_iff.mp hn).1
      rw [e1] at h3
      exact h3
    · cases hs2
  refine { ik := fun n n' A hA b hb => ?_, hK := rfl, wl := wlC_ok, bt := fun x hx => c.free (List.contains_iff_mem.mp hx) X G, con := fun x hx dd hd => ?_, fk := fun f hf => ?_, ck := fun n A hA => ?_, df := fun e he => ?_, kw := fun f ks hk => ?_, er := fun n hn => ?_, ers := fun n hs => er2 n (hsub n n hs), sb := fun n n' A A' h1 h2 h3 h4 => ?_, ok := fun e he => List.all_eq_true.mp ok.ent e he }
  · have hd2 : (d.cis.lookup x).map D.int = some dd := hd
    cases hl : d.cis.lookup x with
    | none => rw [hl] at hd2; cases hd2
    | some i =>
      rw [hl] at hd2
      obtain ⟨t, ht⟩ := c.int (q := (x, i)) (lookup_mem hl) X G
      exact ⟨i, _, (Option.some.inj hd2).symm, ht, t, rfl⟩
  · rw [ok.nofl] at hf
    cases hf
  · cases hA
  · obtain ⟨fa, fd, F, m⟩ := c.def_ he X G
    exact ⟨fa, fd, F, m, F.bindsN fun _ _ _ _ _ _ us hl => bind_plain (plainB_ok (List.all_eq_true.mp ok.bind e he)) hl⟩
  · have hk' := List.contains_iff_mem.mp hk
    obtain ⟨ndk, h1⟩ := ba (List.all_eq_true.mp ok.kwe _ hk')
    cases hf : d.tb.find? (fun e => e.name == f) with
    | none => simp [hf] at h1
    | some e =>
      have hm := List.mem_of_find?_eq_some hf
      have hn : e.name = f := beq_iff_eq.mp (List.find?_some (p := fun e : Ent => e.name == f) hf)
      obtain ⟨fa, fd, F, m⟩ := c.def_ hm X G
      refine ⟨e, hm, hn, ?_, ?_, fa, fd, F, m, fun s us zs Kin hr => ?_⟩
      · unfold Tab.fn
        rw [hn, hf]; rfl
      · show (match d.tb.find? fun e => e.name == f with
          | some e => e.ps
          | none => []) = e.ps
        rw [hf]
      · obtain ⟨oc, od, dV, kV, doc, pm, an, cdv, ct, osl, rfl, lk, hcd, hD, hK⟩ := F.ex
        rcases hD with ⟨_, rfl⟩ | ⟨e2, _⟩
        · exact PySem.BindsTo.of_eq (bind_kw (plainB_ok (List.all_eq_true.mp ok.bind e hm)) (of_decide_eq_true ndk) (reord_len hr) hr)
        · exact absurd rfl e2
  · exact er2 n (List.all_eq_true.mp ok.errs n (List.contains_iff_mem.mp hn))
  · obtain ⟨rfl, hh⟩ := clsG n A h2
    obtain ⟨rfl, hh2⟩ := clsG n' A' h4
    obtain ⟨e, he, e1⟩ := List.any_eq_true.mp hh
    have e1' : e.name = n := beq_iff_eq.mp e1
    have h5 := List.all_eq_true.mp (List.all_eq_true.mp ok.subs e he) n' (List.contains_iff_mem.mp h3)
    rw [e1'] at h5
    show _ = some (match d.subs.find? fun q => q.1 == n && q.2.1 == n' with
      | some q => q.2.2
      | none => false)
    cases hf : d.subs.find? (fun q => q.1 == n && q.2.1 == n') with
    | none =>
      obtain ⟨q, hq, hq2⟩ := List.any_eq_true.mp h5
      rw [List.find?_eq_none] at hf
      exact absurd hq2 (hf q hq)
    | some q =>
      have hm := List.mem_of_find?_eq_some hf
      have hn := List.find?_some (p := fun q : Str × Str × Bool => q.1 == n && q.2.1 == n') hf
      obtain ⟨a1, a2⟩ := Bool.and_eq_true_iff.mp hn
      have r := c.sub hm
      rw [beq_iff_eq.mp a1, beq_iff_eq.mp a2] at r
      exact r
  · obtain ⟨rfl, hh⟩ := clsG n A hA
    have hb2 : (d.isk.find? fun q => q.1 == n && q.2.1 == n').map (fun q => q.2.2) = some b := hb
    obtain ⟨q, hq, rfl⟩ := Option.map_eq_some_iff.mp hb2
    obtain ⟨a1, a2⟩ := Bool.and_eq_true_iff.mp (List.find?_some (p := fun q : Str × Str × Bool => q.1 == n && q.2.1 == n') hq)
    obtain ⟨r1, r2⟩ := c.isk (List.mem_of_find?_eq_some hq) X G
    rw [beq_iff_eq.mp a1, beq_iff_eq.mp a2] at r1
    rw [beq_iff_eq.mp a2] at r2
    exact ⟨_, r2, r1⟩
end
end TW
end

section
set_option maxRecDepth 100000
/-! the end: a law, from what its def reckons -/
namespace TW
open PySem (Str Addr Expr Stmt Pos Value Obj Shared model PyData Scope Env Arguments Program World Heap FuncData FuncBody mainGlobals builtinsNs cStatics)
open PySem.W (Frag)
open L2 (V HO Hp)
theorem spF_start {C : C0} {fld : Str → Str} {cr : List D → CR} {H : Hp} {a : Addr} {ns : List Int} {E : L2.XK} (hS : L2.SqL C.K H a (ns.map V.int)) (h : ∃ ds, cr [.scr ns] = .ok (.bl true) ds) : SpF C fld cr [.ref a] H (fun v _ => v = .bl true) E := by
  obtain ⟨ds, h⟩ := h
  refine ⟨[.scr ns], fun b => b = a ∧ H a ≠ none, [], ⟨List.nodup_nil, (fun _ h => nomatch h), (fun _ h => nomatch h), fun b z => by rw [z.1]; exact z.2⟩, ⟨_, _, [], [], rfl, ⟨rfl, a, rfl, ?_⟩, ⟨rfl, rfl⟩, rfl⟩, ?_⟩
  · rcases hS with h | h
    · refine .inl ⟨h, rfl, fun z => ?_⟩
      rcases h with h | ⟨o, h⟩ <;> rw [z] at h <;> cases h
    · exact .inr h
  · rw [h]
    intro x H' Z' F' f _ _ hr
    exact hr.1
section
variable {P : Program} {w : World} {K : Frag} {mg : Str → Option Value} {h : Heap} {d : HD} {e : Ent}
theorem HD.law (ok : d.Ok P) (X : K.In h) (G : h.Ns mainGlobals mg) (c : d.Says P.main.file K) (he : e ∈ d.tb) (hT : d.tb.fn e.name = some e.F) {fa : Addr} (hfa : mg e.name = some (.ref fa)) {x : Str} (hps : e.ps = [x]) (k : Nat) :
    ∃ fd : FuncData, (∀ (s : Shared) (u : Value), PySem.BindsTo s fd ⟨[u], []⟩ [(x, u)]) ∧ ∀ base : Heap, K.In base → base.Ns mainGlobals mg → FnG P w K mg base k fa fd [x] (SpF ⟨K, fun _ => none, d.cls K⟩ d.g.fld (run d.tb.fn d.g k e.name)) := by
  obtain ⟨fa', fd, F, m⟩ := c.def_ he X G
  have e1 : fa' = fa := by
    rw [hfa] at m
    cases m
    rfl
  subst e1
  refine ⟨fd, fun s u => ?_, fun base hb hg => ?_⟩
  · have := F.bindsA (ps := e.ps) (fun _ _ _ _ _ _ us hl => bind_plain (plainB_ok (List.all_eq_true.mp ok.bind e he)) hl) s [u] (by rw [hps]; rfl)
    rw [hps] at this
    exact this
  · have M : Mo P w K mg base ⟨K, fun _ => none, d.cls K⟩ d.g d.tb d.md := HD.mo ok hb hg c
    have := tab_ok M k e he hT fa' fd F
    rw [hps] at this
    exact this
end
end TW
section
open PySem PySem.Spec PyProof.Rows L2
/-- a law's end -/
theorem TW.walkE {l : PySem.W.OpenLaw} {n k : Nat} {q : Program} {loose : List Str} {XP : (Str → Option Value) → Heap → Prop} {YP : World → Heap → Prop} {d : DefRec} {x : Str}
    (hn : l.most = some n) (hn2 : n ≤ sizeLine) (hdf : d.params.defaults = []) (hr : Room k callerA)
    (F : ∀ (w : World) (mg : Str → Option Value) (fa : Addr) (h : Heap), YP w h → h.Ns mainGlobals mg → mg d.name = some (.ref fa) →
      ∃ (K : PySem.W.Frag) (fd : FuncData) (sp : L2.Sp), K.In h ∧ (∀ (s : Shared) (u : Value), PySem.BindsTo s fd ⟨[u], []⟩ [(x, u)]) ∧
        (∀ (H : Hp) (a : Addr) (ns : List Int), ns.length ≤ n → L2.Only H → L2.SqL K H a (ns.map V.int) → sp [.ref a] H (fun v _ => v = .bl true) fun _ _ _ => False) ∧
        ∀ base : Heap, K.In base → base.Ns mainGlobals mg → TW.FnG l.prog w K mg base k fa fd [x] sp) :
    PySem.W.WalkO q loose XP YP l.row.toRowW d [] (fun f vs => PySem.call f vs) := by
  refine Att.attach_call hn hdf fun w s₀ s₁ mg mb fa o pm cd doc a vs ns G Y ho hd hcd hmg hobj hints hlen hg => ?_
  obtain ⟨K, fd, sp, KX, hb, hsp, hF⟩ := F w mg fa _ Y G.T.g hmg
  exact TW.lawG KX G.T.g G.T.b G.T.builtins G.T.nolimit hg hobj hints (Nat.le_trans hlen hn2) ⟨hr, rfl⟩ hF hb fun H hO hS => hsp H a ns hlen hO hS
end
end

section
/-! what is reckoned, step by step -/
namespace TW
open PySem
/-! ### texts -/
theorem ofString_inj {a b : String} : Str.ofString a = Str.ofString b ↔ a = b := by
  constructor
  · intro h
    rw [Str.ofString_eq_toList, Str.ofString_eq_toList] at h
    have h1 : (a.toList.map Char.toNat).toArray = (b.toList.map Char.toNat).toArray := by injection h
    have h2 : a.toList.map Char.toNat = b.toList.map Char.toNat := by simpa using h1
    have inj : ∀ {l m : List Char}, l.map Char.toNat = m.map Char.toNat → l = m := by
      intro l
      induction l with
      | nil => intro m h; cases m with
        | nil => rfl
        | cons _ _ => simp at h
      | cons c l ih =>
        intro m h
        cases m with
        | nil => simp at h
        | cons d m =>
          simp only [List.map_cons, List.cons.injEq] at h
          rw [ih h.2, Char.ext (UInt32.toNat.inj h.1)]
    exact String.toList_inj.mp (inj h2)
  · intro h; rw [h]

@[simp] theorem ofString_eq_iff {a b : String} : (Str.ofString a = Str.ofString b) = (a = b) := propext ofString_inj
@[simp] theorem ofString_beq {a b : String} : (Str.ofString a == Str.ofString b) = decide (a = b) := by
  by_cases h : a = b
  · subst h; simp
  · have : Str.ofString a ≠ Str.ofString b := fun z => h (ofString_inj.mp z)
    simp [h]
/-! ### what goes on first -/
section
variable {d e : D} {ρ ρ' : Sl} {p : Bool} {c : Str} {v : D} {r r' : RE}
@[simp] theorem RE.o_ok {k : D → Sl → RE} : RE.o (.ok d ρ) p k = k d ρ := (rfl)
@[simp] theorem RE.o_brw {k : D → Sl → RE} : RE.o (.brw d ρ) true k = k d ρ := (rfl)
@[simp] theorem RE.o_exc {k : D → Sl → RE} : RE.o (.exc c v ρ) p k = .exc c v ρ := (rfl)
@[simp] theorem RE.v_ok {k : D → Sl → RE} : RE.v (.ok d ρ) k = k d ρ := (rfl)
@[simp] theorem RE.v_exc {k : D → Sl → RE} : RE.v (.exc c v ρ) k = .exc c v ρ := (rfl)
@[simp] theorem RE.s_ok {k : D → Sl → RS} : RE.s (.ok d ρ) k = k d ρ := (rfl)
@[simp] theorem RE.s_exc {k : D → Sl → RS} : RE.s (.exc c v ρ) k = .exc c v ρ := (rfl)
@[simp] theorem RE.t_bl {k : Bool → Sl → RS} {b : Bool} : RE.t (.ok (.bl b) ρ) k = k b ρ := (rfl)
@[simp] theorem RE.t_exc {k : Bool → Sl → RS} : RE.t (.exc c v ρ) k = .exc c v ρ := (rfl)
@[simp] theorem RE.lift_some : RE.lift (some d) ρ = .ok d ρ := (rfl)
@[simp] theorem RS.seq_nx {k : Sl → RS} : RS.seq (.ok .nx ρ) k = k ρ := (rfl)
@[simp] theorem RS.seq_rt {k : Sl → RS} : RS.seq (.ok (.rt d) ρ) k = .ok (.rt d) ρ := (rfl)
@[simp] theorem RS.seq_bk {k : Sl → RS} : RS.seq (.ok .bk ρ) k = .ok .bk ρ := (rfl)
@[simp] theorem RS.seq_ct {k : Sl → RS} : RS.seq (.ok .ct ρ) k = .ok .ct ρ := (rfl)
@[simp] theorem RS.seq_exc {k : Sl → RS} : RS.seq (.exc c v ρ) k = .exc c v ρ := (rfl)
theorem RE.o_congr {k : D → Sl → RE} (h : r = r') : RE.o r p k = RE.o r' p k := by rw [h]
theorem RE.v_congr {k : D → Sl → RE} (h : r = r') : RE.v r k = RE.v r' k := by rw [h]
theorem RE.s_congr {k : D → Sl → RS} (h : r = r') : RE.s r k = RE.s r' k := by rw [h]
theorem RE.t_congr {k : Bool → Sl → RS} (h : r = r') : RE.t r k = RE.t r' k := by rw [h]
theorem RS.seq_congr {k : Sl → RS} {a b : RS} (h : a = b) : RS.seq a k = RS.seq b k := by rw [h]
theorem lcLoop_congr {step : D → Sl → Option (Option D × Sl)} {xs ys : List D} (h : xs = ys) (h2 : ρ = ρ') : lcLoop step xs ρ = lcLoop step ys ρ' := by rw [h, h2]
theorem forL_congr {step : D → Sl → RS} {xs ys : List D} (h : xs = ys) (h2 : ρ = ρ') : forL step xs ρ = forL step ys ρ' := by rw [h, h2]
/-- what is looked at may be another's -/
theorem rd_o {g : G} {q : P} {w : Pth} {k : D → Sl → RE} (h1 : evP g q ρ = some w) (h2 : getP ρ w = some d) : RE.o (ev g (.rd q) ρ) true k = k d ρ := by
  simp only [ev, h1, h2]
  split <;> rfl
end
/-! ### what is had alone -/
@[simp] theorem own_non : D.own .non = false := (rfl)
@[simp] theorem own_bl {b : Bool} : D.own (.bl b) = false := (rfl)
@[simp] theorem own_int {i : Int} : D.own (.int i) = false := (rfl)
@[simp] theorem own_str {i : Str} : D.own (.str i) = false := (rfl)
@[simp] theorem own_scr {i : List Int} : D.own (.scr i) = false := (rfl)
@[simp] theorem own_hole : D.own .hole = true := (rfl)
@[simp] theorem own_exc {c : Str} {v : D} : D.own (.exc c v) = false := (rfl)
@[simp] theorem own_tup {xs : List D} : D.own (.tup xs) = ownL xs := by simp only [D.own]
@[simp] theorem own_lstT {xs : List D} : D.own (.lst true xs) = true := by simp only [D.own, Bool.true_or]
@[simp] theorem own_lstF {xs : List D} : D.own (.lst false xs) = ownL xs := by simp only [D.own, Bool.false_or]
@[simp] theorem own_dicT {xs : List (Key × D)} : D.own (.dic true xs) = true := by simp only [D.own, Bool.true_or]
@[simp] theorem own_dicF {xs : List (Key × D)} : D.own (.dic false xs) = ownK xs := by simp only [D.own, Bool.false_or]
@[simp] theorem ownL_nil : ownL [] = false := (rfl)
@[simp] theorem ownL_cons {d : D} {ds : List D} : ownL (d :: ds) = (d.own || ownL ds) := by simp only [ownL]
@[simp] theorem ownK_nil : ownK [] = false := (rfl)
@[simp] theorem ownK_cons {k : Key} {d : D} {ds : List (Key × D)} : ownK ((k, d) :: ds) = (d.own || ownK ds) := by simp only [ownK]
@[simp] theorem ownL_append {xs ys : List D} : ownL (xs ++ ys) = (ownL xs || ownL ys) := by
  induction xs with
  | nil => simp
  | cons x xs ih => simp [ih, Bool.or_assoc]
theorem ownL_iff {xs : List D} : ownL xs = false ↔ ∀ x ∈ xs, x.own = false := by
  induction xs with
  | nil => simp
  | cons x xs ih => simp [ih]
@[simp] theorem ownL_map {α : Type} {f : α → D} {xs : List α} (h : ∀ x, (f x).own = false) : ownL (xs.map f) = false := by
  rw [ownL_iff]
  intro x hx
  obtain ⟨a, _, rfl⟩ := List.mem_map.mp hx
  exact h a
theorem ownL_sub {xs ys : List D} (h : ∀ x ∈ xs, x ∈ ys) (hy : ownL ys = false) : ownL xs = false := by
  rw [ownL_iff] at hy ⊢
  exact fun x hx => hy x (h x hx)
mutual
@[simp] theorem share_of : ∀ {d : D}, d.own = false → d.share = d
  | .non, _ => rfl
  | .bl _, _ => rfl
  | .int _, _ => rfl
  | .str _, _ => rfl
  | .exc _ _, _ => rfl
  | .scr _, _ => rfl
  | .hole, h => by cases h
  | .tup xs, h => by
    simp only [D.own] at h
    simp only [D.share, shareL_of h]
  | .lst o xs, h => by
    simp only [D.own, Bool.or_eq_false_iff] at h
    simp only [D.share, shareL_of h.2, h.1]
  | .dic o xs, h => by
    simp only [D.own, Bool.or_eq_false_iff] at h
    simp only [D.share, shareK_of h.2, h.1]
  | .ins o c xs, h => by
    simp only [D.own, Bool.or_eq_false_iff] at h
    simp only [D.share, shareF_of h.2, h.1]
@[simp] theorem shareL_of : ∀ {ds : List D}, ownL ds = false → shareL ds = ds
  | [], _ => rfl
  | d :: ds, h => by
    simp only [ownL, Bool.or_eq_false_iff] at h
    simp only [shareL, share_of h.1, shareL_of h.2]
theorem shareK_of : ∀ {ds : List (Key × D)}, ownK ds = false → shareK ds = ds
  | [], _ => rfl
  | (k, d) :: ds, h => by
    simp only [ownK, Bool.or_eq_false_iff] at h
    simp only [shareK, share_of h.1, shareK_of h.2]
theorem shareF_of : ∀ {ds : List (Str × D)}, ownF ds = false → shareF ds = ds
  | [], _ => rfl
  | (k, d) :: ds, h => by
    simp only [ownF, Bool.or_eq_false_iff] at h
    simp only [shareF, share_of h.1, shareF_of h.2]
end
/-! ### slots -/
theorem restore_at {old : Sl} {is : List Nat} : ∀ {ρ : Sl} (j : Nat), ρ.length = old.length → (restore old ρ is)[j]? = if j ∈ is then old[j]? else ρ[j]? := by
  induction is with
  | nil => intro ρ j _; simp [restore]
  | cons i is ih =>
    intro ρ j hl
    have hlen : ∀ is : List Nat, (restore old ρ is).length = ρ.length := by
      intro is
      induction is with
      | nil => rfl
      | cons k ks ihk => simp [restore, ihk]
    simp only [restore, List.getElem?_set, List.mem_cons]
    by_cases e : i = j
    · subst e
      by_cases hi : i < old.length
      · simp [hlen, hl, hi]
      · simp [hlen, hl, hi]
    · have e2 : ¬ j = i := fun z => e z.symm
      simp [e, e2, ih j hl]
theorem wipeS_len {is : List Nat} {ρ : Sl} : (wipeS ρ is).length = ρ.length := by
  induction is with
  | nil => rfl
  | cons i is ih => simp [wipeS, ih]
theorem wipeS_at {is : List Nat} {ρ : Sl} {j : Nat} (h : j ∉ is) : (wipeS ρ is)[j]? = ρ[j]? := by
  induction is with
  | nil => rfl
  | cons i is ih =>
    simp only [List.mem_cons, not_or] at h
    simp [wipeS, List.getElem?_set, ih h.2, Ne.symm h.1]
@[simp] theorem restore_wipe {is : List Nat} {ρ : Sl} : restore ρ (wipeS ρ is) is = ρ := by
  apply List.ext_getElem?
  intro j
  rw [restore_at j wipeS_len]
  split
  · rfl
  · rename_i h
    exact wipeS_at h

/-! ### reading a place -/
def D.isExc : D → Bool
  | .exc _ _ => true
  | _ => false
/-- may be taken out of its slot -/
def D.mov : D → Bool
  | .exc _ _ => false
  | .hole => false
  | _ => true
section
variable {b : Bool} {i : Int} {s : Str} {xs : List D} {o : Bool} {kvs : List (Key × D)} {fs : List (Str × D)} {ns : List Int} {c : Str}
@[simp] theorem isExc_non : D.isExc .non = false := (rfl)
@[simp] theorem isExc_bl : D.isExc (.bl b) = false := (rfl)
@[simp] theorem isExc_int : D.isExc (.int i) = false := (rfl)
@[simp] theorem isExc_str : D.isExc (.str s) = false := (rfl)
@[simp] theorem isExc_tup : D.isExc (.tup xs) = false := (rfl)
@[simp] theorem isExc_lst : D.isExc (.lst o xs) = false := (rfl)
@[simp] theorem isExc_dic : D.isExc (.dic o kvs) = false := (rfl)
@[simp] theorem isExc_ins : D.isExc (.ins o c fs) = false := (rfl)
@[simp] theorem isExc_scr : D.isExc (.scr ns) = false := (rfl)
@[simp] theorem isExc_hole : D.isExc .hole = false := (rfl)
@[simp] theorem mov_non : D.mov .non = true := (rfl)
@[simp] theorem mov_bl : D.mov (.bl b) = true := (rfl)
@[simp] theorem mov_int : D.mov (.int i) = true := (rfl)
@[simp] theorem mov_str : D.mov (.str s) = true := (rfl)
@[simp] theorem mov_tup : D.mov (.tup xs) = true := (rfl)
@[simp] theorem mov_lst : D.mov (.lst o xs) = true := (rfl)
@[simp] theorem mov_dic : D.mov (.dic o kvs) = true := (rfl)
@[simp] theorem mov_ins : D.mov (.ins o c fs) = true := (rfl)
end
/-- what a slot has to be read -/
def getS : Option (Option D) → Option D
  | some (some d) => if d.isExc then none else some d
  | _ => none
@[simp] theorem getS_some {d : D} (h : d.isExc = false) : getS (some (some d)) = some d := by simp [getS, h]
@[simp] theorem getS_none : getS (some none) = none := (rfl)
@[simp] theorem getS_nil : getS none = none := (rfl)
theorem getP_eq {ρ : Sl} {w : Pth} : getP ρ w = (getS ρ[w.s]?).bind fun d => getA d w.r := by
  unfold getP getS
  generalize ρ[w.s]? = o
  cases o with
  | none => rfl
  | some o =>
    cases o with
    | none => rfl
    | some d => cases d <;> rfl
theorem setP_eq {ρ : Sl} {w : Pth} {e : D} : setP ρ w e = (getS ρ[w.s]?).bind fun d => (setA d w.r e).map fun d' => ρ.set w.s (some d') := by
  unfold setP getS
  generalize ρ[w.s]? = o
  cases o with
  | none => rfl
  | some o =>
    cases o with
    | none => rfl
    | some d => cases d <;> rfl
@[simp] theorem getP_mk {ρ : Sl} {i : Nat} {r : List Acc} : getP ρ ⟨i, r⟩ = (getS ρ[i]?).bind fun d => getA d r := getP_eq
@[simp] theorem setP_mk {ρ : Sl} {i : Nat} {r : List Acc} {e : D} : setP ρ ⟨i, r⟩ e = (getS ρ[i]?).bind fun d => (setA d r e).map fun d' => ρ.set i (some d') := setP_eq
@[simp] theorem getA_nil {d : D} : getA d [] = some d := by simp only [getA]
@[simp] theorem getA_cons {d : D} {a : Acc} {r : List Acc} : getA d (a :: r) = (accD d a).bind fun e => getA e r := by
  simp only [getA]
  cases accD d a <;> rfl
@[simp] theorem setA_nil {d e : D} : setA d [] e = some e := by simp only [setA]
theorem getA_app : ∀ {w : List Acc} {d : D} {a : Acc}, getA d (w ++ [a]) = (getA d w).bind fun e => accD e a
  | [], d, a => by
    simp only [List.nil_append, getA, Option.bind_some]
    cases accD d a <;> rfl
  | b :: w, d, a => by
    simp only [List.cons_append, getA]
    cases accD d b with
    | none => rfl
    | some e => exact getA_app
/-- a place's value -/
def rdP (g : G) (p : P) (ρ : Sl) : Option D := (evP g p ρ).bind fun w => getP ρ w
def rdR (o : Option D) (ρ : Sl) : RE := match o with
  | some d => if d.own then .brw d ρ else .ok d ρ
  | none => .bad
@[simp] theorem rdR_not {d : D} {ρ : Sl} (h : d.own = false) : rdR (some d) ρ = .ok d ρ := by simp [rdR, h]
@[simp] theorem rdR_own {d : D} {ρ : Sl} (h : d.own = true) : rdR (some d) ρ = .brw d ρ := by simp [rdR, h]
@[simp] theorem rdR_o {d : D} {ρ : Sl} {k : D → Sl → RE} : RE.o (rdR (some d) ρ) true k = k d ρ := by
  unfold rdR
  simp only
  split <;> rfl
section
variable {g : G} {ρ : Sl}
@[simp] theorem evP_var {i : Nat} : evP g (.var i) ρ = some ⟨i, []⟩ := by simp only [evP]
@[simp] theorem evP_fld {p : P} {f : Str} : evP g (.fld p f) ρ = (evP g p ρ).map fun r => ⟨r.s, r.r ++ [.f f]⟩ := by simp only [evP]
/-- the step of an index -/
def accR (o : Option D) (i : RE) : Option Acc := match o, i with
  | some d, .ok i _ => accOf d i
  | _, _ => none
@[simp] theorem accR_ok {d i : D} {ρ : Sl} : accR (some d) (.ok i ρ) = accOf d i := (rfl)
theorem evP_sub {p : P} {e : E} (h : pur e = true) : evP g (.sub p e) ρ = (evP g p ρ).bind fun r => (accR (getP ρ r) (ev g e ρ)).map fun a => ⟨r.s, r.r ++ [a]⟩ := by
  simp only [evP, h, if_true]
  cases evP g p ρ with
  | none => rfl
  | some r =>
    simp only [Option.bind_some]
    cases hg : getP ρ r with
    | none => cases ev g e ρ <;> rfl
    | some d => cases ev g e ρ <;> rfl
@[simp] theorem rdP_var {i : Nat} : rdP g (.var i) ρ = getS ρ[i]? := by simp [rdP]
theorem rdP_fld {p : P} {f : Str} : rdP g (.fld p f) ρ = (rdP g p ρ).bind fun d => accD d (.f f) := by
  unfold rdP
  rw [evP_fld]
  cases h : evP g p ρ with
  | none => rfl
  | some w =>
    obtain ⟨s, r⟩ := w
    simp only [Option.map_some, Option.bind_some, getP_mk]
    cases getS ρ[s]? with
    | none => rfl
    | some d => exact getA_app
theorem rdP_sub {p : P} {e : E} (h : pur e = true) : rdP g (.sub p e) ρ = (rdP g p ρ).bind fun d => (accR (some d) (ev g e ρ)).bind fun a => accD d a := by
  unfold rdP
  rw [evP_sub h]
  cases hp : evP g p ρ with
  | none => rfl
  | some w =>
    obtain ⟨s, r⟩ := w
    simp only [Option.bind_some, getP_mk]
    cases hs : getS ρ[s]? with
    | none =>
      simp only [Option.bind_none]
      cases ev g e ρ <;> rfl
    | some d =>
      simp only [Option.bind_some]
      cases hd : getA d r with
      | none =>
        simp only [Option.bind_none]
        cases ev g e ρ <;> rfl
      | some d1 =>
        simp only [Option.bind_some]
        cases ha : accR (some d1) (ev g e ρ) with
        | none => rfl
        | some a =>
          simp only [Option.map_some, Option.bind_some, getP_mk, hs, getA_app, hd]
end

/-! ### things in things -/
def D.at_ (d i : D) : Option D := (accOf d i).bind fun a => accD d a
def atR (d : D) (i : RE) : Option D := match i with
  | .ok i _ => d.at_ i
  | _ => none
@[simp] theorem atR_ok {d i : D} {ρ : Sl} : atR d (.ok i ρ) = d.at_ i := (rfl)
@[simp] theorem rdP_sub_ {g : G} {ρ : Sl} {p : P} {e : E} (h : pur e = true) : rdP g (.sub p e) ρ = (rdP g p ρ).bind fun d => atR d (ev g e ρ) := by
  rw [rdP_sub h]
  cases rdP g p ρ with
  | none => rfl
  | some d => cases ev g e ρ <;> rfl
@[simp] theorem rdP_fld_ {g : G} {ρ : Sl} {p : P} {f : Str} : rdP g (.fld p f) ρ = (rdP g p ρ).bind fun d => accD d (.f f) := rdP_fld
@[simp] theorem evP_sub_ {g : G} {ρ : Sl} {p : P} {e : E} (h : pur e = true) : evP g (.sub p e) ρ = (evP g p ρ).bind fun r => (accR (getP ρ r) (ev g e ρ)).map fun a => ⟨r.s, r.r ++ [a]⟩ := evP_sub h
theorem ixD_eq {n : Nat} {i : Int} : ixD n i = if 0 ≤ i then (if i < n then some i.toNat else none) else if -(n : Int) ≤ i then some (i + n).toNat else none := (rfl)
@[simp] theorem ixD_in {n : Nat} {i : Int} (h0 : 0 ≤ i) (h1 : i < n) : ixD n i = some i.toNat := by rw [ixD_eq, if_pos h0, if_pos h1]
@[simp] theorem at_tup {xs : List D} {k : Int} : D.at_ (.tup xs) (.int k) = (ixD xs.length k).bind fun j => xs[j]? := by
  show ((ixD xs.length k).map .i).bind (fun a => accD (.tup xs) a) = _
  cases ixD xs.length k <;> rfl
@[simp] theorem at_lst {o : Bool} {xs : List D} {k : Int} : D.at_ (.lst o xs) (.int k) = (ixD xs.length k).bind fun j => xs[j]? := by
  show ((ixD xs.length k).map .i).bind (fun a => accD (.lst o xs) a) = _
  cases ixD xs.length k <;> rfl
theorem posK_look {k : Key} : ∀ {kvs : List (Key × D)}, ((posK k kvs).bind fun j => kvs[j]?.map (·.2)) = lookK k kvs
  | [] => rfl
  | (j, v) :: r => by
    simp only [posK, lookK]
    split
    · rfl
    · rw [← posK_look (kvs := r)]
      cases posK k r <;> simp
@[simp] theorem at_dic {o : Bool} {kvs : List (Key × D)} {k : D} : D.at_ (.dic o kvs) k = k.key.bind fun j => lookK j kvs := by
  unfold D.at_ accOf
  cases k with
  | int i =>
    simp only [D.key, Option.bind_some]
    rw [← posK_look]
    cases posK _ kvs <;> rfl
  | str i =>
    simp only [D.key, Option.bind_some]
    rw [← posK_look]
    cases posK _ kvs <;> rfl
  | _ => rfl
@[simp] theorem accOf_tup {xs : List D} {k : Int} : accOf (.tup xs) (.int k) = (ixD xs.length k).map .i := (rfl)
@[simp] theorem accOf_lst {o : Bool} {xs : List D} {k : Int} : accOf (.lst o xs) (.int k) = (ixD xs.length k).map .i := (rfl)
@[simp] theorem accOf_dicS {o : Bool} {kvs : List (Key × D)} {k : Str} : accOf (.dic o kvs) (.str k) = (posK (.inr k) kvs).map .i := (rfl)
@[simp] theorem accOf_dicI {o : Bool} {kvs : List (Key × D)} {k : Int} : accOf (.dic o kvs) (.int k) = (posK (.inl k) kvs).map .i := (rfl)
@[simp] theorem accD_tup {xs : List D} {j : Nat} : accD (.tup xs) (.i j) = xs[j]? := (rfl)
@[simp] theorem accD_lst {o : Bool} {xs : List D} {j : Nat} : accD (.lst o xs) (.i j) = xs[j]? := (rfl)
@[simp] theorem accD_dic {o : Bool} {xs : List (Key × D)} {j : Nat} : accD (.dic o xs) (.i j) = (xs[j]?).map (·.2) := (rfl)
@[simp] theorem accD_ins {o : Bool} {c f : Str} {fs : List (Str × D)} : accD (.ins o c fs) (.f f) = lookF f fs := (rfl)
@[simp] theorem key_int {i : Int} : D.key (.int i) = some (.inl i) := (rfl)
@[simp] theorem key_str {i : Str} : D.key (.str i) = some (.inr i) := (rfl)
@[simp] theorem lookK_nil {α : Type} {k : Key} : lookK k ([] : List (Key × α)) = none := (rfl)
@[simp] theorem lookK_cons {α : Type} {k j : Key} {v : α} {r : List (Key × α)} : lookK k ((j, v) :: r) = if j = k then some v else lookK k r := (rfl)
@[simp] theorem putKD_nil {k : Key} {v : D} : putKD k v [] = [(k, v)] := (rfl)
@[simp] theorem putKD_cons {k j : Key} {v w : D} {r : List (Key × D)} : putKD k v ((j, w) :: r) = if j = k then (j, v) :: r else (j, w) :: putKD k v r := (rfl)
@[simp] theorem posK_nil {k : Key} : posK k [] = none := (rfl)
@[simp] theorem posK_cons {k j : Key} {w : D} {r : List (Key × D)} : posK k ((j, w) :: r) = if j = k then some 0 else (posK k r).map (· + 1) := (rfl)
@[simp] theorem lookF_nil {α : Type} {k : Str} : lookF k ([] : List (Str × α)) = none := (rfl)
@[simp] theorem lookF_cons {α : Type} {k j : Str} {v : α} {r : List (Str × α)} : lookF k ((j, v) :: r) = if j = k then some v else lookF k r := (rfl)
@[simp] theorem putFD_nil {k : Str} {v : D} : putFD k v [] = [(k, v)] := (rfl)
@[simp] theorem putFD_cons {k j : Str} {v w : D} {r : List (Str × D)} : putFD k v ((j, w) :: r) = if j = k then (j, v) :: r else (j, w) :: putFD k v r := (rfl)
@[simp] theorem setA_lst {xs : List D} {j : Nat} {r : List Acc} {e : D} : setA (.lst true xs) (.i j :: r) e = (xs[j]?).bind fun d => (setA d r e).map fun d' => .lst true (xs.set j d') := by
  simp only [setA]
  cases xs[j]? <;> rfl
@[simp] theorem setA_dic {xs : List (Key × D)} {j : Nat} {r : List Acc} {e : D} : setA (.dic true xs) (.i j :: r) e = (xs[j]?).bind fun q => (setA q.2 r e).map fun d' => .dic true (xs.set j (q.1, d')) := by
  simp only [setA]
  cases xs[j]? <;> rfl
@[simp] theorem setA_ins {c x : Str} {fs : List (Str × D)} {r : List Acc} {e : D} : setA (.ins true c fs) (.f x :: r) e = (lookF x fs).bind fun d => (setA d r e).map fun d' => .ins true c (putFD x d' fs) := by
  simp only [setA]
  cases lookF x fs <;> rfl
/-! ### purity -/
section
variable {a b c : E} {p : P} {es : Es}
@[simp] theorem pur_non : pur .non = true := (rfl)
@[simp] theorem pur_bl {x : Bool} : pur (.bl x) = true := (rfl)
@[simp] theorem pur_int {x : Int} : pur (.int x) = true := (rfl)
@[simp] theorem pur_str {x : Str} : pur (.str x) = true := (rfl)
@[simp] theorem pur_glb {x : Str} : pur (.glb x) = true := (rfl)
@[simp] theorem pur_rd : pur (.rd p) = purP p := by simp only [pur]
@[simp] theorem pur_bin {o : Bop} : pur (.bin o a b) = (pur a && pur b) := by simp only [pur]
@[simp] theorem pur_un {o : Uop} : pur (.un o a) = pur a := by simp only [pur]
@[simp] theorem pur_not : pur (.not a) = pur a := by simp only [pur]
@[simp] theorem pur_and : pur (.and a b) = (pur a && pur b) := by simp only [pur]
@[simp] theorem pur_or : pur (.or a b) = (pur a && pur b) := by simp only [pur]
@[simp] theorem pur_cmp {o : Cop} : pur (.cmp o a b) = (pur a && pur b) := by simp only [pur]
@[simp] theorem pur_chain {o o' : Cop} : pur (.chain o o' a b c) = (pur a && pur b && pur c) := by simp only [pur]
@[simp] theorem pur_ite : pur (.ite c a b) = (pur c && pur a && pur b) := by simp only [pur]
@[simp] theorem pur_idx : pur (.idx a b) = (pur a && pur b) := by simp only [pur]
@[simp] theorem pur_b1 {o : B1} : pur (.b1 o a) = pur a := by simp only [pur]
@[simp] theorem pur_min2 : pur (.min2 a b) = (pur a && pur b) := by simp only [pur]
@[simp] theorem pur_max2 : pur (.max2 a b) = (pur a && pur b) := by simp only [pur]
@[simp] theorem pur_isi {t : Str} : pur (.isi a t) = pur a := by simp only [pur]
@[simp] theorem pur_get1 : pur (.get1 a b) = (pur a && pur b) := by simp only [pur]
@[simp] theorem pur_get2 : pur (.get2 a b c) = (pur a && pur b && pur c) := by simp only [pur]
@[simp] theorem pur_index : pur (.index a b) = (pur a && pur b) := by simp only [pur]
@[simp] theorem pur_tup : pur (.tup es) = purEs es := by simp only [pur]
@[simp] theorem pur_lst : pur (.lst es) = purEs es := by simp only [pur]
@[simp] theorem pur_slc : pur (.slc a b c) = (pur a && pur b && pur c) := by simp only [pur]
@[simp] theorem pur_rg1 {t : Bool} : pur (.rg1 t a) = pur a := by simp only [pur]
@[simp] theorem pur_rg2 {t : Bool} : pur (.rg2 t a b) = (pur a && pur b) := by simp only [pur]
@[simp] theorem pur_srs : pur (.srs a) = pur a := by simp only [pur]
@[simp] theorem pur_rev : pur (.rev a) = pur a := by simp only [pur]
@[simp] theorem pur_call {f : Str} {as : As} : pur (.call f as) = false := by simp only [pur]
@[simp] theorem pur_callk {f : Str} {as : As} {ks : List Str} : pur (.callk f as ks) = false := by simp only [pur]
@[simp] theorem pur_meth {f g : Str} {as : As} : pur (.meth f g p as) = false := by simp only [pur]
@[simp] theorem pur_new {f : Str} {as : As} : pur (.new f as) = false := by simp only [pur]
@[simp] theorem pur_mv {i : Nat} : pur (.mv i) = false := by simp only [pur]
@[simp] theorem pur_sh : pur (.sh p) = false := by simp only [pur]
@[simp] theorem pur_bm {m : Mut0} : pur (.bm m p es) = false := by simp only [pur]
@[simp] theorem pur_lc {t : Tg} {it : It} {o : List Nat} : pur (.lc a t it c o) = false := by simp only [pur]
@[simp] theorem pur_dc {t : Tg} {it : It} {o : List Nat} : pur (.dc a b t it c o) = false := by simp only [pur]
@[simp] theorem pur_dic {ks : List Key} : pur (.dic ks es) = false := by simp only [pur]
@[simp] theorem purP_var {i : Nat} : purP (.var i) = true := by simp only [purP]
@[simp] theorem purP_fld {x : Str} : purP (.fld p x) = purP p := by simp only [purP]
@[simp] theorem purP_sub : purP (.sub p a) = (purP p && pur a) := by simp only [purP]
@[simp] theorem purEs_nil : purEs .nil = true := by simp only [purEs]
@[simp] theorem purEs_cons : purEs (.cons a es) = (pur a && purEs es) := by simp only [purEs]
@[simp] theorem purAs_nil : purAs .nil = true := by simp only [purAs]
@[simp] theorem purAs_v {as : As} : purAs (.v a as) = (pur a && purAs as) := by simp only [purAs]
@[simp] theorem purAs_l {as : As} : purAs (.l p as) = purAs as := by simp only [purAs]
@[simp] theorem bare_var {i : Nat} : P.bare (.var i) = true := (rfl)
@[simp] theorem bare_fld {x : Str} : P.bare (.fld p x) = false := (rfl)
@[simp] theorem bare_sub : P.bare (.sub p a) = false := (rfl)
end
/-! ### expressions -/
def truK (t : Option Bool) (k : Bool → RE) : RE := match t with
  | some b => k b
  | none => .bad
@[simp] theorem truK_some {b : Bool} {k : Bool → RE} : truK (some b) k = k b := (rfl)
theorem truK_congr {t t' : Option Bool} {k : Bool → RE} (h : t = t') : truK t k = truK t' k := by rw [h]
def andK (x : D) (k : Sl → RE) (ρ : Sl) : RE := match x with
  | .bl true => k ρ
  | .bl false => .ok (.bl false) ρ
  | _ => .bad
def orK (x : D) (k : Sl → RE) (ρ : Sl) : RE := match x with
  | .bl false => k ρ
  | .bl true => .ok (.bl true) ρ
  | _ => .bad
@[simp] theorem andK_bl {t : Bool} {k : Sl → RE} {ρ : Sl} : andK (.bl t) k ρ = if t = true then k ρ else .ok (.bl false) ρ := by cases t <;> rfl
@[simp] theorem orK_bl {t : Bool} {k : Sl → RE} {ρ : Sl} : orK (.bl t) k ρ = if t = true then .ok (.bl true) ρ else k ρ := by cases t <;> rfl
theorem andK_congr {x y : D} {k : Sl → RE} {ρ : Sl} (h : x = y) : andK x k ρ = andK y k ρ := by rw [h]
theorem orK_congr {x y : D} {k : Sl → RE} {ρ : Sl} (h : x = y) : orK x k ρ = orK y k ρ := by rw [h]
def chainK (o1 o2 : Cop) (x y : D) (c : Sl → RE) (ρ : Sl) : RE := match y with
  | .int j => (match o1.run x (.int j) with
    | some (.bl true) => (c ρ).o true fun z ρ3 => .lift (o2.run (.int j) z) ρ3
    | some (.bl false) => .ok (.bl false) ρ
    | _ => .bad)
  | _ => .bad
theorem chainK_congr {o1 o2 : Cop} {x y x' y' : D} {c : Sl → RE} {ρ : Sl} (h : x = x') (h2 : y = y') : chainK o1 o2 x y c ρ = chainK o1 o2 x' y' c ρ := by rw [h, h2]
def chK (t : Option D) (k : Sl → RE) (ρ : Sl) : RE := match t with
  | some (.bl true) => k ρ
  | some (.bl false) => .ok (.bl false) ρ
  | _ => .bad
theorem chK_congr {t t' : Option D} {k : Sl → RE} {ρ : Sl} (h : t = t') : chK t k ρ = chK t' k ρ := by rw [h]
@[simp] theorem chK_bl {b : Bool} {k : Sl → RE} {ρ : Sl} : chK (some (.bl b)) k ρ = if b = true then k ρ else .ok (.bl false) ρ := by cases b <;> rfl
@[simp] theorem chainK_int {o1 o2 : Cop} {x : D} {j : Int} {c : Sl → RE} {ρ : Sl} : chainK o1 o2 x (.int j) c ρ = chK (o1.run x (.int j)) (fun ρ => (c ρ).o true fun z ρ3 => .lift (o2.run (.int j) z) ρ3) ρ := by
  simp only [chainK, chK] <;> rfl
section
variable {g : G} {ρ : Sl} {a b c : E}
@[simp] theorem ev_non : ev g .non ρ = .ok .non ρ := by simp only [ev]
@[simp] theorem ev_bl {x : Bool} : ev g (.bl x) ρ = .ok (.bl x) ρ := by simp only [ev]
@[simp] theorem ev_int {x : Int} : ev g (.int x) ρ = .ok (.int x) ρ := by simp only [ev]
@[simp] theorem ev_str {x : Str} : ev g (.str x) ρ = .ok (.str x) ρ := by simp only [ev]
@[simp] theorem ev_glb {x : Str} : ev g (.glb x) ρ = .lift (g.con x) ρ := by simp only [ev]
@[simp] theorem ev_rd {p : P} : ev g (.rd p) ρ = rdR (rdP g p ρ) ρ := by
  simp only [ev, rdP]
  cases evP g p ρ with
  | none => rfl
  | some r =>
    simp only [Option.bind_some]
    cases getP ρ r <;> rfl
def mvR (g : G) (i : Nat) (o : Option (Option D)) (ρ : Sl) : RE := match o with
  | some (some d) => if d.mov && !(g.prot.contains i) then .ok d (ρ.set i none) else .bad
  | _ => .bad
@[simp] theorem mvR_some {i : Nat} {d : D} (h : d.mov = true) (hp : g.prot.contains i = false) : mvR g i (some (some d)) ρ = .ok d (ρ.set i none) := by
  simp only [mvR, h, hp]
  rfl
@[simp] theorem ev_mv {i : Nat} : ev g (.mv i) ρ = mvR g i ρ[i]? ρ := by
  simp only [ev]
  unfold mvR
  generalize ρ[i]? = o
  cases o with
  | none => rfl
  | some o =>
    cases o with
    | none => rfl
    | some d =>
      cases d <;> simp [D.mov] <;> cases h : decide (i ∈ g.prot) <;> simp_all
@[simp] theorem ev_bin {op : Bop} : ev g (.bin op a b) ρ = (ev g a ρ).o (pur b) fun x ρ1 => (ev g b ρ1).o true fun y ρ2 => .lift (op.run x y) ρ2 := by simp only [ev]
@[simp] theorem ev_un {op : Uop} : ev g (.un op a) ρ = (ev g a ρ).o true fun x ρ1 => .lift (op.run x) ρ1 := by simp only [ev]
@[simp] theorem ev_not : ev g (.not a) ρ = (ev g a ρ).o true fun x ρ1 => truK x.tru fun b => .ok (.bl (!b)) ρ1 := by
  simp only [ev] <;> rfl
@[simp] theorem ev_and : ev g (.and a b) ρ = (ev g a ρ).v fun x ρ1 => andK x (ev g b) ρ1 := by
  simp only [ev] <;> rfl
@[simp] theorem ev_or : ev g (.or a b) ρ = (ev g a ρ).v fun x ρ1 => orK x (ev g b) ρ1 := by
  simp only [ev] <;> rfl
@[simp] theorem ev_cmp {op : Cop} : ev g (.cmp op a b) ρ = (ev g a ρ).o (pur b) fun x ρ1 => (ev g b ρ1).o true fun y ρ2 => .lift (op.run x y) ρ2 := by simp only [ev]
@[simp] theorem ev_chain {o1 o2 : Cop} : ev g (.chain o1 o2 a b c) ρ = (ev g a ρ).v fun x ρ1 => (ev g b ρ1).v fun y ρ2 => chainK o1 o2 x y (ev g c) ρ2 := by
  simp only [ev] <;> rfl
@[simp] theorem ev_ite : ev g (.ite c a b) ρ = (ev g c ρ).o true fun x ρ1 => truK x.tru fun t => if t = true then ev g a ρ1 else ev g b ρ1 := by
  simp only [ev]
  congr
  funext x ρ1
  cases x.tru with
  | none => rfl
  | some t => cases t <;> rfl
def REs.k (r : REs) (k : List D → Sl → RE) : RE := match r with
  | .ok as ρ => k as ρ
  | .exc c v ρ => .exc c v ρ
  | .bad => .bad
@[simp] theorem REs.k_ok {as : List D} {k : List D → Sl → RE} : REs.k (.ok as ρ) k = k as ρ := (rfl)
@[simp] theorem REs.k_exc {c : Str} {v : D} {k : List D → Sl → RE} : REs.k (.exc c v ρ) k = .exc c v ρ := (rfl)
theorem REs.k_congr {r r' : REs} {k : List D → Sl → RE} (h : r = r') : REs.k r k = REs.k r' k := by rw [h]
@[simp] theorem ev_tup {es : Es} : ev g (.tup es) ρ = (evEs g es ρ).k fun as ρ1 => .ok (.tup (shareL as)) ρ1 := by
  simp only [ev]
  cases evEs g es ρ <;> rfl
@[simp] theorem ev_lst {es : Es} : ev g (.lst es) ρ = (evEs g es ρ).k fun as ρ1 => .ok (.lst true as) ρ1 := by
  simp only [ev]
  cases evEs g es ρ <;> rfl
@[simp] theorem ev_dic {ks : List Key} {es : Es} : ev g (.dic ks es) ρ = (evEs g es ρ).k fun as ρ1 => if ks.length = as.length then .ok (.dic true (ks.zip as)) ρ1 else .bad := by
  simp only [ev]
  cases evEs g es ρ <;> rfl
@[simp] theorem ev_idx : ev g (.idx a b) ρ = (ev g a ρ).o (pur b) fun x ρ1 => (ev g b ρ1).o true fun y ρ2 => .lift (fixed (x.ix y)) ρ2 := by simp only [ev]
def slcK (x : D) (lo hi : E) (l h : RE) (ρ : Sl) : RE := match l, h with
  | .ok y _, .ok z _ => (match partE lo y, partE hi z with
    | some l, some h => .lift (x.slc l h) ρ
    | _, _ => .bad)
  | _, _ => .bad
@[simp] theorem ev_slc (h : (pur b && pur c) = true) : ev g (.slc a b c) ρ = (ev g a ρ).o true fun x ρ1 => slcK x b c (ev g b ρ1) (ev g c ρ1) ρ1 := by
  simp only [ev, h, if_true]
  rfl
@[simp] theorem slcK_ii {x : D} {lo hi : E} {i j : Int} {ρ1 ρ2 : Sl} (h1 : partE lo (.int i) = some (some i)) (h2 : partE hi (.int j) = some (some j)) : slcK x lo hi (.ok (.int i) ρ1) (.ok (.int j) ρ2) ρ = .lift (x.slc (some i) (some j)) ρ := by simp [slcK, h1, h2]
@[simp] theorem slcK_in {x : D} {lo : E} {i : Int} {ρ1 ρ2 : Sl} (h1 : partE lo (.int i) = some (some i)) : slcK x lo .non (.ok (.int i) ρ1) (.ok .non ρ2) ρ = .lift (x.slc (some i) none) ρ := by
  simp only [slcK, h1]
  rfl
@[simp] theorem slcK_ni {x : D} {hi : E} {j : Int} {ρ1 ρ2 : Sl} (h2 : partE hi (.int j) = some (some j)) : slcK x .non hi (.ok .non ρ1) (.ok (.int j) ρ2) ρ = .lift (x.slc none (some j)) ρ := by
  simp only [slcK, h2]
  rfl
@[simp] theorem slcK_nn {x : D} {ρ1 ρ2 : Sl} : slcK x .non .non (.ok .non ρ1) (.ok .non ρ2) ρ = .lift (x.slc none none) ρ := by simp [slcK, partE]
@[simp] theorem partE_int {i j : Int} : partE (.int i) (.int j) = some (some j) := (rfl)
@[simp] theorem partE_rd {p : P} {j : Int} : partE (.rd p) (.int j) = some (some j) := (rfl)
@[simp] theorem partE_bin {o : Bop} {j : Int} : partE (.bin o a b) (.int j) = some (some j) := (rfl)
@[simp] theorem partE_un {o : Uop} {j : Int} : partE (.un o a) (.int j) = some (some j) := (rfl)
@[simp] theorem partE_b1 {o : B1} {j : Int} : partE (.b1 o a) (.int j) = some (some j) := (rfl)
@[simp] theorem ev_rev : ev g (.rev a) ρ = (ev g a ρ).o true fun x ρ1 => .lift x.rev ρ1 := by simp only [ev]
def RA.k (r : RA) (k : List AV → Sl → RE) : RE := match r with
  | .ok as ρ => k as ρ
  | .exc c v ρ => .exc c v ρ
  | .bad => .bad
@[simp] theorem RA.k_ok {as : List AV} {k : List AV → Sl → RE} : RA.k (.ok as ρ) k = k as ρ := (rfl)
@[simp] theorem RA.k_exc {c : Str} {v : D} {k : List AV → Sl → RE} : RA.k (.exc c v ρ) k = .exc c v ρ := (rfl)
theorem RA.k_congr {r r' : RA} {k : List AV → Sl → RE} (h : r = r') : RA.k r k = RA.k r' k := by rw [h]
@[simp] theorem ev_call {f : Str} {as : As} : ev g (.call f as) ρ = (evAs g as ρ).k fun vs ρ1 => doCall g f vs ρ1 := by
  simp only [ev]
  cases evAs g as ρ <;> rfl
def oRE (o : Option α) (k : α → RE) : RE := match o with
  | some x => k x
  | none => .bad
@[simp] theorem oRE_some {α : Type} {x : α} {k : α → RE} : oRE (some x) k = k x := (rfl)
theorem oRE_congr {α : Type} {x y : Option α} {k : α → RE} (h : x = y) : oRE x k = oRE y k := by rw [h]
@[simp] theorem ev_callk {f : Str} {as : As} {ks : List Str} : ev g (.callk f as ks) ρ = (evAs g as ρ).k fun vs ρ1 => oRE (byName (g.ps f) ks vs) fun ws => doCall g f ws ρ1 := by
  simp only [ev]
  cases evAs g as ρ with
  | ok vs ρ1 =>
    simp only [RA.k]
    cases byName (g.ps f) ks vs <;> rfl
  | _ => rfl
@[simp] theorem ev_b1 {o : B1} : ev g (.b1 o a) ρ = (ev g a ρ).o true fun x ρ1 => .lift (o.run x) ρ1 := by simp only [ev]
@[simp] theorem ev_min2 : ev g (.min2 a b) ρ = (ev g a ρ).o (pur b) fun x ρ1 => (ev g b ρ1).o true fun y ρ2 => .lift (x.min2 y) ρ2 := by simp only [ev]
@[simp] theorem ev_max2 : ev g (.max2 a b) ρ = (ev g a ρ).o (pur b) fun x ρ1 => (ev g b ρ1).o true fun y ρ2 => .lift (x.max2 y) ρ2 := by simp only [ev]
@[simp] theorem ev_isi {t : Str} : ev g (.isi a t) ρ = (ev g a ρ).o true fun x ρ1 => .lift ((x.isi t).map .bl) ρ1 := by simp only [ev]
@[simp] theorem ev_rg1 {t : Bool} : ev g (.rg1 t a) ρ = (ev g a ρ).o true fun x ρ1 => .lift (rgD t (.int 0) x) ρ1 := by simp only [ev]
@[simp] theorem ev_rg2 {t : Bool} : ev g (.rg2 t a b) ρ = (ev g a ρ).o (pur b) fun x ρ1 => (ev g b ρ1).o true fun y ρ2 => .lift (rgD t x y) ρ2 := by simp only [ev]
@[simp] theorem ev_srs : ev g (.srs a) ρ = (ev g a ρ).o true fun x ρ1 => .lift x.srs ρ1 := by simp only [ev]
def idxK (y : D) (r : RE) : RE := match y with
  | .lst _ _ => r.o true fun z ρ2 => .lift (y.index z) ρ2
  | _ => .bad
@[simp] theorem idxK_lst {o : Bool} {xs : List D} {r : RE} : idxK (.lst o xs) r = r.o true fun z ρ2 => .lift ((D.lst o xs).index z) ρ2 := (rfl)
@[simp] theorem ev_index : ev g (.index a b) ρ = (ev g a ρ).o (pur b) fun y ρ1 => idxK y (ev g b ρ1) := by
  simp only [ev] <;> rfl
@[simp] theorem evEs_nil : evEs g .nil ρ = .ok [] ρ := by simp only [evEs]
def esK (d : D) (r : REs) : REs := REs.cons d r
def RE.es (r : RE) (k : D → Sl → REs) : REs := match r with
  | .ok d ρ => k d ρ
  | .exc c v ρ => .exc c v ρ
  | _ => .bad
@[simp] theorem RE.es_ok {d : D} {k : D → Sl → REs} : RE.es (.ok d ρ) k = k d ρ := (rfl)
@[simp] theorem RE.es_exc {c : Str} {v : D} {k : D → Sl → REs} : RE.es (.exc c v ρ) k = .exc c v ρ := (rfl)
theorem RE.es_congr {r r' : RE} {k : D → Sl → REs} (h : r = r') : RE.es r k = RE.es r' k := by rw [h]
@[simp] theorem REs.cons_ok {d : D} {as : List D} : REs.cons d (.ok as ρ) = .ok (d :: as) ρ := (rfl)
@[simp] theorem REs.cons_exc {d v : D} {c : Str} : REs.cons d (.exc c v ρ) = .exc c v ρ := (rfl)
@[simp] theorem evEs_cons {es : Es} : evEs g (.cons a es) ρ = (ev g a ρ).es fun d ρ1 => .cons d (evEs g es ρ1) := by
  simp only [evEs]
  cases ev g a ρ <;> rfl
def RE.as (r : RE) (k : D → Sl → RA) : RA := match r with
  | .ok d ρ => k d ρ
  | .exc c v ρ => .exc c v ρ
  | _ => .bad
@[simp] theorem RE.as_ok {d : D} {k : D → Sl → RA} : RE.as (.ok d ρ) k = k d ρ := (rfl)
@[simp] theorem RE.as_exc {c : Str} {v : D} {k : D → Sl → RA} : RE.as (.exc c v ρ) k = .exc c v ρ := (rfl)
theorem RE.as_congr {r r' : RE} {k : D → Sl → RA} (h : r = r') : RE.as r k = RE.as r' k := by rw [h]
@[simp] theorem RA.cons_ok {d : AV} {as : List AV} : RA.cons d (.ok as ρ) = .ok (d :: as) ρ := (rfl)
@[simp] theorem RA.cons_exc {d : AV} {v : D} {c : Str} : RA.cons d (.exc c v ρ) = .exc c v ρ := (rfl)
@[simp] theorem evAs_nil : evAs g .nil ρ = .ok [] ρ := by simp only [evAs]
@[simp] theorem evAs_v {as : As} : evAs g (.v a as) ρ = (ev g a ρ).as fun d ρ1 => .cons (.v d) (evAs g as ρ1) := by
  simp only [evAs]
  cases ev g a ρ <;> rfl
def lvK (r : Pth) (o : Option D) (x : RA) : RA := match o with
  | some _ => .cons (.l r) x
  | none => .bad
@[simp] theorem lvK_some {r : Pth} {d : D} {x : RA} : lvK r (some d) x = .cons (.l r) x := (rfl)
@[simp] theorem evAs_l {i : Nat} {as : As} : evAs g (.l (.var i) as) ρ = lvK ⟨i, []⟩ (getS ρ[i]?) (evAs g as ρ) := by
  simp only [evAs, bare_var, Bool.true_or, if_true, evP_var, getP_mk]
  cases getS ρ[i]? <;> rfl
end
end TW
end

section
/-! what is reckoned, step by step: statements, calls, loops -/
namespace TW
open PySem
/-! ### operators -/
section
variable {i j : Int} {a b : D} {s t : Str} {x : Bool} {xs ys : List D} {o o' : Bool} {kvs : List (Key × D)}
@[simp] theorem bop_add : Bop.run .add (.int i) (.int j) = some (.int (i + j)) := (rfl)
@[simp] theorem bop_sub : Bop.run .sub (.int i) (.int j) = some (.int (i - j)) := (rfl)
/-- not too great to be multiplied -/
def wide (i : Int) : Bool := decide (i.natAbs < 2 ^ 3000)
theorem wide_le {i : Int} (h : i.natAbs < 2 ^ 2000) : wide i = true := decide_eq_true (Nat.lt_of_lt_of_le h (Nat.pow_le_pow_right (by decide) (by decide)))
@[simp] theorem wide_of {i : Int} (h : i.natAbs < 2 ^ 200) : wide i = true := wide_le (Nat.lt_of_lt_of_le h (Nat.pow_le_pow_right (by decide) (by decide)))
@[simp] theorem bop_mul (h : wide i = true) (h2 : wide j = true) : Bop.run .mul (.int i) (.int j) = some (.int (i * j)) := by
  show (if wide i && wide j then some (D.int (i * j)) else none) = _
  rw [h, h2] <;> rfl
@[simp] theorem bop_fdiv (h : 0 < j) (h2 : wide j = true) : Bop.run .fdiv (.int i) (.int j) = some (.int (i / j)) := by
  show (if decide (0 < j) && wide j then some (D.int (i / j)) else _) = _
  rw [if_pos (by simp only [h, h2, decide_true, Bool.and_self])]
@[simp] theorem bop_mod (h : 0 < j) : Bop.run .mod (.int i) (.int j) = some (.int (i % j)) := by
  show (if j = 0 then none else some (D.int (i.fmod j))) = _
  rw [if_neg (by omega), Int.fmod_eq_emod_of_nonneg _ (by omega)]
@[simp] theorem bop_pow (h : (decide (0 ≤ j) && decide (j ≤ 1000) && decide (i.natAbs < 2 ^ 64)) = true) : Bop.run .pow (.int i) (.int j) = some (.int (i ^ j.toNat)) := by
  show (if decide (0 ≤ j) && decide (j ≤ 1000) && decide (i.natAbs < 2 ^ 64) then some (D.int (i ^ j.toNat)) else none) = _
  rw [if_pos h]
@[simp] theorem bop_addT (h : xs.length + ys.length ≤ LINE) : Bop.run .add (.tup xs) (.tup ys) = some (.tup (xs ++ ys)) := by
  show (if xs.length + ys.length ≤ LINE then some (D.tup (xs ++ ys)) else none) = _
  rw [if_pos h]
@[simp] theorem bop_addL (h1 : ownL xs = false) (h2 : ownL ys = false) (h : xs.length + ys.length ≤ LINE) : Bop.run .add (.lst o xs) (.lst o' ys) = some (.lst true (xs ++ ys)) := by
  show (if ownL xs || ownL ys then none else if xs.length + ys.length ≤ LINE then some (D.lst true (xs ++ ys)) else none) = _
  rw [if_neg (by rw [h1, h2]; exact Bool.false_ne_true), if_pos h]
theorem bop_mulL {k : Int} (h1 : ownL xs = false) (h2 : k < 2 ^ 62) (h3 : -(2 ^ 62) < k) (h : xs.length * k.toNat ≤ LINE) : Bop.run .mul (.lst o xs) (.int k) = some (.lst true (List.replicate k.toNat xs).flatten) := by
  show (if ownL xs then none else if decide (k < 2 ^ 62) && decide (-(2 ^ 62) < k) && decide (xs.length * k.toNat ≤ LINE) then some (D.lst true (List.replicate k.toNat xs).flatten) else none) = _
  rw [if_neg (by rw [h1]; exact Bool.false_ne_true), if_pos (by simp only [h2, h3, h, decide_true, Bool.and_self])]
@[simp] theorem uop_neg : Uop.run .neg (.int i) = some (.int (-i)) := (rfl)
@[simp] theorem tru_non : D.tru .non = some false := (rfl)
@[simp] theorem tru_bl : D.tru (.bl x) = some x := (rfl)
@[simp] theorem tru_int : D.tru (.int i) = some (i != 0) := (rfl)
@[simp] theorem tru_tup : D.tru (.tup xs) = some (!xs.isEmpty) := (rfl)
@[simp] theorem tru_lst : D.tru (.lst o xs) = some (!xs.isEmpty) := (rfl)
@[simp] theorem cop_lt : Cop.run .lt (.int i) (.int j) = some (.bl (decide (i < j))) := (rfl)
@[simp] theorem cop_le : Cop.run .le (.int i) (.int j) = some (.bl (decide (i ≤ j))) := (rfl)
@[simp] theorem cop_gt : Cop.run .gt (.int i) (.int j) = some (.bl (decide (j < i))) := (rfl)
@[simp] theorem cop_ge : Cop.run .ge (.int i) (.int j) = some (.bl (decide (j ≤ i))) := (rfl)
@[simp] theorem cop_eq : Cop.run .eq a b = (a.eqv b).map .bl := by cases a <;> cases b <;> rfl
@[simp] theorem cop_ne : Cop.run .ne a b = (a.eqv b).map fun z => .bl (!z) := by cases a <;> cases b <;> rfl
@[simp] theorem cop_isN : Cop.run .isN a .non = a.isNon.map .bl := by cases a <;> rfl
@[simp] theorem cop_notN : Cop.run .notN a .non = a.isNon.map fun z => .bl (!z) := by cases a <;> rfl
@[simp] theorem cop_in : Cop.run .isin a b = (a.isin b).map .bl := by cases a <;> cases b <;> rfl
@[simp] theorem cop_notin : Cop.run .notin a b = (a.isin b).map fun z => .bl (!z) := by cases a <;> cases b <;> rfl
@[simp] theorem isNon_non : D.isNon .non = some true := (rfl)
@[simp] theorem isNon_bl : D.isNon (.bl x) = some false := (rfl)
@[simp] theorem isNon_int : D.isNon (.int i) = some false := (rfl)
@[simp] theorem isNon_str : D.isNon (.str s) = some false := (rfl)
@[simp] theorem isNon_tup : D.isNon (.tup xs) = some false := (rfl)
@[simp] theorem isNon_lst : D.isNon (.lst o xs) = some false := (rfl)
@[simp] theorem isNon_dic : D.isNon (.dic o kvs) = some false := (rfl)
@[simp] theorem isi_non : D.isi t .non = some false := (rfl)
@[simp] theorem isi_bl : D.isi t (.bl x) = some (t == "int" || t == "bool") := (rfl)
@[simp] theorem isi_int : D.isi t (.int i) = some (t == "int") := (rfl)
@[simp] theorem isi_str : D.isi t (.str s) = some (t == "str") := (rfl)
@[simp] theorem isi_tup : D.isi t (.tup xs) = some (t == "tuple") := (rfl)
@[simp] theorem isi_lst : D.isi t (.lst o xs) = some (t == "list") := (rfl)
@[simp] theorem isi_dic : D.isi t (.dic o kvs) = some (t == "dict") := (rfl)
/-! ### built-ins -/
@[simp] theorem b1_lenL : B1.run .len (.lst o xs) = some (.int xs.length) := (rfl)
@[simp] theorem b1_lenT : B1.run .len (.tup xs) = some (.int xs.length) := (rfl)
@[simp] theorem b1_lenD : B1.run .len (.dic o kvs) = some (.int kvs.length) := (rfl)
@[simp] theorem b1_abs : B1.run .abs (.int i) = some (.int (if i < 0 then -i else i)) := (rfl)
@[simp] theorem b1_int : B1.run .int (.int i) = some (.int i) := (rfl)
@[simp] theorem b1_intB : B1.run .int (.bl x) = some (.int (if x then 1 else 0)) := (rfl)
@[simp] theorem b1_tupL (h : ownL xs = false) : B1.run .tuple (.lst o xs) = some (.tup xs) := by
  show (if ownL xs then none else some (D.tup xs)) = _
  rw [if_neg (by rw [h]; exact Bool.false_ne_true)]
@[simp] theorem b1_tupT (h : ownL xs = false) : B1.run .tuple (.tup xs) = some (.tup xs) := by
  show (if ownL xs then none else some (D.tup xs)) = _
  rw [if_neg (by rw [h]; exact Bool.false_ne_true)]
@[simp] theorem b1_lstL (h : ownL xs = false) : B1.run .list (.lst o xs) = some (.lst true xs) := by
  show (if ownL xs then none else some (D.lst true xs)) = _
  rw [if_neg (by rw [h]; exact Bool.false_ne_true)]
@[simp] theorem b1_lstT (h : ownL xs = false) : B1.run .list (.tup xs) = some (.lst true xs) := by
  show (if ownL xs then none else some (D.lst true xs)) = _
  rw [if_neg (by rw [h]; exact Bool.false_ne_true)]
@[simp] theorem intsD_mp {ns : List Int} : intsD (ns.map .int) = some ns := by
  induction ns with
  | nil => rfl
  | cons n ns ih => simp [intsD, ih]
@[simp] theorem blsD_map {ns : List Bool} : blsD (ns.map .bl) = some ns := by
  induction ns with
  | nil => rfl
  | cons n ns ih => simp [blsD, ih]
@[simp] theorem b1_sum {ns : List Int} : B1.run .sum (.lst o (ns.map .int)) = some (.int ns.sum) := by simp [B1.run, D.items]
@[simp] theorem b1_sumT {ns : List Int} : B1.run .sum (.tup (ns.map .int)) = some (.int ns.sum) := by simp [B1.run, D.items]
@[simp] theorem b1_max {ns : List Int} : B1.run .max (.lst o (ns.map .int)) = (maxI ns).map .int := by simp [B1.run, D.items]
@[simp] theorem b1_maxT {ns : List Int} : B1.run .max (.tup (ns.map .int)) = (maxI ns).map .int := by simp [B1.run, D.items]
@[simp] theorem b1_min {ns : List Int} : B1.run .min (.lst o (ns.map .int)) = (minI ns).map .int := by simp [B1.run, D.items]
@[simp] theorem b1_minT {ns : List Int} : B1.run .min (.tup (ns.map .int)) = (minI ns).map .int := by simp [B1.run, D.items]
@[simp] theorem b1_all {bs : List Bool} : B1.run .all (.lst o (bs.map .bl)) = some (.bl (bs.all id)) := by simp [B1.run]
@[simp] theorem b1_any {bs : List Bool} : B1.run .any (.lst o (bs.map .bl)) = some (.bl (bs.any id)) := by simp [B1.run]
@[simp] theorem min2_int : D.min2 (.int i) (.int j) = some (.int (if j < i then j else i)) := (rfl)
@[simp] theorem max2_int : D.max2 (.int i) (.int j) = some (.int (if i < j then j else i)) := (rfl)
@[simp] theorem fixed_some (h : a.own = false) : fixed (some a) = some a := by simp [fixed, h]
@[simp] theorem ix_tup {k : Int} : D.ix (.tup xs) (.int k) = (ixD xs.length k).bind fun j => xs[j]? := by
  show (match ixD xs.length k with
    | some j => xs[j]?
    | none => none) = _
  cases ixD xs.length k <;> rfl
@[simp] theorem ix_lst {k : Int} : D.ix (.lst o xs) (.int k) = (ixD xs.length k).bind fun j => xs[j]? := by
  show (match ixD xs.length k with
    | some j => xs[j]?
    | none => none) = _
  cases ixD xs.length k <;> rfl
end
/-! ### equality -/
section
variable {i j : Int} {s t : Str} {x y : Bool}
theorem eqv_of {a b : D} {p q : PyData} (h1 : a.py = some p) (h2 : b.py = some q) (h3 : PySem.SeqAt.shaped p = true) (h4 : PySem.SeqAt.shaped q = true) : a.eqv b = some (PyData.eqv p q) := by
  unfold D.eqv
  split
  · rename_i s t
    have e1 : p = .str s := by simpa [D.py] using h1.symm
    have e2 : q = .str t := by simpa [D.py] using h2.symm
    subst e1 e2
    rfl
  · simp [D.eqP, h1, h2, h3, h4]
@[simp] theorem eqv_strs : D.eqv (.str s) (.str t) = some (s == t) := (rfl)
@[simp] theorem eqv_int : D.eqv (.int i) (.int j) = some (decide (i = j)) := by
  rw [eqv_of (p := .int i) (q := .int j) rfl rfl rfl rfl]
  show some (i == j) = _
  by_cases h : i = j <;> simp [h]
@[simp] theorem eqv_bl : D.eqv (.bl x) (.bl y) = some (x == y) := by
  rw [eqv_of (p := .bool x) (q := .bool y) rfl rfl rfl rfl] <;> rfl
@[simp] theorem eqv_non : D.eqv .non .non = some true := (rfl)
end
/-! ### calls -/
def D.isHole : D → Bool
  | .hole => true
  | _ => false
@[simp] theorem isHole_not {d : D} (h : d.own = false) : d.isHole = false := by
  cases d <;> first | rfl | cases h
@[simp] theorem isHole_hole : D.isHole .hole = true := (rfl)
@[simp] theorem isHole_lst {o : Bool} {xs : List D} : D.isHole (.lst o xs) = false := (rfl)
@[simp] theorem isHole_dic {o : Bool} {xs : List (Key × D)} : D.isHole (.dic o xs) = false := (rfl)
@[simp] theorem isHole_tup {xs : List D} : D.isHole (.tup xs) = false := (rfl)
@[simp] theorem isHole_ins {o : Bool} {c : Str} {xs : List (Str × D)} : D.isHole (.ins o c xs) = false := (rfl)
section
variable {g : G} {ρ : Sl} {r : List AV} {d : D} {ds : List D} {w : Pth}
@[simp] theorem lend_nil : lend [] ρ = some ([], ρ) := (rfl)
@[simp] theorem lend_v : lend (.v d :: r) ρ = (lend r ρ).map fun x => (d.share :: x.1, x.2) := (rfl)
@[simp] theorem lend_l : lend (.l w :: r) ρ = (getP ρ w).bind fun d => if d.own = true then (setP ρ w .hole).bind fun ρ' => (lend r ρ').map fun x => (d :: x.1, x.2) else (lend r ρ).map fun x => (d :: x.1, x.2) := by
  simp only [lend]
  cases getP ρ w with
  | none => rfl
  | some d =>
    simp only [Option.bind_some]
    split
    · cases setP ρ w .hole <;> rfl
    · rfl
@[simp] theorem giveBack_nil : giveBack [] [] ρ = some ρ := (rfl)
@[simp] theorem giveBack_v {e : D} : giveBack (.v e :: r) (d :: ds) ρ = giveBack r ds ρ := (rfl)
@[simp] theorem giveBack_l : giveBack (.l w :: r) (d :: ds) ρ = (getP ρ w).bind fun e => if e.isHole = true then (setP ρ w d).bind fun ρ' => giveBack r ds ρ' else giveBack r ds ρ := by
  simp only [giveBack]
  cases getP ρ w with
  | none => rfl
  | some e =>
    cases e with
    | hole => cases setP ρ w d <;> rfl
    | _ => rfl
@[simp] theorem lentOk_nil : lentOk [] ρ = true := (rfl)
@[simp] theorem lentOk_v : lentOk (.v d :: r) ρ = lentOk r ρ := (rfl)
@[simp] theorem lentOk_l : lentOk (.l w :: r) ρ = ((getP ρ w).isSome && lentOk r ρ) := (rfl)
def crK (as : List AV) (ρ1 : Sl) (r : CR) : RE := match r with
  | .ok d ds' => (match giveBack as ds' ρ1 with
    | some ρ2 => .ok d ρ2
    | none => .bad)
  | .exc c v ds' => (match giveBack as ds' ρ1 with
    | some ρ2 => .exc c v ρ2
    | none => .bad)
  | .bad => .bad
theorem crK_congr {as : List AV} {a b : CR} (h : a = b) : crK as ρ a = crK as ρ b := by rw [h]
def okK (d : D) (o : Option Sl) : RE := match o with
  | some ρ2 => .ok d ρ2
  | none => .bad
@[simp] theorem okK_some : okK d (some ρ) = .ok d ρ := (rfl)
def excK (c : Str) (d : D) (o : Option Sl) : RE := match o with
  | some ρ2 => .exc c d ρ2
  | none => .bad
@[simp] theorem excK_some {c : Str} : excK c d (some ρ) = .exc c d ρ := (rfl)
@[simp] theorem crK_ok {as : List AV} : crK as ρ (.ok d ds) = okK d (giveBack as ds ρ) := (rfl)
@[simp] theorem crK_exc {as : List AV} {c : Str} : crK as ρ (.exc c d ds) = excK c d (giveBack as ds ρ) := (rfl)
def lendK (o : Option (List D × Sl)) (k : List D → Sl → RE) : RE := match o with
  | some x => k x.1 x.2
  | none => .bad
@[simp] theorem lendK_some {x : List D × Sl} {k : List D → Sl → RE} : lendK (some x) k = k x.1 x.2 := (rfl)
theorem lendK_congr {o o' : Option (List D × Sl)} {k : List D → Sl → RE} (h : o = o') : lendK o k = lendK o' k := by rw [h]
@[simp] theorem doCall_eq {f : Str} {as : List AV} : doCall g f as ρ = lendK (lend as ρ) fun ds ρ1 => if lentOk as ρ1 = true then crK as ρ1 (g.call f ds) else .bad := by
  unfold doCall
  cases lend as ρ with
  | none => rfl
  | some x =>
    simp only [lendK]
    split
    · cases g.call f x.1 <;> rfl
    · rfl
/-! ### a def's end -/
def finK (d : D) (o : Option (List D)) : CR := match o with
  | some ds => .ok d ds
  | none => .bad
def finX (c : Str) (d : D) (o : Option (List D)) : CR := match o with
  | some ds => .exc c d ds
  | none => .bad
@[simp] theorem finK_some : finK d (some ds) = .ok d ds := (rfl)
@[simp] theorem finX_some {c : Str} : finX c d (some ds) = .exc c d ds := (rfl)
@[simp] theorem finish_rt {as : List D} : finish as (.ok (.rt d) ρ) = finK d (finals as ρ) := by
  simp only [finish, finK] <;> cases finals as ρ <;> rfl
@[simp] theorem finish_nx {as : List D} : finish as (.ok .nx ρ) = finK .non (finals as ρ) := by
  simp only [finish, finK] <;> cases finals as ρ <;> rfl
@[simp] theorem finish_exc {as : List D} {c : Str} : finish as (.exc c d ρ) = finX c d (finals as ρ) := by
  simp only [finish, finX] <;> cases finals as ρ <;> rfl
@[simp] theorem finals_nil : finals [] ρ = some [] := by simp only [finals]
@[simp] theorem finals_not {o : Option D} (h : d.own = false) : finals (d :: ds) (o :: ρ) = (finals ds ρ).map (d :: ·) := by simp [finals, h]
@[simp] theorem finals_own {e : D} (h : d.own = true) : finals (d :: ds) (some e :: ρ) = (finals ds ρ).map (e :: ·) := by simp [finals, h]
/-- nothing was stored to it -/
@[simp] theorem finals_same : finals (d :: ds) (some d :: ρ) = (finals ds ρ).map (d :: ·) := by
  simp only [finals]
  split <;> rfl
@[simp] theorem lentAt_nil {n : Nat} : lentAt n [] = [] := (rfl)
@[simp] theorem lentAt_cons {n : Nat} : lentAt n (d :: ds) = if d.own = true then n :: lentAt (n + 1) ds else lentAt (n + 1) ds := by simp only [lentAt]
end
/-! ### ways -/
section
variable {p : Prop} [Decidable p] {a b : RE} {q : Bool}
@[simp] theorem RE.o_ite {k : D → Sl → RE} : RE.o (if p then a else b) q k = if p then RE.o a q k else RE.o b q k := by split <;> rfl
@[simp] theorem RE.v_ite {k : D → Sl → RE} : RE.v (if p then a else b) k = if p then RE.v a k else RE.v b k := by split <;> rfl
@[simp] theorem RE.s_ite {k : D → Sl → RS} : RE.s (if p then a else b) k = if p then RE.s a k else RE.s b k := by split <;> rfl
@[simp] theorem RE.t_ite {k : Bool → Sl → RS} : RE.t (if p then a else b) k = if p then RE.t a k else RE.t b k := by split <;> rfl
@[simp] theorem RE.es_ite {k : D → Sl → REs} : RE.es (if p then a else b) k = if p then RE.es a k else RE.es b k := by split <;> rfl
@[simp] theorem RE.as_ite {k : D → Sl → RA} : RE.as (if p then a else b) k = if p then RE.as a k else RE.as b k := by split <;> rfl
@[simp] theorem RS.seq_ite {a b : RS} {k : Sl → RS} : RS.seq (if p then a else b) k = if p then RS.seq a k else RS.seq b k := by split <;> rfl
@[simp] theorem REs.k_ite {a b : REs} {k : List D → Sl → RE} : REs.k (if p then a else b) k = if p then REs.k a k else REs.k b k := by split <;> rfl
@[simp] theorem RA.k_ite {a b : RA} {k : List AV → Sl → RE} : RA.k (if p then a else b) k = if p then RA.k a k else RA.k b k := by split <;> rfl
@[simp] theorem REs.cons_ite {d : D} {a b : REs} : REs.cons d (if p then a else b) = if p then REs.cons d a else REs.cons d b := by split <;> rfl
@[simp] theorem RA.cons_ite {d : AV} {a b : RA} : RA.cons d (if p then a else b) = if p then RA.cons d a else RA.cons d b := by split <;> rfl
@[simp] theorem crK_ite {as : List AV} {ρ : Sl} {a b : CR} : crK as ρ (if p then a else b) = if p then crK as ρ a else crK as ρ b := by split <;> rfl
@[simp] theorem finish_ite {as : List D} {a b : RS} : finish as (if p then a else b) = if p then finish as a else finish as b := by split <;> rfl
@[simp] theorem ok_and {y : Bool} {ρ : Sl} : (if p then RE.ok (.bl y) ρ else RE.ok (.bl false) ρ) = RE.ok (.bl (decide p && y)) ρ := by split <;> simp_all
@[simp] theorem ok_or {y : Bool} {ρ : Sl} : (if p then RE.ok (.bl true) ρ else RE.ok (.bl y) ρ) = RE.ok (.bl (decide p || y)) ρ := by split <;> simp_all
end
/-! ### statements -/
def asgK (o : Option Sl) : RS := match o with
  | some ρ => .ok .nx ρ
  | none => .bad
@[simp] theorem asgK_some {ρ : Sl} : asgK (some ρ) = .ok .nx ρ := (rfl)
def REs.s (r : REs) (k : List D → Sl → RS) : RS := match r with
  | .ok as ρ => k as ρ
  | .exc c v ρ => .exc c v ρ
  | .bad => .bad
section
variable {g : G} {ρ : Sl} {e : E} {d : D} {t : Tg} {a b : S}
@[simp] theorem REs.s_ok {as : List D} {k : List D → Sl → RS} : REs.s (.ok as ρ) k = k as ρ := (rfl)
@[simp] theorem REs.s_exc {c : Str} {k : List D → Sl → RS} : REs.s (.exc c d ρ) k = .exc c d ρ := (rfl)
theorem REs.s_congr {r r' : REs} {k : List D → Sl → RS} (h : r = r') : REs.s r k = REs.s r' k := by rw [h]
@[simp] theorem REs.s_ite {p : Prop} [Decidable p] {a b : REs} {k : List D → Sl → RS} : REs.s (if p then a else b) k = if p then REs.s a k else REs.s b k := by split <;> rfl
@[simp] theorem ex_ex : ex (.ex e) g ρ = (ev g e ρ).s fun _ ρ1 => .ok .nx ρ1 := by simp only [ex]
@[simp] theorem ex_asg : ex (.asg t e) g ρ = (ev g e ρ).s fun d ρ1 => asgK (asg g t d ρ1) := by
  simp only [ex]
  rfl
@[simp] theorem ex_par {ts : Tgs} {es : Es} : ex (.par ts es) g ρ = (evEs g es ρ).s fun as ρ1 => asgK (asgs g ts as ρ1) := by
  simp only [ex]
  cases evEs g es ρ <;> rfl
@[simp] theorem ex_ret : ex (.ret e) g ρ = (ev g e ρ).s fun d ρ1 => .ok (.rt d) ρ1 := by simp only [ex]
@[simp] theorem ex_retN : ex .retN g ρ = .ok (.rt .non) ρ := by simp only [ex]
@[simp] theorem ex_ite : ex (.ite e a b) g ρ = (ev g e ρ).t fun k ρ1 => if k = true then ex a g ρ1 else ex b g ρ1 := by simp only [ex]
@[simp] theorem ex_brk : ex .brk g ρ = .ok .bk ρ := by simp only [ex]
@[simp] theorem ex_cont : ex .cont g ρ = .ok .ct ρ := by simp only [ex]
@[simp] theorem ex_pass : ex .pass g ρ = .ok .nx ρ := by simp only [ex]
@[simp] theorem ex_rse {c : Str} : ex (.rse c e) g ρ = (ev g e ρ).s fun d ρ1 => .exc c d.share ρ1 := by simp only [ex]
@[simp] theorem ex_seq : ex (.seq a b) g ρ = (ex a g ρ).seq (ex b g) := by simp only [ex]
def tryK (hs : S) (g : G) (r : RS) : RS := match r with
  | .exc c v ρ1 => exH hs g c v ρ1
  | r => r
@[simp] theorem tryK_ok {hs : S} {f : Fl} : tryK hs g (.ok f ρ) = .ok f ρ := (rfl)
@[simp] theorem tryK_exc {hs : S} {c : Str} : tryK hs g (.exc c d ρ) = exH hs g c d ρ := (rfl)
@[simp] theorem ex_try {hs : S} : ex (.try b hs) g ρ = tryK hs g (ex b g ρ) := by
  simp only [ex]
  rfl
@[simp] theorem asg_v {i : Nat} : asg g (.v i) d ρ = if g.prot.contains i = true then none else if i < ρ.length then some (ρ.set i (some d)) else none := by simp only [asg]
@[simp] theorem asg_tl {ts : Tgs} {o : Bool} {xs : List D} : asg g (.t ts) (.lst o xs) ρ = asgs g ts xs ρ := by simp only [asg]
@[simp] theorem asg_t {ts : Tgs} {xs : List D} : asg g (.t ts) (.tup xs) ρ = asgs g ts xs ρ := by simp only [asg]
@[simp] theorem asgs_nil : asgs g .nil [] ρ = some ρ := by simp only [asgs]
@[simp] theorem asgs_cons {ts : Tgs} {ds : List D} : asgs g (.cons t ts) (d :: ds) ρ = (asg g t d ρ).bind fun ρ1 => asgs g ts ds ρ1 := by
  simp only [asgs]
  cases asg g t d ρ <;> rfl
/-- what a store into a thing makes of it -/
def putD (t : D) (i : RE) (d : D) : Option D := match t with
  | .lst true xs => (match i with
    | .ok (.int k) _ => (ixD xs.length k).map fun j => .lst true (xs.set j d)
    | _ => none)
  | .dic true kvs => (match i with
    | .ok k _ => k.key.bind fun j => if kvs.length < LINE then some (.dic true (putKD j d kvs)) else none
    | _ => none)
  | _ => none
@[simp] theorem putD_lst {xs : List D} {k : Int} : putD (.lst true xs) (.ok (.int k) ρ) d = (ixD xs.length k).map fun j => .lst true (xs.set j d) := (rfl)
@[simp] theorem putD_dic {kvs : List (Key × D)} {k : D} : putD (.dic true kvs) (.ok k ρ) d = k.key.bind fun j => if kvs.length < LINE then some (.dic true (putKD j d kvs)) else none := (rfl)
@[simp] theorem asg_s {p : P} (h : pur e = true) : asg g (.s p e) d ρ = (evP g p ρ).bind fun r => (getP ρ r).bind fun t => (putD t (ev g e ρ) d).bind fun t' => setP ρ r t' := by
  simp only [asg, h, if_true]
  cases evP g p ρ with
  | none => rfl
  | some r =>
    simp only [Option.bind_some]
    cases getP ρ r with
    | none => rfl
    | some t =>
      simp only [Option.bind_some]
      cases t with
      | lst o xs =>
        cases o with
        | false => rfl
        | true =>
          simp only [putD]
          cases ev g e ρ with
          | ok i ρ1 =>
            cases i with
            | int k =>
              simp only
              cases ixD xs.length k <;> rfl
            | _ => rfl
          | _ => rfl
      | dic o xs =>
        cases o with
        | false => rfl
        | true =>
          simp only [putD]
          cases ev g e ρ with
          | ok i ρ1 =>
            simp only
            cases i.key with
            | none => rfl
            | some j =>
              simp only [Option.bind_some]
              split <;> rfl
          | _ => rfl
      | _ => rfl
def fldD (t : D) (x : Str) (d : D) : Option D := match t with
  | .ins true c fs => if fs.length < 1000 then some (.ins true c (putFD x d fs)) else none
  | _ => none
@[simp] theorem fldD_ins {c x : Str} {fs : List (Str × D)} (h : fs.length < 1000) : fldD (.ins true c fs) x d = some (.ins true c (putFD x d fs)) := by simp [fldD, h]
@[simp] theorem asg_f {p : P} {x : Str} : asg g (.f p x) d ρ = (evP g p ρ).bind fun r => (getP ρ r).bind fun t => (fldD t x d).bind fun t' => setP ρ r t' := by
  simp only [asg]
  cases evP g p ρ with
  | none => rfl
  | some r =>
    simp only [Option.bind_some]
    cases getP ρ r with
    | none => rfl
    | some t =>
      simp only [Option.bind_some]
      cases t with
      | ins o c fs =>
        cases o with
        | false => rfl
        | true =>
          simp only [fldD]
          split <;> rfl
      | _ => rfl
/-! ### comprehensions -/
def condK (r : RE) (k : Sl → Option (Option D × Sl)) : Option (Option D × Sl) := match r with
  | .ok c ρ | .brw c ρ => (match c.tru with
    | some true => k ρ
    | some false => some (none, ρ)
    | none => none)
  | _ => none
def eltK (r : RE) : Option (Option D × Sl) := match r with
  | .ok x ρ => some (some x, ρ)
  | _ => none
@[simp] theorem condK_bl {b : Bool} {k : Sl → Option (Option D × Sl)} : condK (.ok (.bl b) ρ) k = if b = true then k ρ else some (none, ρ) := by cases b <;> rfl
@[simp] theorem eltK_ok : eltK (.ok d ρ) = some (some d, ρ) := (rfl)
theorem condK_congr {r r' : RE} {k : Sl → Option (Option D × Sl)} (h : r = r') : condK r k = condK r' k := by rw [h]
/-- a turn of a comprehension, its own slots blank -/
def lcTn (g : G) (elt : E) (tg : Tg) (cond : E) (d : D) (W : Sl) : Option (Option D × Sl) := (asg g tg d W).bind fun ρ3 => condK (ev g cond ρ3) fun ρ4 => eltK (ev g elt ρ4)
def wpK (own : List Nat) (r : Option (Option D × Sl)) : Option (Option D × Sl) := r.map fun q => (q.1, wipeS q.2 own)
@[simp] theorem wpK_some {own : List Nat} {o : Option D} {ρ : Sl} : wpK own (some (o, ρ)) = some (o, wipeS ρ own) := (rfl)
@[simp] theorem wpK_ite {own : List Nat} {p : Prop} [Decidable p] {a b : Option (Option D × Sl)} : wpK own (if p then a else b) = if p then wpK own a else wpK own b := by split <;> rfl
@[simp] theorem condK_ite {p : Prop} [Decidable p] {a b : RE} {k : Sl → Option (Option D × Sl)} : condK (if p then a else b) k = if p then condK a k else condK b k := by split <;> rfl
@[simp] theorem eltK_ite {p : Prop} [Decidable p] {a b : RE} : eltK (if p then a else b) = if p then eltK a else eltK b := by split <;> rfl
@[simp] theorem natInj {i j : Nat} : ((i : Int) = (j : Int)) = (i = j) := propext ⟨fun h => by omega, fun h => by rw [h]⟩
def lcT (g : G) (elt : E) (tg : Tg) (cond : E) (own : List Nat) (d : D) (W : Sl) : Option (Option D × Sl) := wpK own (lcTn g elt tg cond d W)
def lcR (g : G) (elt : E) (tg : Tg) (cond : E) (own : List Nat) (r : RI) : RE := match r with
  | .ok items held ρ1 => if calmAt ρ1 own && decide (items.length ≤ LINE) then (match lcLoop (fun d ρ2 => lcTn g elt tg cond d (wipeS ρ2 own)) items ρ1 with
    | some (xs, ρ6) => (match putHeld held (restore ρ1 (wipeS ρ6 own) own) with
      | some ρ7 => .ok (.lst true xs) ρ7
      | none => .bad)
    | none => .bad) else .bad
  | .exc c v ρ1 => .exc c v ρ1
  | .bad => .bad
theorem lcR_congr {elt : E} {tg : Tg} {cond : E} {own : List Nat} {r r' : RI} (h : r = r') : lcR g elt tg cond own r = lcR g elt tg cond own r' := by rw [h]
@[simp] theorem lcR_exc {elt : E} {tg : Tg} {cond : E} {own : List Nat} {c : Str} : lcR g elt tg cond own (.exc c d ρ) = .exc c d ρ := (rfl)
@[simp] theorem ev_lc {elt : E} {tg : Tg} {it : It} {cond : E} {own : List Nat} : ev g (.lc elt tg it cond own) ρ = lcR g elt tg cond own (evIt g it ρ) := by
  simp only [ev]
  cases evIt g it ρ with
  | ok items held ρ1 =>
    simp only [lcR]
    congr 2
    congr 1
    funext d ρ2
    simp only [lcTn]
    cases asg g tg d (wipeS ρ2 own) with
    | none => rfl
    | some ρ3 =>
      simp only [Option.bind_some, condK]
      cases ev g cond ρ3 with
      | ok c ρ4 =>
        simp only
        cases c.tru with
        | none => rfl
        | some b =>
          cases b with
          | false => rfl
          | true =>
            simp only [eltK] <;> cases ev g elt ρ4 <;> rfl
      | brw c ρ4 =>
        simp only
        cases c.tru with
        | none => rfl
        | some b =>
          cases b with
          | false => rfl
          | true =>
            simp only [eltK] <;> cases ev g elt ρ4 <;> rfl
      | _ => rfl
  | _ => rfl
end
theorem lcLoop_inv {α : Type} {f : α → D} {g : G} {elt : E} {tg : Tg} {cond : E} {own : List Nat} (J : Nat → Sl → Prop) (Po : Nat → Option D → Prop) : ∀ (xs : List α) (k : Nat) (ρ : Sl), J k (wipeS ρ own) →
    (∀ j x, xs[j]? = some x → ∀ W, J (k + j) W → ∃ o W', lcT g elt tg cond own (f x) W = some (o, W') ∧ J (k + j + 1) W' ∧ Po (k + j) o) →
    ∃ (os : List (Option D)) (ρ' : Sl), lcLoop (fun d ρ2 => lcTn g elt tg cond d (wipeS ρ2 own)) (xs.map f) ρ = some (os.filterMap id, ρ') ∧ J (k + xs.length) (wipeS ρ' own) ∧ os.length = xs.length ∧ ∀ j o, os[j]? = some o → Po (k + j) o
  | [], k, ρ, h, _ => ⟨[], ρ, rfl, h, rfl, fun j o e => by simp at e⟩
  | x :: xs, k, ρ, h, hs => by
    obtain ⟨o, W', e, hJ, hP⟩ := hs 0 x rfl _ h
    obtain ⟨⟨o', ρ2⟩, e2, e3⟩ := Option.map_eq_some_iff.mp e
    cases e3
    obtain ⟨os, ρ', h1, h2, h3, h4⟩ := lcLoop_inv (f := f) J Po xs (k + 1) ρ2 hJ fun j y hy W hW => by
      have e1 : k + 1 + j = k + (j + 1) := by omega
      have := hs (j + 1) y (by simpa using hy) W (by rw [← e1]; exact hW)
      rw [← e1] at this
      exact this
    refine ⟨o' :: os, ρ', ?_, ?_, by simp [h3], fun j o2 ho => ?_⟩
    · simp only [List.map_cons, lcLoop, e2]
      cases o' with
      | none => simpa using h1
      | some d => simp [h1]
    · have : k + (x :: xs).length = k + 1 + xs.length := by simp; omega
      rw [this]; exact h2
    · cases j with
      | zero =>
        have : o' = o2 := by simpa using ho
        subst this
        exact hP
      | succ j =>
        have := h4 j o2 (by simpa using ho)
        have e1 : k + 1 + j = k + (j + 1) := by omega
        rw [e1] at this
        exact this
section
variable {g : G} {elt : E} {tg : Tg} {cond : E} {own : List Nat} {held : List (Nat × D)} {ρ ρ2 : Sl}
/-- THE RULE: a comprehension that leaves the state as it was -/
theorem lc_map {α : Type} (xs : List α) (f : α → D) (out : α → Option D) (hc : calmAt ρ own = true) (hl : xs.length ≤ LINE)
    (hs : ∀ x ∈ xs, lcT g elt tg cond own (f x) (wipeS ρ own) = some (out x, wipeS ρ own)) (hp : putHeld held ρ = some ρ2) :
    lcR g elt tg cond own (.ok (xs.map f) held ρ) = .ok (.lst true (xs.filterMap out)) ρ2 := by
  have key : ∀ (xs : List α), (∀ x ∈ xs, lcT g elt tg cond own (f x) (wipeS ρ own) = some (out x, wipeS ρ own)) → ∀ ρ', wipeS ρ' own = wipeS ρ own → ∃ ρ'', lcLoop (fun d ρ2 => lcTn g elt tg cond d (wipeS ρ2 own)) (xs.map f) ρ' = some (xs.filterMap out, ρ'') ∧ wipeS ρ'' own = wipeS ρ own := by
    intro xs
    induction xs with
    | nil => exact fun _ ρ' h => ⟨ρ', rfl, h⟩
    | cons x xs ih =>
      intro hs ρ' h
      obtain ⟨⟨o', ρ2⟩, e2, e3⟩ := Option.map_eq_some_iff.mp (hs x List.mem_cons_self)
      have e4 : o' = out x ∧ wipeS ρ2 own = wipeS ρ own := by simpa using e3
      obtain ⟨rfl, e5⟩ := e4
      obtain ⟨ρ'', h1, h2⟩ := ih (fun y hy => hs y (List.mem_cons_of_mem _ hy)) ρ2 e5
      refine ⟨ρ'', ?_, h2⟩
      simp only [List.map_cons, lcLoop, h, e2]
      cases hx : out x with
      | none => simp [h1, hx]
      | some d => simp [h1, hx]
  obtain ⟨ρ'', h1, h2⟩ := key xs hs ρ rfl
  simp only [lcR, hc, List.length_map, hl, decide_true, Bool.and_self, if_true, h1, h2, restore_wipe, hp]
/-- .. that changes it -/
theorem lc_inv {α : Type} (xs : List α) (f : α → D) (J : Nat → Sl → Prop) (Po : Nat → Option D → Prop) (hc : calmAt ρ own = true) (hl : xs.length ≤ LINE) (h0 : J 0 (wipeS ρ own))
    (hs : ∀ j x, xs[j]? = some x → ∀ W, J j W → ∃ o W', lcT g elt tg cond own (f x) W = some (o, W') ∧ J (j + 1) W' ∧ Po j o) (hp : ∀ W, J xs.length W → ∃ ρ2, putHeld held (restore ρ W own) = some ρ2) :
    ∃ (os : List (Option D)) (W ρ2 : Sl), lcR g elt tg cond own (.ok (xs.map f) held ρ) = .ok (.lst true (os.filterMap id)) ρ2 ∧ J xs.length W ∧ putHeld held (restore ρ W own) = some ρ2 ∧ os.length = xs.length ∧ ∀ j o, os[j]? = some o → Po j o := by
  obtain ⟨os, ρ', h1, h2, h3, h4⟩ := lcLoop_inv (f := f) (g := g) (elt := elt) (tg := tg) (cond := cond) J Po xs 0 ρ h0 fun j x hx W hW => by
    rw [Nat.zero_add] at hW ⊢
    exact hs j x hx W hW
  rw [Nat.zero_add] at h2
  obtain ⟨ρ2, e⟩ := hp _ h2
  refine ⟨os, _, ρ2, ?_, h2, e, h3, fun j o ho => ?_⟩
  · simp only [lcR, hc, List.length_map, hl, decide_true, Bool.and_self, if_true, h1, e]
  · have := h4 j o ho
    rwa [Nat.zero_add] at this
end
/-! ### for -/
def forK (o : Option Sl) (k : Sl → RS) : RS := match o with
  | some ρ3 => k ρ3
  | none => .bad
@[simp] theorem forK_some {ρ : Sl} {k : Sl → RS} : forK (some ρ) k = k ρ := (rfl)
theorem forK_congr {o o' : Option Sl} {k : Sl → RS} (h : o = o') : forK o k = forK o' k := by rw [h]
def forT (g : G) (t : Tg) (b : S) (d : D) (ρ : Sl) : RS := forK (asg g t d ρ) (ex b g)
def forR (g : G) (t : Tg) (b : S) (r : RI) : RS := match r with
  | .ok items held ρ1 => (forL (forT { g with prot := held.map (·.1) ++ g.prot } t b) items ρ1).back held
  | .exc c v ρ1 => .exc c v ρ1
  | .bad => .bad
section
variable {g : G} {t : Tg} {b : S} {ρ : Sl} {d : D}
theorem forR_congr {r r' : RI} (h : r = r') : forR g t b r = forR g t b r' := by rw [h]
@[simp] theorem forR_exc {c : Str} : forR g t b (.exc c d ρ) = .exc c d ρ := (rfl)
@[simp] theorem ex_for {it : It} : ex (.for t it b) g ρ = forR g t b (evIt g it ρ) := by
  simp only [ex]
  cases evIt g it ρ <;> rfl
theorem forR_ok {items : List D} {held : List (Nat × D)} : forR g t b (.ok items held ρ) = (forL (forT { g with prot := held.map (·.1) ++ g.prot } t b) items ρ).back held := (rfl)
@[simp] theorem back_nil {r : RS} : RS.back [] r = r := by cases r <;> rfl
/-- a turn -/
theorem forT_eq {ρ' : Sl} (h : asg g t d ρ = some ρ') : forT g t b d ρ = ex b g ρ' := by simp only [forT, h, forK_some]
end
/-- THE RULE: turns that go on, by what is held between them -/
theorem forL_inv {α : Type} {f : α → D} {step : D → Sl → RS} (I : Nat → Sl → Prop) : ∀ (xs : List α) (k : Nat) (ρ : Sl), I k ρ →
    (∀ j x, xs[j]? = some x → ∀ ρ, I (k + j) ρ → ∃ ρ', (step (f x) ρ = .ok .nx ρ' ∨ step (f x) ρ = .ok .ct ρ') ∧ I (k + j + 1) ρ') →
    ∃ ρ', forL step (xs.map f) ρ = .ok .nx ρ' ∧ I (k + xs.length) ρ'
  | [], k, ρ, h, _ => ⟨ρ, rfl, h⟩
  | x :: xs, k, ρ, h, hs => by
    obtain ⟨ρ1, e, h1⟩ := hs 0 x rfl ρ h
    obtain ⟨ρ', e2, h2⟩ := forL_inv I xs (k + 1) ρ1 h1 fun j y hy ρ hρ => by
      have e1 : k + 1 + j = k + (j + 1) := by omega
      have := hs (j + 1) y (by simpa using hy) ρ (by rw [← e1]; exact hρ)
      rw [← e1] at this
      exact this
    refine ⟨ρ', ?_, by
      have : k + (x :: xs).length = k + 1 + xs.length := by simp; omega
      rw [this]; exact h2⟩
    simp only [List.map_cons, forL]
    rcases e with e | e <;> rw [e] <;> exact e2
/-- .. by what is carried, and something beside it -/
theorem forL_fold {α β γ : Type} {f : α → D} {step : D → Sl → RS} (S : β → γ → Sl) (F : β → α → β) : ∀ (xs : List α) (b : β) (j : γ),
    (∀ x ∈ xs, ∀ b j, ∃ j', step (f x) (S b j) = .ok .nx (S (F b x) j') ∨ step (f x) (S b j) = .ok .ct (S (F b x) j')) → ∃ j', forL step (xs.map f) (S b j) = .ok .nx (S (xs.foldl F b) j')
  | [], b, j, _ => ⟨j, rfl⟩
  | x :: xs, b, j, hs => by
    obtain ⟨j1, e⟩ := hs x List.mem_cons_self b j
    obtain ⟨j', e2⟩ := forL_fold S F xs (F b x) j1 fun y hy => hs y (List.mem_cons_of_mem _ hy)
    refine ⟨j', ?_⟩
    simp only [List.map_cons, forL, List.foldl_cons]
    rcases e with e | e <;> rw [e] <;> exact e2
/-- .. up to the first turn that does not go on -/
theorem forL_stop {α : Type} {f : α → D} {step : D → Sl → RS} (I : Nat → Sl → Prop) {r : RS} : ∀ (xs ys : List α) (y : α) (k : Nat) (ρ : Sl), I k ρ →
    (∀ j x, xs[j]? = some x → ∀ ρ, I (k + j) ρ → ∃ ρ', (step (f x) ρ = .ok .nx ρ' ∨ step (f x) ρ = .ok .ct ρ') ∧ I (k + j + 1) ρ') → 
    ∃ ρ', forL step ((xs ++ y :: ys).map f) ρ = (match step (f y) ρ' with
      | .ok .nx ρ1 => forL step (ys.map f) ρ1
      | .ok .ct ρ1 => forL step (ys.map f) ρ1
      | .ok .bk ρ1 => .ok .nx ρ1
      | x => x) ∧ I (k + xs.length) ρ'
  | [], ys, y, k, ρ, h, _ => ⟨ρ, by simp only [List.nil_append, List.map_cons, forL] <;> rfl, h⟩
  | x :: xs, ys, y, k, ρ, h, hs => by
    obtain ⟨ρ1, e, h1⟩ := hs 0 x rfl ρ h
    obtain ⟨ρ', e2, h2⟩ := forL_stop (r := r) I xs ys y (k + 1) ρ1 h1 fun j y hy ρ hρ => by
      have e1 : k + 1 + j = k + (j + 1) := by omega
      have := hs (j + 1) y (by simpa using hy) ρ (by rw [← e1]; exact hρ)
      rw [← e1] at this
      exact this
    refine ⟨ρ', ?_, by
      have : k + (x :: xs).length = k + 1 + xs.length := by simp; omega
      rw [this]; exact h2⟩
    rw [← e2]
    simp only [List.cons_append, List.map_cons, forL]
    rcases e with e | e <;> rw [e]
theorem for_inv {α : Type} {f : α → D} {g : G} {t : Tg} {b : S} {ρ : Sl} {xs : List α} (I : Nat → Sl → Prop) (h0 : I 0 ρ)
    (hs : ∀ j x, xs[j]? = some x → ∀ ρ, I j ρ → ∃ ρ', (forT g t b (f x) ρ = .ok .nx ρ' ∨ forT g t b (f x) ρ = .ok .ct ρ') ∧ I (j + 1) ρ') :
    ∃ ρ', forR g t b (.ok (xs.map f) [] ρ) = .ok .nx ρ' ∧ I xs.length ρ' := by
  obtain ⟨ρ', h1, h2⟩ := forL_inv (f := f) (step := forT g t b) I xs 0 ρ h0 fun j x hx ρ hI => by
    rw [Nat.zero_add] at hI ⊢
    exact hs j x hx ρ hI
  rw [Nat.zero_add] at h2
  exact ⟨ρ', by rw [forR_ok, back_nil]; exact h1, h2⟩
/-! ### iterables -/
section
variable {g : G} {ρ : Sl} {e : E}
def lfK (p : P) (o : Option D) (ρ : Sl) : RI := match o with
  | some d => if d.own then (match p with
    | .var i => (match d with
      | .hole => .bad
      | _ => .ok [d] [(i, d)] (ρ.set i (some .hole)))
    | _ => .bad) else .ok [d] [] ρ
  | none => .bad
@[simp] theorem lfK_not {p : P} {d : D} (h : d.own = false) : lfK p (some d) ρ = .ok [d] [] ρ := by simp [lfK, h]
@[simp] theorem lfK_lst {i : Nat} {xs : List D} : lfK (.var i) (some (.lst true xs)) ρ = .ok [.lst true xs] [(i, .lst true xs)] (ρ.set i (some .hole)) := by simp [lfK]
@[simp] theorem evLf_pl {p : P} : evLf g (.pl p) ρ = lfK p (rdP g p ρ) ρ := by
  simp only [evLf, rdP]
  cases evP g p ρ with
  | none => rfl
  | some r =>
    simp only [Option.bind_some]
    cases getP ρ r <;> rfl
def RE.lf (r : RE) : RI := match r with
  | .ok d ρ => .ok [d] [] ρ
  | .exc c v ρ => .exc c v ρ
  | _ => .bad
@[simp] theorem RE.lf_ok {d : D} : RE.lf (.ok d ρ) = .ok [d] [] ρ := (rfl)
@[simp] theorem RE.lf_exc {d : D} {c : Str} : RE.lf (.exc c d ρ) = .exc c d ρ := (rfl)
@[simp] theorem evLf_ex : evLf g (.ex e) ρ = (ev g e ρ).lf := by
  simp only [evLf]
  cases ev g e ρ <;> rfl
/-- one thing to go through -/
def itK (f : D → Option (List D)) (r : RI) : RI := match r with
  | .ok [d] h ρ => (match f d with
    | some xs => .ok xs h ρ
    | none => .bad)
  | .exc c v ρ => .exc c v ρ
  | _ => .bad
def itO (o : Option (List D)) (h : List (Nat × D)) (ρ : Sl) : RI := match o with
  | some xs => .ok xs h ρ
  | none => .bad
@[simp] theorem itO_some {xs : List D} {h : List (Nat × D)} : itO (some xs) h ρ = .ok xs h ρ := (rfl)
@[simp] theorem itK_ok {f : D → Option (List D)} {d : D} {h : List (Nat × D)} : itK f (.ok [d] h ρ) = itO (f d) h ρ := (rfl)
@[simp] theorem itK_exc {f : D → Option (List D)} {d : D} {c : Str} : itK f (.exc c d ρ) = .exc c d ρ := (rfl)
def oneD : D → Option (List D)
  | .lst _ xs => if ownL xs then none else some xs
  | .tup xs => some xs
  | .scr ns => some (ns.map .int)
  | _ => none
def enuD : D → Option (List D)
  | .lst _ xs => if ownL xs then none else some (enumD 0 xs)
  | .tup xs => some (enumD 0 xs)
  | _ => none
@[simp] theorem oneD_lst {o : Bool} {xs : List D} (h : ownL xs = false) : oneD (.lst o xs) = some xs := by simp [oneD, h]
@[simp] theorem oneD_tup {xs : List D} : oneD (.tup xs) = some xs := (rfl)
@[simp] theorem oneD_scr {ns : List Int} : oneD (.scr ns) = some (ns.map .int) := (rfl)
@[simp] theorem enuD_lst {o : Bool} {xs : List D} (h : ownL xs = false) : enuD (.lst o xs) = some (enumD 0 xs) := by simp [enuD, h]
@[simp] theorem enuD_tup {xs : List D} : enuD (.tup xs) = some (enumD 0 xs) := (rfl)
theorem enumD_map {α : Type} {f : α → D} : ∀ {xs : List α} {n : Nat}, enumD n (xs.map f) = (xs.zipIdx n).map fun q => .tup [.int q.2, f q.1]
  | [], _ => rfl
  | x :: xs, n => by simp [enumD, enumD_map]
@[simp] theorem evIt_one {l : Lf} : evIt g (.one l) ρ = itK oneD (evLf g l ρ) := by
  simp only [evIt]
  cases evLf g l ρ with
  | ok items h ρ1 =>
    cases items with
    | nil => rfl
    | cons d r =>
      cases r with
      | nil =>
        cases d with
        | lst o xs =>
          simp only [itK, oneD]
          split <;> rfl
        | _ => rfl
      | cons _ _ => rfl
  | _ => rfl
@[simp] theorem evIt_enu {l : Lf} : evIt g (.enu l) ρ = itK enuD (evLf g l ρ) := by
  simp only [evIt]
  cases evLf g l ρ with
  | ok items h ρ1 =>
    cases items with
    | nil => rfl
    | cons d r =>
      cases r with
      | nil =>
        cases d with
        | lst o xs =>
          simp only [itK, enuD]
          split <;> rfl
        | _ => rfl
      | cons _ _ => rfl
  | _ => rfl
def rngK (r : RE) (k : Int → Sl → RI) : RI := match r with
  | .ok (.int n) ρ => k n ρ
  | .exc c v ρ => .exc c v ρ
  | _ => .bad
@[simp] theorem rngK_ok {n : Int} {k : Int → Sl → RI} : rngK (.ok (.int n) ρ) k = k n ρ := (rfl)
@[simp] theorem rngK_exc {d : D} {c : Str} {k : Int → Sl → RI} : rngK (.exc c d ρ) k = .exc c d ρ := (rfl)
theorem rngK_congr {r r' : RE} {k : Int → Sl → RI} (h : r = r') : rngK r k = rngK r' k := by rw [h]
@[simp] theorem evIt_rng1 {a : E} : evIt g (.rng1 a) ρ = rngK (ev g a ρ) fun n ρ1 => if decide (-LINE ≤ n) && decide (n ≤ LINE) then .ok (rangeD 0 n.toNat) [] ρ1 else .bad := by
  simp only [evIt]
  cases ev g a ρ with
  | ok d ρ1 => cases d <;> rfl
  | _ => rfl
@[simp] theorem evIt_rng2 {a b : E} : evIt g (.rng2 a b) ρ = rngK (ev g a ρ) fun m ρ1 => rngK (ev g b ρ1) fun n ρ2 => if decide (-LINE ≤ m) && decide (m ≤ LINE) && decide (-LINE ≤ n) && decide (n ≤ LINE) then .ok (rangeD m (n - m).toNat) [] ρ2 else .bad := by
  simp only [evIt]
  cases ev g a ρ with
  | ok d ρ1 =>
    cases d with
    | int m =>
      simp only [rngK] <;> (cases ev g b ρ1 with
        | ok d ρ2 => cases d <;> rfl
        | _ => rfl)
    | _ => rfl
  | _ => rfl
theorem zipD_map {α β : Type} {f : α → D} {h : β → D} : ∀ {xs : List α} {ys : List β}, zipD (xs.map f) (ys.map h) = (xs.zip ys).map fun q => .tup [f q.1, h q.2]
  | [], _ => by simp [zipD]
  | _ :: _, [] => by simp [zipD]
  | x :: xs, y :: ys => by simp [zipD, zipD_map]
def zipK (l : RI) (k : Sl → RI) : RI := match l with
  | .ok [d] h ρ1 => (match k ρ1 with
    | .ok [e] h2 ρ2 => (match d, e with
      | .lst _ xs, .lst _ ys => if ownL xs || ownL ys then .bad else .ok (zipD xs ys) (h ++ h2) ρ2
      | .tup xs, .tup ys => .ok (zipD xs ys) (h ++ h2) ρ2
      | _, _ => .bad)
    | .exc c v ρ2 => .exc c v ρ2
    | _ => .bad)
  | .exc c v ρ1 => .exc c v ρ1
  | _ => .bad
theorem zipK_congr {l l' : RI} {k : Sl → RI} (h : l = l') : zipK l k = zipK l' k := by rw [h]
def zipK2 (d : D) (h : List (Nat × D)) (r : RI) : RI := match r with
  | .ok [e] h2 ρ2 => (match d, e with
    | .lst _ xs, .lst _ ys => if ownL xs || ownL ys then .bad else .ok (zipD xs ys) (h ++ h2) ρ2
    | .tup xs, .tup ys => .ok (zipD xs ys) (h ++ h2) ρ2
    | _, _ => .bad)
  | .exc c v ρ2 => .exc c v ρ2
  | _ => .bad
@[simp] theorem zipK_ok {d : D} {h : List (Nat × D)} {k : Sl → RI} : zipK (.ok [d] h ρ) k = zipK2 d h (k ρ) := (rfl)
@[simp] theorem zipK2_tup {xs ys : List D} {h h2 : List (Nat × D)} : zipK2 (.tup xs) h (.ok [.tup ys] h2 ρ) = .ok (zipD xs ys) (h ++ h2) ρ := (rfl)
@[simp] theorem zipK2_lst {xs ys : List D} {o o' : Bool} {h h2 : List (Nat × D)} (h3 : ownL xs = false) (h4 : ownL ys = false) : zipK2 (.lst o xs) h (.ok [.lst o' ys] h2 ρ) = .ok (zipD xs ys) (h ++ h2) ρ := by simp [zipK2, h3, h4]
@[simp] theorem evIt_zip {l k : Lf} : evIt g (.zip l k) ρ = zipK (evLf g l ρ) (evLf g k) := by
  simp only [evIt]
  rfl
/-! ### lists grow -/
def apK (r : RE) (i : Nat) : RE := match r with
  | .ok d ρ => (match getS ρ[i]? with
    | some (.lst true xs) => if xs.length < LINE then .ok .non (ρ.set i (some (.lst true (xs ++ [d])))) else .bad
    | _ => .bad)
  | .exc c v ρ => .exc c v ρ
  | _ => .bad
def apO (d : D) (i : Nat) (ρ : Sl) (o : Option D) : RE := match o with
  | some (.lst true xs) => if xs.length < LINE then .ok .non (ρ.set i (some (.lst true (xs ++ [d])))) else .bad
  | _ => .bad
@[simp] theorem apK_ok {d : D} {i : Nat} : apK (.ok d ρ) i = apO d i ρ (getS ρ[i]?) := (rfl)
@[simp] theorem apK_exc {d : D} {i : Nat} {c : Str} : apK (.exc c d ρ) i = .exc c d ρ := (rfl)
@[simp] theorem apK_ite {p : Prop} [Decidable p] {a b : RE} {i : Nat} : apK (if p then a else b) i = if p then apK a i else apK b i := by split <;> rfl
@[simp] theorem apO_lst {d : D} {i : Nat} {xs : List D} (h : xs.length < LINE) : apO d i ρ (some (.lst true xs)) = .ok .non (ρ.set i (some (.lst true (xs ++ [d])))) := by simp [apO, h]
theorem getS_eq {o : Option (Option D)} {d : D} (h : getS o = some d) : o = some (some d) := by
  unfold getS at h
  split at h
  · split at h
    · cases h
    · cases h; rfl
  · cases h
def apS (o : Option D) (r : RE) (i : Nat) : RE := match o with
  | some (.lst true _) => apK r i
  | _ => .bad
@[simp] theorem apS_lst {xs : List D} {r : RE} {i : Nat} : apS (some (.lst true xs)) r i = apK r i := (rfl)
@[simp] theorem ev_append {i : Nat} : ev g (.bm .append (.var i) (.cons e .nil)) ρ = apS (getS ρ[i]?) (ev g e ρ) i := by
  simp only [ev, bare_var, Bool.true_or, if_true, evP_var, getP_mk, getA_nil, Option.bind_fun_some]
  cases h0 : getS ρ[i]? with
  | none => rfl
  | some t =>
    cases t with
    | lst o xs0 =>
      cases o with
      | false => rfl
      | true =>
        simp only [apS, evEs_cons, evEs_nil]
        cases ev g e ρ with
        | ok d ρ1 =>
          simp only [RE.es, REs.cons, apK]
          cases h1 : getS ρ1[i]? with
          | none => rfl
          | some t1 =>
            cases t1 with
            | lst o1 xs =>
              cases o1 with
              | false => rfl
              | true =>
                simp only [Mut0.run]
                split
                · rename_i h2
                  split at h2
                  · cases h2
                    simp [h1]
                    assumption
                  · cases h2
                · rename_i h2
                  split at h2
                  · cases h2
                  · rename_i h3
                    rw [if_neg h3]
            | _ => rfl
        | _ => rfl
    | _ => rfl
end
/-! ### while -/
def wStep (g : G) (c : E) (b : S) (ρ : Sl) : Option (Sum Sl RS) := match ev g c ρ with
  | .ok d ρ1 | .brw d ρ1 => (match d.tru with
    | some true => (ex b g ρ1).turn
    | some false => some (.inr (.ok .nx ρ1))
    | none => none)
  | .exc n v ρ1 => some (.inr (.exc n v ρ1))
  | .bad => none
@[simp] theorem ex_whl {g : G} {c : E} {b : S} {ρ : Sl} : ex (.whl c b) g ρ = g.wl (wStep g c b) ρ := by
  simp only [ex]
  rfl
/-! ### data -/
def isNum : D → Bool
  | .int _ => true
  | _ => false
/-- what isinstance can be asked of -/
def D.pl : D → Bool
  | .non => true | .bl _ => true | .int _ => true | .str _ => true | .tup _ => true | .lst _ _ => true | .dic _ _ => true
  | _ => false
section
variable {b : Bool} {i : Int} {s : Str} {xs : List D} {o : Bool} {kvs : List (Key × D)} {d : D}
@[simp] theorem pl_non : D.pl .non = true := (rfl)
@[simp] theorem pl_bl : D.pl (.bl b) = true := (rfl)
@[simp] theorem pl_int : D.pl (.int i) = true := (rfl)
@[simp] theorem pl_str : D.pl (.str s) = true := (rfl)
@[simp] theorem pl_tup : D.pl (.tup xs) = true := (rfl)
@[simp] theorem pl_lst : D.pl (.lst o xs) = true := (rfl)
@[simp] theorem pl_dic : D.pl (.dic o kvs) = true := (rfl)
@[simp] theorem isNum_non : isNum .non = false := (rfl)
@[simp] theorem isNum_bl : isNum (.bl b) = false := (rfl)
@[simp] theorem isNum_int : isNum (.int i) = true := (rfl)
@[simp] theorem isNum_str : isNum (.str s) = false := (rfl)
@[simp] theorem isNum_tup : isNum (.tup xs) = false := (rfl)
@[simp] theorem isNum_lst : isNum (.lst o xs) = false := (rfl)
@[simp] theorem isNum_dic : isNum (.dic o kvs) = false := (rfl)
theorem pl_isExc (h : d.pl = true) : d.isExc = false := by cases d <;> first | rfl | cases h
theorem pl_isHole (h : d.pl = true) : d.isHole = false := by cases d <;> first | rfl | cases h
theorem pl_mov (h : d.pl = true) : d.mov = true := by cases d <;> first | rfl | cases h
end
/-! ### defs of a table -/
def Gn (T : Str → Option Fn) (g : G) (n : Nat) (p : List Nat) : G := { g with call := run T g n, prot := p }
section
variable {T : Str → Option Fn} {g : G} {n : Nat} {p : List Nat}
@[simp] theorem Gn_call {f : Str} {as : List D} : (Gn T g n p).call f as = run T g n f as := (rfl)
@[simp] theorem Gn_prot : (Gn T g n p).prot = p := (rfl)
@[simp] theorem Gn_con {x : Str} : (Gn T g n p).con x = g.con x := (rfl)
@[simp] theorem Gn_ps {x : Str} : (Gn T g n p).ps x = g.ps x := (rfl)
@[simp] theorem Gn_sub {x y : Str} : (Gn T g n p).sub x y = g.sub x y := (rfl)
@[simp] theorem Gn_fld {x : Str} : (Gn T g n p).fld x = g.fld x := (rfl)
@[simp] theorem Gn_wl {s : Sl → Option (Sum Sl RS)} {ρ : Sl} : (Gn T g n p).wl s ρ = g.wl s ρ := (rfl)
theorem run_def {f : Str} {as : List D} {F : Fn} (h : T f = some F) (hl : as.length = F.np) : run T g (n + 1) f as = finish as (ex F.body (Gn T g n (lentAt 0 as)) (startD F as)) := by
  simp only [run, h, hl, if_true] <;> rfl
end
/-- THE RULE: what follows a loop -/
theorem for_elim {Q : RS → Prop} {α : Type} {f : α → D} {g : G} {t : Tg} {b : S} {ρ : Sl} {xs : List α} (I : Nat → Sl → Prop) (h0 : I 0 ρ)
    (hs : ∀ j x, xs[j]? = some x → ∀ ρ, I j ρ → ∃ ρ', (forT g t b (f x) ρ = .ok .nx ρ' ∨ forT g t b (f x) ρ = .ok .ct ρ') ∧ I (j + 1) ρ')
    (hk : ∀ ρ', I xs.length ρ' → Q (.ok .nx ρ')) : Q (forR g t b (.ok (xs.map f) [] ρ)) := by
  obtain ⟨ρ', h1, h2⟩ := for_inv (f := f) I h0 hs
  rw [h1]
  exact hk ρ' h2
section
variable {g : G} {elt : E} {tg : Tg} {cond : E} {own : List Nat} {held : List (Nat × D)} {ρ ρ2 : Sl}
theorem lc_all {α : Type} (xs : List α) (f : α → D) (out : α → D) (hc : calmAt ρ own = true) (hl : xs.length ≤ LINE)
    (hs : ∀ x ∈ xs, lcT g elt tg cond own (f x) (wipeS ρ own) = some (some (out x), wipeS ρ own)) (hp : putHeld held ρ = some ρ2) :
    lcR g elt tg cond own (.ok (xs.map f) held ρ) = .ok (.lst true (xs.map out)) ρ2 := by
  rw [lc_map xs f (fun x => some (out x)) hc hl hs hp]
  congr 2
  induction xs with
  | nil => rfl
  | cons x xs ih => simp
theorem lc_some {α : Type} (xs : List α) (f : α → D) (c : α → Bool) (out : α → D) (hc : calmAt ρ own = true) (hl : xs.length ≤ LINE)
    (hs : ∀ x ∈ xs, lcT g elt tg cond own (f x) (wipeS ρ own) = some (if c x = true then some (out x) else none, wipeS ρ own)) (hp : putHeld held ρ = some ρ2) :
    lcR g elt tg cond own (.ok (xs.map f) held ρ) = .ok (.lst true ((xs.filter c).map out)) ρ2 := by
  rw [lc_map xs f (fun x => if c x = true then some (out x) else none) hc hl hs hp]
  congr 2
  clear hl hs
  induction xs with
  | nil => rfl
  | cons x xs ih =>
    rw [List.filterMap_cons, List.filter_cons]
    cases h : c x <;> simp [ih]
@[simp] theorem putHeld_nil : putHeld [] ρ = some ρ := (rfl)
end
@[simp] theorem calmAt_nil {ρ : Sl} : calmAt ρ [] = true := (rfl)
def calmO : Option (Option D) → Bool
  | some (some d) => !d.own
  | some none => true
  | none => false
@[simp] theorem calmO_some {d : D} : calmO (some (some d)) = !d.own := (rfl)
@[simp] theorem calmO_none : calmO (some none) = true := (rfl)
@[simp] theorem calmAt_cons {ρ : Sl} {i : Nat} {is : List Nat} : calmAt ρ (i :: is) = (calmO ρ[i]? && calmAt ρ is) := by
  simp only [calmAt]
  rfl
@[simp] theorem wipeS_nil {ρ : Sl} : wipeS ρ [] = ρ := (rfl)
@[simp] theorem wipeS_cons {ρ : Sl} {i : Nat} {is : List Nat} : wipeS ρ (i :: is) = (wipeS ρ is).set i none := (rfl)
section
variable {α : Type} {l : List α} {o : Bool}
@[simp] theorem b1_allF {f : α → Bool} : B1.run .all (.lst o (l.map fun x => .bl (f x))) = some (.bl (l.all f)) := by
  have : (l.map fun x => D.bl (f x)) = (l.map f).map .bl := by simp
  rw [this, b1_all]
  simp
@[simp] theorem b1_anyF {f : α → Bool} : B1.run .any (.lst o (l.map fun x => .bl (f x))) = some (.bl (l.any f)) := by
  have : (l.map fun x => D.bl (f x)) = (l.map f).map .bl := by simp
  rw [this, b1_any]
  simp
@[simp] theorem b1_sumF {f : α → Int} : B1.run .sum (.lst o (l.map fun x => .int (f x))) = some (.int (l.map f).sum) := by
  have : (l.map fun x => D.int (f x)) = (l.map f).map .int := by simp
  rw [this, b1_sum]
@[simp] theorem b1_maxF {f : α → Int} : B1.run .max (.lst o (l.map fun x => .int (f x))) = (maxI (l.map f)).map .int := by
  have : (l.map fun x => D.int (f x)) = (l.map f).map .int := by simp
  rw [this, b1_max]
@[simp] theorem b1_maxTF {f : α → Int} : B1.run .max (.tup (l.map fun x => .int (f x))) = (maxI (l.map f)).map .int := by
  have : (l.map fun x => D.int (f x)) = (l.map f).map .int := by simp
  rw [this, b1_maxT]
@[simp] theorem b1_minF {f : α → Int} : B1.run .min (.lst o (l.map fun x => .int (f x))) = (minI (l.map f)).map .int := by
  have : (l.map fun x => D.int (f x)) = (l.map f).map .int := by simp
  rw [this, b1_min]
@[simp] theorem ownL_mapI {f : α → Int} : ownL (l.map fun x => .int (f x)) = false := ownL_map fun _ => rfl
@[simp] theorem ownL_mapB {f : α → Bool} : ownL (l.map fun x => .bl (f x)) = false := ownL_map fun _ => rfl
end
/-! ### slices -/
@[simp] theorem slc_tup {xs : List D} {l h : Option Int} : D.slc (.tup xs) l h = some (.tup (cutD xs l h)) := (rfl)
@[simp] theorem slc_lst {xs : List D} {o : Bool} {l h : Option Int} (hx : ownL xs = false) : D.slc (.lst o xs) l h = some (.lst true (cutD xs l h)) := by simp [D.slc, hx]
theorem cut_from {xs : List D} {k : Nat} : cutD xs (some (k : Int)) none = xs.drop k := by
  unfold cutD
  rw [HT.sIx_none]
  have e : HT.sIx xs.length 0 (some (k : Int)) = min k xs.length := HT.sIx_nat ..
  rw [e]
  by_cases h : k ≤ xs.length
  · rw [Nat.min_eq_left h, List.take_of_length_le (by rw [List.length_drop]; omega)]
  · rw [Nat.min_eq_right (by omega), List.drop_eq_nil_of_le (Nat.le_refl _), List.drop_eq_nil_of_le (by omega)]
    simp
theorem cut_to {xs : List D} {k : Nat} : cutD xs none (some (k : Int)) = xs.take k := by
  unfold cutD
  rw [HT.sIx_none]
  have e : HT.sIx xs.length xs.length (some (k : Int)) = min k xs.length := HT.sIx_nat ..
  rw [e]
  simp
theorem cut_mid {xs : List D} {i k : Nat} : cutD xs (some (i : Int)) (some (k : Int)) = (xs.take k).drop i := by
  unfold cutD
  have e : HT.sIx xs.length xs.length (some (k : Int)) = min k xs.length := HT.sIx_nat ..
  have e2 : HT.sIx xs.length 0 (some (i : Int)) = min i xs.length := HT.sIx_nat ..
  rw [e, e2, List.drop_take]
  by_cases h : i ≤ xs.length
  · rw [Nat.min_eq_left h]
    by_cases h2 : k ≤ xs.length
    · rw [Nat.min_eq_left h2]
    · rw [Nat.min_eq_right (by omega), List.take_of_length_le (by rw [List.length_drop]; omega), List.take_of_length_le (by rw [List.length_drop]; omega)]
  · rw [Nat.min_eq_right (a := i) (by omega), List.drop_eq_nil_of_le (Nat.le_refl _), List.drop_eq_nil_of_le (i := i) (by omega)]
    simp
@[simp] theorem cut_1 {xs : List D} : cutD xs (some 1) none = xs.drop 1 := cut_from (k := 1)
/-! ### in -/
@[simp] theorem isin_dicI {i : Int} {o : Bool} {kvs : List (Key × D)} : D.isin (.int i) (.dic o kvs) = some (lookK (.inl i) kvs).isSome := (rfl)
theorem isin_tup {x : D} {ys : List D} (h : (x.flat && ys.all D.flat) = true) : D.isin x (.tup ys) = some (ys.any fun y => y.eqF x) := by
  cases x <;> first | cases h | (show (if _ then _ else _) = _; rw [if_pos h])
theorem isin_lst {x : D} {ys : List D} {o : Bool} (h : (x.flat && ys.all D.flat) = true) : D.isin x (.lst o ys) = some (ys.any fun y => y.eqF x) := by
  cases x <;> first | cases h | (show (if _ then _ else _) = _; rw [if_pos h])
theorem isin_tupI {α : Type} {i : Int} {l : List α} {f : α → Int} : D.isin (.int i) (.tup (l.map fun x => .int (f x))) = some (l.any fun x => f x == i) := by
  rw [isin_tup (by simp [D.flat]), List.any_map]
  rfl
theorem isin_lstI {α : Type} {i : Int} {o : Bool} {l : List α} {f : α → Int} : D.isin (.int i) (.lst o (l.map fun x => .int (f x))) = some (l.any fun x => f x == i) := by
  rw [isin_lst (by simp [D.flat]), List.any_map]
  rfl
@[simp] theorem isin_tupN {i : Nat} {l : List Nat} : D.isin (.int i) (.tup (l.map fun x : Nat => .int x)) = some (decide (i ∈ l)) := by
  rw [isin_tupI]
  congr 1
  rw [Bool.eq_iff_iff]
  simp [List.any_eq_true]
@[simp] theorem isin_lstN {i : Nat} {l : List Nat} {o : Bool} : D.isin (.int i) (.lst o (l.map fun x : Nat => .int x)) = some (decide (i ∈ l)) := by
  rw [isin_lstI]
  congr 1
  rw [Bool.eq_iff_iff]
  simp [List.any_eq_true]
section
variable {g : G} {elt : E} {tg : Tg} {cond : E} {own : List Nat} {ρ : Sl}
theorem lc_all0 {α : Type} (xs : List α) (f : α → D) (out : α → D) (hc : calmAt ρ own = true) (hl : xs.length ≤ LINE)
    (hs : ∀ x ∈ xs, lcT g elt tg cond own (f x) (wipeS ρ own) = some (some (out x), wipeS ρ own)) :
    lcR g elt tg cond own (.ok (xs.map f) [] ρ) = .ok (.lst true (xs.map out)) ρ := lc_all xs f out hc hl hs rfl
theorem lc_some0 {α : Type} (xs : List α) (f : α → D) (c : α → Bool) (out : α → D) (hc : calmAt ρ own = true) (hl : xs.length ≤ LINE)
    (hs : ∀ x ∈ xs, lcT g elt tg cond own (f x) (wipeS ρ own) = some (if c x = true then some (out x) else none, wipeS ρ own)) :
    lcR g elt tg cond own (.ok (xs.map f) [] ρ) = .ok (.lst true ((xs.filter c).map out)) ρ := lc_some xs f c out hc hl hs rfl
end
theorem line_val : LINE = 16777216 := (rfl)
/-- a turn that goes on, to such a state -/
def RS.goes (r : RS) (P : Sl → Prop) : Prop := ∃ ρ', (r = .ok .nx ρ' ∨ r = .ok .ct ρ') ∧ P ρ'
@[simp] theorem goes_nx {ρ : Sl} {P : Sl → Prop} : RS.goes (.ok .nx ρ) P = P ρ := by simp [RS.goes]
@[simp] theorem goes_ct {ρ : Sl} {P : Sl → Prop} : RS.goes (.ok .ct ρ) P = P ρ := by simp [RS.goes]
theorem goes_congr {r r' : RS} {P : Sl → Prop} (h : r = r') : RS.goes r P = RS.goes r' P := by rw [h]
@[simp] theorem goes_ite {p : Prop} [Decidable p] {a b : RS} {P : Sl → Prop} : RS.goes (if p then a else b) P = if p then RS.goes a P else RS.goes b P := by split <;> rfl
/-- THE RULE for a loop -/
theorem for_go {Q : RS → Prop} {α : Type} {f : α → D} {g : G} {t : Tg} {b : S} {ρ : Sl} {xs : List α} (I : Nat → Sl → Prop) (h0 : I 0 ρ)
    (hs : ∀ j x, xs[j]? = some x → ∀ ρ, I j ρ → RS.goes (forT g t b (f x) ρ) (I (j + 1)))
    (hk : ∀ ρ', I xs.length ρ' → Q (.ok .nx ρ')) : Q (forR g t b (.ok (xs.map f) [] ρ)) := for_elim (f := f) I h0 hs hk
/-- .. over a list of one's own, which is held meanwhile -/
theorem for_goH {Q : RS → Prop} {α : Type} {f : α → D} {g : G} {t : Tg} {b : S} {ρ : Sl} {xs : List α} {held : List (Nat × D)} (I : Nat → Sl → Prop) (h0 : I 0 ρ)
    (hs : ∀ j x, xs[j]? = some x → ∀ ρ, I j ρ → RS.goes (forT { g with prot := held.map (·.1) ++ g.prot } t b (f x) ρ) (I (j + 1)))
    (hk : ∀ ρ', I xs.length ρ' → Q (RS.back held (.ok .nx ρ'))) : Q (forR g t b (.ok (xs.map f) held ρ)) := by
  obtain ⟨ρ', h1, h2⟩ := forL_inv (f := f) (step := forT { g with prot := held.map (·.1) ++ g.prot } t b) I xs 0 ρ h0 fun j x hx ρ hI => by
    rw [Nat.zero_add] at hI ⊢
    exact hs j x hx ρ hI
  rw [Nat.zero_add] at h2
  rw [forR_ok, h1]
  exact hk ρ' h2
@[simp] theorem Gn_with {T : Str → Option Fn} {g : G} {n : Nat} {p q : List Nat} : { Gn T g n p with prot := q } = Gn T g n q := (rfl)
def backO (f : Fl) (o : Option Sl) : RS := match o with
  | some ρ => .ok f ρ
  | none => .bad
@[simp] theorem backO_some {f : Fl} {ρ : Sl} : backO f (some ρ) = .ok f ρ := (rfl)
@[simp] theorem back_ok {h : List (Nat × D)} {f : Fl} {ρ : Sl} : RS.back h (.ok f ρ) = backO f (putHeld h ρ) := by
  simp only [RS.back]
  cases putHeld h ρ <;> rfl
def heldK (i : Nat) (d : D) (r : List (Nat × D)) (o : Option (Option D)) (ρ : Sl) : Option Sl := match o with
  | some (some .hole) => putHeld r (ρ.set i (some d))
  | _ => none
@[simp] theorem heldK_hole {i : Nat} {d : D} {r : List (Nat × D)} {ρ : Sl} : heldK i d r (some (some .hole)) ρ = putHeld r (ρ.set i (some d)) := (rfl)
@[simp] theorem putHeld_cons {i : Nat} {d : D} {r : List (Nat × D)} {ρ : Sl} : putHeld ((i, d) :: r) ρ = heldK i d r ρ[i]? ρ := by
  simp only [putHeld]
  rfl
/-! ### while, turn by turn -/
def wcK (r : RE) (k : Sl → Option (Sum Sl RS)) : Option (Sum Sl RS) := match r with
  | .ok d ρ1 | .brw d ρ1 => (match d.tru with
    | some true => k ρ1
    | some false => some (.inr (.ok .nx ρ1))
    | none => none)
  | .exc n v ρ1 => some (.inr (.exc n v ρ1))
  | .bad => none
@[simp] theorem wcK_bl {t : Bool} {ρ : Sl} {k : Sl → Option (Sum Sl RS)} : wcK (.ok (.bl t) ρ) k = if t = true then k ρ else some (.inr (.ok .nx ρ)) := by cases t <;> rfl
theorem wcK_congr {r r' : RE} {k : Sl → Option (Sum Sl RS)} (h : r = r') : wcK r k = wcK r' k := by rw [h]
theorem wStep_eq {g : G} {c : E} {b : S} {ρ : Sl} : wStep g c b ρ = wcK (ev g c ρ) fun ρ1 => (ex b g ρ1).turn := by
  simp only [wStep, wcK]
@[simp] theorem turn_nx {ρ : Sl} : RS.turn (.ok .nx ρ) = some (.inl ρ) := (rfl)
@[simp] theorem turn_ct {ρ : Sl} : RS.turn (.ok .ct ρ) = some (.inl ρ) := (rfl)
@[simp] theorem turn_bk {ρ : Sl} : RS.turn (.ok .bk ρ) = some (.inr (.ok .nx ρ)) := (rfl)
@[simp] theorem turn_rt {ρ : Sl} {d : D} : RS.turn (.ok (.rt d) ρ) = some (.inr (.ok (.rt d) ρ)) := (rfl)
@[simp] theorem turn_exc {ρ : Sl} {d : D} {c : Str} : RS.turn (.exc c d ρ) = some (.inr (.exc c d ρ)) := (rfl)
@[simp] theorem turn_ite {p : Prop} [Decidable p] {a b : RS} : RS.turn (if p then a else b) = if p then RS.turn a else RS.turn b := by split <;> rfl
section
variable {g : G} {elt : E} {tg : Tg} {cond : E} {own : List Nat} {ρ : Sl}
theorem lc_all1 (xs : List D) (out : D → D) (hc : calmAt ρ own = true) (hl : xs.length ≤ LINE)
    (hs : ∀ x ∈ xs, lcT g elt tg cond own x (wipeS ρ own) = some (some (out x), wipeS ρ own)) :
    lcR g elt tg cond own (.ok xs [] ρ) = .ok (.lst true (xs.map out)) ρ := by
  have := lc_all0 (g := g) (elt := elt) (tg := tg) (cond := cond) xs id out hc hl hs
  rwa [List.map_id] at this
end
/-- a tuple of so many -/
def tupIn (d : D) (a b : Int) : Bool := match d with
  | .tup xs => decide (a ≤ xs.length) && decide ((xs.length : Int) ≤ b)
  | _ => false
@[simp] theorem tupIn_tup {xs : List D} {a b : Int} : tupIn (.tup xs) a b = (decide (a ≤ xs.length) && decide ((xs.length : Int) ≤ b)) := (rfl)
@[simp] theorem tupIn_non {a b : Int} : tupIn .non a b = false := (rfl)
@[simp] theorem tupIn_bl {a b : Int} {x : Bool} : tupIn (.bl x) a b = false := (rfl)
@[simp] theorem tupIn_int {a b i : Int} : tupIn (.int i) a b = false := (rfl)
@[simp] theorem tupIn_str {a b : Int} {x : Str} : tupIn (.str x) a b = false := (rfl)
@[simp] theorem tupIn_lst {a b : Int} {o : Bool} {xs : List D} : tupIn (.lst o xs) a b = false := (rfl)
@[simp] theorem tupIn_dic {a b : Int} {o : Bool} {xs : List (Key × D)} : tupIn (.dic o xs) a b = false := (rfl)
/-! ### rows of numbers are alike -/
theorem pyL_ints {xs : List Int} : pyL (xs.map .int) = some (xs.map .int) := by
  induction xs with
  | nil => rfl
  | cons x xs ih => simp [pyL, D.py, ih]
theorem lay_ints {xs : List Int} : PyData.canLayAll0 (xs.map .int) = true := by
  induction xs with
  | nil => rfl
  | cons x xs ih => simp [PyData.canLayAll0, PyData.canLay0, ih]
theorem dep_ints {xs : List Int} : PyData.depthAll (xs.map .int) ≤ 1 := by
  induction xs with
  | nil => simp [PyData.depthAll]
  | cons x xs ih =>
    simp only [List.map_cons, PyData.depthAll, PyData.depth]
    omega
theorem eqvAll_ints : ∀ {xs ys : List Int}, PyData.eqvAll (xs.map .int) (ys.map .int) = decide (xs = ys)
  | [], [] => by simp [PyData.eqvAll]
  | [], _ :: _ => by simp [PyData.eqvAll]
  | _ :: _, [] => by simp [PyData.eqvAll]
  | x :: xs, y :: ys => by
    simp only [List.map_cons, PyData.eqvAll, PyData.eqv, eqvAll_ints, List.cons.injEq]
    by_cases h1 : x = y <;> simp [h1]
theorem shL_ints {xs : List Int} : SeqAt.shaped (.list (xs.map .int)) = true := by
  have := dep_ints (xs := xs)
  simp only [SeqAt.shaped, PyData.canLay0, lay_ints, PyData.depth, Bool.true_and, decide_eq_true_eq]
  exact decide_eq_true (by omega)
theorem shT_ints {xs : List Int} : SeqAt.shaped (.tuple (xs.map .int)) = true := by
  have := dep_ints (xs := xs)
  simp only [SeqAt.shaped, PyData.canLay0, lay_ints, PyData.depth, Bool.true_and, decide_eq_true_eq]
  exact decide_eq_true (by omega)
theorem py_lst {o : Bool} {xs : List D} : D.py (.lst o xs) = (pyL xs).map .list := by
  simp only [D.py]
  cases pyL xs <;> rfl
theorem py_tup {xs : List D} : D.py (.tup xs) = (pyL xs).map .tuple := by
  simp only [D.py]
  cases pyL xs <;> rfl
@[simp] theorem eqv_intsL {o o' : Bool} {xs ys : List Int} : D.eqv (.lst o (xs.map .int)) (.lst o' (ys.map .int)) = some (decide (xs = ys)) := by
  rw [eqv_of (p := .list (xs.map .int)) (q := .list (ys.map .int)) (by rw [py_lst, pyL_ints]; rfl) (by rw [py_lst, pyL_ints]; rfl) shL_ints shL_ints]
  simp only [PyData.eqv, eqvAll_ints]
@[simp] theorem eqv_intsT {xs ys : List Int} : D.eqv (.tup (xs.map .int)) (.tup (ys.map .int)) = some (decide (xs = ys)) := by
  rw [eqv_of (p := .tuple (xs.map .int)) (q := .tuple (ys.map .int)) (by rw [py_tup, pyL_ints]; rfl) (by rw [py_tup, pyL_ints]; rfl) shT_ints shT_ints]
  simp only [PyData.eqv, eqvAll_ints]
@[simp] theorem eqv_intsL0 {o o' : Bool} {xs : List Int} : D.eqv (.lst o (xs.map .int)) (.lst o' []) = some xs.isEmpty := by
  have := eqv_intsL (o := o) (o' := o') (xs := xs) (ys := [])
  rw [List.map_nil] at this
  rw [this]
  cases xs <;> simp
@[simp] theorem eqv_intsT0 {xs : List Int} : D.eqv (.tup (xs.map .int)) (.tup []) = some xs.isEmpty := by
  have := eqv_intsT (xs := xs) (ys := [])
  rw [List.map_nil] at this
  rw [this]
  cases xs <;> simp
@[simp] theorem eqv_natsT0 {xs : List Nat} : D.eqv (.tup (xs.map fun k : Nat => .int k)) (.tup []) = some xs.isEmpty := by
  have : (xs.map fun k : Nat => D.int k) = (xs.map fun k : Nat => (k : Int)).map .int := by simp
  rw [this, eqv_intsT0]
  cases xs <;> rfl
@[simp] theorem b1_lstS {ns : List Int} : B1.run .list (.scr ns) = some (.lst true (ns.map .int)) := by
  have : ownL (ns.map D.int) = false := ownL_map fun _ => rfl
  simp [B1.run, D.items, this]
@[simp] theorem ownL_set {xs : List D} {i : Nat} {d : D} (h : ownL xs = false) (hd : d.own = false) : ownL (xs.set i d) = false := by
  rw [ownL_iff] at h ⊢
  intro x hx
  rcases List.mem_or_eq_of_mem_set hx with h1 | rfl
  · exact h x h1
  · exact hd
@[simp] theorem ownL_tail {xs : List D} (h : ownL xs = false) : ownL xs.tail = false := ownL_sub (fun x hx => List.mem_of_mem_tail hx) h
@[simp] theorem ownL_drop {xs : List D} {k : Nat} (h : ownL xs = false) : ownL (xs.drop k) = false := ownL_sub (fun x hx => List.mem_of_mem_drop hx) h
@[simp] theorem ownL_take {xs : List D} {k : Nat} (h : ownL xs = false) : ownL (xs.take k) = false := ownL_sub (fun x hx => List.mem_of_mem_take hx) h
@[simp] theorem ownL_mapInt {xs : List Int} : ownL (xs.map D.int) = false := ownL_map fun _ => rfl
@[simp] theorem ownL_mapBl {xs : List Bool} : ownL (xs.map D.bl) = false := ownL_map fun _ => rfl
@[simp] theorem eqv_nilL {o o' : Bool} : D.eqv (.lst o []) (.lst o' []) = some true := eqv_intsL0 (xs := [])
@[simp] theorem eqv_nilT : D.eqv (.tup []) (.tup []) = some true := eqv_intsT0 (xs := [])
@[simp] theorem wide_mod {a b : Int} (h : 0 < b) (h2 : b.natAbs < 2 ^ 200) : wide (a % b) = true := by
  refine wide_of (Nat.lt_trans ?_ h2)
  have h3 := Int.emod_nonneg a (b := b) (by omega)
  have h4 := Int.emod_lt_of_pos a h
  omega
theorem rangeD_0 {n : Nat} : rangeD 0 n = (List.range n).map fun k : Nat => .int k := by simp [rangeD]
theorem rangeD_n {a n : Nat} : rangeD (a : Int) n = (List.range n).map fun k : Nat => .int ((a + k : Nat) : Int) := by simp [rangeD]
@[simp] theorem share_lstT {xs : List D} : D.share (.lst true xs) = .lst false (shareL xs) := by simp only [D.share]
@[simp] theorem share_dicT {xs : List (Key × D)} : D.share (.dic true xs) = .dic false (shareK xs) := by simp only [D.share]
theorem for_ex {α : Type} {f : α → D} {g : G} {t : Tg} {b : S} {ρ : Sl} {xs : List α} (I : Nat → Sl → Prop) (h0 : I 0 ρ)
    (hs : ∀ j x, xs[j]? = some x → ∀ ρ, I j ρ → RS.goes (forT g t b (f x) ρ) (I (j + 1))) :
    ∃ ρ', forR g t b (.ok (xs.map f) [] ρ) = .ok .nx ρ' ∧ I xs.length ρ' := for_inv (f := f) I h0 hs
section
variable {g : G} {elt : E} {tg : Tg} {cond : E} {own : List Nat} {ρ : Sl}
theorem lc_inv0 {α : Type} (xs : List α) (f : α → D) (J : Nat → Sl → Prop) (Po : Nat → Option D → Prop) (hc : calmAt ρ own = true) (hl : xs.length ≤ LINE) (h0 : J 0 (wipeS ρ own))
    (hs : ∀ j x, xs[j]? = some x → ∀ W, J j W → ∃ o W', lcT g elt tg cond own (f x) W = some (o, W') ∧ J (j + 1) W' ∧ Po j o) :
    ∃ (os : List (Option D)) (W : Sl), lcR g elt tg cond own (.ok (xs.map f) [] ρ) = .ok (.lst true (os.filterMap id)) (restore ρ W own) ∧ J xs.length W ∧ os.length = xs.length ∧ ∀ j o, os[j]? = some o → Po j o := by
  obtain ⟨os, W, ρ2, h1, h2, h3, h4, h5⟩ := lc_inv (g := g) (elt := elt) (tg := tg) (cond := cond) (held := []) xs f J Po hc hl h0 hs (fun W _ => ⟨_, rfl⟩)
  cases h3
  exact ⟨os, W, h1, h2, h4, h5⟩
end
theorem os_ints : ∀ {os : List (Option D)}, (∀ (j : Nat) (o : Option D), os[j]? = some o → ∃ r : Int, o = some (.int r)) → ∃ rs : List Int, os.filterMap id = rs.map D.int ∧ rs.length = os.length
  | [], _ => ⟨[], rfl, rfl⟩
  | o :: os, h => by
    obtain ⟨r, rfl⟩ := h 0 o rfl
    obtain ⟨rs, h1, h2⟩ := os_ints (os := os) fun j o ho => h (j + 1) o (by simpa using ho)
    exact ⟨r :: rs, by simp [h1], by simp [h2]⟩
theorem os_sub {α : Type} {f : α → D} : ∀ {os : List (Option D)} {xs : List α}, os.length = xs.length → (∀ (j : Nat) (o : Option D), os[j]? = some o → o = none ∨ ∃ x, xs[j]? = some x ∧ o = some (f x)) → ∃ ys : List α, ys.Sublist xs ∧ os.filterMap id = ys.map f
  | [], xs, _, _ => ⟨[], List.nil_sublist _, rfl⟩
  | o :: os, [], hl, _ => by simp at hl
  | o :: os, x :: xs, hl, h => by
    obtain ⟨ys, h1, h2⟩ := os_sub (f := f) (os := os) (xs := xs) (by simpa using hl) fun j o ho => by
      have := h (j + 1) o (by simpa using ho)
      simpa using this
    rcases h 0 o rfl with rfl | ⟨y, hy, rfl⟩
    · exact ⟨ys, h1.cons _, by simp [h2]⟩
    · have : x = y := by simpa using hy
      subst this
      exact ⟨x :: ys, h1.cons₂ _, by simp [h2]⟩
@[simp] theorem restore_nil {old ρ : Sl} : restore old ρ [] = ρ := (rfl)
@[simp] theorem restore_cons {old ρ : Sl} {i : Nat} {is : List Nat} : restore old ρ (i :: is) = (restore old ρ is).set i (old[i]?.getD none) := (rfl)
/-! ### except -/
def hdK (i : Option Nat) (r : RS) : RS := match r with
  | .exc _ _ _ => .bad
  | r => r.clr i
theorem hdK_congr {i : Option Nat} {r r' : RS} (h : r = r') : hdK i r = hdK i r' := by rw [h]
@[simp] theorem hdK_ok {i : Nat} {f : Fl} {ρ : Sl} : hdK (some i) (.ok f ρ) = .ok f (ρ.set i none) := (rfl)
@[simp] theorem hdK_ite {i : Option Nat} {p : Prop} [Decidable p] {a b : RS} : hdK i (if p then a else b) = if p then hdK i a else hdK i b := by split <;> rfl
@[simp] theorem exH_hnil {g : G} {c : Str} {v : D} {ρ : Sl} : exH .hnil g c v ρ = .exc c v ρ := by simp only [exH]
@[simp] theorem exH_hit {g : G} {c c' : Str} {v : D} {ρ : Sl} {i : Nat} {h more : S} (h1 : g.sub c c = true) (h2 : g.sub c c' = true) (hp : g.prot.contains i = false) : exH (.hd c' (some i) h more) g c v ρ = hdK (some i) (ex h g (ρ.set i (some (.exc c v)))) := by
  simp only [exH, h1, h2, if_true, Option.any_some, hp]
  rfl
@[simp] theorem exH_miss {g : G} {c c' : Str} {v : D} {ρ : Sl} {i : Option Nat} {h more : S} (h1 : g.sub c c = true) (h2 : g.sub c c' = false) : exH (.hd c' i h more) g c v ρ = exH more g c v ρ := by
  simp only [exH, h1, h2, if_true]
  rfl
def efK (g : G) (f : Str) (o : Option (Option D)) (ρ : Sl) : RE := match o with
  | some (some (.exc c v)) => if g.fld c = f then .ok v ρ else .bad
  | _ => .bad
@[simp] theorem efK_exc {g : G} {f c : Str} {v : D} {ρ : Sl} (h : g.fld c = f) : efK g f (some (some (.exc c v))) ρ = .ok v ρ := by simp [efK, h]
@[simp] theorem ev_efld {g : G} {f : Str} {i : Nat} {ρ : Sl} : ev g (.efld i f) ρ = efK g f ρ[i]? ρ := by
  simp only [ev]
  rfl
@[simp] theorem pur_efld {f : Str} {i : Nat} : pur (.efld i f) = false := by simp only [pur]
theorem for_exH {α : Type} {f : α → D} {g : G} {t : Tg} {b : S} {ρ : Sl} {xs : List α} (held : List (Nat × D)) (I : Nat → Sl → Prop) (h0 : I 0 ρ)
    (hs : ∀ j x, xs[j]? = some x → ∀ ρ, I j ρ → RS.goes (forT { g with prot := held.map (·.1) ++ g.prot } t b (f x) ρ) (I (j + 1))) :
    ∃ ρ', forR g t b (.ok (xs.map f) held ρ) = RS.back held (.ok .nx ρ') ∧ I xs.length ρ' := by
  obtain ⟨ρ', h1, h2⟩ := forL_inv (f := f) (step := forT { g with prot := held.map (·.1) ++ g.prot } t b) I xs 0 ρ h0 fun j x hx ρ hI => by
    rw [Nat.zero_add] at hI ⊢
    exact hs j x hx ρ hI
  rw [Nat.zero_add] at h2
  exact ⟨ρ', by rw [forR_ok, h1], h2⟩
theorem for_ex1 {g : G} {t : Tg} {b : S} {ρ : Sl} {xs : List D} (I : Nat → Sl → Prop) (h0 : I 0 ρ)
    (hs : ∀ j x, xs[j]? = some x → ∀ ρ, I j ρ → RS.goes (forT g t b x ρ) (I (j + 1))) :
    ∃ ρ', forR g t b (.ok xs [] ρ) = .ok .nx ρ' ∧ I xs.length ρ' := by
  have := for_ex (f := id) (g := g) (t := t) (b := b) (xs := xs) I h0 hs
  rwa [List.map_id] at this
@[simp] theorem shareL_nil : shareL [] = [] := (rfl)
@[simp] theorem shareL_cons {d : D} {ds : List D} : shareL (d :: ds) = d.share :: shareL ds := by simp only [shareL]
@[simp] theorem RE.lf_ite {p : Prop} [Decidable p] {a b : RE} : RE.lf (if p then a else b) = if p then RE.lf a else RE.lf b := by split <;> rfl
@[simp] theorem itK_ite {f : D → Option (List D)} {p : Prop} [Decidable p] {a b : RI} : itK f (if p then a else b) = if p then itK f a else itK f b := by split <;> rfl
end TW
end

section
/-! what is reckoned, step by step: things of any kind, loops that end early, what came in later -/
namespace TW
open PySem
/-! ### things of any kind -/
mutual
/-- a thing that changes no more, of the kinds that can be judged -/
def D.th : D → Bool
  | .non => true | .bl _ => true | .int _ => true | .str _ => true
  | .tup xs => thL xs
  | .lst o xs => !o && thL xs
  | .dic o kvs => !o && kvs.isEmpty
  | _ => false
def thL : List D → Bool
  | [] => true
  | d :: ds => d.th && thL ds
end
section
variable {b o : Bool} {i : Int} {s : Str} {xs ys : List D} {kvs : List (Key × D)} {d : D}
@[simp] theorem th_non : D.th .non = true := by simp only [D.th]
@[simp] theorem th_bl : D.th (.bl b) = true := by simp only [D.th]
@[simp] theorem th_int : D.th (.int i) = true := by simp only [D.th]
@[simp] theorem th_str : D.th (.str s) = true := by simp only [D.th]
@[simp] theorem th_tup : D.th (.tup xs) = thL xs := by simp only [D.th]
@[simp] theorem th_lst : D.th (.lst o xs) = (!o && thL xs) := by simp only [D.th]
@[simp] theorem th_dic : D.th (.dic o kvs) = (!o && kvs.isEmpty) := by simp only [D.th]
@[simp] theorem th_ins {c : Str} {fs : List (Str × D)} : D.th (.ins o c fs) = false := by simp only [D.th]
@[simp] theorem th_excD {c : Str} : D.th (.exc c d) = false := by simp only [D.th]
@[simp] theorem th_scr {ns : List Int} : D.th (.scr ns) = false := by simp only [D.th]
@[simp] theorem th_hole : D.th .hole = false := by simp only [D.th]
@[simp] theorem thL_nil : thL [] = true := by simp only [thL]
@[simp] theorem thL_cons : thL (d :: xs) = (d.th && thL xs) := by simp only [thL]
@[simp] theorem thL_append : thL (xs ++ ys) = (thL xs && thL ys) := by
  induction xs with
  | nil => simp
  | cons x xs ih => simp [ih, Bool.and_assoc]
theorem thL_iff : thL xs = true ↔ ∀ x ∈ xs, x.th = true := by
  induction xs with
  | nil => simp
  | cons x xs ih => simp [ih]
theorem thL_sub (h : ∀ x ∈ xs, x ∈ ys) (hy : thL ys = true) : thL xs = true := by
  rw [thL_iff] at hy ⊢
  exact fun x hx => hy x (h x hx)
theorem thL_map {α : Type} {f : α → D} {l : List α} (h : ∀ x, (f x).th = true) : thL (l.map f) = true := by
  rw [thL_iff]
  intro x hx
  obtain ⟨a, _, rfl⟩ := List.mem_map.mp hx
  exact h a
theorem thL_rep {n : Nat} (h : thL xs = true) : thL (List.replicate n xs).flatten = true := by
  rw [thL_iff] at h ⊢
  intro x hx
  obtain ⟨l, hl, hx⟩ := List.mem_flatten.mp hx
  rw [List.eq_of_mem_replicate hl] at hx
  exact h x hx
theorem th_pl (h : d.th = true) : d.pl = true := by
  cases d <;> first | rfl | (simp [D.th] at h)
end
mutual
theorem th_own : ∀ {d : D}, d.th = true → d.own = false
  | .non, _ => rfl
  | .bl _, _ => rfl
  | .int _, _ => rfl
  | .str _, _ => rfl
  | .tup xs, h => by
    rw [own_tup]
    exact thL_own (by simpa using h)
  | .lst o xs, h => by
    simp only [th_lst, Bool.and_eq_true, Bool.not_eq_true'] at h
    rw [h.1, own_lstF]
    exact thL_own h.2
  | .dic o kvs, h => by
    simp only [th_dic, Bool.and_eq_true, Bool.not_eq_true', List.isEmpty_iff] at h
    rw [h.1, h.2, own_dicF] <;> rfl
  | .ins _ _ _, h => by simp [D.th] at h
  | .exc _ _, h => by simp [D.th] at h
  | .scr _, h => by simp [D.th] at h
  | .hole, h => by simp [D.th] at h
theorem thL_own : ∀ {ds : List D}, thL ds = true → ownL ds = false
  | [], _ => rfl
  | d :: ds, h => by
    simp only [thL_cons, Bool.and_eq_true] at h
    rw [ownL_cons, th_own h.1, thL_own h.2] <;> rfl
end
theorem th_exc {d : D} (h : d.th = true) : d.isExc = false := pl_isExc (th_pl h)
theorem th_at {xs : List D} {i : Nat} {x : D} (h : thL xs = true) (e : xs[i]? = some x) : x.th = true := thL_iff.mp h x (List.mem_of_getElem? e)
/-! ### a whole number between bounds -/
def isAm (d : D) (a b : Int) : Bool := match d with
  | .int i => decide (a ≤ i) && decide (i ≤ b)
  | _ => false
section
variable {a b i : Int} {x o : Bool} {s : Str} {xs : List D} {kvs : List (Key × D)}
@[simp] theorem isAm_int : isAm (.int i) a b = (decide (a ≤ i) && decide (i ≤ b)) := (rfl)
@[simp] theorem isAm_non : isAm .non a b = false := (rfl)
@[simp] theorem isAm_bl : isAm (.bl x) a b = false := (rfl)
@[simp] theorem isAm_str : isAm (.str s) a b = false := (rfl)
@[simp] theorem isAm_tup : isAm (.tup xs) a b = false := (rfl)
@[simp] theorem isAm_lst : isAm (.lst o xs) a b = false := (rfl)
@[simp] theorem isAm_dic : isAm (.dic o kvs) a b = false := (rfl)
@[simp] theorem isAm_ins {c : Str} {fs : List (Str × D)} : isAm (.ins o c fs) a b = false := (rfl)
@[simp] theorem isAm_exc {c : Str} {d : D} : isAm (.exc c d) a b = false := (rfl)
@[simp] theorem isAm_scr {ns : List Int} : isAm (.scr ns) a b = false := (rfl)
@[simp] theorem isAm_hole : isAm .hole a b = false := (rfl)
theorem isAm_iff {d : D} : isAm d a b = true ↔ ∃ i, d = .int i ∧ a ≤ i ∧ i ≤ b := by
  cases d <;> simp [isAm]
end
/-! ### a loop that may end early -/
/-- it ends the loop at once -/
def RS.stop : RS → Prop
  | .exc _ _ _ => True
  | .ok (.rt _) _ => True
  | _ => False
@[simp] theorem stop_exc {c : Str} {d : D} {ρ : Sl} : RS.stop (.exc c d ρ) = True := (rfl)
@[simp] theorem stop_rt {d : D} {ρ : Sl} : RS.stop (.ok (.rt d) ρ) = True := (rfl)
theorem forL_find {α : Type} {f : α → D} {step : D → Sl → RS} {Q : RS → Prop} (bad : α → Bool) (I : Nat → Sl → Prop) : ∀ (xs : List α) (k : Nat) (ρ : Sl), I k ρ →
    (∀ j x, xs[j]? = some x → bad x = false → ∀ ρ, I (k + j) ρ → RS.goes (step (f x) ρ) (I (k + j + 1))) →
    (∀ j x, xs[j]? = some x → bad x = true → xs.findIdx? bad = some j → ∀ ρ, I (k + j) ρ → RS.stop (step (f x) ρ) ∧ Q (step (f x) ρ)) →
    (xs.findIdx? bad = none → ∀ ρ, I (k + xs.length) ρ → Q (.ok .nx ρ)) → Q (forL step (xs.map f) ρ)
  | [], k, ρ, h, _, _, hk => hk rfl ρ h
  | x :: xs, k, ρ, h, hs, hb, hk => by
    simp only [List.map_cons, forL]
    cases hx : bad x with
    | true =>
      obtain ⟨h1, h2⟩ := hb 0 x rfl hx (by simp [List.findIdx?_cons, hx]) ρ h
      generalize step (f x) ρ = r at h1 h2
      match r, h1, h2 with
      | .exc _ _ _, _, h2 => exact h2
      | .ok (.rt _) _, _, h2 => exact h2
    | false =>
      obtain ⟨ρ', e, h1⟩ := hs 0 x rfl hx ρ h
      have := forL_find (f := f) (step := step) (Q := Q) bad I xs (k + 1) ρ' h1 (fun j y hy hby ρ hρ => by
        have e1 : k + 1 + j = k + (j + 1) := by omega
        rw [e1] at hρ ⊢
        exact hs (j + 1) y (by simpa using hy) hby ρ hρ) (fun j y hy hby hf ρ hρ => by
        have e1 : k + 1 + j = k + (j + 1) := by omega
        rw [e1] at hρ
        exact hb (j + 1) y (by simpa using hy) hby (by simp [List.findIdx?_cons, hx, hf]) ρ hρ) (fun hf ρ hρ => hk (by simp [List.findIdx?_cons, hx, hf]) ρ (by
          have e1 : k + (x :: xs).length = k + 1 + xs.length := by simp; omega
          rw [e1]; exact hρ))
      rcases e with e | e <;> rw [e] <;> exact this
/-- THE RULE for a loop that ends at the first bad one -/
theorem for_find {Q : RS → Prop} {α : Type} {f : α → D} {g : G} {t : Tg} {b : S} {ρ : Sl} {xs : List α} (bad : α → Bool) (I : Nat → Sl → Prop) (h0 : I 0 ρ)
    (hs : ∀ j x, xs[j]? = some x → bad x = false → ∀ ρ, I j ρ → RS.goes (forT g t b (f x) ρ) (I (j + 1)))
    (hb : ∀ j x, xs[j]? = some x → bad x = true → xs.findIdx? bad = some j → ∀ ρ, I j ρ → RS.stop (forT g t b (f x) ρ) ∧ Q (forT g t b (f x) ρ))
    (hk : xs.findIdx? bad = none → ∀ ρ', I xs.length ρ' → Q (.ok .nx ρ')) : Q (forR g t b (.ok (xs.map f) [] ρ)) := by
  rw [forR_ok, back_nil]
  exact forL_find (f := f) (step := forT g t b) bad I xs 0 ρ h0 (fun j x hx hbx ρ hρ => by
    rw [Nat.zero_add] at hρ ⊢
    exact hs j x hx hbx ρ hρ) (fun j x hx hbx hf ρ hρ => by
    rw [Nat.zero_add] at hρ
    exact hb j x hx hbx hf ρ hρ) (fun hf ρ hρ => hk hf ρ (by rw [Nat.zero_add] at hρ; exact hρ))
theorem zipIdx_at {α : Type} {xs : List α} {k j : Nat} {q : α × Nat} : (xs.zipIdx k)[j]? = some q ↔ xs[j]? = some q.1 ∧ q.2 = k + j := by
  rw [List.getElem?_zipIdx]
  constructor
  · intro h
    obtain ⟨y, h5, h6⟩ := Option.map_eq_some_iff.mp h
    subst h6
    exact ⟨h5, rfl⟩
  · rintro ⟨h1, h2⟩
    rw [h1]
    obtain ⟨a, b⟩ := q
    cases h2
    rfl
theorem find_zipIdx {α : Type} {bad : α → Bool} : ∀ {xs : List α} {k : Nat}, (xs.zipIdx k).findIdx? (fun q => bad q.1) = xs.findIdx? bad
  | [], _ => rfl
  | x :: xs, k => by simp [List.findIdx?_cons, find_zipIdx]
/-- .. over numbered ones -/
theorem for_findE {Q : RS → Prop} {α : Type} {f : α → D} {g : G} {t : Tg} {b : S} {ρ : Sl} {xs : List α} (bad : α → Bool) (I : Nat → Sl → Prop) (h0 : I 0 ρ)
    (hs : ∀ (j : Nat) x, xs[j]? = some x → bad x = false → ∀ ρ, I j ρ → RS.goes (forT g t b (.tup [.int j, f x]) ρ) (I (j + 1)))
    (hb : ∀ (j : Nat) x, xs[j]? = some x → bad x = true → xs.findIdx? bad = some j → ∀ ρ, I j ρ → RS.stop (forT g t b (.tup [.int j, f x]) ρ) ∧ Q (forT g t b (.tup [.int j, f x]) ρ))
    (hk : xs.findIdx? bad = none → ∀ ρ', I xs.length ρ' → Q (.ok .nx ρ')) : Q (forR g t b (.ok (enumD 0 (xs.map f)) [] ρ)) := by
  rw [enumD_map]
  refine for_find (fun q => bad q.1) I h0 (fun j q hq hbq ρ hρ => ?_) (fun j q hq hbq hf ρ hρ => ?_) (fun hf ρ hρ => ?_)
  · obtain ⟨h1, h2⟩ := zipIdx_at.mp hq
    rw [h2, Nat.zero_add]
    exact hs j q.1 h1 hbq ρ hρ
  · obtain ⟨h1, h2⟩ := zipIdx_at.mp hq
    rw [h2, Nat.zero_add]
    rw [find_zipIdx] at hf
    exact hb j q.1 h1 hbq hf ρ hρ
  · rw [find_zipIdx] at hf
    rw [List.length_zipIdx] at hρ
    exact hk hf ρ hρ
theorem for_findD {Q : RS → Prop} {g : G} {t : Tg} {b : S} {ρ : Sl} {xs : List D} (bad : D → Bool) (I : Nat → Sl → Prop) (h0 : I 0 ρ)
    (hs : ∀ (j : Nat) x, xs[j]? = some x → bad x = false → ∀ ρ, I j ρ → RS.goes (forT g t b (.tup [.int j, x]) ρ) (I (j + 1)))
    (hb : ∀ (j : Nat) x, xs[j]? = some x → bad x = true → xs.findIdx? bad = some j → ∀ ρ, I j ρ → RS.stop (forT g t b (.tup [.int j, x]) ρ) ∧ Q (forT g t b (.tup [.int j, x]) ρ))
    (hk : xs.findIdx? bad = none → ∀ ρ', I xs.length ρ' → Q (.ok .nx ρ')) : Q (forR g t b (.ok (enumD 0 xs) [] ρ)) := by
  have := for_findE (Q := Q) (f := id) (g := g) (t := t) (b := b) bad I h0 hs hb hk
  rwa [List.map_id] at this
/-- a comprehension over a list of one's own, which is held meanwhile -/
theorem lc_allH {α : Type} {g : G} {elt : E} {tg : Tg} {cond : E} {own : List Nat} {held : List (Nat × D)} {ρ ρ2 : Sl} (xs : List α) (f : α → D) (out : α → D) (hc : calmAt ρ own = true) (hl : xs.length ≤ LINE)
    (hs : ∀ x ∈ xs, lcT g elt tg cond own (f x) (wipeS ρ own) = some (some (out x), wipeS ρ own)) (hp : putHeld held ρ = some ρ2) :
    lcR g elt tg cond own (.ok (xs.map f) held ρ) = .ok (.lst true (xs.map out)) ρ2 := by
  have := lc_map (g := g) (elt := elt) (tg := tg) (cond := cond) xs f (fun x => some (out x)) hc hl hs hp
  rw [this]
  congr 2
  induction xs with
  | nil => rfl
  | cons x xs ih => simp
/-! ### what came in later -/
section
variable {g : G} {ρ : Sl} {e : E} {d : D}
@[simp] theorem ev_shv : ev g (.shv e) ρ = (ev g e ρ).v fun d ρ1 => .ok d.share ρ1 := by simp only [ev]
def shO (i : Nat) (o : Option D) (ρ : Sl) : RE := match o with
  | some d => .ok d.share (ρ.set i (some d.share))
  | none => .bad
@[simp] theorem shO_some {i : Nat} : shO i (some d) ρ = .ok d.share (ρ.set i (some d.share)) := (rfl)
@[simp] theorem ev_shvar {i : Nat} : ev g (.sh (.var i)) ρ = shO i (getS ρ[i]?) ρ := by
  simp only [ev, evP_var, getP_mk, setP_mk, getA_nil, setA_nil, Option.bind_fun_some]
  cases h : getS ρ[i]? with
  | none => rfl
  | some d => rfl
def eiK (g : G) (c' : Str) (o : Option (Option D)) (ρ : Sl) : RE := match o with
  | some (some (.exc c _)) => .lift ((g.isk c c').map .bl) ρ
  | _ => .bad
@[simp] theorem eiK_exc {c c' : Str} {v : D} : eiK g c' (some (some (.exc c v))) ρ = .lift ((g.isk c c').map .bl) ρ := (rfl)
@[simp] theorem ev_eisi {i : Nat} {c' : Str} : ev g (.eisi i c') ρ = eiK g c' ρ[i]? ρ := by
  simp only [ev]
  rfl
@[simp] theorem pur_eisi {c : Str} {i : Nat} : pur (.eisi i c) = false := by simp only [pur]
@[simp] theorem pur_shv : pur (.shv e) = pur e := by simp only [pur]
@[simp] theorem Gn_isk {T : Str → Option Fn} {n : Nat} {p : List Nat} {x y : Str} : (Gn T g n p).isk x y = g.isk x y := (rfl)
/-! what can be told equal or not -/
inductive Sh : Nat → D → Prop
  | non {k : Nat} : Sh k .non
  | bl {k : Nat} {b : Bool} : Sh k (.bl b)
  | int {k : Nat} {i : Int} : Sh k (.int i)
  | tup {k : Nat} {xs : List D} (h : ∀ x ∈ xs, Sh k x) : Sh (k + 1) (.tup xs)
  | lst {k : Nat} {o : Bool} {xs : List D} (h : ∀ x ∈ xs, Sh k x) : Sh (k + 1) (.lst o xs)
theorem pyL_all {k : Nat} (ih : ∀ d, Sh k d → ∃ p, d.py = some p ∧ p.canLay0 = true ∧ p.depth ≤ k) : ∀ {xs : List D}, (∀ x ∈ xs, Sh k x) → ∃ ps, pyL xs = some ps ∧ ps.length = xs.length ∧ PyData.canLayAll0 ps = true ∧ PyData.depthAll ps ≤ k
  | [], _ => ⟨[], rfl, rfl, rfl, by simp [PyData.depthAll]⟩
  | x :: xs, h => by
    obtain ⟨p, p1, p2, p3⟩ := ih x (h x List.mem_cons_self)
    obtain ⟨ps, q1, q2, q3, q4⟩ := pyL_all ih (xs := xs) fun y hy => h y (List.mem_cons_of_mem _ hy)
    refine ⟨p :: ps, by simp [pyL, p1, q1], by simp [q2], by simp [PyData.canLayAll0, p2, q3], ?_⟩
    simp only [PyData.depthAll]
    omega
theorem Sh.py : ∀ {k : Nat} {d : D}, Sh k d → ∃ p, d.py = some p ∧ p.canLay0 = true ∧ p.depth ≤ k
  | k, _, .non => ⟨.none, rfl, by simp [PyData.canLay0], by simp [PyData.depth]⟩
  | k, _, .bl (b := b) => ⟨.bool b, rfl, by simp [PyData.canLay0], by simp [PyData.depth]⟩
  | k, _, .int (i := i) => ⟨.int i, rfl, by simp [PyData.canLay0], by simp [PyData.depth]⟩
  | k + 1, _, .tup (xs := xs) h => by
    obtain ⟨ps, q1, q2, q3, q4⟩ := pyL_all (k := k) (fun d hd => Sh.py hd) h
    refine ⟨.tuple ps, by rw [py_tup, q1]; rfl, by simpa [PyData.canLay0] using q3, ?_⟩
    simp only [PyData.depth]
    omega
  | k + 1, _, .lst (xs := xs) h => by
    obtain ⟨ps, q1, q2, q3, q4⟩ := pyL_all (k := k) (fun d hd => Sh.py hd) h
    refine ⟨.list ps, by rw [py_lst, q1]; rfl, by simpa [PyData.canLay0] using q3, ?_⟩
    simp only [PyData.depth]
    omega
theorem Sh.shaped {k : Nat} {d : D} (h : Sh k d) (hk : k ≤ 64) : ∃ p, d.py = some p ∧ SeqAt.shaped p = true := by
  obtain ⟨p, h1, h2, h3⟩ := h.py
  refine ⟨p, h1, ?_⟩
  simp only [SeqAt.shaped, h2, Bool.true_and, decide_eq_true_eq]
  omega
theorem eqv_tup0 {k : Nat} {xs : List D} (h : ∀ x ∈ xs, Sh k x) (hk : k < 64) : D.eqv (.tup xs) (.tup []) = some xs.isEmpty := by
  obtain ⟨p, h1, h2⟩ := Sh.shaped (k := k + 1) (d := .tup xs) (.tup h) (by omega)
  obtain ⟨ps, q1, q2, q3, q4⟩ := pyL_all (fun d hd => Sh.py hd) h
  have e : p = .tuple ps := by
    rw [py_tup, q1] at h1
    exact (Option.some.inj h1).symm
  subst e
  rw [eqv_of h1 (q := .tuple []) rfl h2 (by decide)]
  cases xs with
  | nil =>
    have : ps = [] := by simpa using q2
    subst this
    rfl
  | cons x xs =>
    cases ps with
    | nil => simp at q2
    | cons p ps => simp [PyData.eqv, PyData.eqvAll]
theorem eqv_lst0 {k : Nat} {o o' : Bool} {xs : List D} (h : ∀ x ∈ xs, Sh k x) (hk : k < 64) : D.eqv (.lst o xs) (.lst o' []) = some xs.isEmpty := by
  obtain ⟨p, h1, h2⟩ := Sh.shaped (k := k + 1) (d := .lst o xs) (.lst h) (by omega)
  obtain ⟨ps, q1, q2, q3, q4⟩ := pyL_all (fun d hd => Sh.py hd) h
  have e : p = .list ps := by
    rw [py_lst, q1] at h1
    exact (Option.some.inj h1).symm
  subst e
  rw [eqv_of h1 (q := .list []) rfl h2 (by decide)]
  cases xs with
  | nil =>
    have : ps = [] := by simpa using q2
    subst this
    rfl
  | cons x xs =>
    cases ps with
    | nil => simp at q2
    | cons p ps => simp [PyData.eqv, PyData.eqvAll]
/-! repr -/
theorem b1_repr (h : d.told = true) : B1.run .repr d = some (.str d.shown) := by simp [B1.run, h]
/-! tuples so many times -/
theorem bop_mulT {xs : List D} {k : Int} (h1 : 2 ≤ k) (h2 : k ≤ 1000) (h3 : xs.length ≤ 1000) : Bop.run .mul (.tup xs) (.int k) = some (.tup (List.replicate k.toNat xs).flatten) := by
  simp [Bop.run, D.mul, h1, h2, h3]
/-! a dict's values -/
def valO (g : G) (i : Nat) (o : Option (Option D)) (ρ : Sl) : RI := match o with
  | some (some (.dic true kvs)) => if g.prot.contains i then .bad else .ok ((shareK kvs).map (·.2)) [] (ρ.set i none)
  | _ => .bad
@[simp] theorem valO_dic {i : Nat} {kvs : List (Key × D)} (h : g.prot.contains i = false) : valO g i (some (some (.dic true kvs))) ρ = .ok ((shareK kvs).map (·.2)) [] (ρ.set i none) := by simp only [valO, h] <;> rfl
@[simp] theorem evIt_val {i : Nat} : evIt g (.val (.pl (.var i))) ρ = valO g i ρ[i]? ρ := by
  simp only [evIt]
  rfl
end
@[simp] theorem shareK_nil : shareK [] = [] := (rfl)
/-! groups -/
theorem posKat3 {k : Key} : ∀ {kvs : List (Key × D)} {v : D}, lookK k kvs = some v → ∃ n, posK k kvs = some n ∧ kvs[n]? = some (k, v) ∧ ∀ w, kvs.set n (k, w) = putKD k w kvs
  | [], _, h => by simp [lookK] at h
  | (j, u) :: r, v, h => by
    by_cases e : j = k
    · subst e
      have : u = v := by simpa [lookK] using h
      subst this
      exact ⟨0, by simp [posK], rfl, fun w => by simp [putKD]⟩
    · obtain ⟨n, h1, h2, h3⟩ := posKat3 (kvs := r) (v := v) (by simpa [lookK, e] using h)
      exact ⟨n + 1, by simp [posK, e, h1], by simpa using h2, fun w => by simp [putKD, e, h3]⟩
theorem lookPut3 {k : Key} {v : D} : ∀ {kvs : List (Key × D)}, lookK k (putKD k v kvs) = some v
  | [] => by simp [putKD, lookK]
  | (j, u) :: r => by
    by_cases e : j = k
    · simp [putKD, lookK, e]
    · simp [putKD, lookK, e, lookPut3]
theorem putPut3 {k : Key} {v w : D} : ∀ {kvs : List (Key × D)}, putKD k v (putKD k w kvs) = putKD k v kvs
  | [] => by simp [putKD]
  | (j, u) :: r => by
    by_cases e : j = k
    · simp [putKD, e]
    · simp [putKD, e, putPut3]
theorem ev_sda {g : G} {ρ ρ2 : Sl} {i : Nat} {k x : E} {kvs : List (Key × D)} {kd d : D} {j : Key} {xs : List D} (hp : (pur k && pur x) = true) (h1 : ρ[i]? = some (some (.dic true kvs))) (h2 : ev g k ρ = .ok kd ρ2)
    (h3 : kd.key = some j) (h4 : kvs.length < LINE) (hl : (lookK j kvs = none ∧ xs = []) ∨ lookK j kvs = some (.lst true xs)) (h5 : xs.length < LINE)
    (hx : ∀ v, ev g x (ρ.set i v) = .ok d (ρ.set i v)) : ev g (.sda (.var i) k x) ρ = .ok .non (ρ.set i (some (.dic true (putKD j (.lst true (xs ++ [d])) kvs)))) := by
  obtain ⟨hi, h1'⟩ := List.getElem?_eq_some_iff.mp h1
  rcases hl with ⟨hl, rfl⟩ | hl
  · obtain ⟨n, p1, p2, p3⟩ := posKat3 (k := j) (v := .lst true []) (lookPut3 (kvs := kvs))
    have hx' := hx (some (.dic true (putKD j (.lst true []) kvs)))
    simp [ev, hp, h1', h2, h3, h4, hl, p1, hi, accD, p2, hx', h5, setA, p3, putPut3]
    simp [line_val]
  · obtain ⟨n, p1, p2, p3⟩ := posKat3 hl
    have hx' := hx (some (.dic true kvs))
    have hs : ρ.set i (some (.dic true kvs)) = ρ := by
      apply List.ext_getElem?
      intro m
      rw [List.getElem?_set]
      split
      · rename_i e
        subst e
        simp [hi, h1']
      · rfl
    rw [hs] at hx'
    simp [ev, hp, h1', h2, h3, h4, hl, p1, hi, accD, p2, hx', h5, setA, p3]
/-! rows in order stay -/
theorem sortT_of : ∀ {l : List (List Int)}, l.Pairwise (fun a b => leL a b = true) → sortT l = l
  | [], _ => rfl
  | x :: l, h => by
    rw [List.pairwise_cons] at h
    simp only [sortT, sortT_of h.2]
    cases l with
    | nil => rfl
    | cons y l => simp [insT, h.1 y List.mem_cons_self]
theorem sortI_of : ∀ {l : List Int}, l.Pairwise (· ≤ ·) → sortI l = l
  | [], _ => rfl
  | x :: l, h => by
    rw [List.pairwise_cons] at h
    simp only [sortI, sortI_of h.2]
    cases l with
    | nil => rfl
    | cons y l => simp [insI, h.1 y List.mem_cons_self]
theorem sort2 {a b : Int} : B1.run .sorted (.lst true [.int a, .int b]) = some (.lst true [.int (min a b), .int (max a b)]) := by
  have : sortI [a, b] = [min a b, max a b] := by
    simp only [sortI, insI]
    split <;> simp <;> omega
  simp [B1.run, D.sorted, intsD, this]
end TW
end

section
set_option maxRecDepth 100000
namespace K00
open TW PySem
def top (i : Nat) : PySem.Stmt := PySem.Challenge.pw_tornwebs_k00_whole_webs.main.body.getD i (.Pass ⟨0, 0, 0, 0⟩)
def b_is_number : TW.S :=
(.ret (.and (.isi (.rd (.var 0)) "int") (.not (.isi (.rd (.var 0)) "bool"))))
def e_is_number : TW.Ent := ⟨"is_number", ["thing"], ["thing"], L2.defArgs (top 5), L2.defBody (top 5), L2.defScope (top 5), ⟨1, 1, b_is_number⟩⟩
def b_is_among : TW.S :=
(.ret (.and (.call "is_number" (.l (.var 0) .nil)) (.chain .le .le (.rd (.var 1)) (.rd (.var 0)) (.rd (.var 2)))))
def e_is_among : TW.Ent := ⟨"is_among", ["thing", "least", "most"], ["thing", "least", "most"], L2.defArgs (top 6), L2.defBody (top 6), L2.defScope (top 6), ⟨3, 3, b_is_among⟩⟩
def b_is_tuple_of : TW.S :=
(.ret (.and (.isi (.rd (.var 0)) "tuple") (.chain .le .le (.rd (.var 1)) (.b1 .len (.rd (.var 0))) (.rd (.var 2)))))
def e_is_tuple_of : TW.Ent := ⟨"is_tuple_of", ["thing", "least", "most"], ["thing", "least", "most"], L2.defArgs (top 7), L2.defBody (top 7), L2.defScope (top 7), ⟨3, 3, b_is_tuple_of⟩⟩
def e1_rift_by : TW.E := (.b1 .tuple (.rd (.var 4)))
def f1_rift_by : TW.S :=
(.ex (.sda (.var 1) (.rd (.var 3)) (.rd (.var 2))))
def b_rift_by : TW.S :=
(.seq (.asg (.v 1) (.dic [] .nil))
(.seq (.for (.t (.cons (.v 2) (.cons (.v 3) .nil))) (.enu (.pl (.var 0)))
f1_rift_by)
(.ret (.b1 .tuple (.b1 .sorted (.lc e1_rift_by (.v 4) (.val (.pl (.var 1))) (.bl true) [4]))))))
def e_rift_by : TW.Ent := ⟨"rift_by", ["labels"], ["labels", "parts", "place", "label", "part"], L2.defArgs (top 9), L2.defBody (top 9), L2.defScope (top 9), ⟨1, 5, b_rift_by⟩⟩
def b_is_cable : TW.S :=
(.seq (.ite (.or (.not (.call "is_tuple_of" (.l (.var 0) (.v (.int 3) (.v (.int 3) .nil))))) (.not (.call "is_among" (.v (.rd (.sub (.var 0) (.int 2))) (.v (.int 0) (.v (.glb "MOST_STRENGTH") .nil))))))
(.ret (.bl false))
.pass)
(.ret (.and (.call "is_among" (.v (.rd (.sub (.var 0) (.int 0))) (.v (.int 0) (.v (.bin .sub (.rd (.var 1)) (.int 1)) .nil)))) (.call "is_among" (.v (.rd (.sub (.var 0) (.int 1))) (.v (.bin .add (.rd (.sub (.var 0) (.int 0))) (.int 1)) (.v (.bin .sub (.rd (.var 1)) (.int 1)) .nil)))))))
def e_is_cable : TW.Ent := ⟨"is_cable", ["thing", "places"], ["thing", "places"], L2.defArgs (top 14), L2.defBody (top 14), L2.defScope (top 14), ⟨2, 2, b_is_cable⟩⟩
def f1_need_web : TW.S :=
(.ite (.not (.call "is_cable" (.l (.var 2) (.v (.rd (.sub (.var 0) (.int 0))) .nil))))
(.rse "BadWeb" (.tup (.cons (.int 1) (.cons (.rd (.var 1)) .nil))))
.pass)
def b_need_web : TW.S :=
(.seq (.ite (.not (.call "is_tuple_of" (.l (.var 0) (.v (.int 2) (.v (.int 2) .nil)))))
(.rse "BadWeb" .non)
.pass)
(.seq (.ite (.not (.call "is_among" (.v (.rd (.sub (.var 0) (.int 0))) (.v (.int 1) (.v (.glb "MOST_PLACES") .nil)))))
(.rse "BadWeb" (.int 0))
.pass)
(.seq (.ite (.not (.call "is_tuple_of" (.v (.rd (.sub (.var 0) (.int 1))) (.v (.int 0) (.v (.glb "MOST_CABLES") .nil)))))
(.rse "BadWeb" (.int 1))
.pass)
(.seq (.for (.t (.cons (.v 1) (.cons (.v 2) .nil))) (.enu (.pl (.sub (.var 0) (.int 1))))
f1_need_web)
(.ret (.rd (.var 0)))))))
def e_need_web : TW.Ent := ⟨"need_web", ["web"], ["web", "number", "cable"], L2.defArgs (top 15), L2.defBody (top 15), L2.defScope (top 15), ⟨1, 3, b_need_web⟩⟩
def b_need_cable_number : TW.S :=
(.seq (.ite (.not (.call "is_among" (.l (.var 1) (.v (.int 0) (.v (.bin .sub (.b1 .len (.rd (.sub (.var 0) (.int 1)))) (.int 1)) .nil)))))
(.rse "BadNumber" (.rd (.var 1)))
.pass)
(.ret (.rd (.var 1))))
def e_need_cable_number : TW.Ent := ⟨"need_cable_number", ["web", "number"], ["web", "number"], L2.defArgs (top 16), L2.defBody (top 16), L2.defScope (top 16), ⟨2, 2, b_need_cable_number⟩⟩
def e1_hanging : TW.E := (.ite (.cmp .eq (.rd (.var 7)) (.rd (.var 6))) (.rd (.var 5)) (.rd (.var 7)))
def f1_hanging : TW.S :=
(.seq (.asg (.t (.cons (.v 5) (.cons (.v 6) .nil))) (.b1 .sorted (.lst (.cons (.rd (.sub (.var 2) (.rd (.var 3)))) (.cons (.rd (.sub (.var 2) (.rd (.var 4)))) .nil)))))
(.asg (.v 2) (.lc e1_hanging (.v 7) (.one (.pl (.var 2))) (.bl true) [7])))
def b_hanging : TW.S :=
(.seq (.asg (.v 2) (.rg1 false (.rd (.var 0))))
(.seq (.for (.t (.cons (.v 3) (.cons (.v 4) .nil))) (.one (.pl (.var 1)))
f1_hanging)
(.ret (.mv 2))))
def e_hanging : TW.Ent := ⟨"hanging", ["places", "pairs"], ["places", "pairs", "found", "one", "other", "low", "high", "label"], L2.defArgs (top 17), L2.defBody (top 17), L2.defScope (top 17), ⟨2, 8, b_hanging⟩⟩
def e1_parts_of : TW.E := (.tup (.cons (.rd (.var 1)) (.cons (.rd (.var 2)) .nil)))
def c1_parts_of : TW.E := (.cmp .gt (.rd (.var 3)) (.int 0))
def b_parts_of : TW.S :=
(.seq (.ex (.call "need_web" (.l (.var 0) .nil)))
(.ret (.call "rift_by" (.v (.call "hanging" (.v (.rd (.sub (.var 0) (.int 0))) (.v (.lc e1_parts_of (.t (.cons (.v 1) (.cons (.v 2) (.cons (.v 3) .nil)))) (.one (.pl (.sub (.var 0) (.int 1)))) c1_parts_of [1, 2, 3]) .nil))) .nil))))
def e_parts_of : TW.Ent := ⟨"parts_of", ["web"], ["web", "one", "other", "strength"], L2.defArgs (top 18), L2.defBody (top 18), L2.defScope (top 18), ⟨1, 4, b_parts_of⟩⟩
def b_with_strength : TW.S :=
(.seq (.asg (.t (.cons (.v 3) (.cons (.v 4) (.cons (.v 5) .nil)))) (.rd (.sub (.sub (.var 0) (.int 1)) (.rd (.var 1)))))
(.ret (.tup (.cons (.rd (.sub (.var 0) (.int 0))) (.cons (.bin .add (.bin .add (.slc (.rd (.sub (.var 0) (.int 1))) .non (.rd (.var 1))) (.tup (.cons (.tup (.cons (.rd (.var 3)) (.cons (.rd (.var 4)) (.cons (.rd (.var 2)) .nil)))) .nil))) (.slc (.rd (.sub (.var 0) (.int 1))) (.bin .add (.rd (.var 1)) (.int 1)) .non)) .nil)))))
def e_with_strength : TW.Ent := ⟨"with_strength", ["web", "number", "strength"], ["web", "number", "strength", "here", "there", "old"], L2.defArgs (top 19), L2.defBody (top 19), L2.defScope (top 19), ⟨3, 6, b_with_strength⟩⟩
def b_strengthened : TW.S :=
(.seq (.ex (.call "need_cable_number" (.v (.call "need_web" (.l (.var 0) .nil)) (.l (.var 1) .nil))))
(.seq (.asg (.v 3) (.rd (.sub (.sub (.sub (.var 0) (.int 1)) (.rd (.var 1))) (.int 2))))
(.seq (.ite (.not (.call "is_among" (.l (.var 2) (.v (.un .neg (.rd (.var 3))) (.v (.bin .sub (.glb "MOST_STRENGTH") (.rd (.var 3))) .nil)))))
(.rse "BadNumber" (.rd (.var 2)))
.pass)
(.ret (.call "with_strength" (.l (.var 0) (.l (.var 1) (.v (.bin .add (.rd (.var 3)) (.rd (.var 2))) .nil))))))))
def e_strengthened : TW.Ent := ⟨"strengthened", ["web", "number", "more"], ["web", "number", "more", "strength"], L2.defArgs (top 20), L2.defBody (top 20), L2.defScope (top 20), ⟨3, 4, b_strengthened⟩⟩
def e1__law_begun : TW.E := (.b1 .int (.rd (.var 1)))
def c1__law_begun : TW.E := (.cmp .ge (.b1 .int (.rd (.var 1))) (.bin .pow (.int 10) (.int 18)))
def b__law_begun : TW.S :=
(.ret (.dic [.inr "cells", .inr "at", .inr "left"] (.cons (.b1 .list (.rd (.var 0))) (.cons (.int 0) (.cons (.lc e1__law_begun (.v 1) (.one (.pl (.var 0))) c1__law_begun [1]) .nil)))))
def e__law_begun : TW.Ent := ⟨"_law_begun", ["script"], ["script", "cell"], L2.defArgs (top 22), L2.defBody (top 22), L2.defScope (top 22), ⟨1, 2, b__law_begun⟩⟩
def b__law_next : TW.S :=
(.seq (.ite (.cmp .ne (.rd (.sub (.var 0) (.str "left"))) (.lst .nil))
(.seq (.asg (.v 5) (.rd (.sub (.sub (.var 0) (.str "left")) (.int 0))))
(.seq (.asg (.s (.sub (.var 0) (.str "left")) (.int 0)) (.bin .fdiv (.rd (.var 5)) (.rd (.var 1))))
(.seq (.ite (.cmp .eq (.rd (.sub (.sub (.var 0) (.str "left")) (.int 0))) (.int 0))
(.asg (.s (.var 0) (.str "left")) (.slc (.rd (.sub (.var 0) (.str "left"))) (.int 1) .non))
.pass)
(.ret (.bin .mod (.rd (.var 5)) (.rd (.var 1)))))))
.pass)
(.seq (.asg (.v 2) (.rd (.sub (.var 0) (.str "at"))))
(.seq (.asg (.s (.var 0) (.str "at")) (.bin .add (.rd (.var 2)) (.int 1)))
(.seq (.asg (.v 3) (.ite (.cmp .ne (.rd (.sub (.var 0) (.str "cells"))) (.lst .nil)) (.rd (.sub (.sub (.var 0) (.str "cells")) (.bin .mod (.rd (.var 2)) (.b1 .len (.rd (.sub (.var 0) (.str "cells"))))))) (.int 0)))
(.seq (.asg (.v 4) (.bin .mul (.bin .mod (.b1 .int (.rd (.var 3))) (.int 2147483629)) (.bin .add (.bin .mul (.int 2) (.rd (.var 2))) (.int 3))))
(.seq (.asg (.v 4) (.bin .mod (.bin .add (.bin .add (.bin .add (.rd (.var 4)) (.bin .mul (.bin .mul (.int 7919) (.rd (.var 2))) (.rd (.var 2)))) (.bin .mul (.int 104729) (.rd (.var 2)))) (.int 31)) (.int 2147483647)))
(.ret (.bin .mod (.bin .fdiv (.bin .mod (.bin .mul (.bin .mod (.bin .mul (.rd (.var 4)) (.rd (.var 4))) (.int 2147483629)) (.int 48271)) (.int 2147483647)) (.int 13)) (.rd (.var 1))))))))))
def e__law_next : TW.Ent := ⟨"_law_next", ["m", "many"], ["m", "many", "at", "cell", "blend", "rest"], L2.defArgs (top 23), L2.defBody (top 23), L2.defScope (top 23), ⟨2, 6, b__law_next⟩⟩
def b__law_of : TW.S :=
(.ret (.idx (.rd (.var 1)) (.call "_law_next" (.l (.var 0) (.v (.b1 .len (.rd (.var 1))) .nil)))))
def e__law_of : TW.Ent := ⟨"_law_of", ["m", "some"], ["m", "some"], L2.defArgs (top 24), L2.defBody (top 24), L2.defScope (top 24), ⟨2, 2, b__law_of⟩⟩
def e1__law_like : TW.E := (.call "_law_like" (.v (.rd (.sub (.var 0) (.rd (.var 2)))) (.v (.rd (.sub (.var 1) (.rd (.var 2)))) .nil)))
def b__law_like : TW.S :=
(.seq (.ite (.isi (.rd (.var 1)) "tuple")
(.ret (.and (.isi (.rd (.var 0)) "tuple") (.and (.cmp .eq (.b1 .len (.rd (.var 0))) (.b1 .len (.rd (.var 1)))) (.b1 .all (.lc e1__law_like (.v 2) (.rng1 (.b1 .len (.rd (.var 1)))) (.bl true) [2])))))
.pass)
(.seq (.ite (.or (.cmp .isN (.rd (.var 1)) .non) (.isi (.rd (.var 1)) "str"))
(.ret (.ite (.cmp .isN (.rd (.var 1)) .non) (.cmp .isN (.rd (.var 0)) .non) (.and (.isi (.rd (.var 0)) "str") (.cmp .eq (.rd (.var 0)) (.rd (.var 1))))))
.pass)
(.ret (.and (.isi (.rd (.var 0)) "int") (.and (.cmp .eq (.isi (.rd (.var 0)) "bool") (.isi (.rd (.var 1)) "bool")) (.cmp .eq (.rd (.var 0)) (.rd (.var 1))))))))
def e__law_like : TW.Ent := ⟨"_law_like", ["got", "due"], ["got", "due", "k"], L2.defArgs (top 25), L2.defBody (top 25), L2.defScope (top 25), ⟨2, 3, b__law_like⟩⟩
def b__law_strength : TW.S :=
(.ret (.call "_law_of" (.l (.var 0) (.v (.lst (.cons (.int 0) (.cons (.int 1) (.cons (.call "_law_next" (.l (.var 0) (.v (.bin .add (.rd (.var 1)) (.int 1)) .nil))) (.cons (.call "_law_next" (.l (.var 0) (.v (.bin .add (.rd (.var 1)) (.int 1)) .nil))) (.cons (.bin .mul (.call "_law_next" (.l (.var 0) (.v (.bin .add (.rd (.var 1)) (.int 1)) .nil))) (.call "_law_of" (.l (.var 0) (.v (.lst (.cons (.int 1) (.cons (.int 1) (.cons (.bin .pow (.int 10) (.int 9)) (.cons (.bin .pow (.int 10) (.int 27)) .nil))))) .nil)))) .nil)))))) .nil))))
def e__law_strength : TW.Ent := ⟨"_law_strength", ["m", "most"], ["m", "most"], L2.defArgs (top 26), L2.defBody (top 26), L2.defScope (top 26), ⟨2, 2, b__law_strength⟩⟩
def f1__law_web : TW.S :=
(.seq (.par (.cons (.v 7) (.cons (.v 8) .nil)) (.cons (.call "_law_next" (.l (.var 0) (.l (.var 4) .nil))) (.cons (.call "_law_next" (.l (.var 0) (.l (.var 4) .nil))) .nil)))
(.ite (.cmp .ne (.rd (.var 7)) (.rd (.var 8)))
(.ex (.bm .append (.var 5) (.cons (.tup (.cons (.min2 (.rd (.var 7)) (.rd (.var 8))) (.cons (.max2 (.rd (.var 7)) (.rd (.var 8))) (.cons (.call "_law_strength" (.l (.var 0) (.l (.var 3) .nil))) .nil)))) .nil)))
.pass))
def b__law_web : TW.S :=
(.seq (.asg (.v 4) (.bin .add (.int 1) (.call "_law_next" (.l (.var 0) (.l (.var 1) .nil)))))
(.seq (.asg (.v 5) (.lst .nil))
(.seq (.for (.v 6) (.rng1 (.call "_law_next" (.l (.var 0) (.v (.bin .add (.rd (.var 2)) (.int 1)) .nil))))
f1__law_web)
(.ret (.tup (.cons (.rd (.var 4)) (.cons (.b1 .tuple (.rd (.var 5))) .nil)))))))
def e__law_web : TW.Ent := ⟨"_law_web", ["m", "places", "cables", "most"], ["m", "places", "cables", "most", "many", "found", "turn", "one", "other"], L2.defArgs (top 27), L2.defBody (top 27), L2.defScope (top 27), ⟨4, 9, b__law_web⟩⟩
def f2__law_even_web : TW.S :=
(.ite (.and (.cmp .lt (.b1 .len (.rd (.var 6))) (.int 36)) (.cmp .gt (.call "_law_next" (.l (.var 0) (.v (.int 4) .nil))) (.int 0)))
(.ex (.bm .append (.var 6) (.cons (.tup (.cons (.rd (.var 7)) (.cons (.rd (.var 3)) (.cons (.ite (.cmp .gt (.call "_law_next" (.l (.var 0) (.v (.int 5) .nil))) (.int 0)) (.rd (.var 5)) (.call "_law_next" (.l (.var 0) (.v (.bin .add (.rd (.var 2)) (.int 1)) .nil)))) .nil)))) .nil)))
.pass)
def f1__law_even_web : TW.S :=
(.for (.v 7) (.rng1 (.rd (.var 3)))
f2__law_even_web)
def b__law_even_web : TW.S :=
(.seq (.par (.cons (.v 4) (.cons (.v 5) (.cons (.v 6) .nil))) (.cons (.bin .add (.int 1) (.call "_law_next" (.l (.var 0) (.l (.var 1) .nil)))) (.cons (.bin .add (.int 1) (.call "_law_next" (.l (.var 0) (.l (.var 2) .nil)))) (.cons (.lst .nil) .nil))))
(.seq (.for (.v 3) (.rng2 (.int 1) (.rd (.var 4)))
f1__law_even_web)
(.ret (.tup (.cons (.rd (.var 4)) (.cons (.b1 .tuple (.rd (.var 6))) .nil))))))
def e__law_even_web : TW.Ent := ⟨"_law_even_web", ["m", "places", "most"], ["m", "places", "most", "other", "many", "strength", "found", "one"], L2.defArgs (top 28), L2.defBody (top 28), L2.defScope (top 28), ⟨3, 8, b__law_even_web⟩⟩
def b__law_some_web : TW.S :=
(.ret (.ite (.cmp .eq (.call "_law_next" (.l (.var 0) (.v (.int 2) .nil))) (.int 0)) (.call "_law_web" (.l (.var 0) (.l (.var 1) (.v (.bin .mul (.int 2) (.rd (.var 1))) (.v (.int 6) .nil))))) (.call "_law_even_web" (.l (.var 0) (.l (.var 1) (.v (.int 4) .nil))))))
def e__law_some_web : TW.Ent := ⟨"_law_some_web", ["m", "places"], ["m", "places"], L2.defArgs (top 29), L2.defBody (top 29), L2.defScope (top 29), ⟨2, 2, b__law_some_web⟩⟩
def e1__law_rift : TW.E := (.rd (.var 3))
def c1__law_rift : TW.E := (.cmp .eq (.rd (.sub (.var 0) (.rd (.var 3)))) (.rd (.var 2)))
def f1__law_rift : TW.S :=
(.ex (.bm .append (.var 1) (.cons (.b1 .tuple (.lc e1__law_rift (.v 3) (.rng1 (.b1 .len (.rd (.var 0)))) c1__law_rift [3])) .nil)))
def b__law_rift : TW.S :=
(.seq (.asg (.v 1) (.lst .nil))
(.seq (.for (.v 2) (.rng1 (.bin .add (.b1 .max (.rd (.var 0))) (.int 1)))
f1__law_rift)
(.ret (.b1 .tuple (.rd (.var 1))))))
def e__law_rift : TW.Ent := ⟨"_law_rift", ["labels"], ["labels", "found", "part", "place"], L2.defArgs (top 30), L2.defBody (top 30), L2.defScope (top 30), ⟨1, 4, b__law_rift⟩⟩
def e1__law_by_first : TW.E := (.index (.rd (.var 1)) (.rd (.var 2)))
def f1__law_by_first : TW.S :=
(.ite (.cmp .notin (.rd (.var 2)) (.rd (.var 1)))
(.ex (.bm .append (.var 1) (.cons (.rd (.var 2)) .nil)))
.pass)
def b__law_by_first : TW.S :=
(.seq (.asg (.v 1) (.lst .nil))
(.seq (.for (.v 2) (.one (.pl (.var 0)))
f1__law_by_first)
(.ret (.b1 .tuple (.lc e1__law_by_first (.v 2) (.one (.pl (.var 0))) (.bl true) [2])))))
def e__law_by_first : TW.Ent := ⟨"_law_by_first", ["labels"], ["labels", "found", "label"], L2.defArgs (top 31), L2.defBody (top 31), L2.defScope (top 31), ⟨1, 3, b__law_by_first⟩⟩
def f3__law_hanging : TW.S :=
(.ite (.and (.cmp .gt (.rd (.var 7)) (.int 0)) (.cmp .ne (.cmp .isin (.rd (.var 5)) (.rd (.var 3))) (.cmp .isin (.rd (.var 6)) (.rd (.var 3)))))
(.asg (.v 3) (.bin .add (.rd (.var 3)) (.lst (.cons (.ite (.cmp .isin (.rd (.var 5)) (.rd (.var 3))) (.rd (.var 6)) (.rd (.var 5))) .nil))))
.pass)
def f2__law_hanging : TW.S :=
(.for (.t (.cons (.v 5) (.cons (.v 6) (.cons (.v 7) .nil)))) (.one (.pl (.sub (.var 0) (.int 1))))
f3__law_hanging)
def f1__law_hanging : TW.S :=
(.seq (.asg (.v 3) (.lst (.cons (.rd (.var 2)) .nil)))
(.seq (.for (.v 4) (.rng1 (.rd (.sub (.var 0) (.int 0))))
f2__law_hanging)
(.ex (.bm .append (.var 1) (.cons (.b1 .min (.rd (.var 3))) .nil)))))
def b__law_hanging : TW.S :=
(.seq (.asg (.v 1) (.lst .nil))
(.seq (.for (.v 2) (.rng1 (.rd (.sub (.var 0) (.int 0))))
f1__law_hanging)
(.ret (.call "_law_by_first" (.l (.var 1) .nil)))))
def e__law_hanging : TW.Ent := ⟨"_law_hanging", ["web"], ["web", "found", "place", "come", "turn", "one", "other", "strength"], L2.defArgs (top 32), L2.defBody (top 32), L2.defScope (top 32), ⟨1, 8, b__law_hanging⟩⟩
def b__law_is_whole : TW.S :=
(.ret (.and (.isi (.rd (.var 0)) "int") (.and (.not (.isi (.rd (.var 0)) "bool")) (.chain .le .le (.rd (.var 1)) (.rd (.var 0)) (.rd (.var 2))))))
def e__law_is_whole : TW.Ent := ⟨"_law_is_whole", ["thing", "least", "most"], ["thing", "least", "most"], L2.defArgs (top 33), L2.defBody (top 33), L2.defScope (top 33), ⟨3, 3, b__law_is_whole⟩⟩
def f1__law_fault : TW.S :=
(.seq (.ite (.or (.not (.isi (.rd (.var 2)) "tuple")) (.or (.cmp .ne (.b1 .len (.rd (.var 2))) (.int 3)) (.not (.call "_law_is_whole" (.v (.rd (.sub (.var 2) (.int 2))) (.v (.int 0) (.v (.bin .pow (.int 10) (.int 30)) .nil)))))))
(.ret (.tup (.cons (.tup (.cons (.int 1) (.cons (.rd (.var 1)) .nil))) .nil)))
.pass)
(.ite (.or (.not (.call "_law_is_whole" (.v (.rd (.sub (.var 2) (.int 0))) (.v (.int 0) (.v (.bin .sub (.rd (.sub (.var 0) (.int 0))) (.int 1)) .nil))))) (.not (.call "_law_is_whole" (.v (.rd (.sub (.var 2) (.int 1))) (.v (.bin .add (.rd (.sub (.var 2) (.int 0))) (.int 1)) (.v (.bin .sub (.rd (.sub (.var 0) (.int 0))) (.int 1)) .nil))))))
(.ret (.tup (.cons (.tup (.cons (.int 1) (.cons (.rd (.var 1)) .nil))) .nil)))
.pass))
def b__law_fault : TW.S :=
(.seq (.ite (.or (.not (.isi (.rd (.var 0)) "tuple")) (.cmp .ne (.b1 .len (.rd (.var 0))) (.int 2)))
(.ret (.tup (.cons .non .nil)))
.pass)
(.seq (.ite (.not (.call "_law_is_whole" (.v (.rd (.sub (.var 0) (.int 0))) (.v (.int 1) (.v (.int 16) .nil)))))
(.ret (.tup (.cons (.int 0) .nil)))
.pass)
(.seq (.ite (.or (.not (.isi (.rd (.sub (.var 0) (.int 1))) "tuple")) (.cmp .gt (.b1 .len (.rd (.sub (.var 0) (.int 1)))) (.int 40)))
(.ret (.tup (.cons (.int 1) .nil)))
.pass)
(.seq (.for (.t (.cons (.v 1) (.cons (.v 2) .nil))) (.enu (.pl (.sub (.var 0) (.int 1))))
f1__law_fault)
(.ret .non)))))
def e__law_fault : TW.Ent := ⟨"_law_fault", ["thing"], ["thing", "number", "cable"], L2.defArgs (top 34), L2.defBody (top 34), L2.defScope (top 34), ⟨1, 3, b__law_fault⟩⟩
def b__law_judged : TW.S :=
(.try (.ret (.tup (.cons (.call "need_web" (.l (.var 0) .nil)) .nil)))
(.hd "BadWeb" (some 1) (.ret (.ite (.eisi 1 "WebError") (.tup (.cons (.str "bad") (.cons (.efld 1 "place") .nil))) (.tup (.cons (.str "other") .nil)))) .hnil))
def e__law_judged : TW.Ent := ⟨"_law_judged", ["thing"], ["thing", "e"], L2.defArgs (top 35), L2.defBody (top 35), L2.defScope (top 35), ⟨1, 2, b__law_judged⟩⟩
def b__law_near : TW.S :=
(.seq (.asg (.t (.cons (.v 5) (.cons (.v 6) .nil))) (.rd (.var 1)))
(.seq (.asg (.v 2) (.call "_law_next" (.l (.var 0) (.v (.bin .add (.b1 .len (.rd (.var 6))) (.int 1)) .nil))))
(.seq (.asg (.v 3) (.lst (.cons .non (.cons (.tup (.cons (.int 0) (.cons (.int 0) (.cons (.int 1) .nil)))) (.cons (.tup (.cons (.int 1) (.cons (.int 0) (.cons (.int 1) .nil)))) (.cons (.tup (.cons (.int 0) (.cons (.rd (.var 5)) (.cons (.int 1) .nil)))) (.cons (.tup (.cons (.un .neg (.int 1)) (.cons (.int 0) (.cons (.int 1) .nil)))) (.cons (.tup (.cons (.int 0) (.cons (.int 1) .nil))) (.cons (.tup (.cons (.int 0) (.cons (.int 1) (.cons (.int 1) (.cons (.int 1) .nil))))) (.cons (.shv (.lst (.cons (.int 0) (.cons (.int 1) (.cons (.int 1) .nil))))) (.cons (.tup (.cons (.int 0) (.cons (.int 1) (.cons (.un .neg (.int 1)) .nil)))) (.cons (.str "cable") .nil))))))))))))
(.seq (.asg (.v 3) (.bin .add (.rd (.var 3)) (.lst (.cons (.tup (.cons (.int 0) (.cons (.int 1) (.cons (.bin .pow (.int 10) (.int 30)) .nil)))) (.cons (.tup (.cons (.int 0) (.cons (.int 1) (.cons (.bin .add (.bin .pow (.int 10) (.int 30)) (.int 1)) .nil)))) (.cons (.tup (.cons (.bl true) (.cons (.int 1) (.cons (.int 1) .nil)))) (.cons (.tup (.cons (.int 0) (.cons (.bl true) (.cons (.int 1) .nil)))) (.cons (.tup (.cons (.int 0) (.cons (.int 1) (.cons (.bl true) .nil)))) (.cons (.tup (.cons (.int 0) (.cons (.int 1) (.cons .non .nil)))) .nil)))))))))
(.seq (.asg (.v 4) (.lst (.cons (.tup (.cons (.rd (.var 5)) (.cons (.bin .add (.bin .add (.slc (.rd (.var 6)) .non (.rd (.var 2))) (.tup (.cons (.call "_law_of" (.l (.var 0) (.v (.sh (.var 3)) .nil))) .nil))) (.slc (.rd (.var 6)) (.rd (.var 2)) .non)) .nil))) (.cons (.tup (.cons (.rd (.var 5)) (.cons (.bin .add (.bin .add (.slc (.rd (.var 6)) .non (.rd (.var 2))) (.tup (.cons (.call "_law_of" (.l (.var 0) (.v (.sh (.var 3)) .nil))) (.cons .non .nil)))) (.slc (.rd (.var 6)) (.rd (.var 2)) .non)) .nil))) .nil))))
(.seq (.asg (.v 4) (.bin .add (.mv 4) (.lst (.cons (.tup (.cons (.call "_law_of" (.l (.var 0) (.v (.lst (.cons (.int 0) (.cons (.int 1) (.cons (.int 16) (.cons (.int 17) (.cons (.bl true) (.cons .non (.cons (.str "3") (.cons (.bin .sub (.rd (.var 5)) (.int 1)) (.cons (.bin .add (.rd (.var 5)) (.int 1)) .nil)))))))))) .nil))) (.cons (.rd (.var 6)) .nil))) (.cons (.tup (.cons (.rd (.var 5)) (.cons (.b1 .list (.rd (.var 6))) .nil))) (.cons (.tup (.cons (.rd (.var 5)) (.cons (.bin .mul (.rd (.var 6)) (.int 7)) .nil))) .nil))))))
(.seq (.asg (.v 4) (.bin .add (.rd (.var 4)) (.lst (.cons (.tup (.cons (.rd (.var 5)) (.cons (.bin .mul (.tup (.cons (.tup (.cons (.int 0) (.cons (.int 1) (.cons (.int 1) .nil)))) .nil)) (.int 40)) .nil))) (.cons (.tup (.cons (.rd (.var 5)) (.cons (.bin .mul (.tup (.cons (.tup (.cons (.int 0) (.cons (.int 1) (.cons (.int 1) .nil)))) .nil)) (.int 41)) .nil))) (.cons (.tup (.cons (.rd (.var 5)) (.cons .non .nil))) .nil))))))
(.ret (.call "_law_of" (.l (.var 0) (.v (.bin .add (.mv 4) (.lst (.cons (.shv (.b1 .list (.rd (.var 1)))) (.cons (.tup (.cons (.rd (.var 5)) .nil)) (.cons (.bin .add (.rd (.var 1)) (.tup (.cons (.int 0) .nil))) (.cons .non (.cons (.int 7) (.cons (.shv (.dic [] .nil)) (.cons (.tup (.cons (.rd (.var 6)) (.cons (.rd (.var 5)) .nil))) (.cons (.tup (.cons (.int 0) (.cons (.bin .mul (.tup (.cons (.tup (.cons (.int 0) (.cons (.int 1) (.cons (.int 1) .nil)))) .nil)) (.int 41)) .nil))) (.cons (.tup (.cons (.rd (.var 5)) (.cons (.dic [] .nil) .nil))) .nil))))))))))) .nil)))))))))))
def e__law_near : TW.Ent := ⟨"_law_near", ["m", "web"], ["m", "web", "n", "bads", "some", "places", "cables"], L2.defArgs (top 36), L2.defBody (top 36), L2.defScope (top 36), ⟨2, 7, b__law_near⟩⟩
def f1__law_strengths_right : TW.S :=
(.seq (.asg (.v 7) (.call "_law_is_whole" (.l (.var 3) (.v (.un .neg (.rd (.var 6))) (.v (.bin .sub (.bin .pow (.int 10) (.int 30)) (.rd (.var 6))) .nil)))))
(.try (.seq (.asg (.v 9) (.callk "strengthened" (.l (.var 3) (.l (.var 2) (.l (.var 1) .nil))) ["more", "number", "web"]))
(.ite (.or (.not (.rd (.var 7))) (.not (.call "_law_like" (.l (.var 9) (.v (.tup (.cons (.rd (.sub (.var 1) (.int 0))) (.cons (.bin .add (.bin .add (.slc (.rd (.sub (.var 1) (.int 1))) .non (.rd (.var 2))) (.tup (.cons (.tup (.cons (.rd (.var 4)) (.cons (.rd (.var 5)) (.cons (.bin .add (.rd (.var 6)) (.rd (.var 3))) .nil)))) .nil))) (.slc (.rd (.sub (.var 1) (.int 1))) (.bin .add (.rd (.var 2)) (.int 1)) .non)) .nil))) .nil)))))
(.ret (.bl false))
.pass))
(.hd "BadNumber" (some 8) (.ite (.or (.rd (.var 7)) (.cmp .ne (.b1 .repr (.efld 8 "value")) (.b1 .repr (.rd (.var 3)))))
(.ret (.bl false))
.pass) .hnil)))
def b__law_strengths_right : TW.S :=
(.seq (.ite (.cmp .eq (.rd (.sub (.var 1) (.int 1))) (.tup .nil))
(.ret (.bl true))
.pass)
(.seq (.asg (.v 2) (.call "_law_next" (.l (.var 0) (.v (.b1 .len (.rd (.sub (.var 1) (.int 1)))) .nil))))
(.seq (.asg (.t (.cons (.v 4) (.cons (.v 5) (.cons (.v 6) .nil)))) (.rd (.sub (.sub (.var 1) (.int 1)) (.rd (.var 2)))))
(.seq (.for (.v 3) (.one (.ex (.tup (.cons (.int 0) (.cons (.int 1) (.cons (.un .neg (.int 1)) (.cons (.un .neg (.rd (.var 6))) (.cons (.bin .sub (.un .neg (.rd (.var 6))) (.int 1)) (.cons (.bin .sub (.bin .pow (.int 10) (.int 30)) (.rd (.var 6))) (.cons (.bin .add (.bin .sub (.bin .pow (.int 10) (.int 30)) (.rd (.var 6))) (.int 1)) (.cons (.call "_law_next" (.l (.var 0) (.v (.int 9) .nil))) (.cons .non (.cons (.bl true) (.cons (.str "1") .nil))))))))))))))
f1__law_strengths_right)
(.ret (.bl true))))))
def e__law_strengths_right : TW.Ent := ⟨"_law_strengths_right", ["m", "web"], ["m", "web", "number", "more", "one", "other", "old", "fine", "e", "told"], L2.defArgs (top 37), L2.defBody (top 37), L2.defScope (top 37), ⟨2, 10, b__law_strengths_right⟩⟩
def e1_law : TW.E := (.tup (.cons (.rd (.var 8)) (.cons (.bin .add (.rd (.var 8)) (.int 1)) (.cons (.bin .pow (.int 10) (.int 30)) .nil))))
def f2_law : TW.S :=
(.seq (.asg (.v 6) (.call "_law_near" (.l (.var 1) (.l (.var 4) .nil))))
(.seq (.asg (.v 7) (.call "_law_fault" (.l (.var 6) .nil)))
(.ite (.not (.ite (.cmp .isN (.rd (.var 7)) .non) (.call "_law_like" (.v (.call "_law_judged" (.l (.var 6) .nil)) (.v (.tup (.cons (.rd (.var 6)) .nil)) .nil))) (.cmp .eq (.b1 .repr (.call "_law_judged" (.l (.var 6) .nil))) (.b1 .repr (.tup (.cons (.str "bad") (.cons (.rd (.sub (.var 7) (.int 0))) .nil)))))))
(.ret (.bl false))
.pass)))
def f1_law : TW.S :=
(.seq (.asg (.v 4) (.call "_law_some_web" (.l (.var 1) (.v (.int 9) .nil))))
(.seq (.ite (.or (.not (.call "_law_like" (.v (.call "_law_judged" (.l (.var 4) .nil)) (.v (.tup (.cons (.rd (.var 4)) .nil)) .nil)))) (.or (.not (.call "_law_like" (.v (.callk "parts_of" (.l (.var 4) .nil) ["web"]) (.v (.call "_law_rift" (.v (.call "_law_hanging" (.l (.var 4) .nil)) .nil)) .nil)))) (.not (.call "_law_strengths_right" (.l (.var 1) (.l (.var 4) .nil))))))
(.ret (.bl false))
.pass)
(.for (.v 5) (.rng1 (.int 8))
f2_law)))
def b_law : TW.S :=
(.seq (.asg (.v 1) (.call "_law_begun" (.l (.var 0) .nil)))
(.seq (.for (.v 2) (.rng1 (.int 3))
f1_law)
(.seq (.asg (.v 3) (.tup (.cons (.int 16) (.cons (.b1 .tuple (.bin .add (.lc e1_law (.v 8) (.rng1 (.int 15)) (.bl true) [8]) (.bin .mul (.lst (.cons (.tup (.cons (.int 0) (.cons (.int 15) (.cons (.int 0) .nil)))) .nil)) (.int 25)))) .nil))))
(.ret (.and (.call "_law_like" (.v (.callk "need_web" (.l (.var 3) .nil) ["web"]) (.l (.var 3) .nil))) (.and (.call "_law_like" (.v (.call "parts_of" (.l (.var 3) .nil)) (.v (.tup (.cons (.rg1 true (.int 16)) .nil)) .nil))) (.call "_law_like" (.v (.call "parts_of" (.v (.tup (.cons (.int 1) (.cons (.tup .nil) .nil))) .nil)) (.v (.tup (.cons (.tup (.cons (.int 0) .nil)) .nil)) .nil)))))))))
def e_law : TW.Ent := ⟨"law", ["script"], ["script", "m", "turn", "great", "web", "again", "thing", "fault", "place"], L2.defArgs (top 38), L2.defBody (top 38), L2.defScope (top 38), ⟨1, 9, b_law⟩⟩
def tb : TW.Tab := [e_is_number, e_is_among, e_is_tuple_of, e_rift_by, e_is_cable, e_need_web, e_need_cable_number, e_hanging, e_parts_of, e_with_strength, e_strengthened, e__law_begun, e__law_next, e__law_of, e__law_like, e__law_strength, e__law_web, e__law_even_web, e__law_some_web, e__law_rift, e__law_by_first, e__law_hanging, e__law_is_whole, e__law_fault, e__law_judged, e__law_near, e__law_strengths_right, e_law]
def md : TW.Md := ⟨["len", "abs", "sum", "max", "min", "any", "all", "int", "list", "tuple", "range", "enumerate", "zip", "isinstance", "bool", "str", "sorted", "set", "repr", "dict", "super"], ["MOST_PLACES", "MOST_CABLES", "MOST_STRENGTH"], [], [("need_web", ["web"]), ("parts_of", ["web"]), ("strengthened", ["more", "number", "web"])], ["BadNumber", "BadWeb"]⟩
def hd : TW.HD := ⟨tb, md, [⟨"BadNumber", "value", "value", "no such number", "BadNumber.__init__", posC (top 3)⟩,
  ⟨"BadWeb", "place", "place", "no web", "BadWeb.__init__", posC (top 2)⟩], [("MOST_PLACES", 16), ("MOST_CABLES", 40), ("MOST_STRENGTH", 1000000000000000000000000000000)], [("BadNumber", "BadNumber", true), ("BadNumber", "BadWeb", false), ("BadWeb", "BadNumber", false), ("BadWeb", "BadWeb", true)], [("BadNumber", "WebError", true), ("BadWeb", "WebError", true)]⟩
def names0 : List PySem.Str := ["WebError", "BadWeb", "BadNumber", "is_number", "is_among", "is_tuple_of", "rift_by", "MOST_PLACES", "MOST_CABLES", "MOST_STRENGTH", "is_cable", "need_web", "need_cable_number", "hanging", "parts_of", "with_strength", "strengthened", "_law_begun", "_law_next", "_law_of", "_law_like", "_law_strength", "_law_web", "_law_even_web", "_law_some_web", "_law_rift", "_law_by_first", "_law_hanging", "_law_is_whole", "_law_fault"]
def names1 : List PySem.Str := ["_law_judged", "_law_near", "_law_strengths_right"]
def names : List PySem.Str := names0 ++ names1
def lawAt : Nat := 38
theorem t_is_number : hd.tb.fn "is_number" = some ⟨1, 1, b_is_number⟩ := by rfl
theorem t_is_among : hd.tb.fn "is_among" = some ⟨3, 3, b_is_among⟩ := by rfl
theorem t_is_tuple_of : hd.tb.fn "is_tuple_of" = some ⟨3, 3, b_is_tuple_of⟩ := by rfl
theorem t_rift_by : hd.tb.fn "rift_by" = some ⟨1, 5, b_rift_by⟩ := by rfl
theorem t_is_cable : hd.tb.fn "is_cable" = some ⟨2, 2, b_is_cable⟩ := by rfl
theorem t_need_web : hd.tb.fn "need_web" = some ⟨1, 3, b_need_web⟩ := by rfl
theorem t_need_cable_number : hd.tb.fn "need_cable_number" = some ⟨2, 2, b_need_cable_number⟩ := by rfl
theorem t_hanging : hd.tb.fn "hanging" = some ⟨2, 8, b_hanging⟩ := by rfl
theorem t_parts_of : hd.tb.fn "parts_of" = some ⟨1, 4, b_parts_of⟩ := by rfl
theorem t_with_strength : hd.tb.fn "with_strength" = some ⟨3, 6, b_with_strength⟩ := by rfl
theorem t_strengthened : hd.tb.fn "strengthened" = some ⟨3, 4, b_strengthened⟩ := by rfl
theorem t__law_begun : hd.tb.fn "_law_begun" = some ⟨1, 2, b__law_begun⟩ := by rfl
theorem t__law_next : hd.tb.fn "_law_next" = some ⟨2, 6, b__law_next⟩ := by rfl
theorem t__law_of : hd.tb.fn "_law_of" = some ⟨2, 2, b__law_of⟩ := by rfl
theorem t__law_like : hd.tb.fn "_law_like" = some ⟨2, 3, b__law_like⟩ := by rfl
theorem t__law_strength : hd.tb.fn "_law_strength" = some ⟨2, 2, b__law_strength⟩ := by rfl
theorem t__law_web : hd.tb.fn "_law_web" = some ⟨4, 9, b__law_web⟩ := by rfl
theorem t__law_even_web : hd.tb.fn "_law_even_web" = some ⟨3, 8, b__law_even_web⟩ := by rfl
theorem t__law_some_web : hd.tb.fn "_law_some_web" = some ⟨2, 2, b__law_some_web⟩ := by rfl
theorem t__law_rift : hd.tb.fn "_law_rift" = some ⟨1, 4, b__law_rift⟩ := by rfl
theorem t__law_by_first : hd.tb.fn "_law_by_first" = some ⟨1, 3, b__law_by_first⟩ := by rfl
theorem t__law_hanging : hd.tb.fn "_law_hanging" = some ⟨1, 8, b__law_hanging⟩ := by rfl
theorem t__law_is_whole : hd.tb.fn "_law_is_whole" = some ⟨3, 3, b__law_is_whole⟩ := by rfl
theorem t__law_fault : hd.tb.fn "_law_fault" = some ⟨1, 3, b__law_fault⟩ := by rfl
theorem t__law_judged : hd.tb.fn "_law_judged" = some ⟨1, 2, b__law_judged⟩ := by rfl
theorem t__law_near : hd.tb.fn "_law_near" = some ⟨2, 7, b__law_near⟩ := by rfl
theorem t__law_strengths_right : hd.tb.fn "_law_strengths_right" = some ⟨2, 10, b__law_strengths_right⟩ := by rfl
theorem t_law : hd.tb.fn "law" = some ⟨1, 9, b_law⟩ := by rfl
@[simp] theorem fld_BadNumber : hd.g.fld "BadNumber" = "value" := by rfl
@[simp] theorem isk_BadNumber_WebError : hd.g.isk "BadNumber" "WebError" = some true := by rfl
@[simp] theorem sub_BadNumber_BadNumber : hd.g.sub "BadNumber" "BadNumber" = true := by rfl
@[simp] theorem sub_BadNumber_BadWeb : hd.g.sub "BadNumber" "BadWeb" = false := by rfl
@[simp] theorem fld_BadWeb : hd.g.fld "BadWeb" = "place" := by rfl
@[simp] theorem isk_BadWeb_WebError : hd.g.isk "BadWeb" "WebError" = some true := by rfl
@[simp] theorem sub_BadWeb_BadNumber : hd.g.sub "BadWeb" "BadNumber" = false := by rfl
@[simp] theorem sub_BadWeb_BadWeb : hd.g.sub "BadWeb" "BadWeb" = true := by rfl
@[simp] theorem c_MOST_PLACES : hd.g.con "MOST_PLACES" = some (.int 16) := by rfl
@[simp] theorem c_MOST_CABLES : hd.g.con "MOST_CABLES" = some (.int 40) := by rfl
@[simp] theorem c_MOST_STRENGTH : hd.g.con "MOST_STRENGTH" = some (.int 1000000000000000000000000000000) := by rfl
end K00
end

section
namespace K00
open PySem TW
variable {n : Nat}
noncomputable abbrev rn (n : Nat) (f : Str) (as : List D) : CR := TW.run hd.tb.fn hd.g n f as
noncomputable abbrev Gg (n : Nat) (p : List Nat) : G := Gn hd.tb.fn hd.g n p
theorem is_number_ok {d : D} (hp : d.pl = true) : rn (n + 1) "is_number" [d] = .ok (.bl (isNum d)) [d] := by
  rw [rn, run_def t_is_number rfl]
  cases d <;> simp [b_is_number, startD] <;> cases hp
theorem is_among_ok {i a b : Int} : rn (n + 2) "is_among" [.int i, .int a, .int b] = .ok (.bl (decide (a ≤ i) && decide (i ≤ b))) [.int i, .int a, .int b] := by
  rw [rn, run_def t_is_among rfl]
  simp [b_is_among, startD, is_number_ok]
theorem is_tuple_of_ok {d : D} {a b : Int} (hp : d.pl = true) : rn (n + 1) "is_tuple_of" [d, .int a, .int b] = .ok (.bl (tupIn d a b)) [d, .int a, .int b] := by
  rw [rn, run_def t_is_tuple_of rfl]
  cases d <;> simp [b_is_tuple_of, startD] <;> cases hp
/-! webs -/
structure Cab where
  a : Nat
  b : Nat
  s : Int
structure Web where
  many : Nat
  cabs : List Cab
def cabD (c : Cab) : D := .tup [.int c.a, .int c.b, .int c.s]
def webD (w : Web) : D := .tup [.int w.many, .tup (w.cabs.map cabD)]
structure Cab.Ok (many : Nat) (c : Cab) : Prop where
  h1 : c.a < c.b
  h2 : c.b < many
  h3 : 0 ≤ c.s
  h4 : c.s ≤ 10 ^ 30
structure Web.Ok (w : Web) : Prop where
  h1 : 1 ≤ w.many
  h2 : w.many ≤ 16
  h3 : w.cabs.length ≤ 40
  h4 : ∀ c ∈ w.cabs, c.Ok w.many
@[simp] theorem own_cabD {c : Cab} : (cabD c).own = false := by simp [cabD]
@[simp] theorem own_webD {w : Web} : (webD w).own = false := by simp [webD]
@[simp] theorem isExc_cabD {c : Cab} : (cabD c).isExc = false := (rfl)
@[simp] theorem isExc_webD {w : Web} : (webD w).isExc = false := (rfl)
theorem is_cable_ok {c : Cab} {many : Nat} (h : c.Ok many) : rn (n + 3) "is_cable" [cabD c, .int many] = .ok (.bl true) [cabD c, .int many] := by
  obtain ⟨h1, h2, h3, h4⟩ := h
  rw [rn, run_def t_is_cable rfl]
  simp [b_is_cable, startD, is_tuple_of_ok, is_among_ok, cabD, h3]
  rw [if_neg (by omega)]
  have e1 : decide ((c.a : Int) ≤ (many : Int) - 1) = true := decide_eq_true (by omega)
  have e2 : decide ((c.a : Int) + 1 ≤ (c.b : Int)) = true := decide_eq_true (by omega)
  have e3 : decide ((c.b : Int) ≤ (many : Int) - 1) = true := decide_eq_true (by omega)
  rw [e1, e2, e3] <;> rfl
theorem mem_zipIdx {α : Type} {l : List α} {j k : Nat} {x : α × Nat} (h : (l.zipIdx k)[j]? = some x) : x.1 ∈ l ∧ l[j]? = some x.1 ∧ x.2 = k + j := by
  rw [List.getElem?_zipIdx] at h
  obtain ⟨y, h5, h6⟩ := Option.map_eq_some_iff.mp h
  subst h6
  exact ⟨List.mem_of_getElem? h5, h5, rfl⟩
theorem need_web_ok {w : Web} (h : w.Ok) : rn (n + 4) "need_web" [webD w] = .ok (webD w) [webD w] := by
  obtain ⟨h1, h2, h3, h4⟩ := h
  rw [rn, run_def t_need_web rfl]
  have e1 : decide ((1 : Int) ≤ (w.many : Int)) = true := decide_eq_true (by omega)
  have e2 : decide ((w.many : Int) ≤ 16) = true := decide_eq_true (by omega)
  have e3 : decide ((w.cabs.length : Int) ≤ 40) = true := decide_eq_true (by omega)
  simp [b_need_web, startD, is_tuple_of_ok, is_among_ok, webD, e1, e2, e3]
  rw [enumD_map]
  refine for_go (Q := fun r => TW.finish _ (RS.seq r _) = _) (fun _ ρ => ∃ a b, ρ = [some (webD w), a, b]) ⟨_, _, rfl⟩ (fun j x hx ρ ⟨a, b, e⟩ => ?_) (fun ρ ⟨a, b, e⟩ => ?_)
  · subst e
    simp [forT, f1_need_web, webD, is_cable_ok (h4 _ (mem_zipIdx hx).1)]
  · subst e
    simp [webD]
end K00
end

section
namespace K00
open PySem TW
variable {n : Nat}
/-! the draws -/
def mD (cells : List Int) (at_ : Nat) (left : List Int) : D := .dic true [(.inr "cells", .lst true (cells.map .int)), (.inr "at", .int at_), (.inr "left", .lst true (left.map .int))]
/-- a state of the draws, of at most so many -/
def M (k : Nat) (d : D) : Prop := ∃ cells at_ left, d = mD cells at_ left ∧ at_ ≤ k ∧ cells.length ≤ 63 ∧ left.length ≤ 63
theorem law_begun_ok {ns : List Int} (h : ns.length ≤ 63) : ∃ m, rn (n + 1) "_law_begun" [.scr ns] = .ok m [.scr ns] ∧ M 0 m := by
  refine ⟨mD ns 0 (ns.filter fun i => decide (10 ^ 18 ≤ i)), ?_, ns, 0, _, rfl, Nat.le_refl _, h, Nat.le_trans (List.length_filter_le ..) h⟩
  rw [rn, run_def t__law_begun rfl]
  simp [b__law_begun, startD]
  rw [lc_some0 ns D.int (fun i => decide (1000000000000000000 ≤ i)) D.int]
  rotate_left
  · simp
  · rw [line_val]; omega
  · intro x hx
    simp [lcT, lcTn, e1__law_begun, c1__law_begun]
    split <;> rfl
  simp [mD]
/-- a number out of a cell -/
def mixed (cell at_ many : Int) : Int := ((cell % 2147483629 * (2 * at_ + 3) + 7919 * at_ * at_ + 104729 * at_ + 31) % 2147483647 * ((cell % 2147483629 * (2 * at_ + 3) + 7919 * at_ * at_ + 104729 * at_ + 31) % 2147483647) % 2147483629 * 48271 % 2147483647) / 13 % many
theorem law_next_ok {k : Nat} {m : D} {many : Int} (hm : M k m) (h0 : 0 < many) (h1 : wide many = true) (hk : k < 2 ^ 100) : ∃ r m', rn (n + 1) "_law_next" [m, .int many] = .ok (.int r) [m', .int many] ∧ M (k + 1) m' ∧ 0 ≤ r ∧ r < many := by
  obtain ⟨cells, at_, left, rfl, hat, hc, hl⟩ := hm
  rw [rn, run_def t__law_next rfl]
  by_cases hleft : left = []
  · subst hleft
    have w1 : wide (2 * (at_ : Int) + 3) = true := wide_of (by omega)
    have w2 : wide (at_ : Int) = true := wide_of (by omega)
    have w3 : wide (7919 * (at_ : Int)) = true := wide_of (by omega)
    by_cases hcells : cells = []
    · subst hcells
      refine ⟨mixed 0 at_ many, mD [] (at_ + 1) [], ?_, ⟨_, _, _, rfl, by omega, hc, hl⟩, Int.emod_nonneg _ (by omega), Int.emod_lt_of_pos _ h0⟩
      simp [b__law_next, startD, mD, line_val, h0, h1, w1, w2, w3, mixed]
    · have e1 : cells.isEmpty = false := by simpa using hcells
      have e2 : 0 < cells.length := List.length_pos_iff.mpr hcells
      obtain ⟨j, hj⟩ : ∃ j, j = at_ % cells.length := ⟨_, rfl⟩
      have e5 : j < cells.length := by rw [hj]; exact Nat.mod_lt _ e2
      have e3 : Bop.run .mod (.int (at_ : Int)) (.int (cells.length : Int)) = some (.int j) := by
        rw [bop_mod (by omega), hj]; simp
      have e4 : ixD cells.length (j : Int) = some j := by rw [ixD_in (by omega) (by omega)]; simp
      obtain ⟨x, e6⟩ : ∃ x, cells[j]? = some x := ⟨_, List.getElem?_eq_getElem e5⟩
      refine ⟨mixed x at_ many, mD cells (at_ + 1) [], ?_, ⟨_, _, _, rfl, by omega, hc, hl⟩, Int.emod_nonneg _ (by omega), Int.emod_lt_of_pos _ h0⟩
      simp [b__law_next, startD, mD, line_val, h0, h1, w1, w2, w3, mixed, e1, e3, e4, e6]
  · have e1 : left.isEmpty = false := by simpa using hleft
    have e2 : 0 < left.length := List.length_pos_iff.mpr hleft
    obtain ⟨x, e3⟩ : ∃ x, left[0] = x := ⟨left[0], rfl⟩
    have e4 : ixD left.length 0 = some 0 := by rw [ixD_in (by omega) (by omega)]; rfl
    by_cases hz : x / many = 0
    · refine ⟨x % many, mD cells at_ (left.set 0 (x / many)).tail, ?_, ⟨cells, at_, _, rfl, by omega, hc, by simp; omega⟩, Int.emod_nonneg _ (by omega), Int.emod_lt_of_pos _ h0⟩
      simp [b__law_next, startD, mD, e1, e3, e4, h0, h1, line_val, e2, hz]
    · refine ⟨x % many, mD cells at_ (left.set 0 (x / many)), ?_, ⟨cells, at_, _, rfl, by omega, hc, by simp; omega⟩, Int.emod_nonneg _ (by omega), Int.emod_lt_of_pos _ h0⟩
      simp [b__law_next, startD, mD, e1, e3, e4, h0, h1, line_val, e2, hz]
end K00
end

section
namespace K00
open PySem TW
variable {n k : Nat} {m : D}
theorem M.own (h : M k m) : m.own = true := by obtain ⟨_, _, _, rfl, _⟩ := h; simp [mD]
theorem M.exc (h : M k m) : m.isExc = false := by obtain ⟨_, _, _, rfl, _⟩ := h; rfl
theorem M.hole (h : M k m) : m.isHole = false := by obtain ⟨_, _, _, rfl, _⟩ := h; rfl
theorem M.mono {j : Nat} (h : M k m) (hj : k ≤ j) : M j m := by
  obtain ⟨a, b, c, e, h1, h2⟩ := h
  exact ⟨a, b, c, e, by omega, h2⟩
theorem law_next_nat {many : Nat} (hm : M k m) (h0 : 0 < many) (h1 : many < 2 ^ 100) (hk : k < 2 ^ 100) : ∃ (r : Nat) (m' : D), rn (n + 1) "_law_next" [m, .int many] = .ok (.int r) [m', .int many] ∧ M (k + 1) m' ∧ r < many := by
  obtain ⟨r, m', e, h2, h3, h4⟩ := law_next_ok (n := n) hm (many := many) (by omega) (wide_of (by omega)) hk
  refine ⟨r.toNat, m', ?_, h2, by omega⟩
  rw [e, Int.toNat_of_nonneg h3]
theorem law_of_ok {xs : List D} (hm : M k m) (h0 : 0 < xs.length) (h1 : xs.length < 2 ^ 100) (ho : ownL xs = false) (hk : k < 2 ^ 100) : ∃ (i : Nat) (x : D) (m' : D), xs[i]? = some x ∧ rn (n + 2) "_law_of" [m, .lst false xs] = .ok x [m', .lst false xs] ∧ M (k + 1) m' := by
  obtain ⟨r, m', e, h2, h3⟩ := law_next_nat (n := n) hm h0 h1 hk
  obtain ⟨x, hx⟩ : ∃ x, xs[r]? = some x := ⟨_, List.getElem?_eq_getElem h3⟩
  refine ⟨r, x, m', hx, ?_, h2⟩
  have e2 : ixD xs.length (r : Int) = some r := by rw [ixD_in (by omega) (by omega)]; simp
  have e3 : x.own = false := ownL_iff.mp ho x (List.mem_of_getElem? hx)
  rw [rn, run_def t__law_of rfl]
  simp [b__law_of, startD, hm.own, hm.exc, h2.own, h2.exc, h2.hole, ho, e, e2, hx, e3]
/-! alike -/
def Lk : Nat → D → Prop
  | 0, _ => False
  | k + 1, d => d = .non ∨ (∃ i, d = .int i) ∨ (∃ b, d = .bl b) ∨ ∃ xs, d = .tup xs ∧ xs.length ≤ 1000 ∧ ∀ x ∈ xs, Lk k x
theorem Lk.own : ∀ {k : Nat} {d : D}, Lk k d → d.own = false
  | 0, _, h => h.elim
  | k + 1, d, h => by
    rcases h with rfl | ⟨i, rfl⟩ | ⟨b, rfl⟩ | ⟨xs, rfl, _, h⟩
    · rfl
    · rfl
    · rfl
    · rw [own_tup, ownL_iff]
      exact fun x hx => (h x hx).own
theorem Lk.exc : ∀ {k : Nat} {d : D}, Lk k d → d.isExc = false
  | 0, _, h => h.elim
  | k + 1, d, h => by rcases h with rfl | ⟨i, rfl⟩ | ⟨b, rfl⟩ | ⟨xs, rfl, _, h⟩ <;> rfl
theorem law_like_ok : ∀ {k : Nat} {d : D}, Lk k d → rn (n + k) "_law_like" [d, d] = .ok (.bl true) [d, d]
  | 0, _, h => h.elim
  | k + 1, d, h => by
    rw [← Nat.add_assoc, rn, run_def t__law_like rfl]
    rcases h with rfl | ⟨i, rfl⟩ | ⟨b, rfl⟩ | ⟨xs, rfl, hl, h⟩
    · simp [b__law_like, startD]
    · simp [b__law_like, startD]
    · simp [b__law_like, startD]
    · have ho : ownL xs = false := by
        rw [ownL_iff]
        exact fun x hx => (h x hx).own
      simp [b__law_like, startD, ho]
      rw [if_pos (by rw [line_val]; omega), rangeD_0, lc_all0 _ _ (fun _ => .bl true)]
      rotate_left
      · simp
      · rw [line_val, List.length_range]; omega
      · intro j hj
        have hj : j < xs.length := List.mem_range.mp hj
        have e2 : ixD xs.length (j : Int) = some j := by rw [ixD_in (by omega) (by omega)]; simp
        obtain ⟨x, hx⟩ : ∃ x, xs[j] = x := ⟨_, rfl⟩
        have hm := h x (by rw [← hx]; exact List.getElem_mem hj)
        simp [lcT, lcTn, e1__law_like, e2, hj, hx, hm.own, law_like_ok hm]
      simp
/-! fractions -/
theorem law_strength_ok {most : Nat} (hm : M k m) (hmost : most ≤ 100) (hk : k < 2 ^ 90) : ∃ (s : Int) (m' : D), rn (n + 3) "_law_strength" [m, .int most] = .ok (.int s) [m', .int most] ∧ M (k + 5) m' ∧ 0 ≤ s ∧ s ≤ 10 ^ 30 := by
  obtain ⟨r1, m1, e1, h1, l1⟩ := law_next_nat (n := n + 1) (many := most + 1) hm (by omega) (by omega) (by omega)
  obtain ⟨r2, m2, e2, h2, l2⟩ := law_next_nat (n := n + 1) (many := most + 1) h1 (by omega) (by omega) (by omega)
  obtain ⟨r3, m3, e3, h3, l3⟩ := law_next_nat (n := n + 1) (many := most + 1) h2 (by omega) (by omega) (by omega)
  obtain ⟨i4, x4, m4, x4e, e4, h4⟩ := law_of_ok (n := n) (xs := [.int 1, .int 1, .int 1000000000, .int 1000000000000000000000000000]) h3 (by simp) (by simp) (by simp) (by omega)
  have hx4 : ∃ z : Int, x4 = .int z ∧ 0 ≤ z ∧ z ≤ 1000000000000000000000000000 := by
    have := List.mem_of_getElem? x4e
    simp only [List.mem_cons, List.not_mem_nil, or_false] at this
    rcases this with rfl | rfl | rfl | rfl <;> exact ⟨_, rfl, by decide, by decide⟩
  obtain ⟨z, rfl, z1, z2⟩ := hx4
  have p1 : 0 ≤ (r3 : Int) * z := Int.mul_nonneg (by omega) z1
  have p2 : (r3 : Int) * z ≤ 100 * 1000000000000000000000000000 := Int.mul_le_mul (by omega) z2 z1 (by omega)
  obtain ⟨i5, x5, m5, x5e, e5, h5⟩ := law_of_ok (n := n) (xs := [.int 0, .int 1, .int r1, .int r2, .int (r3 * z)]) h4 (by simp) (by simp) (by simp) (by omega)
  have hx5 : ∃ s : Int, x5 = .int s ∧ 0 ≤ s ∧ s ≤ 10 ^ 30 := by
    have := List.mem_of_getElem? x5e
    simp only [List.mem_cons, List.not_mem_nil, or_false] at this
    rcases this with rfl | rfl | rfl | rfl | rfl <;> exact ⟨_, rfl, by omega, by omega⟩
  obtain ⟨s, rfl, s1, s2⟩ := hx5
  refine ⟨s, m5, ?_, h5, s1, s2⟩
  have w1 : wide (r3 : Int) = true := wide_of (by omega)
  have w2 : wide z = true := wide_of (by omega)
  have ee : ((most + 1 : Nat) : Int) = (most : Int) + 1 := by omega
  rw [ee] at e1 e2 e3
  rw [rn, run_def t__law_strength rfl]
  simp [b__law_strength, startD, hm.own, hm.exc, h1.own, h1.exc, h1.hole, h2.own, h2.exc, h2.hole, h3.own, h3.exc, h3.hole, h4.own, h4.exc, h4.hole, h5.own, h5.exc, h5.hole, e1, e2, e3, e4, e5, w1, w2]
theorem law_web_ok {places cables most : Nat} (hm : M k m) (hp : 1 ≤ places) (hp2 : places ≤ 16) (hc : cables ≤ 40) (hmost : most ≤ 100) (hk : k < 2 ^ 80) :
    ∃ (w : Web) (m' : D), rn (n + 4) "_law_web" [m, .int places, .int cables, .int most] = .ok (webD w) [m', .int places, .int cables, .int most] ∧ M (k + 1000) m' ∧ w.Ok ∧ w.many ≤ places := by
  obtain ⟨r1, m1, e1, h1, l1⟩ := law_next_nat (n := n + 2) (many := places) hm (by omega) (by omega) (by omega)
  obtain ⟨r2, m2, e2, h2, l2⟩ := law_next_nat (n := n + 2) (many := cables + 1) h1 (by omega) (by omega) (by omega)
  have ee : ((cables + 1 : Nat) : Int) = (cables : Int) + 1 := by omega
  rw [ee] at e2
  have c1 : (r2 : Int) ≤ (LINE : Int) := by rw [line_val]; omega
  have c2 : -(LINE : Int) ≤ (r2 : Int) := by rw [line_val]; omega
  rw [rn, run_def t__law_web rfl]
  simp [b__law_web, startD, hm.own, hm.exc, h1.own, h1.exc, h1.hole, h2.own, h2.exc, h2.hole, e1, e2, c1, c2]
  obtain ⟨ρ', e, m', cs, a, b, c, h3, l3, h4, rfl⟩ := for_ex (g := Gg (n + 3) [0]) (t := .v 6) (b := f1__law_web) (f := fun k : Nat => .int k) (xs := List.range r2) (ρ := [some m2, some (.int places), some (.int cables), some (.int most), some (.int (1 + r1)), some (.lst true []), none, none, none])
    (fun j ρ => ∃ m' cs a b c, M (k + 2 + j * 20) m' ∧ cs.length ≤ j ∧ (∀ c ∈ cs, Cab.Ok (1 + r1) c) ∧ ρ = [some m', some (.int places), some (.int cables), some (.int most), some (.int (1 + r1)), some (.lst true (cs.map cabD)), a, b, c])
    ⟨m2, [], none, none, none, h2.mono (by omega), by simp, by simp, rfl⟩ (fun j x hx ρ ⟨m', cs, a, b, c, h3, l3, h4, e⟩ => by
      subst e
      have hj : j < r2 := by
        have := (List.getElem?_eq_some_iff.mp hx).1
        simpa using this
      have em : ((1 + r1 : Nat) : Int) = 1 + (r1 : Int) := by omega
      obtain ⟨s1, m3, e3, h5, l5⟩ := law_next_nat (n := n + 2) (many := 1 + r1) h3 (by omega) (by omega) (by omega)
      obtain ⟨s2, m4, e4, h6, l6⟩ := law_next_nat (n := n + 2) (many := 1 + r1) h5 (by omega) (by omega) (by omega)
      rw [em] at e3 e4
      by_cases hs : s1 = s2
      · subst hs
        simp [forT, f1__law_web, h3.own, h3.exc, h5.own, h5.exc, h5.hole, h6.own, h6.exc, h6.hole, e3, e4]
        exact ⟨m4, h6.mono (by omega), cs, by omega, h4, rfl, rfl⟩
      · obtain ⟨s, m5, e5, h7, s3, s4⟩ := law_strength_ok (n := n) (most := most) h6 hmost (by omega)
        have e6 : (if s2 < s1 then (s2 : Int) else s1) = ((min s1 s2 : Nat) : Int) := by split <;> omega
        have e7 : (if s1 < s2 then (s2 : Int) else s1) = ((max s1 s2 : Nat) : Int) := by split <;> omega
        have e8 : cs.length < LINE := by rw [line_val]; omega
        simp [forT, f1__law_web, h3.own, h3.exc, h5.own, h5.exc, h5.hole, h6.own, h6.exc, h6.hole, h7.own, h7.exc, h7.hole, e3, e4, e5, hs, e6, e7, e8]
        refine ⟨m5, h7.mono (by omega), cs ++ [⟨min s1 s2, max s1 s2, s⟩], by simp; omega, fun c hc => ?_, by simp [cabD]⟩
        rcases List.mem_append.mp hc with hc | hc
        · exact h4 c hc
        · rw [List.mem_singleton.mp hc]
          exact ⟨by simp <;> omega, by simp <;> omega, s3, s4⟩)
  rw [List.length_range] at h3 l3
  rw [rangeD_0, e]
  refine ⟨⟨1 + r1, cs⟩, m', ?_, h3.mono (by omega), ⟨by simp <;> omega, by simp <;> omega, by simp <;> omega, h4⟩, by simp <;> omega⟩
  simp [hm.own, h3.own, webD]
end K00
end

section
namespace K00
open PySem TW
variable {n k : Nat} {m : D}
theorem rangeD_1 {n : Nat} : rangeD 1 n = (List.range n).map fun k : Nat => .int ((k + 1 : Nat) : Int) := by
  simp only [rangeD]
  refine List.map_congr_left fun k _ => ?_
  congr 1
  omega
theorem law_even_web_ok {places most : Nat} (hm : M k m) (hp : 1 ≤ places) (hp2 : places ≤ 16) (hmost1 : 1 ≤ most) (hmost : most ≤ 100) (hk : k < 2 ^ 80) :
    ∃ (w : Web) (m' : D), rn (n + 4) "_law_even_web" [m, .int places, .int most] = .ok (webD w) [m', .int places, .int most] ∧ M (k + 2000) m' ∧ w.Ok ∧ w.many ≤ places := by
  obtain ⟨r1, m1, e1, h1, l1⟩ := law_next_nat (n := n + 2) (many := places) hm (by omega) (by omega) (by omega)
  obtain ⟨r2, m2, e2, h2, l2⟩ := law_next_nat (n := n + 2) (many := most) h1 (by omega) (by omega) (by omega)
  have c1 : (1 : Int) + (r1 : Int) ≤ (LINE : Int) := by rw [line_val]; omega
  have c2 : -(LINE : Int) ≤ (1 : Int) + (r1 : Int) := by rw [line_val]; omega
  have c3 : (1 : Int) ≤ (LINE : Int) := by rw [line_val]; omega
  have c4 : -(LINE : Int) ≤ (1 : Int) := by rw [line_val]; omega
  rw [rn, run_def t__law_even_web rfl]
  simp [b__law_even_web, startD, hm.own, hm.exc, h1.own, h1.exc, h1.hole, h2.own, h2.exc, h2.hole, e1, e2, c1, c2, c3, c4]
  have c5 : ((1 : Int) + (r1 : Int)).toNat - 1 = r1 := by omega
  rw [c5]
  obtain ⟨ρ', e, m', cs, a, b, h3, l3, h4, rfl⟩ := for_ex (g := Gg (n + 3) [0]) (t := .v 3) (b := f1__law_even_web) (f := fun k : Nat => .int ((k + 1 : Nat) : Int)) (xs := List.range r1) (ρ := [some m2, some (.int places), some (.int most), none, some (.int (1 + r1)), some (.int (1 + r2)), some (.lst true []), none])
    (fun j ρ => ∃ m' cs a b, M (k + 2 + j * 100) m' ∧ cs.length ≤ 36 ∧ (∀ c ∈ cs, Cab.Ok (1 + r1) c) ∧ ρ = [some m', some (.int places), some (.int most), a, some (.int (1 + r1)), some (.int (1 + r2)), some (.lst true (cs.map cabD)), b])
    ⟨m2, [], none, none, h2.mono (by omega), by simp, by simp, rfl⟩ (fun j x hx ρ ⟨m', cs, a, b, h3, l3, h4, e⟩ => by
      subst e
      have hj : j < r1 ∧ x = j := by
        have := List.getElem?_eq_some_iff.mp hx
        obtain ⟨h5, h6⟩ := this
        simp at h5 h6
        exact ⟨h5, h6.symm⟩
      obtain ⟨hj, rfl⟩ := hj
      have c6 : ((x : Int) + 1) ≤ (LINE : Int) := by rw [line_val]; omega
      have c7 : -(LINE : Int) ≤ ((x : Int) + 1) := by rw [line_val]; omega
      have c8 : ((x : Int) + 1).toNat = x + 1 := by omega
      simp [forT, f1__law_even_web, c6, c7, c8]
      rw [rangeD_0]
      refine for_go (Q := fun r => RS.goes r _) (fun i ρ => ∃ m' cs b, M (k + 2 + x * 100 + i * 4) m' ∧ cs.length ≤ 36 ∧ (∀ c ∈ cs, Cab.Ok (1 + r1) c) ∧ ρ = [some m', some (.int places), some (.int most), some (.int ((x : Int) + 1)), some (.int (1 + r1)), some (.int (1 + r2)), some (.lst true (cs.map cabD)), b]) ⟨m', cs, b, h3, l3, h4, rfl⟩ (fun i y hy ρ ⟨m', cs, b, h3, l3, h4, e⟩ => ?_) (fun ρ ⟨m', cs, b, h3, l3, h4, e⟩ => ?_)
      · subst e
        have hi : i < x + 1 ∧ y = i := by
          have := List.getElem?_eq_some_iff.mp hy
          obtain ⟨h5, h6⟩ := this
          simp at h5 h6
          exact ⟨by omega, h6.symm⟩
        obtain ⟨hi, rfl⟩ := hi
        by_cases hlen0 : cs.length < 36
        · have hlen : (cs.length : Int) < 36 := by omega
          have hlen2 : ¬ (36 ≤ (cs.length : Int)) := by omega
          obtain ⟨s1, m3, e3, h5, l5⟩ := law_next_nat (n := n + 2) (many := 4) h3 (by omega) (by omega) (by omega)
          have e3 : rn (n + 2 + 1) "_law_next" [m', .int 4] = .ok (.int s1) [m3, .int 4] := e3
          have e8 : cs.length < LINE := by rw [line_val]; omega
          by_cases hs : 0 < s1
          · obtain ⟨s2, m4, e4, h6, l6⟩ := law_next_nat (n := n + 2) (many := 5) h5 (by omega) (by omega) (by omega)
            have e4 : rn (n + 2 + 1) "_law_next" [m3, .int 5] = .ok (.int s2) [m4, .int 5] := e4
            by_cases hs2 : 0 < s2
            · simp [forT, f2__law_even_web, hlen, hlen2, h3.own, h3.exc, h5.own, h5.exc, h5.hole, h6.own, h6.exc, h6.hole, e3, e4, hs, hs2, e8]
              refine ⟨m4, h6.mono (by omega), cs ++ [⟨y, x + 1, 1 + r2⟩], by simp <;> omega, fun c hc => ?_, by simp [cabD]⟩
              rcases List.mem_append.mp hc with hc | hc
              · exact h4 c hc
              · rw [List.mem_singleton.mp hc]
                exact ⟨by simp <;> omega, by simp <;> omega, by simp <;> omega, by simp <;> omega⟩
            · obtain ⟨s3, m5, e5, h7, l7⟩ := law_next_nat (n := n + 2) (many := most + 1) h6 (by omega) (by omega) (by omega)
              have ee : ((most + 1 : Nat) : Int) = (most : Int) + 1 := by omega
              rw [ee] at e5
              simp [forT, f2__law_even_web, hlen, hlen2, h3.own, h3.exc, h5.own, h5.exc, h5.hole, h6.own, h6.exc, h6.hole, h7.own, h7.exc, h7.hole, e3, e4, e5, hs, hs2, e8]
              refine ⟨m5, h7.mono (by omega), cs ++ [⟨y, x + 1, s3⟩], by simp <;> omega, fun c hc => ?_, by simp [cabD]⟩
              rcases List.mem_append.mp hc with hc | hc
              · exact h4 c hc
              · rw [List.mem_singleton.mp hc]
                exact ⟨by simp <;> omega, by simp <;> omega, by simp <;> omega, by simp <;> omega⟩
          · simp [forT, f2__law_even_web, hlen, hlen2, h3.own, h3.exc, h5.own, h5.exc, h5.hole, e3, hs]
            exact ⟨m3, h5.mono (by omega), cs, l3, h4, rfl, rfl⟩
        · have hlen : ¬ ((cs.length : Int) < 36) := by omega
          have hlen2 : (36 ≤ (cs.length : Int)) := by omega
          simp [forT, f2__law_even_web, hlen, hlen2, h3.own, h3.exc]
          exact ⟨m', h3.mono (by omega), cs, l3, h4, rfl, rfl⟩
      · subst e
        rw [List.length_range] at h3
        simp
        exact ⟨m', h3.mono (by omega), cs, l3, h4, rfl, rfl⟩)
  rw [List.length_range] at h3
  rw [rangeD_1, e]
  refine ⟨⟨1 + r1, cs⟩, m', ?_, h3.mono (by omega), ⟨by simp <;> omega, by simp <;> omega, by simp <;> omega, h4⟩, by simp <;> omega⟩
  simp [hm.own, h3.own, webD]
theorem law_some_web_ok {places : Nat} (hm : M k m) (hp : 1 ≤ places) (hp2 : places ≤ 16) (hk : k < 2 ^ 70) :
    ∃ (w : Web) (m' : D), rn (n + 5) "_law_some_web" [m, .int places] = .ok (webD w) [m', .int places] ∧ M (k + 3000) m' ∧ w.Ok ∧ w.many ≤ places := by
  obtain ⟨r1, m1, e1, h1, l1⟩ := law_next_nat (n := n + 3) (many := 2) hm (by omega) (by omega) (by omega)
  have e1 : rn (n + 3 + 1) "_law_next" [m, .int 2] = .ok (.int r1) [m1, .int 2] := e1
  have w1 : wide (places : Int) = true := wide_of (by omega)
  by_cases hr : r1 = 0
  · subst hr
    obtain ⟨w, m2, e2, h2, l2, l3⟩ := law_web_ok (n := n) (places := places) (cables := 2 * places) (most := 6) h1 hp hp2 (by omega) (by omega) (by omega)
    have e2 : rn (n + 4) "_law_web" [m1, .int places, .int (2 * places), .int 6] = .ok (webD w) [m2, .int places, .int (2 * places), .int 6] := by
      have := e2
      rw [show ((2 * places : Nat) : Int) = 2 * (places : Int) by omega] at this
      exact this
    refine ⟨w, m2, ?_, h2.mono (by omega), l2, l3⟩
    rw [rn, run_def t__law_some_web rfl]
    simp [b__law_some_web, startD, hm.own, hm.exc, h1.own, h1.exc, h1.hole, h2.own, h2.exc, h2.hole, e1, e2, w1]
  · obtain ⟨w, m2, e2, h2, l2, l3⟩ := law_even_web_ok (n := n) (places := places) (most := 4) h1 hp hp2 (by omega) (by omega) (by omega)
    have e2 : rn (n + 4) "_law_even_web" [m1, .int places, .int 4] = .ok (webD w) [m2, .int places, .int 4] := e2
    refine ⟨w, m2, ?_, h2.mono (by omega), l2, l3⟩
    rw [rn, run_def t__law_some_web rfl]
    simp [b__law_some_web, startD, hm.own, hm.exc, h1.own, h1.exc, h1.hole, h2.own, h2.exc, h2.hole, e1, e2, hr]
end K00
end

section
namespace K00
open PySem TW
variable {n : Nat}
/-! rifts, labels by first places -/
def partD (p : List Nat) : D := .tup (p.map fun k : Nat => .int k)
def riftD (ps : List (List Nat)) : D := .tup (ps.map partD)
@[simp] theorem own_partD {p : List Nat} : (partD p).own = false := by simp [partD]
@[simp] theorem own_riftD {p : List (List Nat)} : (riftD p).own = false := by simp [riftD]
@[simp] theorem isExc_partD {p : List Nat} : (partD p).isExc = false := (rfl)
@[simp] theorem isExc_riftD {p : List (List Nat)} : (riftD p).isExc = false := (rfl)
def labD (ls : List Nat) : D := .tup (ls.map fun k : Nat => .int k)
def lb (ls : List Nat) (k : Nat) : Nat := ls.getD k 0
def riftOf (ls : List Nat) (m : Nat) : List (List Nat) := (List.range m).map fun p => (List.range ls.length).filter fun k => lb ls k == p
inductive Rgs : List Nat → Nat → Prop
  | nil : Rgs [] 0
  | snoc {ls : List Nat} {m k : Nat} : Rgs ls m → k ≤ m → Rgs (ls ++ [k]) (max m (k + 1))
theorem lb_at {ls : List Nat} {k : Nat} (h : k < ls.length) : lb ls k = ls[k] := by simp [lb, h]
theorem lb_append {ls : List Nat} {x i : Nat} (h : i < ls.length) : lb (ls ++ [x]) i = lb ls i := by simp [lb, List.getElem?_append_left h]
theorem lb_last {ls : List Nat} {x : Nat} : lb (ls ++ [x]) ls.length = x := by simp [lb]
theorem Rgs.lt {ls : List Nat} {m : Nat} (h : Rgs ls m) : ∀ i, i < ls.length → lb ls i < m := by
  induction h with
  | nil => intro i hi; simp at hi
  | @snoc ls m k h hk ih =>
    intro i hi
    simp only [List.length_append, List.length_cons, List.length_nil] at hi
    by_cases e : i < ls.length
    · rw [lb_append e]
      have := ih i e
      omega
    · have : i = ls.length := by omega
      subst this
      rw [lb_last]
      omega
theorem Rgs.occ {ls : List Nat} {m : Nat} (h : Rgs ls m) : ∀ j, j < m → ∃ i, i < ls.length ∧ lb ls i = j := by
  induction h with
  | nil => intro j hj; omega
  | @snoc ls m k h hk ih =>
    intro j hj
    by_cases e : j < m
    · obtain ⟨i, h1, h2⟩ := ih j e
      exact ⟨i, by simp; omega, by rw [lb_append h1]; exact h2⟩
    · have : j = k := by omega
      subst this
      exact ⟨ls.length, by simp, lb_last⟩
theorem Rgs.earlier {ls : List Nat} {m : Nat} (h : Rgs ls m) : ∀ i, i < ls.length → ∀ p, p < lb ls i → ∃ i', i' < i ∧ lb ls i' = p := by
  induction h with
  | nil => intro i hi; simp at hi
  | @snoc ls m k h hk ih =>
    intro i hi p hp
    simp only [List.length_append, List.length_cons, List.length_nil] at hi
    by_cases e : i < ls.length
    · rw [lb_append e] at hp
      obtain ⟨i', h1, h2⟩ := ih i e p hp
      exact ⟨i', h1, by rw [lb_append (by omega)]; exact h2⟩
    · have : i = ls.length := by omega
      subst this
      rw [lb_last] at hp
      obtain ⟨i', h1, h2⟩ := h.occ p (by omega)
      exact ⟨i', h1, by rw [lb_append h1]; exact h2⟩
theorem Rgs.le {ls : List Nat} {m : Nat} (h : Rgs ls m) : m ≤ ls.length := by
  induction h with
  | nil => simp
  | snoc h hk ih => simp; omega
theorem Rgs.pos {ls : List Nat} {m : Nat} (h : Rgs ls m) (hn : 1 ≤ ls.length) : 1 ≤ m := by
  have := h.lt 0 hn
  omega
/-- the part of a label -/
def part (ls : List Nat) (p : Nat) : List Nat := (List.range ls.length).filter fun k => lb ls k == p
theorem mem_part {ls : List Nat} {p x : Nat} : x ∈ part ls p ↔ x < ls.length ∧ lb ls x = p := by simp [part]
theorem part_lt {ls : List Nat} {p : Nat} : (part ls p).Pairwise (· < ·) := List.Pairwise.filter _ List.pairwise_lt_range
theorem zip_tail_lt : ∀ {l : List Nat}, l.Pairwise (· < ·) → ∀ q ∈ l.zip l.tail, q.1 < q.2
  | [], _, q, hq => by simp at hq
  | [x], _, q, hq => by simp at hq
  | x :: y :: l, h, q, hq => by
    rcases List.mem_cons.mp (show q ∈ (x, y) :: (y :: l).zip (y :: l).tail from hq) with rfl | hq
    · exact List.rel_of_pairwise_cons h List.mem_cons_self
    · exact zip_tail_lt (List.Pairwise.of_cons h) q hq
theorem head_least : ∀ {l : List Nat} {a : Nat}, l.Pairwise (· < ·) → l[0]? = some a → ∀ x ∈ l, a ≤ x
  | [], _, _, h, _, _ => by simp at h
  | y :: l, a, hp, h, x, hx => by
    have e : y = a := by simpa using h
    subst e
    rcases List.mem_cons.mp hx with rfl | hx
    · exact Nat.le_refl _
    · exact Nat.le_of_lt (List.rel_of_pairwise_cons hp hx)
theorem riftOf_eq {ls : List Nat} {m : Nat} : riftOf ls m = (List.range m).map (part ls) := rfl
theorem riftOf_at {ls : List Nat} {m j : Nat} {p : List Nat} (h : (riftOf ls m)[j]? = some p) : j < m ∧ p = part ls j := by
  rw [riftOf_eq, List.getElem?_map] at h
  obtain ⟨y, h1, h2⟩ := Option.map_eq_some_iff.mp h
  obtain ⟨h3, h4⟩ := List.getElem?_eq_some_iff.mp h1
  simp at h3 h4
  subst h4
  exact ⟨h3, h2.symm⟩
theorem mem_take_rift {ls : List Nat} {m j x : Nat} (h : x ∈ ((riftOf ls m).take j).flatten) : x < ls.length ∧ lb ls x < j := by
  obtain ⟨p, hp, hx⟩ := List.mem_flatten.mp h
  obtain ⟨i, hi, e⟩ := List.mem_take_iff_getElem.mp hp
  have := riftOf_at (List.getElem?_eq_some_iff.mpr ⟨_, e⟩)
  obtain ⟨h1, rfl⟩ := this
  rw [mem_part] at hx
  exact ⟨hx.1, by omega⟩
theorem flat_len {n : Nat} {f : Nat → Nat} : ∀ m, (((List.range m).map fun p => (List.range n).filter fun k => f k == p).flatten).length = ((List.range n).filter fun k => decide (f k < m)).length
  | 0 => by
    have : (List.range n).filter (fun k => decide (f k < 0)) = [] := List.filter_eq_nil_iff.mpr fun x _ => by simp
    rw [this] <;> rfl
  | m + 1 => by
    rw [List.range_succ, List.map_append, List.flatten_append, List.length_append, flat_len m]
    simp only [List.map_cons, List.map_nil, List.flatten_cons, List.flatten_nil, List.append_nil]
    have : ∀ l : List Nat, (l.filter fun k => decide (f k < m)).length + (l.filter fun k => f k == m).length = (l.filter fun k => decide (f k < m + 1)).length := by
      intro l
      induction l with
      | nil => rfl
      | cons x l ih =>
        simp only [List.filter_cons]
        by_cases h1 : f x < m
        · have h2 : f x < m + 1 := by omega
          have h3 : ¬ f x = m := by omega
          simp [h1, h2, h3]
          omega
        · by_cases h3 : f x = m
          · simp [h3]
            omega
          · have h2 : ¬ f x < m + 1 := by omega
            simp [h1, h2, h3]
            omega
    exact this _
end K00
end

section
namespace K00
open PySem TW
variable {n k : Nat} {m : D}
@[simp] theorem own_labD {p : List Nat} : (labD p).own = false := by simp [labD]
@[simp] theorem isExc_labD {p : List Nat} : (labD p).isExc = false := (rfl)
theorem ix_nat {ls : List Nat} {k : Nat} (h : k < ls.length) : ((ixD ls.length (k : Int)).bind fun j => Option.map (fun k : Nat => D.int k) ls[j]?) = some (.int (lb ls k)) := by
  rw [ixD_in (by omega) (by omega)]
  simp [lb, h]
theorem at_labD {ls : List Nat} {i : Nat} (h : i < ls.length) : D.at_ (labD ls) (.int (i : Int)) = some (.int (lb ls i)) := by
  have := ix_nat h
  simpa [labD] using this
theorem maxI_snoc : ∀ {l : List Int} {x : Int}, l ≠ [] → maxI (l ++ [x]) = (maxI l).map fun y => max y x
  | [], _, h => absurd rfl h
  | a :: l, x, _ => by simp [maxI, List.foldl_append]
theorem Rgs.max {ls : List Nat} {m : Nat} (h : Rgs ls m) : ls ≠ [] → maxI (ls.map fun k : Nat => (k : Int)) = some ((m : Int) - 1) := by
  induction h with
  | nil => intro h; exact absurd rfl h
  | @snoc ls m k h hk ih =>
    intro _
    by_cases e : ls = []
    · subst e
      have hm : m = 0 := by have := h.le; simpa using this
      subst hm
      have : k = 0 := by omega
      subst this
      simp [maxI]
    · have hne : ls.map (fun k : Nat => (k : Int)) ≠ [] := by simpa using e
      have hm := h.pos (List.length_pos_iff.mpr e)
      rw [List.map_append, List.map_singleton, maxI_snoc hne, ih e]
      simp
      omega
theorem max_labD {ls : List Nat} {m : Nat} (h : Rgs ls m) (hn : ls ≠ []) : B1.run .max (labD ls) = some (.int ((m : Int) - 1)) := by
  rw [labD, b1_maxTF, h.max hn] <;> rfl
theorem law_rift_ok {ls : List Nat} {mm : Nat} (h : Rgs ls mm) (h1 : 1 ≤ ls.length) (h2 : ls.length ≤ 16) : rn (n + 1) "_law_rift" [labD ls] = .ok (riftD (riftOf ls mm)) [labD ls] := by
  have hne : ls ≠ [] := List.length_pos_iff.mp h1
  have hmle := h.le
  rw [rn, run_def t__law_rift rfl]
  have c1 : (mm : Int) ≤ (LINE : Int) := by rw [line_val]; omega
  have c2 : -(LINE : Int) ≤ (mm : Int) := by rw [line_val]; omega
  simp [b__law_rift, startD, max_labD h hne, c1, c2]
  rw [rangeD_0]
  refine for_go (Q := fun r => TW.finish _ (RS.seq r _) = _) (fun j ρ => ∃ a, ρ = [some (labD ls), some (.lst true (((List.range j).map (part ls)).map partD)), a, none]) ⟨_, rfl⟩ (fun j x hx ρ ⟨a, e⟩ => ?_) (fun ρ ⟨a, e⟩ => ?_)
  · subst e
    have hj : j < mm ∧ x = j := by
      obtain ⟨h5, h6⟩ := List.getElem?_eq_some_iff.mp hx
      simp at h5 h6
      exact ⟨h5, h6.symm⟩
    obtain ⟨hj, rfl⟩ := hj
    have c3 : (ls.length : Int) ≤ (LINE : Int) := by rw [line_val]; omega
    have c4 : -(LINE : Int) ≤ (ls.length : Int) := by rw [line_val]; omega
    have c5 : ls.length ≤ LINE := by rw [line_val]; omega
    have c6 : x < LINE := by rw [line_val]; omega
    have e1 : B1.run .len (labD ls) = some (.int ls.length) := by simp [labD]
    simp [forT, f1__law_rift, e1, c5]
    rw [rangeD_0, lc_some0 (List.range ls.length) (fun k : Nat => .int k) (fun k => lb ls k == x) (fun k : Nat => .int k)]
    rotate_left
    · simp
    · rw [List.length_range]; exact c5
    · intro i hi
      have := at_labD (ls := ls) (i := i) (List.mem_range.mp hi)
      simp [lcT, lcTn, e1__law_rift, c1__law_rift, this]
      split <;> rfl
    simp [c6, List.range_succ, part, partD]
  · subst e
    simp [riftD, riftOf_eq]
/-! labels by first sight -/
theorem snocInd {α : Type} {P : List α → Prop} (h0 : P []) (hs : ∀ l x, P l → P (l ++ [x])) (l : List α) : P l := by
  have : ∀ r : List α, P r.reverse := by
    intro r
    induction r with
    | nil => exact h0
    | cons x r ih => rw [List.reverse_cons]; exact hs _ _ ih
  have h := this l.reverse
  rwa [List.reverse_reverse] at h
/-- each once, by first sight -/
def once (l : List Int) : List Int := l.foldl (fun acc x => if x ∈ acc then acc else acc ++ [x]) []
theorem once_snoc {l : List Int} {x : Int} : once (l ++ [x]) = if x ∈ once l then once l else once l ++ [x] := by
  rw [once, List.foldl_append] <;> rfl
theorem mem_once {l : List Int} : ∀ x ∈ l, x ∈ once l := by
  refine snocInd (P := fun l => ∀ x ∈ l, x ∈ once l) (by simp) (fun l y ih => ?_) l
  intro x hx
  rw [once_snoc]
  rcases List.mem_append.mp hx with h | h
  · split
    · exact ih x h
    · exact List.mem_append_left _ (ih x h)
  · rw [List.mem_singleton.mp h]
    split
    · assumption
    · exact List.mem_append_right _ (List.mem_singleton.mpr rfl)
def posI (x : Int) (l : List Int) : Nat := (l.findIdx? fun y => y == x).getD 0
theorem findI_mem {x : Int} {l : List Int} (h : x ∈ l) : (l.findIdx? fun y => y == x) = some (posI x l) ∧ posI x l < l.length := by
  have : ((l.findIdx? fun y => y == x)).isSome := by
    rw [List.findIdx?_isSome]
    exact List.any_eq_true.mpr ⟨x, h, by simp⟩
  obtain ⟨i, hi⟩ := Option.isSome_iff_exists.mp this
  have e : posI x l = i := by simp [posI, hi]
  refine ⟨by rw [e, hi], ?_⟩
  rw [e]
  have := List.findIdx?_eq_some_iff_findIdx_eq.mp hi
  exact this.1
theorem posI_append {x y : Int} {l : List Int} (h : x ∈ l) : posI x (l ++ [y]) = posI x l := by
  have h1 := (findI_mem h).1
  have : ((l ++ [y]).findIdx? fun z => z == x) = some (posI x l) := by rw [List.findIdx?_append, h1]; rfl
  simp [posI, this]
theorem posI_new {x : Int} {l : List Int} (h : x ∉ l) : posI x (l ++ [x]) = l.length := by
  have h1 : (l.findIdx? fun y => y == x) = none := by
    rw [List.findIdx?_eq_none_iff]
    intro y hy
    simp
    intro z
    exact h (z ▸ hy)
  have : ((l ++ [x]).findIdx? fun z => z == x) = some l.length := by
    rw [List.findIdx?_append, h1]
    simp [List.findIdx?_cons]
  simp [posI, this]
theorem first_rgs (l : List Int) : Rgs (l.map fun x => posI x (once l)) (once l).length := by
  refine snocInd (P := fun l => Rgs (l.map fun x => posI x (once l)) (once l).length) Rgs.nil (fun l y ih => ?_) l
  have hm := mem_once (l := l)
  by_cases hy : y ∈ once l
  · have e : once (l ++ [y]) = once l := by rw [once_snoc, if_pos hy]
    rw [e, List.map_append, List.map_singleton]
    have h2 := (findI_mem hy).2
    have := ih.snoc (k := posI y (once l)) (by omega)
    rwa [Nat.max_eq_left (by omega)] at this
  · have e : once (l ++ [y]) = once l ++ [y] := by rw [once_snoc, if_neg hy]
    rw [e, List.map_append, List.map_singleton, posI_new hy]
    have e2 : (l.map fun x => posI x (once l ++ [y])) = l.map fun x => posI x (once l) := List.map_congr_left fun x hx => posI_append (hm x hx)
    rw [e2]
    have := ih.snoc (k := (once l).length) (Nat.le_refl _)
    rw [Nat.max_eq_right (by omega)] at this
    simpa using this
theorem law_by_first_ok {l : List Int} (h : l.length ≤ 16) (o : Bool) (ho : o = false) : rn (n + 1) "_law_by_first" [.lst o (l.map .int)] = .ok (labD (l.map fun x => posI x (once l))) [.lst o (l.map .int)] := by
  subst ho
  rw [rn, run_def t__law_by_first rfl]
  simp [b__law_by_first, startD]
  refine for_go (Q := fun r => TW.finish _ (RS.seq r _) = _) (fun j ρ => ∃ a, ρ = [some (.lst false (l.map .int)), some (.lst true ((once (l.take j)).map .int)), a] ∧ (once (l.take j)).length ≤ j ∧ (∀ d, a = some d → d.own = false)) ⟨none, rfl, by simp [once], by simp⟩ (fun j x hx ρ ⟨a, e, hl, ha⟩ => ?_) (fun ρ ⟨a, e, hl, ha⟩ => ?_)
  · subst e
    have hj : j < l.length := (List.getElem?_eq_some_iff.mp hx).1
    have e3 : l.take (j + 1) = l.take j ++ [x] := by rw [List.take_succ, hx]; rfl
    have e4 : D.isin (.int x) (.lst true ((once (l.take j)).map .int)) = some (decide (x ∈ once (l.take j))) := by
      have := isin_lstI (i := x) (o := true) (l := once (l.take j)) (f := id)
      simp only [id] at this
      rw [this]
      congr 1
      rw [Bool.eq_iff_iff]
      simp [List.any_eq_true]
    have e5 : (once (l.take j)).length < LINE := by rw [line_val]; omega
    rw [e3, once_snoc]
    by_cases hy : x ∈ once (l.take j)
    · simp [forT, f1__law_by_first, e4, hy]
      omega
    · simp [forT, f1__law_by_first, e4, hy, e5]
      omega
  · subst e
    have e1 : l.take l.length = l := List.take_length
    rw [e1]
    simp
    rw [lc_all0 l D.int (fun x => .int (posI x (once l)))]
    rotate_left
    · cases a with
      | none => simp
      | some d => simp [ha d rfl]
    · rw [line_val]; omega
    · intro x hx
      have hx2 := findI_mem (mem_once x hx)
      have e4 : D.index (.lst true ((once l).map .int)) (.int x) = some (.int (posI x (once l))) := by
        have h1 : ((once l).map D.int).all D.flat = true := by simp [D.flat]
        have h2 : (((once l).map D.int).findIdx? fun y => y.eqF (.int x)) = some (posI x (once l)) := by
          rw [List.findIdx?_map]
          exact hx2.1
        simp only [D.index, h1, Bool.and_true, h2]
        rfl
      simp [lcT, lcTn, e1__law_by_first, e4]
    simp [labD]
end K00
end

section
namespace K00
open PySem TW
variable {n k : Nat} {m : D}
/-! things judged -/
theorem is_amongD {d : D} {a b : Int} (hp : d.th = true) : rn (n + 2) "is_among" [d, .int a, .int b] = .ok (.bl (isAm d a b)) [d, .int a, .int b] := by
  have ho := th_own hp
  have hp := th_pl hp
  rw [rn, run_def t_is_among rfl]
  cases d <;> first | (simp [b_is_among, startD, is_number_ok, ho]; done) | cases hp | (simp at ho; simp [b_is_among, startD, is_number_ok, ho]; done) | skip
def cabOk (m : Int) (c : D) : Bool := match c with
  | .tup [x, y, s] => isAm s 0 (10 ^ 30) && (match x with
    | .int x => isAm (.int x) 0 (m - 1) && isAm y (x + 1) (m - 1)
    | _ => false)
  | _ => false
/-- the first wrong place -/
def webFault (d : D) : Option D := match d with
  | .tup [a, b] => (match a with
    | .int m => if isAm (.int m) 1 16 then (match b with
        | .tup cs => if cs.length ≤ 40 then (match cs.findIdx? (fun c => !cabOk m c) with
            | some j => some (.tup [.int 1, .int j])
            | none => none) else some (.int 1)
        | _ => some (.int 1)) else some (.int 0)
    | _ => some (.int 0))
  | _ => some .non
theorem is_cableD {c : D} {m : Int} (hp : c.th = true) : rn (n + 3) "is_cable" [c, .int m] = .ok (.bl (cabOk m c)) [c, .int m] := by
  have ho := th_own hp
  have hpl := th_pl hp
  rw [rn, run_def t_is_cable rfl]
  cases c with
  | tup xs =>
    match xs, hp with
    | [x, y, s], hp =>
      simp only [th_tup, thL_cons, thL_nil, Bool.and_true, Bool.and_eq_true] at hp
      obtain ⟨hx, hy, hs⟩ := hp
      have ox := th_own hx
      have oy := th_own hy
      have os := th_own hs
      cases hs1 : isAm s 0 1000000000000000000000000000000 with
      | false => simp [b_is_cable, startD, is_tuple_of_ok, is_amongD, hx, hy, hs, ox, oy, os, hs1, cabOk]
      | true =>
        cases x with
        | int x =>
          by_cases h0 : 0 ≤ x
          · by_cases h1 : x ≤ m - 1
            · simp [b_is_cable, startD, is_tuple_of_ok, is_amongD, hx, hy, hs, ox, oy, os, hs1, cabOk, h0, h1]
            · simp [b_is_cable, startD, is_tuple_of_ok, is_amongD, hx, hy, hs, ox, oy, os, hs1, cabOk, h0, h1]
          · simp [b_is_cable, startD, is_tuple_of_ok, is_amongD, hx, hy, hs, ox, oy, os, hs1, cabOk, h0]
        | _ => simp [b_is_cable, startD, is_tuple_of_ok, is_amongD, hx, hy, hs, ox, oy, os, hs1, cabOk]
    | [], hp => simp [b_is_cable, startD, is_tuple_of_ok, cabOk]
    | [x], hp => simp at ho; simp [b_is_cable, startD, is_tuple_of_ok, cabOk, ho]
    | [x, y], hp => simp at ho; simp [b_is_cable, startD, is_tuple_of_ok, cabOk, ho]
    | x :: y :: s :: z :: r, hp =>
      have e : decide ((r.length : Int) + 1 + 1 + 1 + 1 ≤ 3) = false := decide_eq_false (by omega)
      simp at ho; simp [b_is_cable, startD, is_tuple_of_ok, cabOk, ho, e]
  | _ => first | (cases hpl; done) | (simp [b_is_cable, startD, is_tuple_of_ok, cabOk, ho]; done)
theorem find_lt {α : Type} {p : α → Bool} {l : List α} {j : Nat} (h : l.findIdx? p = some j) : j < l.length := (List.findIdx?_eq_some_iff_findIdx_eq.mp h).1
theorem need_webD {d : D} (hp : d.th = true) : rn (n + 4) "need_web" [d] = match webFault d with
    | none => .ok d [d]
    | some v => .exc "BadWeb" v [d] := by
  have ho := th_own hp
  have hpl := th_pl hp
  rw [rn, run_def t_need_web rfl]
  cases d with
  | tup xs =>
    match xs, hp with
    | [a, b], hp =>
      have hp2 := hp
      simp only [th_tup, thL_cons, thL_nil, Bool.and_true, Bool.and_eq_true] at hp
      obtain ⟨ha, hb⟩ := hp
      have oa := th_own ha
      have ob := th_own hb
      cases ha1 : isAm a 1 16 with
      | false =>
        have : webFault (.tup [a, b]) = some (.int 0) := by
          cases a <;> simp [webFault]
          simp at ha1
          intro z
          have := ha1 z
          omega
        simp [b_need_web, startD, is_tuple_of_ok, is_amongD, ha, hb, oa, ob, ha1, this]
      | true =>
        obtain ⟨m, rfl, m1, m2⟩ := isAm_iff.mp ha1
        cases b with
        | tup cs =>
          have hcs : thL cs = true := by simpa using hb
          by_cases hl : cs.length ≤ 40
          · have hl2 : decide ((cs.length : Int) ≤ 40) = true := decide_eq_true (by omega)
            simp [b_need_web, startD, is_tuple_of_ok, is_amongD, ha, hb, oa, ob, ha1, hl2, m1, m2]
            refine for_findD (fun c => !cabOk m c) (Q := fun r => TW.finish _ (RS.seq r _) = _) (fun _ ρ => ∃ a b, ρ = [some (.tup [.int m, .tup cs]), a, b]) ⟨_, _, rfl⟩ (fun j x hx hb ρ ⟨a, b, e⟩ => ?_) (fun j x hx hb hf ρ ⟨a, b, e⟩ => ?_) (fun hf ρ ⟨a, b, e⟩ => ?_)
            · subst e
              have hx := th_at hcs hx
              have hb : cabOk m x = true := by simpa using hb
              simp [forT, f1_need_web, is_cableD hx, th_own hx, th_exc hx, hb]
            · subst e
              have hx := th_at hcs hx
              have hb : cabOk m x = false := by simpa using hb
              have ocs := thL_own hcs
              simp [forT, f1_need_web, is_cableD hx, th_own hx, th_exc hx, hb, webFault, hl, m1, m2, hf, ocs]
            · subst e
              have ocs := thL_own hcs
              simp [webFault, hl, m1, m2, hf, ocs]
          · have hl2 : decide ((cs.length : Int) ≤ 40) = false := decide_eq_false (by omega)
            simp [b_need_web, startD, is_tuple_of_ok, is_amongD, ha, hb, oa, ob, ha1, hl2, m1, m2, webFault, hl]
        | _ => first | (exfalso; have := th_pl hb; cases this; done) | (simp [b_need_web, startD, is_tuple_of_ok, is_amongD, ha, hb, oa, ob, ha1, m1, m2, webFault])
    | [], hp => simp [b_need_web, startD, is_tuple_of_ok, webFault]
    | [x], hp => simp at ho; simp [b_need_web, startD, is_tuple_of_ok, webFault, ho]
    | x :: y :: s :: r, hp =>
      have e : decide ((r.length : Int) + 1 + 1 + 1 ≤ 2) = false := decide_eq_false (by omega)
      simp at ho; simp [b_need_web, startD, is_tuple_of_ok, webFault, ho, e]
  | _ => first | (cases hpl; done) | (simp [b_need_web, startD, is_tuple_of_ok, webFault, ho]; done)
theorem law_is_wholeD {d : D} {a b : Int} (hp : d.th = true) : rn (n + 1) "_law_is_whole" [d, .int a, .int b] = .ok (.bl (isAm d a b)) [d, .int a, .int b] := by
  have ho := th_own hp
  have hp := th_pl hp
  rw [rn, run_def t__law_is_whole rfl]
  cases d <;> first | (simp [b__law_is_whole, startD, ho]; done) | cases hp | (simp at ho; simp [b__law_is_whole, startD, ho]; done) | skip
theorem fault_turn {x : D} {m : Int} {cs : List D} {j : Nat} {a b : Option D} (hp : x.th = true) (hcs : thL cs = true) : forT (Gg (n + 1) []) (.t (.cons (.v 1) (.cons (.v 2) .nil))) f1__law_fault (.tup [.int j, x]) [some (.tup [.int m, .tup cs]), a, b] =
    if cabOk m x = true then .ok .nx [some (.tup [.int m, .tup cs]), some (.int j), some x] else .ok (.rt (.tup [.tup [.int 1, .int j]])) [some (.tup [.int m, .tup cs]), some (.int j), some x] := by
  have ho := th_own hp
  have hpl := th_pl hp
  have ocs := thL_own hcs
  cases x with
  | tup xs =>
    match xs, hp with
    | [x, y, s], hp =>
      simp only [th_tup, thL_cons, thL_nil, Bool.and_true, Bool.and_eq_true] at hp
      obtain ⟨hx, hy, hs⟩ := hp
      have ox := th_own hx
      have oy := th_own hy
      have os := th_own hs
      cases hs1 : isAm s 0 1000000000000000000000000000000 with
      | false => simp [forT, f1__law_fault, law_is_wholeD, hx, hy, hs, ox, oy, os, hs1, cabOk, ocs]
      | true =>
        cases x with
        | int x =>
          by_cases h0 : 0 ≤ x
          · by_cases h1 : x ≤ m - 1
            · simp [forT, f1__law_fault, law_is_wholeD, hx, hy, hs, ox, oy, os, hs1, cabOk, ocs, h0, h1]
              cases isAm y (x + 1) (m - 1) <;> simp
            · simp [forT, f1__law_fault, law_is_wholeD, hx, hy, hs, ox, oy, os, hs1, cabOk, ocs, h0, h1]
          · simp [forT, f1__law_fault, law_is_wholeD, hx, hy, hs, ox, oy, os, hs1, cabOk, ocs, h0]
        | _ => simp [forT, f1__law_fault, law_is_wholeD, hx, hy, hs, ox, oy, os, hs1, cabOk, ocs]
    | [], hp => simp [forT, f1__law_fault, cabOk, ocs]
    | [x], hp => simp at ho; simp [forT, f1__law_fault, cabOk, ho, ocs]
    | [x, y], hp => simp at ho; simp [forT, f1__law_fault, cabOk, ho, ocs]
    | x :: y :: s :: z :: r, hp =>
      have e : ¬ ((r.length : Int) + 1 + 1 + 1 + 1 = 3) := by omega
      simp at ho; simp [forT, f1__law_fault, cabOk, ho, e, ocs]
  | _ => first | (cases hpl; done) | (simp [forT, f1__law_fault, cabOk, ho, ocs]; done)
theorem law_faultD {d : D} (hp : d.th = true) : rn (n + 2) "_law_fault" [d] = .ok (match webFault d with
    | none => .non
    | some v => .tup [v]) [d] := by
  have ho := th_own hp
  have hpl := th_pl hp
  rw [rn, run_def t__law_fault rfl]
  cases d with
  | tup xs =>
    match xs, hp with
    | [a, b], hp =>
      have hp2 := hp
      simp only [th_tup, thL_cons, thL_nil, Bool.and_true, Bool.and_eq_true] at hp
      obtain ⟨ha, hb⟩ := hp
      have oa := th_own ha
      have ob := th_own hb
      cases ha1 : isAm a 1 16 with
      | false =>
        have : webFault (.tup [a, b]) = some (.int 0) := by
          cases a <;> simp [webFault]
          simp at ha1
          intro z
          have := ha1 z
          omega
        simp [b__law_fault, startD, law_is_wholeD, ha, hb, oa, ob, ha1, this]
      | true =>
        obtain ⟨m, rfl, m1, m2⟩ := isAm_iff.mp ha1
        cases b with
        | tup cs =>
          have hcs : thL cs = true := by simpa using hb
          by_cases hl : cs.length ≤ 40
          · have hl2 : decide ((40 : Int) < (cs.length : Int)) = false := decide_eq_false (by omega)
            have hl3 : ¬ ((40 : Int) < (cs.length : Int)) := by omega
            simp [b__law_fault, startD, law_is_wholeD, ha, hb, oa, ob, ha1, hl2, hl3, m1, m2]
            refine for_findD (fun c => !cabOk m c) (Q := fun r => TW.finish _ (RS.seq r _) = _) (fun _ ρ => ∃ a b, ρ = [some (.tup [.int m, .tup cs]), a, b]) ⟨_, _, rfl⟩ (fun j x hx hb ρ ⟨a, b, e⟩ => ?_) (fun j x hx hb hf ρ ⟨a, b, e⟩ => ?_) (fun hf ρ ⟨a, b, e⟩ => ?_)
            · subst e
              have hx := th_at hcs hx
              have hb : cabOk m x = true := by simpa using hb
              rw [fault_turn hx hcs, if_pos hb]
              exact ⟨_, .inl rfl, _, _, rfl⟩
            · subst e
              have hx := th_at hcs hx
              have hb : cabOk m x = false := by simpa using hb
              have ocs := thL_own hcs
              rw [fault_turn hx hcs, if_neg (by simp [hb])]
              simp [webFault, hl, m1, m2, hf, ocs]
            · subst e
              have ocs := thL_own hcs
              simp [webFault, hl, m1, m2, hf, ocs]
          · have hl2 : ((40 : Int) < (cs.length : Int)) := by omega
            simp [b__law_fault, startD, law_is_wholeD, ha, hb, oa, ob, ha1, hl2, m1, m2, webFault, hl]
        | _ => first | (exfalso; have := th_pl hb; cases this; done) | (simp [b__law_fault, startD, law_is_wholeD, ha, hb, oa, ob, ha1, m1, m2, webFault])
    | [], hp => simp [b__law_fault, startD, webFault]
    | [x], hp => simp at ho; simp [b__law_fault, startD, webFault, ho]
    | x :: y :: s :: r, hp =>
      have e : ¬ ((r.length : Int) + 1 + 1 + 1 = 2) := by omega
      simp at ho; simp [b__law_fault, startD, webFault, ho, e]
  | _ => first | (cases hpl; done) | (simp [b__law_fault, startD, webFault, ho]; done)
theorem webFault_th {d v : D} (h : webFault d = some v) : v.own = false ∧ v.th = true ∧ (v = .non ∨ v = .int 0 ∨ v = .int 1 ∨ ∃ k : Nat, k < 41 ∧ v = .tup [.int 1, .int k]) := by
  unfold webFault at h
  repeat' split at h
  all_goals first | (cases h; done) | (cases h; simp; done) | skip
  rename_i cs hl x j hj
  cases h
  have := find_lt hj
  exact ⟨by simp, by simp, .inr (.inr (.inr ⟨j, by omega, rfl⟩))⟩
theorem law_judgedD {d : D} (hp : d.th = true) : rn (n + 5) "_law_judged" [d] = .ok (match webFault d with
    | none => .tup [d]
    | some v => .tup [.str "bad", v]) [d] := by
  have ho := th_own hp
  rw [rn, run_def t__law_judged rfl]
  have h := need_webD (n := n) hp
  cases hf : webFault d with
  | none =>
    rw [hf] at h
    simp [b__law_judged, startD, h, ho, th_exc hp]
  | some v =>
    rw [hf] at h
    have hv : v.own = false := (webFault_th hf).1
    simp [b__law_judged, startD, h, ho, th_exc hp, hv]
end K00
end

section
namespace K00
open PySem TW
/-! what hangs together -/
/-- F tells, for each of n places, the least one with which it hangs together by pairs ps -/
structure Hang (n : Nat) (ps : List (Nat × Nat)) (F : List Nat) : Prop where
  len : F.length = n
  le : ∀ v, v < n → lb F v ≤ v
  eq : ∀ p ∈ ps, lb F p.1 = lb F p.2
  gl : ∀ (g : Nat → Nat), (∀ p ∈ ps, g p.1 = g p.2) → ∀ v, v < n → g (lb F v) = g v
theorem lb_ext {F G : List Nat} (h : F.length = G.length) (e : ∀ v, v < F.length → lb F v = lb G v) : F = G := by
  apply List.ext_getElem h
  intro i h1 h2
  have := e i h1
  rwa [lb_at h1, lb_at h2] at this
theorem Hang.uniq {n : Nat} {ps : List (Nat × Nat)} {F G : List Nat} (hF : Hang n ps F) (hG : Hang n ps G) : F = G := by
  refine lb_ext (hF.len.trans hG.len.symm) fun v hv => ?_
  rw [hF.len] at hv
  have h1 := hF.gl (lb G) hG.eq v hv
  have h2 := hG.gl (lb F) hF.eq v hv
  have h3 := hF.le v hv
  have h4 := hG.le v hv
  have h5 := hG.le (lb F v) (by omega)
  have h6 := hF.le (lb G v) (by omega)
  omega
/-- places made one, pair by pair -/
def hang1 (F : List Nat) (p : Nat × Nat) : List Nat := F.map fun l => if l = max (lb F p.1) (lb F p.2) then min (lb F p.1) (lb F p.2) else l
theorem lb_map {F : List Nat} {f : Nat → Nat} {v : Nat} (h : v < F.length) : lb (F.map f) v = f (lb F v) := by
  rw [lb_at (by simpa using h), lb_at h]
  simp
theorem hang0 {n : Nat} : Hang n [] (List.range n) := by
  refine ⟨by simp, fun v hv => ?_, by simp, fun g _ v hv => ?_⟩ <;> rw [lb_at (by simpa using hv)] <;> simp
theorem hang_snoc {n : Nat} {ps : List (Nat × Nat)} {F : List Nat} {p : Nat × Nat} (h : Hang n ps F) (h1 : p.1 < n) (h2 : p.2 < n) (hps : ∀ q ∈ ps, q.1 < n ∧ q.2 < n) : Hang n (ps ++ [p]) (hang1 F p) := by
  have len := h.len
  have at_ : ∀ v, v < n → lb (hang1 F p) v = if lb F v = max (lb F p.1) (lb F p.2) then min (lb F p.1) (lb F p.2) else lb F v := fun v hv => lb_map (by omega)
  refine ⟨by simp [hang1, len], fun v hv => ?_, fun q hq => ?_, fun g hg v hv => ?_⟩
  · rw [at_ v hv]
    have := h.le v hv
    split <;> omega
  · rcases List.mem_append.mp hq with hq | hq
    · rw [at_ _ (hps q hq).1, at_ _ (hps q hq).2, h.eq q hq]
    · rw [List.mem_singleton.mp hq, at_ _ h1, at_ _ h2]
      split <;> split <;> omega
  · have hg1 := h.gl g fun q hq => hg q (List.mem_append_left _ hq)
    have hp := hg p (List.mem_append_right _ (List.mem_singleton.mpr rfl))
    have e1 := hg1 p.1 h1
    have e2 := hg1 p.2 h2
    have e3 := hg1 v hv
    rw [at_ v hv]
    split
    · rename_i hm
      rw [← e3, hm]
      rcases Nat.le_total (lb F p.1) (lb F p.2) with hl | hl
      · rw [Nat.max_eq_right hl, Nat.min_eq_left hl, e1, e2, hp]
      · rw [Nat.max_eq_left hl, Nat.min_eq_right hl, e1, e2, hp]
    · exact e3
/-! ring by ring -/
def come1 (S : List Nat) (p : Nat × Nat) : List Nat := if (p.1 ∈ S) = (p.2 ∈ S) then S else S ++ [if p.1 ∈ S then p.2 else p.1]
instance {S : List Nat} {p : Nat × Nat} : Decidable ((p.1 ∈ S) = (p.2 ∈ S)) := decidable_of_iff ((p.1 ∈ S) ↔ (p.2 ∈ S)) (by simp)
def come (ps : List (Nat × Nat)) (S : List Nat) : List Nat := ps.foldl (fun S p => if decide (p.1 ∈ S) = decide (p.2 ∈ S) then S else S ++ [if p.1 ∈ S then p.2 else p.1]) S
def Closed (ps : List (Nat × Nat)) (S : List Nat) : Prop := ∀ p ∈ ps, decide (p.1 ∈ S) = decide (p.2 ∈ S)
theorem come_nil {S : List Nat} : come [] S = S := rfl
theorem come_cons {S : List Nat} {p : Nat × Nat} {ps : List (Nat × Nat)} : come (p :: ps) S = come ps (if decide (p.1 ∈ S) = decide (p.2 ∈ S) then S else S ++ [if p.1 ∈ S then p.2 else p.1]) := rfl
theorem come_closed : ∀ {ps : List (Nat × Nat)} {S : List Nat}, Closed ps S → come ps S = S
  | [], _, _ => rfl
  | p :: ps, S, h => by
    rw [come_cons, if_pos (h p List.mem_cons_self)]
    exact come_closed fun q hq => h q (List.mem_cons_of_mem _ hq)
theorem come_grow : ∀ {ps : List (Nat × Nat)} {S : List Nat}, S.length ≤ (come ps S).length ∧ (∀ x ∈ S, x ∈ come ps S) ∧ ((come ps S).length = S.length → Closed ps S)
  | [], S => ⟨Nat.le_refl _, fun x hx => hx, fun _ p hp => by simp at hp⟩
  | p :: ps, S => by
    rw [come_cons]
    by_cases e : decide (p.1 ∈ S) = decide (p.2 ∈ S)
    · rw [if_pos e]
      obtain ⟨h1, h2, h3⟩ := come_grow (ps := ps) (S := S)
      refine ⟨h1, h2, fun h q hq => ?_⟩
      rcases List.mem_cons.mp hq with rfl | hq
      · exact e
      · exact h3 h q hq
    · rw [if_neg e]
      obtain ⟨h1, h2, h3⟩ := come_grow (ps := ps) (S := S ++ [if p.1 ∈ S then p.2 else p.1])
      rw [List.length_append, List.length_singleton] at h1
      refine ⟨by omega, fun x hx => h2 x (List.mem_append_left _ hx), fun h => by omega⟩
structure Come (n v : Nat) (ps : List (Nat × Nat)) (S : List Nat) : Prop where
  has : v ∈ S
  nd : S.Nodup
  lt : ∀ x ∈ S, x < n
  gl : ∀ (g : Nat → Nat), (∀ p ∈ ps, g p.1 = g p.2) → ∀ x ∈ S, g x = g v
theorem come_keeps {n v : Nat} {qs : List (Nat × Nat)} (hq : ∀ p ∈ qs, p.1 < n ∧ p.2 < n) : ∀ {ps : List (Nat × Nat)} {S : List Nat}, (∀ p ∈ ps, p ∈ qs) → Come n v qs S → Come n v qs (come ps S)
  | [], _, _, h => h
  | p :: ps, S, hs, h => by
    rw [come_cons]
    refine come_keeps hq (fun q hq => hs q (List.mem_cons_of_mem _ hq)) ?_
    have hp := hs p List.mem_cons_self
    split
    · exact h
    · rename_i e
      have hn := hq p hp
      by_cases h1 : p.1 ∈ S
      · have h2 : p.2 ∉ S := fun z => e (by simp [h1, z])
        rw [if_pos h1]
        refine ⟨List.mem_append_left _ h.has, ?_, fun x hx => ?_, fun g hg x hx => ?_⟩
        · rw [List.nodup_append]
          exact ⟨h.nd, by simp, fun a ha b hb z => h2 (by rw [List.mem_singleton.mp hb] at z; rwa [z] at ha)⟩
        · rcases List.mem_append.mp hx with hx | hx
          · exact h.lt x hx
          · rw [List.mem_singleton.mp hx]; exact hn.2
        · rcases List.mem_append.mp hx with hx | hx
          · exact h.gl g hg x hx
          · rw [List.mem_singleton.mp hx, ← hg p hp]; exact h.gl g hg _ h1
      · have h2 : p.2 ∈ S := Classical.byContradiction fun z => e (by simp [h1, z])
        rw [if_neg h1]
        refine ⟨List.mem_append_left _ h.has, ?_, fun x hx => ?_, fun g hg x hx => ?_⟩
        · rw [List.nodup_append]
          exact ⟨h.nd, by simp, fun a ha b hb z => h1 (by rw [List.mem_singleton.mp hb] at z; rwa [z] at ha)⟩
        · rcases List.mem_append.mp hx with hx | hx
          · exact h.lt x hx
          · rw [List.mem_singleton.mp hx]; exact hn.1
        · rcases List.mem_append.mp hx with hx | hx
          · exact h.gl g hg x hx
          · rw [List.mem_singleton.mp hx, hg p hp]; exact h.gl g hg _ h2
def comes (ps : List (Nat × Nat)) : Nat → List Nat → List Nat
  | 0, S => S
  | k + 1, S => come ps (comes ps k S)
theorem nodup_le : ∀ {n : Nat} {S : List Nat}, S.Nodup → (∀ x ∈ S, x < n) → S.length ≤ n := by
  intro n
  induction n with
  | zero =>
    intro S _ hlt
    cases S with
    | nil => simp
    | cons x r => exact absurd (hlt x List.mem_cons_self) (by omega)
  | succ n ih =>
    intro S hnd hlt
    have := ih (S := S.erase n) (hnd.erase n) fun x hx => by
      have h1 := hlt x (List.mem_of_mem_erase hx)
      have h2 : x ≠ n := ((List.Nodup.mem_erase_iff hnd).mp hx).1
      omega
    rw [List.length_erase] at this
    split at this <;> omega
theorem comes_ok {n v : Nat} {ps : List (Nat × Nat)} (hv : v < n) (hq : ∀ p ∈ ps, p.1 < n ∧ p.2 < n) : ∀ k, Come n v ps (comes ps k [v]) ∧ (Closed ps (comes ps k [v]) ∨ k + 1 ≤ (comes ps k [v]).length)
  | 0 => ⟨⟨List.mem_singleton.mpr rfl, by simp [comes], fun x hx => by rw [List.mem_singleton.mp hx]; exact hv, fun g _ x hx => by rw [List.mem_singleton.mp hx]⟩, .inr (by simp [comes])⟩
  | k + 1 => by
    obtain ⟨h1, h2⟩ := comes_ok hv hq k
    refine ⟨come_keeps hq (fun p hp => hp) h1, ?_⟩
    simp only [comes]
    rcases h2 with h2 | h2
    · rw [come_closed h2]
      exact .inl h2
    · obtain ⟨g1, g2, g3⟩ := come_grow (ps := ps) (S := comes ps k [v])
      by_cases e : (come ps (comes ps k [v])).length = (comes ps k [v]).length
      · have := g3 e
        rw [come_closed this]
        exact .inl this
      · exact .inr (by omega)
theorem comes_closed {n v : Nat} {ps : List (Nat × Nat)} (hv : v < n) (hq : ∀ p ∈ ps, p.1 < n ∧ p.2 < n) : Closed ps (comes ps n [v]) := by
  obtain ⟨h1, h2⟩ := comes_ok hv hq n
  rcases h2 with h2 | h2
  · exact h2
  · have := nodup_le h1.nd h1.lt
    omega
def least (S : List Nat) : Nat := match S with
  | [] => 0
  | x :: r => r.foldl min x
theorem foldl_min : ∀ {r : List Nat} {x : Nat}, (r.foldl min x ∈ x :: r) ∧ ∀ y ∈ x :: r, r.foldl min x ≤ y
  | [], x => ⟨List.mem_singleton.mpr rfl, fun y hy => by rw [List.mem_singleton.mp hy] <;> exact Nat.le_refl _⟩
  | z :: r, x => by
    obtain ⟨h1, h2⟩ := foldl_min (r := r) (x := min x z)
    simp only [List.foldl_cons]
    constructor
    · rcases List.mem_cons.mp h1 with h | h
      · rw [h]
        rcases Nat.le_total x z with q | q
        · rw [Nat.min_eq_left q]; exact List.mem_cons_self
        · rw [Nat.min_eq_right q]; exact List.mem_cons_of_mem _ List.mem_cons_self
      · exact List.mem_cons_of_mem _ (List.mem_cons_of_mem _ h)
    · intro y hy
      have h3 := h2 (min x z) List.mem_cons_self
      rcases List.mem_cons.mp hy with rfl | hy
      · omega
      · rcases List.mem_cons.mp hy with rfl | hy
        · omega
        · exact h2 y (List.mem_cons_of_mem _ hy)
theorem least_ok {S : List Nat} {v : Nat} (h : v ∈ S) : least S ∈ S ∧ ∀ y ∈ S, least S ≤ y := by
  cases S with
  | nil => simp at h
  | cons x r => exact foldl_min
/-- the law's own -/
def hangL (n : Nat) (ps : List (Nat × Nat)) : List Nat := (List.range n).map fun v => least (comes ps n [v])
theorem hangL_ok {n : Nat} {ps : List (Nat × Nat)} (hq : ∀ p ∈ ps, p.1 < n ∧ p.2 < n) : Hang n ps (hangL n ps) := by
  have at_ : ∀ v, v < n → lb (hangL n ps) v = least (comes ps n [v]) := fun v hv => by
    rw [hangL, lb_map (by simpa using hv), lb_at (by simpa using hv)]
    simp
  have sub : ∀ a b, a < n → b < n → decide (a ∈ comes ps n [b]) = true → ∀ x ∈ comes ps n [a], x ∈ comes ps n [b] := fun a b ha hb h x hx => by
    have h1 := (comes_ok ha hq n).1
    have h2 := h1.gl (fun y => if y ∈ comes ps n [b] then 1 else 0) (fun p hp => by
      have := comes_closed hb hq p hp
      by_cases z : p.1 ∈ comes ps n [b] <;> by_cases z2 : p.2 ∈ comes ps n [b] <;> simp [z, z2] at this ⊢) x hx
    have h3 : a ∈ comes ps n [b] := by simpa using h
    rw [if_pos h3] at h2
    exact Classical.byContradiction fun z => by rw [if_neg z] at h2; cases h2
  refine ⟨by simp [hangL], fun v hv => ?_, fun p hp => ?_, fun g hg v hv => ?_⟩
  · rw [at_ v hv]
    have h1 := (comes_ok hv hq n).1.has
    exact (least_ok h1).2 v h1
  · obtain ⟨ha, hb⟩ := hq p hp
    rw [at_ _ ha, at_ _ hb]
    have h1 := (comes_ok ha hq n).1.has
    have h2 := (comes_ok hb hq n).1.has
    have c1 := comes_closed ha hq p hp
    have c2 := comes_closed hb hq p hp
    have s1 := sub _ _ ha hb (by rw [c2]; simpa using h2)
    have s2 := sub _ _ hb ha (by rw [← c1]; simpa using h1)
    have l1 := least_ok h1
    have l2 := least_ok h2
    have a1 := l1.2 _ (s2 _ l2.1)
    have a2 := l2.2 _ (s1 _ l1.1)
    omega
  · rw [at_ v hv]
    have h1 := (comes_ok hv hq n).1
    exact h1.gl g hg _ (least_ok h1.has).1
/-! groups by first sight -/
def addG (x : Int) (k : Nat) : List (Int × List Nat) → List (Int × List Nat)
  | [] => [(x, [k])]
  | (y, l) :: r => if y = x then (y, l ++ [k]) :: r else (y, l) :: addG x k r
def at0 (l : List Int) (k : Nat) : Int := l.getD k 0
def places (l : List Int) (x : Int) : List Nat := (List.range l.length).filter fun k => at0 l k == x
def grpOf (l : List Int) : List (Int × List Nat) := (once l).map fun x => (x, places l x)
theorem once_nodup (l : List Int) : (once l).Nodup := by
  refine snocInd (P := fun l => (once l).Nodup) (by simp [once]) (fun l x ih => ?_) l
  rw [once_snoc]
  split
  · exact ih
  · rename_i h
    rw [List.nodup_append]
    exact ⟨ih, by simp, fun a ha b hb z => h (by rw [List.mem_singleton.mp hb] at z; rwa [z] at ha)⟩
theorem once_sub (l : List Int) : ∀ x ∈ once l, x ∈ l := by
  refine snocInd (P := fun l => ∀ x ∈ once l, x ∈ l) (by simp [once]) (fun l y ih => ?_) l
  intro x hx
  rw [once_snoc] at hx
  split at hx
  · exact List.mem_append_left _ (ih x hx)
  · rcases List.mem_append.mp hx with h | h
    · exact List.mem_append_left _ (ih x h)
    · exact List.mem_append_right _ h
theorem addG_map {x : Int} {k : Nat} {h : Int → List Nat} : ∀ {L : List Int}, L.Nodup → addG x k (L.map fun y => (y, h y)) = if x ∈ L then L.map (fun y => (y, if y = x then h y ++ [k] else h y)) else L.map (fun y => (y, h y)) ++ [(x, [k])]
  | [], _ => by simp [addG]
  | y :: L, hn => by
    rw [List.nodup_cons] at hn
    have ih := addG_map (x := x) (k := k) (h := h) hn.2
    by_cases e : y = x
    · subst e
      have : L.map (fun z => (z, if z = y then h z ++ [k] else h z)) = L.map fun z => (z, h z) := List.map_congr_left fun z hz => by
        have : z ≠ y := fun q => hn.1 (q ▸ hz)
        simp [this]
      simp [addG, this]
    · have e2 : ¬ x = y := fun z => e z.symm
      simp only [List.map_cons, addG, if_neg e, ih, List.mem_cons, e2, false_or]
      split <;> simp
theorem places_snoc {l : List Int} {x y : Int} : places (l ++ [x]) y = if y = x then places l y ++ [l.length] else places l y := by
  have : ∀ k ∈ List.range l.length, (at0 (l ++ [x]) k == y) = (at0 l k == y) := fun k hk => by
    have hk := List.mem_range.mp hk
    simp [at0, List.getElem?_append_left hk]
  have e2 : at0 (l ++ [x]) l.length = x := by simp [at0]
  simp only [places, List.length_append, List.length_singleton, List.range_succ, List.filter_append, List.filter_congr this]
  by_cases e : y = x
  · subst e
    simp [e2]
  · have : ¬ x = y := fun z => e z.symm
    simp [e2, e, this]
theorem places_none {l : List Int} {x : Int} (h : x ∉ l) : places l x = [] := by
  rw [places, List.filter_eq_nil_iff]
  intro k hk
  have hk := List.mem_range.mp hk
  simp [at0, hk]
  intro z
  exact h (z ▸ List.getElem_mem hk)
theorem grp_snoc {l : List Int} {x : Int} : grpOf (l ++ [x]) = addG x l.length (grpOf l) := by
  rw [grpOf, grpOf, addG_map (once_nodup l), once_snoc]
  split
  · exact List.map_congr_left fun y hy => by rw [places_snoc]
  · rename_i h
    have hx : x ∉ l := fun z => h (mem_once x z)
    rw [List.map_append, List.map_singleton, places_snoc, if_pos rfl, places_none hx, List.nil_append]
    congr 1
    exact List.map_congr_left fun y hy => by
      have : y ≠ x := fun z => h (z ▸ hy)
      rw [places_snoc, if_neg this]
theorem posI_at {L : List Int} (hn : L.Nodup) {p : Nat} {x : Int} (h : L[p]? = some x) : posI x L = p := by
  obtain ⟨hp, e⟩ := List.getElem?_eq_some_iff.mp h
  have hx : x ∈ L := List.mem_of_getElem? h
  obtain ⟨h1, h2⟩ := findI_mem hx
  have h3 := List.findIdx?_eq_some_iff_getElem.mp h1
  obtain ⟨h4, h5, h6⟩ := h3
  have h7 : L[posI x L] = L[p] := by rw [e]; simpa using h5
  rw [List.nodup_iff_pairwise_ne, List.pairwise_iff_getElem] at hn
  rcases Nat.lt_trichotomy (posI x L) p with z | z | z
  · exact absurd h7 (hn _ _ h2 hp z)
  · exact z
  · exact absurd h7.symm (hn _ _ hp h2 z)
theorem posI_getE {L : List Int} {x : Int} (h : x ∈ L) : L[posI x L]? = some x := by
  obtain ⟨h1, h2⟩ := findI_mem h
  obtain ⟨h4, h5, h6⟩ := List.findIdx?_eq_some_iff_getElem.mp h1
  rw [List.getElem?_eq_getElem h2]
  have : L[posI x L] = x := by simpa using h5
  rw [this]
theorem grp_parts {l : List Int} : (grpOf l).map (·.2) = riftOf (l.map fun x => posI x (once l)) (once l).length := by
  rw [riftOf_eq, grpOf, List.map_map]
  apply List.ext_getElem
  · simp
  · intro p h1 h2
    simp only [List.length_map] at h1
    simp only [List.getElem_map, List.getElem_range, Function.comp]
    show places l (once l)[p] = _
    rw [places, part, List.length_map]
    refine List.filter_congr fun k hk => ?_
    have hk := List.mem_range.mp hk
    have e1 : at0 l k = l[k] := by simp [at0, hk]
    have e2 : lb (l.map fun x => posI x (once l)) k = posI l[k] (once l) := by rw [lb_at (by simpa using hk)]; simp
    rw [e1, e2, Bool.eq_iff_iff, beq_iff_eq, beq_iff_eq]
    constructor
    · intro h
      rw [h]
      exact posI_at (once_nodup l) (List.getElem?_eq_getElem h1)
    · intro h
      have := posI_getE (mem_once l[k] (List.getElem_mem hk))
      rw [h, List.getElem?_eq_getElem h1] at this
      exact (Option.some.inj this).symm
/-- parts by first places are in order -/
theorem rift_sorted {ls : List Nat} {m : Nat} (h : Rgs ls m) : ((riftOf ls m).map fun p => p.map fun k : Nat => (k : Int)).Pairwise (fun a b => leL a b = true) := by
  rw [riftOf_eq, List.map_map, List.pairwise_map]
  refine List.Pairwise.imp_of_mem ?_ List.pairwise_lt_range
  intro p q hp hq hpq
  have hp := List.mem_range.mp hp
  have hq := List.mem_range.mp hq
  simp only [Function.comp]
  have hne : ∀ j, j < m → ∃ a r, part ls j = a :: r := fun j hj => by
    obtain ⟨i, h1, h2⟩ := h.occ j hj
    have : i ∈ part ls j := mem_part.mpr ⟨h1, h2⟩
    cases e : part ls j with
    | nil => rw [e] at this; simp at this
    | cons a r => exact ⟨a, r, rfl⟩
  obtain ⟨a, r, ea⟩ := hne p hp
  obtain ⟨b, s, eb⟩ := hne q hq
  have hb : b ∈ part ls q := by rw [eb]; exact List.mem_cons_self
  obtain ⟨hb1, hb2⟩ := mem_part.mp hb
  obtain ⟨i, hi, ei⟩ := h.earlier b hb1 p (by omega)
  have hi2 : i ∈ part ls p := mem_part.mpr ⟨by omega, ei⟩
  have := head_least (part_lt (ls := ls) (p := p)) (a := a) (by rw [ea]; rfl) i hi2
  rw [ea, eb]
  simp only [List.map_cons, leL]
  rw [if_neg (by omega)]
  exact decide_eq_true (by omega)
theorem part_ne {ls : List Nat} {m : Nat} (h : Rgs ls m) : ∀ p ∈ riftOf ls m, p ≠ [] := by
  intro p hp
  rw [riftOf_eq] at hp
  obtain ⟨j, hj, rfl⟩ := List.mem_map.mp hp
  obtain ⟨i, h1, h2⟩ := h.occ j (List.mem_range.mp hj)
  have : i ∈ part ls j := mem_part.mpr ⟨h1, h2⟩
  intro e
  rw [e] at this
  simp at this
end K00
end

section
namespace K00
open PySem TW
variable {n k : Nat} {m : D}
def intsN (l : List Nat) : List Int := l.map fun k : Nat => (k : Int)
theorem intsN_D {l : List Nat} : (intsN l).map D.int = l.map fun k : Nat => D.int k := by simp [intsN]
def grpK (gs : List (Int × List Nat)) : List (Key × D) := gs.map fun q => (.inl q.1, .lst true (q.2.map fun k : Nat => .int k))
theorem grp_put {x : Int} {k : Nat} : ∀ (gs : List (Int × List Nat)), ∃ xs : List D, xs.length ≤ (gs.map fun q => q.2.length).sum ∧ ((lookK (.inl x) (grpK gs) = none ∧ xs = []) ∨ lookK (.inl x) (grpK gs) = some (.lst true xs)) ∧ putKD (.inl x) (.lst true (xs ++ [.int k])) (grpK gs) = grpK (addG x k gs)
  | [] => ⟨[], by simp, .inl ⟨rfl, rfl⟩, by simp [grpK, putKD, addG]⟩
  | (y, l) :: gs => by
    by_cases e : y = x
    · subst e
      exact ⟨l.map fun k : Nat => .int k, by simp, .inr (by simp [grpK, lookK]), by simp [grpK, putKD, addG]⟩
    · obtain ⟨xs, h0, h1, h2⟩ := grp_put (x := x) (k := k) gs
      refine ⟨xs, by simp; omega, ?_, ?_⟩
      · simpa [grpK, lookK, e] using h1
      · simp only [grpK] at h2
        simp [grpK, putKD, addG, e, h2]
theorem grp_len {x : Int} {k : Nat} : ∀ {gs : List (Int × List Nat)}, ((addG x k gs).map fun q => q.2.length).sum = (gs.map fun q => q.2.length).sum + 1 ∧ (addG x k gs).length ≤ gs.length + 1
  | [] => by simp [addG]
  | (y, l) :: gs => by
    have := grp_len (x := x) (k := k) (gs := gs)
    by_cases e : y = x
    · simp [addG, e]; omega
    · simp [addG, e]; omega
theorem shareK_map {α : Type} {f : α → Key × D} : ∀ {l : List α}, shareK (l.map f) = l.map fun x => ((f x).1, (f x).2.share)
  | [] => rfl
  | x :: l => by simp [shareK, shareK_map]
theorem tupsD_ok : ∀ {ts : List (List Int)}, tupsD (ts.map fun t => .tup (t.map .int)) = some ts
  | [] => rfl
  | t :: ts => by simp [tupsD, tupsD_ok]
theorem sorted_tups {ts : List (List Int)} {o : Bool} (h : ∀ t ∈ ts, t ≠ []) (hp : ts.Pairwise (fun a b => leL a b = true)) : B1.run .sorted (.lst o (ts.map fun t => .tup (t.map .int))) = some (.lst true (ts.map fun t => .tup (t.map .int))) := by
  cases ts with
  | nil => rfl
  | cons t ts =>
    have h2 : (t :: ts).all (fun t => !t.isEmpty) = true := by
      rw [List.all_eq_true]
      intro x hx
      have := h x hx
      cases x <;> simp_all
    have h3 := tupsD_ok (ts := t :: ts)
    simp only [List.map_cons] at h3
    simp only [B1.run, D.sorted, List.map_cons, intsD, h3, h2, if_true, sortT_of hp]
theorem sorted_parts {ls : List Nat} {m : Nat} {o : Bool} (h : Rgs ls m) : B1.run .sorted (.lst o ((riftOf ls m).map partD)) = some (.lst true ((riftOf ls m).map partD)) := by
  have e : (riftOf ls m).map partD = ((riftOf ls m).map fun p => p.map fun k : Nat => (k : Int)).map fun t => .tup (t.map .int) := by simp [partD]
  rw [e]
  exact sorted_tups (fun t ht => by
      obtain ⟨p, hp, rfl⟩ := List.mem_map.mp ht
      have := part_ne h p hp
      simpa using this) (rift_sorted h)
def pairD (p : Nat × Nat) : D := .tup [.int p.1, .int p.2]
theorem rift_by_ok {l : List Int} (h1 : l.length ≤ 16) : rn (n + 1) "rift_by" [.lst false (l.map .int)] = .ok (riftD (riftOf (l.map fun x => posI x (once l)) (once l).length)) [.lst false (l.map .int)] := by
  rw [rn, run_def t_rift_by rfl]
  simp [b_rift_by, startD]
  rw [enumD_map]
  refine for_go (Q := fun r => TW.finish _ (RS.seq r _) = _) (fun j ρ => ∃ a b, ρ = [some (.lst false (l.map .int)), some (.dic true (grpK (grpOf (l.take j)))), a, b, none] ∧ ((grpOf (l.take j)).map fun q => q.2.length).sum ≤ j ∧ (grpOf (l.take j)).length ≤ j ∧ (∀ d, b = some d → d.own = false)) ⟨none, none, by simp [grpOf, once, grpK], by simp [grpOf, once], by simp [grpOf, once], by simp⟩ (fun j q hq ρ ⟨a, b, e, hs, hl, hb⟩ => ?_) (fun ρ ⟨a, b, e, hs, hl, hb⟩ => ?_)
  · subst e
    obtain ⟨hx, hq2⟩ := zipIdx_at.mp hq
    have hj : j < l.length := (List.getElem?_eq_some_iff.mp hx).1
    have e3 : l.take (j + 1) = l.take j ++ [q.1] := by rw [List.take_succ, hx]; rfl
    have e4 : (l.take j).length = j := by rw [List.length_take]; omega
    have hg : grpOf (l.take (j + 1)) = addG q.1 j (grpOf (l.take j)) := by rw [e3, grp_snoc, e4]
    obtain ⟨xs, x0, x1, x2⟩ := grp_put (x := q.1) (k := j) (grpOf (l.take j))
    have gl := grp_len (x := q.1) (k := j) (gs := grpOf (l.take j))
    have hk : (grpK (grpOf (l.take j))).length < LINE := by rw [line_val, grpK, List.length_map]; omega
    have hq2 : q.2 = j := by omega
    have := ev_sda (g := Gg n []) (ρ := [some (.lst false (l.map .int)), some (.dic true (grpK (grpOf (l.take j)))), some (.int j), some (.int q.1), none]) (ρ2 := [some (.lst false (l.map .int)), some (.dic true (grpK (grpOf (l.take j)))), some (.int j), some (.int q.1), none]) (kd := .int q.1) (j := .inl q.1) (i := 1) (k := .rd (.var 3)) (x := .rd (.var 2)) (d := .int j) (by simp) (by rfl) (by simp) (by simp) hk x1 (by rw [line_val]; omega) (fun v => by simp)
    rw [x2, ← hg] at this
    have r1 : ((grpOf (l.take (j + 1))).map fun q => q.2.length).sum ≤ j + 1 := by rw [hg]; omega
    have r2 : (grpOf (l.take (j + 1))).length ≤ j + 1 := by rw [hg]; omega
    simp [forT, f1_rift_by, hq2, this]
    exact ⟨_, _, ⟨rfl, rfl⟩, r1, r2, by simp⟩
  · subst e
    have e1 : l.take l.length = l := List.take_length
    rw [List.length_zipIdx, e1] at hs hl ⊢
    have e2 : (shareK (grpK (grpOf l))).map (·.2) = (grpOf l).map fun q => .lst false (q.2.map fun k : Nat => .int k) := by
      rw [grpK, shareK_map, List.map_map]
      refine List.map_congr_left fun q _ => ?_
      have : ownL (q.2.map fun k : Nat => D.int k) = false := ownL_map fun _ => rfl
      simp [this]
    simp
    rw [e2, lc_all0 (grpOf l) _ (fun q => .tup (q.2.map fun k : Nat => .int k))]
    rotate_left
    · simp
    · rw [line_val]; omega
    · intro q hq
      have : ownL (q.2.map fun k : Nat => D.int k) = false := ownL_map fun _ => rfl
      simp [lcT, lcTn, e1_rift_by, this]
    have e3 : ((grpOf l).map fun q => D.tup (q.2.map fun k : Nat => .int k)) = (riftOf (l.map fun x => posI x (once l)) (once l).length).map partD := by
      rw [← grp_parts]
      simp [partD]
    rw [e3]
    have e5 := sorted_parts (o := true) (first_rgs l)
    generalize riftOf (l.map fun x => posI x (once l)) (once l).length = rs at e5
    have e6 : ownL (rs.map partD) = false := ownL_map fun _ => own_partD
    simp [e5, e6, riftD]
/-! what hangs together, walked -/
theorem range_int {a : Nat} : rangeD 0 a = (List.range a).map fun k : Nat => .int k := rangeD_0
theorem lb_getD {F : List Nat} {v : Nat} (h : v < F.length) : F[v]? = some (lb F v) := by rw [List.getElem?_eq_getElem h, lb_at h]
theorem at_nats {F : List Nat} {o : Bool} {v : Nat} (h : v < F.length) : D.at_ (.lst o (F.map fun k : Nat => .int k)) (.int (v : Int)) = some (.int (lb F v)) := by
  simp [h, lb_at h]
theorem hanging_ok {w : Nat} {ps : List (Nat × Nat)} (hw : w ≤ 16) (hps : ∀ p ∈ ps, p.1 < w ∧ p.2 < w) : ∃ F, Hang w ps F ∧ rn (n + 1) "hanging" [.int w, .lst false (ps.map pairD)] = .ok (.lst true (F.map fun k : Nat => .int k)) [.int w, .lst false (ps.map pairD)] := by
  have ho : ownL (ps.map pairD) = false := ownL_map fun _ => by simp [pairD]
  have c1 : decide (-(LINE : Int) ≤ (w : Int)) = true := by rw [line_val]; exact decide_eq_true (by omega)
  have key : ∃ ρ', forR (Gg n []) (.t (.cons (.v 3) (.cons (.v 4) .nil))) f1_hanging (.ok (ps.map pairD) [] [some (.int w), some (.lst false (ps.map pairD)), some (.lst true ((List.range w).map fun k : Nat => .int k)), none, none, none, none, none]) = .ok .nx ρ' ∧
      ∃ F a b c d, Hang w (ps.take ps.length) F ∧ ρ' = [some (.int w), some (.lst false (ps.map pairD)), some (.lst true (F.map fun k : Nat => .int k)), a, b, c, d, none] :=
    for_ex (fun j ρ => ∃ F a b c d, Hang w (ps.take j) F ∧ ρ = [some (.int w), some (.lst false (ps.map pairD)), some (.lst true (F.map fun k : Nat => .int k)), a, b, c, d, none]) ⟨_, _, _, _, _, by simpa using hang0, rfl⟩ (fun j p hp ρ ⟨F, a, b, c, d, hF, e⟩ => by
      subst e
      have e3 : ps.take (j + 1) = ps.take j ++ [p] := by rw [List.take_succ, hp]; rfl
      have hp2 := hps p (List.mem_of_getElem? hp)
      have hH := hang_snoc hF hp2.1 hp2.2 fun q hq => hps q (List.mem_of_mem_take hq)
      rw [← e3] at hH
      have l1 : p.1 < F.length := by rw [hF.len]; exact hp2.1
      have l2 : p.2 < F.length := by rw [hF.len]; exact hp2.2
      have a1 := at_nats (o := true) l1
      have a2 := at_nats (o := true) l2
      simp [forT, f1_hanging, pairD, a1, a2, sort2]
      have e5 : ∀ l : Nat, (if (l : Int) = max (lb F p.1 : Int) (lb F p.2 : Int) then min (lb F p.1 : Int) (lb F p.2 : Int) else (l : Int)) = ((if l = max (lb F p.1) (lb F p.2) then min (lb F p.1) (lb F p.2) else l : Nat) : Int) := fun l => by
        split <;> split <;> omega
      have c3 : F.length ≤ LINE := by rw [line_val, hF.len]; omega
      rw [lc_allH (ρ2 := [some (.int w), some (.lst false (ps.map pairD)), some (.lst true (F.map fun k : Nat => .int k)), some (.int p.1), some (.int p.2), some (.int (min (lb F p.1 : Int) (lb F p.2 : Int))), some (.int (max (lb F p.1 : Int) (lb F p.2 : Int))), none]) F (fun k : Nat => .int k) (fun l : Nat => .int ((if l = max (lb F p.1) (lb F p.2) then min (lb F p.1) (lb F p.2) else l : Nat) : Int))]
      rotate_left
      · simp
      · exact c3
      · intro l hl
        rw [← e5]
        simp [lcT, lcTn, e1_hanging]
        split <;> simp
      · simp
      simp
      exact ⟨_, hH, by simp [hang1]⟩)
  obtain ⟨ρ', e, F, a, b, c, d, hF, rfl⟩ := key
  rw [List.take_length] at hF
  refine ⟨F, hF, ?_⟩
  rw [rn, run_def t_hanging rfl]
  have c2 : (w : Int) ≤ 16777216 := by omega
  simp [b_hanging, startD, ho, rgD, line_val, e, rangeD_0, c2]
end K00
end

section
namespace K00
open PySem TW
variable {n k : Nat} {m : D}
def pos (cs : List Cab) : List (Nat × Nat) := (cs.filter fun c => decide (0 < c.s)).map fun c => (c.a, c.b)
theorem pos_lt {w : Web} (h : w.Ok) : ∀ p ∈ pos w.cabs, p.1 < w.many ∧ p.2 < w.many := by
  intro p hp
  obtain ⟨c, hc, rfl⟩ := List.mem_map.mp hp
  have h1 := (h.h4 c ((List.mem_filter.mp hc).1)).h1
  have h2 := (h.h4 c ((List.mem_filter.mp hc).1)).h2
  exact ⟨by simp; omega, h2⟩
theorem come_app {ps qs : List (Nat × Nat)} {S : List Nat} : come (ps ++ qs) S = come qs (come ps S) := by simp [come]
theorem come_len {ps : List (Nat × Nat)} {S : List Nat} : (come ps S).length ≤ S.length + ps.length := by
  induction ps generalizing S with
  | nil => simp [come_nil]
  | cons p ps ih =>
    rw [come_cons]
    refine Nat.le_trans ih ?_
    split <;> simp <;> omega
theorem pos_snoc {cs : List Cab} {c : Cab} : pos (cs ++ [c]) = if 0 < c.s then pos cs ++ [(c.a, c.b)] else pos cs := by
  by_cases h : 0 < c.s <;> simp [pos, h]
theorem least_D {S : List Nat} {o : Bool} {v : Nat} (h : v ∈ S) : B1.run .min (.lst o (S.map fun k : Nat => .int k)) = some (.int (least S)) := by
  have e : (S.map fun k : Nat => D.int k) = (S.map fun k : Nat => (k : Int)).map .int := by simp
  rw [e, b1_min]
  cases S with
  | nil => simp at h
  | cons x r =>
    have : ∀ (r : List Nat) (x : Nat), (r.map fun k : Nat => (k : Int)).foldl min (x : Int) = ((r.foldl min x : Nat) : Int) := by
      intro r
      induction r with
      | nil => intro x; rfl
      | cons y r ih =>
        intro x
        simp only [List.map_cons, List.foldl_cons]
        rw [← ih]
        congr 1
        omega
    simp [minI, least, this]
def hgT (w : Web) (x : Nat) : List Nat := (List.range x).map fun v => least (comes (pos w.cabs) w.many [v])
theorem hgT_succ {w : Web} {x : Nat} : hgT w (x + 1) = hgT w x ++ [least (comes (pos w.cabs) w.many [x])] := by simp [hgT, List.range_succ]
theorem hgT_len {w : Web} {x : Nat} : (hgT w x).length = x := by simp [hgT]
def natsD (l : List Nat) : List D := l.map fun k : Nat => .int k
theorem law_by_first_okT {l : List Int} (h : l.length ≤ 16) : rn (n + 1) "_law_by_first" [.lst true (l.map .int)] = .ok (labD (l.map fun x => posI x (once l))) [.lst true (l.map .int)] := by
  rw [rn, run_def t__law_by_first rfl]
  simp [b__law_by_first, startD]
  refine for_goH (Q := fun r => TW.finish _ (RS.seq r _) = _) (fun j ρ => ∃ a, ρ = [some .hole, some (.lst true ((once (l.take j)).map .int)), a] ∧ (once (l.take j)).length ≤ j ∧ (∀ d, a = some d → d.own = false)) ⟨none, rfl, by simp [once], by simp⟩ (fun j x hx ρ ⟨a, e, hl, ha⟩ => ?_) (fun ρ ⟨a, e, hl, ha⟩ => ?_)
  · subst e
    have hj : j < l.length := (List.getElem?_eq_some_iff.mp hx).1
    have e3 : l.take (j + 1) = l.take j ++ [x] := by rw [List.take_succ, hx]; rfl
    have e4 : D.isin (.int x) (.lst true ((once (l.take j)).map .int)) = some (decide (x ∈ once (l.take j))) := by
      have := isin_lstI (i := x) (o := true) (l := once (l.take j)) (f := id)
      simp only [id] at this
      rw [this]
      congr 1
      rw [Bool.eq_iff_iff]
      simp [List.any_eq_true]
    have e5 : (once (l.take j)).length < LINE := by rw [line_val]; omega
    rw [e3, once_snoc]
    by_cases hy : x ∈ once (l.take j)
    · simp [forT, f1__law_by_first, e4, hy]
      omega
    · simp [forT, f1__law_by_first, e4, hy, e5]
      omega
  · subst e
    have e1 : l.take l.length = l := List.take_length
    rw [e1]
    simp
    rw [lc_allH (ρ2 := [some (.lst true (l.map .int)), some (.lst true ((once l).map .int)), a]) l D.int (fun x => .int (posI x (once l)))]
    rotate_left
    · cases a with
      | none => simp
      | some d => simp [ha d rfl]
    · rw [line_val]; omega
    · intro x hx
      have hx2 := findI_mem (mem_once x hx)
      have e4 : D.index (.lst true ((once l).map .int)) (.int x) = some (.int (posI x (once l))) := by
        have h1 : ((once l).map D.int).all D.flat = true := by simp [D.flat]
        have h2 : (((once l).map D.int).findIdx? fun y => y.eqF (.int x)) = some (posI x (once l)) := by
          rw [List.findIdx?_map]
          exact hx2.1
        simp only [D.index, h1, Bool.and_true, h2]
        rfl
      simp [lcT, lcTn, e1__law_by_first, e4]
    · simp
    simp [labD]
theorem law_hanging_ok {w : Web} (h : w.Ok) : rn (n + 2) "_law_hanging" [webD w] = .ok (labD ((intsN (hangL w.many (pos w.cabs))).map fun x => posI x (once (intsN (hangL w.many (pos w.cabs)))))) [webD w] := by
  have h2 := h.h2
  have h3 := h.h3
  have hps := pos_lt h
  obtain ⟨c1, c2⟩ : (w.many : Int) ≤ (LINE : Int) ∧ -(LINE : Int) ≤ (w.many : Int) := by rw [line_val]; omega
  rw [rn, run_def t__law_hanging rfl]
  have hw0 : D.at_ (webD w) (.int 0) = some (.int w.many) := by simp [webD]
  have hw1 : D.at_ (webD w) (.int 1) = some (.tup (w.cabs.map cabD)) := by simp [webD]
  simp [b__law_hanging, startD, hw0, c1, c2]
  rw [rangeD_0]
  refine for_go (Q := fun r => TW.finish _ (RS.seq r _) = _) (fun j ρ => ∃ a b c d e f, ρ = [some (webD w), some (.lst true ((hgT w j).map fun k : Nat => .int k)), a, b, c, d, e, f]) ⟨_, _, _, _, _, _, rfl⟩ (fun j x hx ρ ⟨a, b, c, d, e, f, q⟩ => ?_) (fun ρ ⟨a, b, c, d, e, f, q⟩ => ?_)
  · subst q
    obtain ⟨hj, rfl⟩ : j < w.many ∧ x = j := by
      obtain ⟨h5, h6⟩ := List.getElem?_eq_some_iff.mp hx
      simp at h5 h6
      exact ⟨h5, h6.symm⟩
    have key : ∃ ρ', forR (Gg (n + 1) []) (.v 4) f2__law_hanging (.ok ((List.range w.many).map fun k : Nat => .int k) [] [some (webD w), some (.lst true ((hgT w x).map fun k : Nat => .int k)), some (.int x), some (.lst true [.int x]), c, d, e, f]) = .ok .nx ρ' ∧
        ∃ c d e f, ρ' = [some (webD w), some (.lst true ((hgT w x).map fun k : Nat => .int k)), some (.int x), some (.lst true ((comes (pos w.cabs) (List.range w.many).length [x]).map fun k : Nat => .int k)), c, d, e, f] :=
      for_ex (fun i ρ => ∃ c d e f, ρ = [some (webD w), some (.lst true ((hgT w x).map fun k : Nat => .int k)), some (.int x), some (.lst true ((comes (pos w.cabs) i [x]).map fun k : Nat => .int k)), c, d, e, f]) ⟨_, _, _, _, rfl⟩ (fun i y hy ρ ⟨c, d, e, f, q⟩ => by
        subst q
        obtain ⟨S, hS⟩ : ∃ S, S = comes (pos w.cabs) i [x] := ⟨_, rfl⟩
        have hlen : S.length ≤ 16 := by
          have := (comes_ok hj hps i).1
          rw [← hS] at this
          have := nodup_le this.nd this.lt
          omega
        rw [← hS]
        obtain ⟨G, hG⟩ : ∃ G, G = hgT w x := ⟨_, rfl⟩
        rw [← hG]
        have key2 : ∃ ρ', forR (Gg (n + 1) []) (.t (.cons (.v 5) (.cons (.v 6) (.cons (.v 7) .nil)))) f3__law_hanging (.ok (w.cabs.map cabD) [] [some (webD w), some (.lst true (G.map fun k : Nat => .int k)), some (.int x), some (.lst true (S.map fun k : Nat => .int k)), some (.int y), d, e, f]) = .ok .nx ρ' ∧
            ∃ d e f, ρ' = [some (webD w), some (.lst true (G.map fun k : Nat => .int k)), some (.int x), some (.lst true ((come (pos (w.cabs.take w.cabs.length)) S).map fun k : Nat => .int k)), some (.int y), d, e, f] :=
          for_ex (fun l ρ => ∃ d e f, ρ = [some (webD w), some (.lst true (G.map fun k : Nat => .int k)), some (.int x), some (.lst true ((come (pos (w.cabs.take l)) S).map fun k : Nat => .int k)), some (.int y), d, e, f]) ⟨_, _, _, rfl⟩ (fun l cb hcb ρ ⟨d, e, f, q⟩ => by
            subst q
            have e3 : w.cabs.take (l + 1) = w.cabs.take l ++ [cb] := by rw [List.take_succ, hcb]; rfl
            have hl : l < w.cabs.length := (List.getElem?_eq_some_iff.mp hcb).1
            obtain ⟨T, hT⟩ : ∃ T, T = come (pos (w.cabs.take l)) S := ⟨_, rfl⟩
            have hTl : T.length + 1 ≤ LINE := by
              have := come_len (ps := pos (w.cabs.take l)) (S := S)
              have q : (pos (w.cabs.take l)).length ≤ l := by
                rw [pos, List.length_map]
                exact Nat.le_trans (List.length_filter_le ..) (by simp; omega)
              rw [← hT] at this
              rw [line_val]; omega
            rw [e3, pos_snoc, ← hT]
            by_cases hs : 0 < cb.s
            · rw [if_pos hs, come_app, ← hT, come_cons, come_nil]
              by_cases ha : cb.a ∈ T <;> by_cases hb : cb.b ∈ T
              all_goals simp [forT, f3__law_hanging, cabD, hs, ha, hb, hTl]
            · rw [if_neg hs, ← hT]
              simp [forT, f3__law_hanging, cabD, hs])
        obtain ⟨ρ', e1, d', e', f', rfl⟩ := key2
        rw [List.take_length] at e1
        simp [forT, f2__law_hanging, hw1, e1, comes, ← hS])
    obtain ⟨ρ', e1, c', d', e', f', rfl⟩ := key
    rw [List.length_range] at e1
    have hm := least_D (o := true) (comes_ok hj hps w.many).1.has
    have hlt : x < LINE := by rw [line_val]; omega
    simp [forT, f1__law_hanging, hw0, c1, c2, rangeD_0, e1, hm, hlt, hgT_succ, hgT_len]
  · subst q
    have e1 : hgT w (List.range w.many).length = hangL w.many (pos w.cabs) := by rw [List.length_range]; rfl
    rw [e1]
    have e2 := law_by_first_okT (n := n) (l := intsN (hangL w.many (pos w.cabs))) (by simp [intsN, hangL]; omega)
    have e3 : (intsN (hangL w.many (pos w.cabs))).map D.int = (hangL w.many (pos w.cabs)).map fun k : Nat => .int k := intsN_D
    rw [e3] at e2
    have e4 : ownL ((hangL w.many (pos w.cabs)).map fun k : Nat => D.int k) = false := ownL_map fun _ => rfl
    simp [e2]
/-- the labels of what hangs together -/
def hangLab (w : Web) : List Nat := (intsN (hangL w.many (pos w.cabs))).map fun x => posI x (once (intsN (hangL w.many (pos w.cabs))))
def hangMany (w : Web) : Nat := (once (intsN (hangL w.many (pos w.cabs)))).length
theorem hang_rgs {w : Web} : Rgs (hangLab w) (hangMany w) := first_rgs _
theorem hangLab_len {w : Web} : (hangLab w).length = w.many := by simp [hangLab, intsN, hangL]
theorem parts_of_ok {w : Web} (h : w.Ok) : rn (n + 5) "parts_of" [webD w] = .ok (riftD (riftOf (hangLab w) (hangMany w))) [webD w] := by
  have h2 := h.h2
  have h3 := h.h3
  have hps := pos_lt h
  obtain ⟨F, hF, e⟩ := hanging_ok (n := n + 3) h2 hps
  have hw0 : D.at_ (webD w) (.int 0) = some (.int w.many) := by simp [webD]
  have hw1 : D.at_ (webD w) (.int 1) = some (.tup (w.cabs.map cabD)) := by simp [webD]
  have eF : F = hangL w.many (pos w.cabs) := hF.uniq (hangL_ok hps)
  subst eF
  rw [rn, run_def t_parts_of rfl]
  simp [b_parts_of, startD, need_web_ok h, hw0, hw1]
  rw [lc_some0 w.cabs cabD (fun c => decide (0 < c.s)) (fun c => pairD (c.a, c.b))]
  rotate_left
  · simp
  · rw [line_val]; omega
  · intro c hc
    simp [lcT, lcTn, e1_parts_of, c1_parts_of, cabD, pairD]
    split <;> simp
  have e2 : (w.cabs.filter fun c => decide (0 < c.s)).map (fun c => pairD (c.a, c.b)) = (pos w.cabs).map pairD := by simp [pos]
  have e3 : ownL ((pos w.cabs).map pairD) = false := ownL_map fun _ => by simp [pairD]
  have e4 := rift_by_ok (n := n + 3) (l := intsN (hangL w.many (pos w.cabs))) (by simp [intsN, hangL]; omega)
  rw [intsN_D] at e4
  have e5 : ownL ((hangL w.many (pos w.cabs)).map fun k : Nat => D.int k) = false := ownL_map fun _ => rfl
  simp [e2, e3, e, e4, e5]
  rfl
/-! strength otherwise -/
theorem cab_at {w : Web} {j : Nat} {c : Cab} (h : w.cabs[j]? = some c) : ((D.at_ (webD w) (.int 1)).bind fun d => D.at_ d (.int j)) = some (cabD c) := by
  obtain ⟨h1, h2⟩ := List.getElem?_eq_some_iff.mp h
  have : D.at_ (webD w) (.int 1) = some (.tup (w.cabs.map cabD)) := by simp [webD]
  simp [this, h1, h2]
def webWith (w : Web) (j : Nat) (c : Cab) : Web := ⟨w.many, w.cabs.take j ++ [c] ++ w.cabs.drop (j + 1)⟩
theorem with_strength_ok {w : Web} {j : Nat} {c : Cab} {s : Int} (hw : w.Ok) (h : w.cabs[j]? = some c) : rn (n + 1) "with_strength" [webD w, .int j, .int s] = .ok (webD (webWith w j ⟨c.a, c.b, s⟩)) [webD w, .int j, .int s] := by
  have h3 := hw.h3
  obtain ⟨h1, h2⟩ := List.getElem?_eq_some_iff.mp h
  have hw0 : D.at_ (webD w) (.int 0) = some (.int w.many) := by simp [webD]
  have hw1 : D.at_ (webD w) (.int 1) = some (.tup (w.cabs.map cabD)) := by simp [webD]
  have e1 : cutD (w.cabs.map cabD) none (some (j : Int)) = (w.cabs.take j).map cabD := by rw [cut_to, List.map_take]
  have e2 : cutD (w.cabs.map cabD) (some ((j : Int) + 1)) none = (w.cabs.drop (j + 1)).map cabD := by
    have := cut_from (xs := w.cabs.map cabD) (k := j + 1)
    rw [List.map_drop, ← this]
    rfl
  have e3 : j ≤ w.cabs.length := by omega
  have c1 : j + 1 ≤ LINE := by rw [line_val]; omega
  have c2 : j + 1 + (w.cabs.length - (j + 1)) ≤ LINE := by rw [line_val]; omega
  rw [rn, run_def t_with_strength rfl]
  have hc : ∀ (g : G) (ts : Tgs) (ρ : Sl), asg g (.t ts) (cabD c) ρ = asgs g ts [.int c.a, .int c.b, .int c.s] ρ := fun _ _ _ => asg_t
  simp [b_with_strength, startD, hw0, hw1, h1, h2, hc, e1, e2, Nat.min_eq_left e3, c1, c2]
  have e4 : ownL (w.cabs.map cabD) = false := ownL_map fun _ => own_cabD
  simp [webD, webWith, cabD, e4]
theorem need_cable_numberD {w : Web} {j : Nat} (h : j < w.cabs.length) : rn (n + 3) "need_cable_number" [webD w, .int j] = .ok (.int j) [webD w, .int j] := by
  have hw1 : D.at_ (webD w) (.int 1) = some (.tup (w.cabs.map cabD)) := by simp [webD]
  have e1 : decide ((j : Int) ≤ (w.cabs.length : Int) - 1) = true := decide_eq_true (by omega)
  rw [rn, run_def t_need_cable_number rfl]
  simp [b_need_cable_number, startD, hw1, is_among_ok, e1]
theorem strengthened_ok {w : Web} {j : Nat} {c : Cab} {d : D} (hw : w.Ok) (h : w.cabs[j]? = some c) (hd : d.th = true) : rn (n + 5) "strengthened" [webD w, .int j, d] = match d with
    | .int s => if isAm d (-c.s) (10 ^ 30 - c.s) = true then .ok (webD (webWith w j ⟨c.a, c.b, c.s + s⟩)) [webD w, .int j, d] else .exc "BadNumber" d [webD w, .int j, d]
    | d => .exc "BadNumber" d [webD w, .int j, d] := by
  obtain ⟨h1, h2⟩ := List.getElem?_eq_some_iff.mp h
  have hw1 : D.at_ (webD w) (.int 1) = some (.tup (w.cabs.map cabD)) := by simp [webD]
  have hc2 : D.at_ (cabD c) (.int 2) = some (.int c.s) := by simp [cabD]
  have ho := th_own hd
  rw [rn, run_def t_strengthened rfl]
  have hn := need_cable_numberD (n := n + 1) (w := w) h1
  cases hf : isAm d (-c.s) (1000000000000000000000000000000 - c.s) with
  | true =>
    obtain ⟨s, rfl, s1, s2⟩ := isAm_iff.mp hf
    simp [b_strengthened, startD, need_web_ok hw, hn, hw1, h1, h2, hc2, is_amongD, s1, s2, with_strength_ok hw h]
  | false =>
    simp [b_strengthened, startD, need_web_ok hw, hn, hw1, h1, h2, hc2, is_amongD, hd, ho, th_exc hd, hf]
    cases d <;> simp_all
end K00
end

section
namespace K00
open PySem TW
variable {n k : Nat} {m : D}
theorem Lk.i {k : Nat} {i : Int} : Lk (k + 1) (.int i) := .inr (.inl ⟨i, rfl⟩)
theorem Lk.t {k : Nat} {xs : List D} (hl : xs.length ≤ 1000) (h : ∀ x ∈ xs, Lk k x) : Lk (k + 1) (.tup xs) := .inr (.inr (.inr ⟨xs, rfl, hl, h⟩))
theorem Lk.cab {k : Nat} {c : Cab} : Lk (k + 2) (cabD c) := Lk.t (by simp) fun x hx => by
  simp only [List.mem_cons, List.not_mem_nil, or_false] at hx
  rcases hx with rfl | rfl | rfl <;> exact Lk.i
theorem Lk.web {k : Nat} {w : Web} (h : w.cabs.length ≤ 1000) : Lk (k + 4) (webD w) := Lk.t (by simp) fun x hx => by
  simp only [List.mem_cons, List.not_mem_nil, or_false] at hx
  rcases hx with rfl | rfl
  · exact Lk.i
  · exact Lk.t (by simpa using h) fun x hx => by
      obtain ⟨c, _, rfl⟩ := List.mem_map.mp hx
      exact Lk.cab
theorem Lk.rift {k : Nat} {ps : List (List Nat)} (h : ps.length ≤ 1000) (h2 : ∀ p ∈ ps, p.length ≤ 1000) : Lk (k + 3) (riftD ps) := Lk.t (by simpa using h) fun x hx => by
  obtain ⟨p, hp, rfl⟩ := List.mem_map.mp hx
  exact Lk.t (by simpa using h2 p hp) fun x hx => by
    obtain ⟨c, _, rfl⟩ := List.mem_map.mp hx
    exact Lk.i
theorem webFault_none {d : D} (h : webFault d = none) : Lk 4 d := by
  unfold webFault at h
  repeat' split at h
  all_goals first | (cases h; done) | skip
  rename_i m hm cs hl hf
  refine Lk.t (by simp) fun x hx => ?_
  simp only [List.mem_cons, List.not_mem_nil, or_false] at hx
  rcases hx with rfl | rfl
  · exact Lk.i
  · refine Lk.t (by omega) fun c hc => ?_
    rw [List.findIdx?_eq_none_iff] at hf
    have := hf c hc
    simp only [Bool.not_eq_false'] at this
    unfold cabOk at this
    repeat' split at this
    all_goals first | (cases this; done) | skip
    · rename_i x y s x0
      simp only [Bool.and_eq_true] at this
      obtain ⟨h1, h2, h3⟩ := this
      obtain ⟨s, rfl, _⟩ := isAm_iff.mp h1
      obtain ⟨y, rfl, _⟩ := isAm_iff.mp h3
      refine Lk.t (by simp) fun z hz => ?_
      simp only [List.mem_cons, List.not_mem_nil, or_false] at hz
      rcases hz with rfl | rfl | rfl <;> exact Lk.i
    · simp at this
theorem webFault_ok {w : Web} (h : w.Ok) : webFault (webD w) = none := by
  have h1 := h.h1
  have h2 := h.h2
  have h3 := h.h3
  have e : (w.cabs.map cabD).findIdx? (fun c => !cabOk w.many c) = none := by
    rw [List.findIdx?_eq_none_iff]
    intro x hx
    obtain ⟨c, hc, rfl⟩ := List.mem_map.mp hx
    obtain ⟨a1, a2, a3, a4⟩ := h.h4 c hc
    simp [cabOk, cabD]
    omega
  simp only [webFault, webD, List.length_map, e]
  simp [h3]
  omega
@[simp] theorem th_cabD {c : Cab} : (cabD c).th = true := by simp [cabD]
theorem thL_cabs {l : List Cab} : thL (l.map cabD) = true := thL_map fun _ => th_cabD
@[simp] theorem th_webD {w : Web} : (webD w).th = true := by simp [webD, thL_cabs]
theorem judged_web {w : Web} (h : w.Ok) : rn (n + 5) "_law_judged" [webD w] = .ok (.tup [webD w]) [webD w] := by
  have := law_judgedD (n := n) (d := webD w) th_webD
  rw [webFault_ok h] at this
  exact this
theorem like_self {d : D} {k : Nat} (h : Lk k d) (hk : k ≤ n) : rn n "_law_like" [d, d] = .ok (.bl true) [d, d] := by
  have := law_like_ok (n := n - k) h
  rwa [Nat.sub_add_cancel hk] at this
theorem eqv_cabs0 {l : List Cab} : D.eqv (.tup (l.map cabD)) (.tup []) = some l.isEmpty := by
  rw [eqv_tup0 (k := 1) (fun x hx => by
    obtain ⟨c, _, rfl⟩ := List.mem_map.mp hx
    exact .tup fun y hy => by
      simp only [List.mem_cons, List.not_mem_nil, or_false] at hy
      rcases hy with rfl | rfl | rfl <;> exact .int) (by omega)]
  cases l <;> rfl
theorem webWith_like {w : Web} {j : Nat} {c : Cab} (h : w.Ok) : Lk 4 (webD (webWith w j c)) := Lk.web (k := 0) (by have := h.h3; simp [webWith]; omega)
theorem told_small {d : D} (h : d = .non ∨ (∃ b, d = .bl b) ∨ d = .str "1") : d.told = true := by
  rcases h with rfl | ⟨b, rfl⟩ | rfl
  · rfl
  · rfl
  · decide +kernel
theorem told_int {i : Int} (h : i.natAbs < 2 ^ 200) : D.told (.int i) = true := by
  have : decide (i.natAbs < 2 ^ 200) = true := decide_eq_true h
  simp only [D.told, D.plain, D.bulk, D.deep, this] <;> rfl
theorem strengths_right_ok {w : Web} (hm : M k m) (h : w.Ok) (hk : k < 2 ^ 80) : ∃ m', rn (n + 7) "_law_strengths_right" [m, webD w] = .ok (.bl true) [m', webD w] ∧ M (k + 2) m' := by
  have hw0 : D.at_ (webD w) (.int 0) = some (.int w.many) := by simp [webD]
  have hw1 : D.at_ (webD w) (.int 1) = some (.tup (w.cabs.map cabD)) := by simp [webD]
  have h3 := h.h3
  by_cases he : w.cabs = []
  · refine ⟨m, ?_, hm.mono (by omega)⟩
    have := eqv_cabs0 (l := w.cabs)
    rw [he] at this hw1
    rw [rn, run_def t__law_strengths_right rfl]
    simp at this
    simp [b__law_strengths_right, startD, hm.own, hm.exc, hw1, this]
  · have hpos : 0 < w.cabs.length := List.length_pos_iff.mpr he
    have hne : w.cabs.isEmpty = false := by simpa using he
    obtain ⟨j, m1, e1, h1, hj⟩ := law_next_nat (n := n + 5) hm hpos (by omega) (by omega)
    obtain ⟨r, m2, e2, h2, hr⟩ := law_next_nat (n := n + 5) (many := 9) h1 (by omega) (by omega) (by omega)
    have e2 : rn (n + 5 + 1) "_law_next" [m1, .int 9] = .ok (.int r) [m2, .int 9] := e2
    refine ⟨m2, ?_, h2.mono (by omega)⟩
    obtain ⟨c, hc⟩ : ∃ c, w.cabs[j]? = some c := ⟨_, List.getElem?_eq_getElem hj⟩
    obtain ⟨_, hcj⟩ := List.getElem?_eq_some_iff.mp hc
    have hcok := h.h4 c (List.mem_of_getElem? hc)
    have s0 := hcok.h3
    have s1 := hcok.h4
    have hcd : ∀ (g : G) (ts : Tgs) (ρ : Sl), asg g (.t ts) (cabD c) ρ = asgs g ts [.int c.a, .int c.b, .int c.s] ρ := fun _ _ _ => asg_t
    rw [rn, run_def t__law_strengths_right rfl]
    simp [b__law_strengths_right, startD, hm.own, hm.exc, h1.own, h1.exc, h1.hole, h2.own, h2.exc, h2.hole, hw1, eqv_cabs0, hne, e1, e2, hj, hcj, hcd]
    obtain ⟨ρ', e, a, b, b2, q⟩ := for_ex1 (g := Gn hd.tb.fn hd.g (n + 6) [0]) (t := .v 3) (b := f1__law_strengths_right) (ρ := [some m2, some (webD w), some (.int j), none, some (.int c.a), some (.int c.b), some (.int c.s), none, none, none])
      (xs := [D.int 0, D.int 1, D.int (-1), D.int (-c.s), D.int (-c.s - 1), D.int (1000000000000000000000000000000 - c.s), D.int (1000000000000000000000000000000 - c.s + 1), D.int ↑r, D.non, D.bl true, D.str (Str.ofString "1")])
      (fun _ ρ => ∃ a b b2, ρ = [some m2, some (webD w), some (.int j), a, some (.int c.a), some (.int c.b), some (.int c.s), b, none, b2]) ⟨_, _, _, rfl⟩ (fun i x hx ρ ⟨a, b, b2, q⟩ => by
        subst q
        have hx : (∃ s : Int, x = .int s ∧ s.natAbs < 2 ^ 200) ∨ x = .non ∨ x = .bl true ∨ x = .str "1" := by
          have := List.mem_of_getElem? hx
          simp only [List.mem_cons, List.not_mem_nil, or_false] at this
          rcases this with rfl | rfl | rfl | rfl | rfl | rfl | rfl | rfl | rfl | rfl | rfl
          all_goals first | (exact .inl ⟨_, rfl, by omega⟩) | simp
        have hth : x.th = true := by rcases hx with ⟨s, rfl, _⟩ | rfl | rfl | rfl <;> simp
        have htold : x.told = true := by
          rcases hx with ⟨s, rfl, hs⟩ | rfl | rfl | rfl
          · exact told_int hs
          · exact told_small (.inl rfl)
          · exact told_small (.inr (.inl ⟨_, rfl⟩))
          · exact told_small (.inr (.inr rfl))
        have ho := th_own hth
        have hst := strengthened_ok (n := n + 1) (d := x) h hc hth
        have hps : hd.g.ps "strengthened" = (["web", "number", "more"] : List Str) := by rfl
        cases hf : isAm x (-c.s) (1000000000000000000000000000000 - c.s) with
        | true =>
          obtain ⟨s, rfl, s1, s2⟩ := isAm_iff.mp hf
          simp at hst
          simp [s1, s2] at hst
          have hl := like_self (n := n + 6) (webWith_like (j := j) (c := ⟨c.a, c.b, c.s + s⟩) h) (by omega)
          have e1 : cutD (w.cabs.map cabD) none (some (j : Int)) = (w.cabs.take j).map cabD := by rw [cut_to, List.map_take]
          have e2 : cutD (w.cabs.map cabD) (some ((j : Int) + 1)) none = (w.cabs.drop (j + 1)).map cabD := by
            have := cut_from (xs := w.cabs.map cabD) (k := j + 1)
            rw [List.map_drop, ← this]
            rfl
          have e3 : j ≤ w.cabs.length := by omega
          have c1 : j + 1 ≤ LINE := by rw [line_val]; omega
          have c2 : j + 1 + (w.cabs.length - (j + 1)) ≤ LINE := by rw [line_val]; omega
          have e4 : ownL (w.cabs.map cabD) = false := ownL_map fun _ => own_cabD
          have hb : D.tup [.int w.many, .tup (List.take j (w.cabs.map cabD) ++ D.tup [.int c.a, .int c.b, .int (c.s + s)] :: List.drop (j + 1) (w.cabs.map cabD))] = webD (webWith w j ⟨c.a, c.b, c.s + s⟩) := by simp [webD, webWith, cabD]
          simp [forT, f1__law_strengths_right, law_is_wholeD, hth, s1, s2, hps, byName, reord, takeN, hst, hw0, hw1, e1, e2, Nat.min_eq_left e3, c1, c2, e4, hb, hl]
        | false =>
          have hst : rn (n + 6) "strengthened" [webD w, .int j, x] = .exc "BadNumber" x [webD w, .int j, x] := by
            cases x <;> simp_all
          simp [forT, f1__law_strengths_right, law_is_wholeD, hth, ho, th_exc hth, hf, hps, byName, reord, takeN, hst, b1_repr htold])
    subst q
    simp [e, hm.own, h2.own]
end K00
end

section
namespace K00
open PySem TW
variable {n k : Nat} {m : D}
def bads (places : Nat) : List D := [.non, .tup [.int 0, .int 0, .int 1], .tup [.int 1, .int 0, .int 1], .tup [.int 0, .int places, .int 1], .tup [.int (-1), .int 0, .int 1], .tup [.int 0, .int 1], .tup [.int 0, .int 1, .int 1, .int 1], .lst false [.int 0, .int 1, .int 1], .tup [.int 0, .int 1, .int (-1)], .str "cable",
  .tup [.int 0, .int 1, .int 1000000000000000000000000000000], .tup [.int 0, .int 1, .int 1000000000000000000000000000001], .tup [.bl true, .int 1, .int 1], .tup [.int 0, .bl true, .int 1], .tup [.int 0, .int 1, .bl true], .tup [.int 0, .int 1, .non]]
theorem law_of_th {xs : List D} (hm : M k m) (h0 : 0 < xs.length) (h1 : xs.length < 2 ^ 100) (ho : thL xs = true) (hk : k < 2 ^ 100) : ∃ (x : D) (m' : D), x.th = true ∧ rn (n + 2) "_law_of" [m, .lst false xs] = .ok x [m', .lst false xs] ∧ M (k + 1) m' := by
  obtain ⟨i, x, m', h2, h3, h4⟩ := law_of_ok (n := n) hm h0 h1 (thL_own ho) hk
  exact ⟨x, m', th_at ho h2, h3, h4⟩
theorem law_near_ok {w : Web} (hm : M k m) (h : w.Ok) (hk : k < 2 ^ 80) : ∃ x m', x.th = true ∧ rn (n + 3) "_law_near" [m, webD w] = .ok x [m', webD w] ∧ M (k + 10) m' := by
  have h3 := h.h3
  obtain ⟨cs, hcs⟩ : ∃ cs, cs = w.cabs.map cabD := ⟨_, rfl⟩
  have hl : cs.length = w.cabs.length := by rw [hcs, List.length_map]
  have tcs : thL cs = true := by rw [hcs]; exact thL_cabs
  have ocs := thL_own tcs
  have hwe : webD w = .tup [.int w.many, .tup cs] := by rw [webD, hcs]
  obtain ⟨j, m1, e1, h1, hj⟩ := law_next_nat (n := n + 1) (many := cs.length + 1) hm (by omega) (by omega) (by omega)
  have e1 : rn (n + 2) "_law_next" [m, .int ((cs.length : Int) + 1)] = .ok (.int j) [m1, .int ((cs.length : Int) + 1)] := e1
  obtain ⟨x1, m2, t2, e2, h2⟩ := law_of_th (n := n) (xs := bads w.many) h1 (by simp [bads]) (by simp [bads]) (by simp [bads]) (by omega)
  obtain ⟨x2, m3, t3, e3, h3'⟩ := law_of_th (n := n) (xs := bads w.many) h2 (by simp [bads]) (by simp [bads]) (by simp [bads]) (by omega)
  obtain ⟨x3, m4, t4, e4, h4⟩ := law_of_th (n := n) (xs := [.int 0, .int 1, .int 16, .int 17, .bl true, .non, .str "3", .int ((w.many : Int) - 1), .int ((w.many : Int) + 1)]) h3' (by simp) (by simp) (by simp) (by omega)
  have o2 := th_own t2
  have o3 := th_own t3
  have o4 := th_own t4
  have hb : bads w.many = bads w.many := rfl
  have ob : ownL (bads w.many) = false := by simp [bads]
  have hne : -(LINE : Int) ≤ 40 := by rw [line_val]; omega
  have d1 : cutD cs none (some (j : Int)) = cs.take j := cut_to
  have d2 : cutD cs (some (j : Int)) none = cs.drop j := cut_from
  have c1 : j + 1 ≤ LINE := by rw [line_val]; omega
  have c2 : j + 1 + (cs.length - j) ≤ LINE := by rw [line_val]; omega
  have c3 : j + 1 + 1 ≤ LINE := by rw [line_val]; omega
  have c4 : j + 1 + 1 + (cs.length - j) ≤ LINE := by rw [line_val]; omega
  have c5 : j ≤ cs.length := by omega
  have m7 : Bop.run .mul (.tup cs) (.int 7) = some (.tup (List.replicate 7 cs).flatten) := bop_mulT (by omega) (by omega) (by omega)
  have m40 : Bop.run .mul (.tup [.tup [.int 0, .int 1, .int 1]]) (.int 40) = some (.tup (List.replicate 40 [.tup [.int 0, .int 1, .int 1]]).flatten) := bop_mulT (by omega) (by omega) (by simp)
  have m41 : Bop.run .mul (.tup [.tup [.int 0, .int 1, .int 1]]) (.int 41) = some (.tup (List.replicate 41 [.tup [.int 0, .int 1, .int 1]]).flatten) := bop_mulT (by omega) (by omega) (by simp)
  obtain ⟨z7, hz7⟩ : ∃ z, z = (List.replicate 7 cs).flatten := ⟨_, rfl⟩
  obtain ⟨z40, hz40⟩ : ∃ z, z = (List.replicate 40 [D.tup [.int 0, .int 1, .int 1]]).flatten := ⟨_, rfl⟩
  obtain ⟨z41, hz41⟩ : ∃ z, z = (List.replicate 41 [D.tup [.int 0, .int 1, .int 1]]).flatten := ⟨_, rfl⟩
  have tz7 : thL z7 = true := by rw [hz7]; exact thL_rep tcs
  have tz40 : thL z40 = true := by rw [hz40]; exact thL_rep (by simp)
  have tz41 : thL z41 = true := by rw [hz41]; exact thL_rep (by simp)
  rw [← hz7] at m7
  rw [← hz40] at m40
  rw [← hz41] at m41
  have oz7 := thL_own tz7
  have oz40 := thL_own tz40
  have oz41 := thL_own tz41
  have t5 : thL (cs.take j ++ x1 :: cs.drop j) = true := by
    rw [thL_append, thL_cons, t2, thL_sub (fun x hx => List.mem_of_mem_take hx) tcs, thL_sub (fun x hx => List.mem_of_mem_drop hx) tcs] <;> rfl
  have t6 : thL (cs.take j ++ x2 :: .non :: cs.drop j) = true := by
    rw [thL_append, thL_cons, thL_cons, t3, thL_sub (fun x hx => List.mem_of_mem_take hx) tcs, thL_sub (fun x hx => List.mem_of_mem_drop hx) tcs] <;> simp
  obtain ⟨x, m5, t7, e5, h5⟩ := law_of_th (n := n) (xs := [.tup [.int w.many, .tup (cs.take j ++ x1 :: cs.drop j)], .tup [.int w.many, .tup (cs.take j ++ x2 :: .non :: cs.drop j)], .tup [x3, .tup cs], .tup [.int w.many, .lst false cs], .tup [.int w.many, .tup z7], .tup [.int w.many, .tup z40], .tup [.int w.many, .tup z41], .tup [.int w.many, .non],
    .lst false [.int w.many, .tup cs], .tup [.int w.many], .tup [.int w.many, .tup cs, .int 0], .non, .int 7, .dic false [], .tup [.tup cs, .int w.many], .tup [.int 0, .tup z41], .tup [.int w.many, .dic false []]]) h4 (by simp) (by simp) (by simp [t4, t5, t6, tz7, tz40, tz41, tcs]) (by omega)
  refine ⟨x, m5, t7, ?_, h5.mono (by omega)⟩
  have o7 := th_own t7
  rw [hwe, rn, run_def t__law_near rfl]
  simp only [bads] at e2 e3
  have wl : ∀ z : Nat, z ≤ 100 → z ≤ LINE := fun z hz => by rw [line_val]; omega
  simp [b__law_near, startD, hm.own, hm.exc, h1.own, h1.exc, h1.hole, h2.own, h2.exc, h2.hole, h3'.own, h3'.exc, h3'.hole, h4.own, h4.exc, h4.hole, h5.own, h5.exc, h5.hole, e1, ocs, e2, e3, e4, e5, d1, d2, o2, o3, o4, o7, c1, c2, c3, c4, Nat.min_eq_left c5, m7, m40, m41, oz7, oz40, oz41, wl, shareK_nil]
end K00
end

section
namespace K00
open PySem TW
variable {n k : Nat} {m : D}
theorem hangMany_le {w : Web} (h : w.Ok) : hangMany w ≤ 16 := by
  have h1 := (hang_rgs (w := w)).le
  rw [hangLab_len] at h1
  have := h.h2
  omega
theorem hang_ne {w : Web} (h : w.Ok) : 1 ≤ (hangLab w).length := by rw [hangLab_len]; exact h.h1
theorem rift_like {w : Web} (h : w.Ok) : Lk 3 (riftD (riftOf (hangLab w) (hangMany w))) := Lk.rift (k := 0) (by
    have := hangMany_le h
    simp [riftOf]; omega) fun p hp => by
  have := h.h2
  rw [riftOf_eq] at hp
  obtain ⟨j, _, rfl⟩ := List.mem_map.mp hp
  refine Nat.le_trans (List.length_filter_le ..) ?_
  rw [List.length_range, hangLab_len]
  omega
theorem told_fault {v : D} (h : v = .non ∨ v = .int 0 ∨ v = .int 1 ∨ ∃ k : Nat, k < 41 ∧ v = .tup [.int 1, .int k]) : D.told (.tup [.str "bad", v]) = true := by
  rcases h with rfl | rfl | rfl | ⟨k, hk, rfl⟩
  · decide +kernel
  · decide +kernel
  · decide +kernel
  · revert k
    decide +kernel
/-- one thing near a web -/
theorem turn2_ok {w : Web} {c : Nat} {a b d : Option D} {s tu : D} {tail : Option D} (hm : M k m) (h : w.Ok) (hk : k < 2 ^ 80) {y : D} (h1 : s.own = false) (h1' : ∀ d, a = some d → True) :
    RS.goes (forT (Gg (n + 10) []) (.v 5) f2_law y [some s, some m, some tu, none, some (webD w), a, b, d, none]) (fun ρ => ∃ m' a b d, M (k + 10) m' ∧ ρ = [some s, some m', some tu, none, some (webD w), a, b, d, none]) := by
  obtain ⟨x, m1, tx, e1, h2⟩ := law_near_ok (n := n + 7) hm h hk
  have e1 : rn (n + 10) "_law_near" [m, webD w] = .ok x [m1, webD w] := e1
  have e2 : rn (n + 10) "_law_fault" [x] = _ := law_faultD (n := n + 8) tx
  have e3 : rn (n + 10) "_law_judged" [x] = _ := law_judgedD (n := n + 5) tx
  have ox := th_own tx
  have ex := th_exc tx
  cases hf : webFault x with
  | none =>
    rw [hf] at e2 e3
    have hl : rn (n + 10) "_law_like" [.tup [x], .tup [x]] = _ := like_self (k := 5) (Lk.t (by simp) fun z hz => by rw [List.mem_singleton.mp hz]; exact webFault_none hf) (by omega)
    simp [forT, f2_law, hm.own, hm.exc, h2.own, h2.exc, h2.hole, e1, e2, e3, ox, ex, hl]
    exact h2
  | some v =>
    rw [hf] at e2 e3
    obtain ⟨v1, v2, v3⟩ := webFault_th hf
    have ht := told_fault v3
    simp [forT, f2_law, hm.own, hm.exc, h2.own, h2.exc, h2.hole, e1, e2, e3, ox, ex, v1, b1_repr ht]
    exact h2
theorem turn1_ok {w0 a b d : Option D} {s tu : D} (hm : M k m) (hk : k < 2 ^ 70) (h1 : s.own = false) {y : D} :
    RS.goes (forT (Gg (n + 10) []) (.v 2) f1_law y [some s, some m, some tu, none, w0, a, b, d, none]) (fun ρ => ∃ m' tu w0 a b d, M (k + 5000) m' ∧ ρ = [some s, some m', some tu, none, w0, a, b, d, none]) := by
  obtain ⟨w, m1, e1, h2, hw, _⟩ := law_some_web_ok (n := n + 5) (places := 9) hm (by omega) (by omega) (by omega)
  have e1 : rn (n + 10) "_law_some_web" [m, .int 9] = .ok (webD w) [m1, .int 9] := e1
  have e2 : rn (n + 10) "_law_judged" [webD w] = _ := judged_web (n := n + 5) hw
  have e3 : rn (n + 10) "parts_of" [webD w] = _ := parts_of_ok (n := n + 5) hw
  have e4 : rn (n + 10) "_law_hanging" [webD w] = _ := law_hanging_ok (n := n + 8) hw
  have e5 : rn (n + 10) "_law_rift" [labD (hangLab w)] = _ := law_rift_ok (n := n + 9) hang_rgs (hang_ne hw) (by rw [hangLab_len]; exact hw.h2)
  have e6 : rn (n + 10) "_law_like" [.tup [webD w], .tup [webD w]] = _ := like_self (k := 5) (Lk.t (by simp) fun z hz => by rw [List.mem_singleton.mp hz]; exact Lk.web (k := 0) (by have := hw.h3; omega)) (by omega)
  have e7 : rn (n + 10) "_law_like" [riftD (riftOf (hangLab w) (hangMany w)), riftD (riftOf (hangLab w) (hangMany w))] = _ := like_self (rift_like hw) (by omega)
  obtain ⟨m2, e8, h3⟩ := strengths_right_ok (n := n + 3) h2 hw (by omega)
  have e8 : rn (n + 10) "_law_strengths_right" [m1, webD w] = .ok (.bl true) [m2, webD w] := e8
  have hps : hd.g.ps "parts_of" = (["web"] : List Str) := by rfl
  have e4 : rn (n + 10) "_law_hanging" [webD w] = .ok (labD (hangLab w)) [webD w] := e4
  have c1 : (8 : Int) ≤ (LINE : Int) := by rw [line_val]; omega
  have c2 : -(LINE : Int) ≤ (8 : Int) := by rw [line_val]; omega
  simp [forT, f1_law, hm.own, hm.exc, h2.own, h2.exc, h2.hole, h3.own, h3.exc, h3.hole, e1, e2, e3, e4, e5, e6, e7, e8, hps, byName, reord, takeN, c1, c2]
  rw [rangeD_0]
  refine for_go (Q := fun r => RS.goes r _) (fun j ρ => ∃ m' tu a b d, M (k + 3002 + j * 10) m' ∧ ρ = [some s, some m', some tu, none, some (webD w), a, b, d, none]) ⟨_, _, _, _, _, h3, rfl⟩ (fun j x hx ρ ⟨m', tu, a, b, d, hm', q⟩ => ?_) (fun ρ ⟨m', tu, a, b, d, hm', q⟩ => ?_)
  · subst q
    have hj : j < 8 := by
      have := (List.getElem?_eq_some_iff.mp hx).1
      simpa using this
    obtain ⟨ρ', e, m'', a, b, d, h5, q⟩ := turn2_ok (n := n) (c := 0) (tail := none) (a := a) (b := b) (d := d) (s := s) (tu := tu) (y := .int x) hm' hw (by omega) h1 (fun _ _ => trivial)
    exact ⟨ρ', e, m'', tu, a, b, d, h5.mono (by omega), q⟩
  · subst q
    rw [List.length_range] at hm'
    simp
    exact hm'.mono (by omega)
def great : Web := ⟨16, (List.range 15).map (fun p => ⟨p, p + 1, 10 ^ 30⟩) ++ List.replicate 25 ⟨0, 15, 0⟩⟩
theorem great_ok : great.Ok := by
  refine ⟨by decide, by decide, by decide, fun c hc => ?_⟩
  rcases List.mem_append.mp hc with h | h
  · obtain ⟨p, hp, rfl⟩ := List.mem_map.mp h
    have hp := List.mem_range.mp hp
    exact ⟨by simp, by simp [great]; omega, by simp, by simp⟩
  · rw [List.eq_of_mem_replicate h]
    exact ⟨by simp, by simp [great], by simp, by simp⟩
theorem great_hang : riftOf (hangLab great) (hangMany great) = [List.range 16] := by decide +kernel
def tiny : Web := ⟨1, []⟩
theorem tiny_ok : tiny.Ok := ⟨by decide, by decide, by decide, fun c hc => by simp [tiny] at hc⟩
theorem tiny_hang : riftOf (hangLab tiny) (hangMany tiny) = [[0]] := by decide +kernel
theorem law_ok {ns : List Int} (h : ns.length ≤ 63) : ∃ ds, rn (n + 11) "law" [.scr ns] = .ok (.bl true) ds := by
  obtain ⟨m0, e0, h0⟩ := law_begun_ok (n := n + 9) h
  have e0 : rn (n + 10) "_law_begun" [.scr ns] = .ok m0 [.scr ns] := e0
  have c1 : (3 : Int) ≤ (LINE : Int) := by rw [line_val]; omega
  have c2 : -(LINE : Int) ≤ (3 : Int) := by rw [line_val]; omega
  have c3 : (15 : Int) ≤ (LINE : Int) := by rw [line_val]; omega
  have c4 : -(LINE : Int) ≤ (15 : Int) := by rw [line_val]; omega
  refine ⟨[.scr ns], ?_⟩
  rw [rn, run_def t_law rfl]
  simp [b_law, startD, e0, h0.own, h0.exc, c1, c2]
  rw [rangeD_0]
  refine for_go (Q := fun r => TW.finish _ (RS.seq r _) = _) (fun j ρ => ∃ m' tu w0 a b d, M (j * 5000) m' ∧ ρ = [some (.scr ns), some m', tu, none, w0, a, b, d, none]) ⟨m0, _, _, _, _, _, h0, rfl⟩ (fun j x hx ρ ⟨m', tu, w0, a, b, d, hm', q⟩ => ?_) (fun ρ ⟨m', tu, w0, a, b, d, hm', q⟩ => ?_)
  · subst q
    have hj : j < 3 := by
      have := (List.getElem?_eq_some_iff.mp hx).1
      simpa using this
    have : forT (Gg (n + 10) []) (.v 2) f1_law (.int x) [some (.scr ns), some m', tu, none, w0, a, b, d, none] = forT (Gg (n + 10) []) (.v 2) f1_law (.int x) [some (.scr ns), some m', some .non, none, w0, a, b, d, none] := by
      simp [forT]
    obtain ⟨ρ', e, m'', tu, w0, a, b, d, h5, q⟩ := turn1_ok (n := n) (w0 := w0) (a := a) (b := b) (d := d) (s := .scr ns) (tu := .non) (y := .int x) hm' (by omega) (by simp)
    rw [← this] at e
    exact ⟨ρ', e, m'', some tu, w0, a, b, d, h5.mono (by omega), q⟩
  · subst q
    simp [c3, c4]
    rw [rangeD_0, lc_all0 (List.range 15) (fun k : Nat => .int k) (fun p : Nat => cabD ⟨p, p + 1, 10 ^ 30⟩)]
    rotate_left
    · simp
    · simp [line_val]
    · intro p hp
      simp [lcT, lcTn, e1_law, cabD]
    have hmul : Bop.run .mul (.lst true [.tup [.int 0, .int 15, .int 0]]) (.int 25) = some (.lst true (List.replicate 25 [D.tup [.int 0, .int 15, .int 0]]).flatten) := bop_mulL (by simp) (by omega) (by omega) (by simp [line_val])
    have happ : ((List.range 15).map fun p => cabD ⟨p, p + 1, 10 ^ 30⟩) ++ (List.replicate 25 [D.tup [.int 0, .int 15, .int 0]]).flatten = great.cabs.map cabD := by rfl
    obtain ⟨A, hA⟩ : ∃ A, A = (List.range 15).map fun p => cabD ⟨p, p + 1, 10 ^ 30⟩ := ⟨_, rfl⟩
    obtain ⟨B, hB⟩ : ∃ B, B = (List.replicate 25 [D.tup [.int 0, .int 15, .int 0]]).flatten := ⟨_, rfl⟩
    have hAo : ownL A = false := by rw [hA]; exact ownL_map fun _ => own_cabD
    have hBo : ownL B = false := by rw [hB]; rfl
    have hAl : A.length + B.length ≤ LINE := by rw [hA, hB, line_val]; simp
    rw [← hA] at happ ⊢
    rw [← hB] at happ hmul
    have hadd : Bop.run .add (.lst true A) (.lst true B) = some (.lst true (great.cabs.map cabD)) := by rw [bop_addL hAo hBo hAl, happ]
    have hgo : ownL (great.cabs.map cabD) = false := ownL_map fun _ => own_cabD
    have hgr : D.tup [.int 16, .tup (great.cabs.map cabD)] = webD great := rfl
    have htr : D.tup [.int 1, .tup []] = webD tiny := rfl
    have hps : hd.g.ps "need_web" = (["web"] : List Str) := by rfl
    have e1 : rn (n + 10) "need_web" [webD great] = _ := need_web_ok (n := n + 6) great_ok
    have e2 : rn (n + 10) "_law_like" [webD great, webD great] = _ := like_self (Lk.web (k := 0) (by decide)) (by omega)
    have e3 : rn (n + 10) "parts_of" [webD great] = _ := parts_of_ok (n := n + 5) great_ok
    have e4 : rn (n + 10) "parts_of" [webD tiny] = _ := parts_of_ok (n := n + 5) tiny_ok
    rw [great_hang] at e3
    rw [tiny_hang] at e4
    have e5 : rn (n + 10) "_law_like" [riftD [List.range 16], riftD [List.range 16]] = _ := like_self (Lk.rift (k := 0) (by decide) (by decide)) (by omega)
    have e6 : rn (n + 10) "_law_like" [riftD [[0]], riftD [[0]]] = _ := like_self (Lk.rift (k := 0) (by decide) (by decide)) (by omega)
    have r1 : rgD true (.int 0) (.int 16) = some (partD (List.range 16)) := by
      simp [rgD, line_val, rangeD_0, partD]
    have r2 : D.tup [partD (List.range 16)] = riftD [List.range 16] := rfl
    have r3 : D.tup [.tup [.int 0]] = riftD [[0]] := rfl
    simp [hmul, hadd, hgo, hgr, htr, hps, byName, reord, takeN, e1, e2, e3, e4, r1, r2, r3, e5, e6]
end K00
end

section
set_option maxRecDepth 100000
set_option maxHeartbeats 0
namespace K00
open PySem TW
abbrev l : PySem.W.OpenLaw := PySem.Challenge.rw_tornwebs_k00_whole_webs
abbrev P : Program := PySem.Challenge.pw_tornwebs_k00_whole_webs
abbrev R : PySem.W.OpenRow := PySem.W.OpenLaw.row l
abbrev q : Program := PySem.W.view R.prog [lawAt]
abbrev hk : PySem.W.Hook := hd.hook P.main.file 6
def ob (s : PySem.W.SharedT) : AlH := hd.obsG P.main.file 6 (HandSHeadRun.getT s)
theorem ob_eq (s : PySem.W.SharedT) : ob s = hk.obs s.abs := HD.obsG_eq (HandSHeadRun.getT_eq s)
theorem run_ (w : World) : HandSHeadRun.RunEq R q hk ob 4000 names w := by
  intro os
  kernel_rfl
theorem ok0 (e : HErr) (h : e ∈ hd.ers) : e.Ok := by
  have h : e ∈ [_, _] := h
  simp only [List.mem_cons, List.not_mem_nil, or_false] at h
  rcases h with rfl | rfl <;>
  exact ⟨by decide +kernel, by decide +kernel, by decide +kernel, by decide +kernel, by decide +kernel, by decide +kernel, by decide +kernel, fun _ _ _ _ _ _ _ _ _ _ => rfl, fun env => ⟨_, rfl⟩⟩
theorem ok : hd.Ok P := ⟨by decide +kernel, by decide +kernel, rfl, by decide +kernel, by decide +kernel, by decide +kernel, ok0, by decide +kernel, by decide +kernel, by decide +kernel, by decide +kernel, by decide +kernel⟩
end K00
open PySem PySem.W PySem.Calls PyProof.Rows
theorem K00.holds (pure_ : ∀ ns : List Int, ns.length ≤ 63 → ∃ ds, TW.run K00.hd.tb.fn K00.hd.g 20 "law" [.scr ns] = .ok (.bl true) ds) : PySem.Challenge.rw_tornwebs_k00_whole_webs.Holds := by
  w_on; o_law
  refine HandSHeadRun.head_any (r := K00.R) (q := K00.q) (H := K00.hk) (ob := K00.ob) (M := 4000) (loose := K00.names) (d := HandSHeadRun.topDef K00.R.prog K00.lawAt) (kwd := []) K00.ob_eq
    (by kernel_rfl) (fun s => by kernel_rfl) K00.run_ (by kernel_rfl) (by kernel_rfl) (by kernel_rfl) (by rfl) (by first | assumption | decide +kernel) (by decide +kernel) ⟨rfl, rfl, rfl, rfl, rfl, by decide +kernel⟩ ?hw ?hc
  case hw => w_witness2
  case hc =>
    refine TW.walkE (l := K00.l) (n := 63) (k := 20) (x := "script") rfl (by decide) (by kernel_rfl) ⟨rfl, by decide, by decide⟩ ?F
    intro w mg fa h Y G hmg0
    obtain ⟨K, KX, c⟩ := Y
    have hmg : mg ("law" : PySem.Str) = some (.ref fa) := by
      have e : (HandSHeadRun.topDef K00.R.prog K00.lawAt).name = ("law" : PySem.Str) := by kernel_rfl
      rw [← e]
      exact hmg0
    obtain ⟨fd, hb, hF⟩ := TW.HD.law (e := K00.e_law) (w := w) K00.ok KX G c (List.mem_of_getElem? (i := 27) rfl) (by rfl) hmg rfl 20
    exact ⟨K, fd, _, KX, hb, fun H a ns hl _ hS => TW.spF_start hS (pure_ ns hl), hF⟩
end
theorem PySem.Challenge.cw_tornwebs_k00_whole_webs_holds : PySem.Challenge.rw_tornwebs_k00_whole_webs.Holds :=
  K00.holds fun ns h => K00.law_ok (n := 9) h
