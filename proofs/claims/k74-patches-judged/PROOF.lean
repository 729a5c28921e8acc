import PyProof.Rows.All
import Wide.All
import OpenK.AllK
import Wide.FinOn
import HandS.ForMost
import HandS.Text
import HandS.TupMul
import HandS.TupAny
import HandS.Wide
import HandS.IsInst
import PyProof.ReprRoads
import HandS.Deep
import HandS.SortInts
import HandS.RaiseMore
import HandS.Exc
import HandS.Flow
import HandS.Star
import HandS.Style
import HandS.CallSlots
import HandS.More
import HandS.Comp
import HandS.Zip
import HandS.Rev
import HandS.RevRange
import HandS.NoneIn
import HandS.Small
import HandS.Iter
import KE.GoesMore
import HandS.Defaults
import HandS.Ends
import HandS.Head0
import HandS.Head1
import HandS.Head2
import HandS.HeadEnd
import HandS.HeadHook1
import HandS.HeadHook2
import HandS.HeadHook4
import HandS.HeadHook3
import HandS.Words
import PyProof.ReprLen
import PySem.Challenge.RW_turnseats_k74_patches_judged
set_option Elab.async false
set_option linter.all false
set_option maxRecDepth 100000
set_option maxHeartbeats 0
section
/-! Tz.Core: a small language, its values, its interpreter. -/
namespace Tz
open PySem

/-- a value: plain data, or a place of the store -/
inductive Vl where
  | d (x : PyData)
  | r (n : Nat)
/-- what changes -/
inductive Ob where
  | lst (xs : List Vl)
  | dic (kvs : List (L2.Key × Vl))
  | scr (ns : List Int)
abbrev Store := List (Option Ob)
structure Ex where
  cls : Str
  fs : List (Str × Vl)
inductive R (α : Type) where
  | ok (a : α) (S : Store)
  | ex (x : Ex) (S : Store)
  | fail
@[inline] def R.bind {α β : Type} (m : R α) (f : α → Store → R β) : R β := match m with
  | .ok a S => f a S
  | .ex x S => .ex x S
  | .fail => .fail
def ofO {α : Type} (o : Option α) (S : Store) : R α := match o with
  | some a => .ok a S
  | none => .fail
abbrev Env := List (Option Vl)

/-! ### syntax -/
/-- built-in functions of values -/
inductive Bi where
  | len | abs | int | str | repr | tuple | list (m : Bool) | sum | min | max | all | any | sorted | bool
  deriving DecidableEq
/-- built-in methods -/
inductive Mt where
  | append | pop | extend | get | split | join | count | index | setdefault | upper
  deriving DecidableEq
mutual
inductive Tg where
  | nm (i : Nat)
  | tp (ts : Tgs)
inductive Tgs where
  | nil
  | cons (t : Tg) (ts : Tgs)
end
mutual
inductive E where
  | con (x : PyData)
  | var (i : Nat)
  | frz (i : Nat)
  | glob (x : Str)
  | bin (op : Operator) (a b : E)
  | neg (a : E)
  | not (a : E)
  | cmp (op : CmpOp) (a b : E)
  | cmp2 (op op2 : CmpOp) (a b c : E)
  | and (a b : E)
  | or (a b : E)
  | ite (c a b : E)
  | one (a : E)
  | tup (es : Es)
  | lst (m : Bool) (es : Es)
  | dic (m : Bool) (ks : List L2.Key) (es : Es)
  | sub (a i : E)
  | slc (a : E) (lo hi : P)
  | rev (a : E)
  | call (f : Str) (es : Es)
  | bi (b : Bi) (es : Es)
  | isi (a : E) (ts : List String)
  | met (m : Mt) (o : E) (es : Es)
  | inT (neg : Bool) (x : Str) (e : E)
  | subT (x : Str) (e : E)
  | binL (op : Operator) (a b : E)
  | lc (m : Bool) (own : List Nat) (tg : Tg) (it : I) (c : P) (elt : E)
  | lc2 (m : Bool) (own own2 : List Nat) (tg : Tg) (it : I) (c : P) (tg2 : Tg) (it2 : I) (c2 : P) (elt : E)
/-- a part that may lack -/
inductive P where
  | no
  | so (e : E)
/-- what is walked -/
inductive I where
  | of (e : E)
  | rng (es : Es)
  | enum (a : E)
  | zip (a b : E)
  | rvd (a : E)
  | rvr (es : Es)
inductive Es where
  | nil
  | cons (e : E) (es : Es)
  | star (e : E) (es : Es)
end
mutual
inductive St where
  | expr (e : E)
  | asg (t : Tg) (e : E)
  | par2 (i j : Nat) (a b : E)
  | par3 (i j k : Nat) (a b c : E)
  | put (o i v : E)
  | aug (i : Nat) (op : Operator) (e : E)
  | ret (e : E)
  | retN
  | ifs (c : E) (t u : Ss)
  | for_ (t : Tg) (it : I) (body : Ss)
  | whl (c : E) (body : Ss)
  | pass | brk | cnt
inductive Ss where
  | nil
  | cons (s : St) (ss : Ss)
end
structure Fn where
  /-- names by slot, parameters first -/
  names : List Str
  pars : Nat
  body : Ss

/-! ### values -/
/-- the items of a list, frozen or live -/
def seqL (v : Vl) (S : Store) : Option (List Vl) := match v with
  | .d (.list xs) => some (xs.map Vl.d)
  | .d _ => none
  | .r n => (match S[n]? with
    | some (some (.lst xs)) => some xs
    | some (some (.scr ns)) => some (ns.map fun i => Vl.d (.int i))
    | _ => none)
def seqT (v : Vl) : Option (List Vl) := match v with
  | .d (.tuple xs) => some (xs.map Vl.d)
  | _ => none
def allD : List Vl → Option (List PyData)
  | [] => some []
  | .d x :: r => (allD r).map (x :: ·)
  | .r _ :: _ => none
/-- a new list: frozen or live -/
def newL (m : Bool) (xs : List Vl) (S : Store) : R Vl := if xs.length ≤ sizeLine then (if m then .ok (.r S.length) (S ++ [some (.lst xs)]) else match allD xs with
  | some ds => .ok (.d (.list ds)) S
  | none => .fail) else .fail
def newT (xs : List Vl) (S : Store) : R Vl := if xs.length ≤ sizeLine then (match allD xs with
  | some ds => .ok (.d (.tuple ds)) S
  | none => .fail) else .fail
/-- a key as data -/
def keyD : L2.Key → PyData
  | .inl i => .int i
  | .inr x => .str x
def keyOf : PyData → Option L2.Key
  | .int i => some (.inl i)
  | .str x => some (.inr x)
  | _ => none
/-- deep equality is asked of data alone -/
def datOf (v : Vl) (S : Store) : Option PyData := match v with
  | .d x => some x
  | .r n => (match S[n]? with
    | some (some (.lst xs)) => (allD xs).map .list
    | _ => none)
def eqOk (x : PyData) : Bool := SeqAt.shaped x
def truth (v : Vl) (S : Store) : Option Bool := match v with
  | .d .none => some false
  | .d (.bool b) => some b
  | .d (.int i) => some (i != 0)
  | .d (.str x) => if x.length ≤ sizeLine then some ((x.length : Int) != 0) else none
  | .d (.list xs) => some (!xs.isEmpty)
  | .d (.tuple xs) => some (!xs.isEmpty)
  | .d (.dict kvs) => some (!kvs.isEmpty)
  | .r n => (match S[n]? with
    | some (some (.lst xs)) => some (!xs.isEmpty)
    | some (some (.dic kvs)) => some (!kvs.isEmpty)
    | _ => none)
def mulOk (i j : Int) : Bool := decide (i.natAbs.log2 + j.natAbs.log2 < 1000000)
def divOk (j : Int) : Bool := decide (0 < j) && decide (j.natAbs.log2 < 9000)
def powOk (i j : Int) : Bool := decide (0 ≤ j) && (decide (j ≤ 1000000) && decide (i.natAbs < 2 ^ 64))
def binV (op : Operator) (x y : Vl) (S : Store) : R Vl := match op with
  | .Add => (match x, y with
    | .d (.int i), .d (.int j) => .ok (.d (.int (i + j))) S
    | .d (.str a), .d (.str b) => if a.length + b.length ≤ sizeLine then .ok (.d (.str (a ++ b))) S else .fail
    | .d (.tuple a), .d (.tuple b) => if a.length + b.length ≤ sizeLine then .ok (.d (.tuple (a ++ b))) S else .fail
    | .d (.list a), .d (.list b) => if a.length + b.length ≤ sizeLine then .ok (.d (.list (a ++ b))) S else .fail
    | _, _ => .fail)
  | .Sub => (match x, y with
    | .d (.int i), .d (.int j) => .ok (.d (.int (i - j))) S
    | _, _ => .fail)
  | .Mult => (match x, y with
    | .d (.int i), .d (.int j) => if mulOk i j then .ok (.d (.int (i * j))) S else .fail
    | .d (.list a), .d (.int k) => if decide (k ≤ 1000000) && decide (-1000000 ≤ k) && decide (a.length * k.toNat ≤ sizeLine) then .ok (.d (.list (List.replicate k.toNat a).flatten)) S else .fail
    | .d (.tuple a), .d (.int k) => if decide (2 ≤ k) && (decide (k ≤ 1000) && decide (a.length ≤ 1000)) then .ok (.d (.tuple (List.replicate k.toNat a).flatten)) S else .fail
    | _, _ => .fail)
  | .FloorDiv => (match x, y with
    | .d (.int i), .d (.int j) => if divOk j then .ok (.d (.int (i / j))) S else .fail
    | _, _ => .fail)
  | .Mod => (match x, y with
    | .d (.int i), .d (.int j) => if 0 < j then .ok (.d (.int (i % j))) S else .fail
    | _, _ => .fail)
  | .Pow => (match x, y with
    | .d (.int i), .d (.int j) => if powOk i j then .ok (.d (.int (i ^ j.toNat))) S else .fail
    | _, _ => .fail)
  | _ => .fail
/-- a list that is changed later -/
def binLV (op : Operator) (x y : Vl) (S : Store) : R Vl := match op, x, y with
  | .Add, .d (.list a), .d (.list b) => if a.length + b.length ≤ sizeLine then newL true ((a ++ b).map .d) S else .fail
  | .Mult, .d (.list a), .d (.int k) => if decide (k ≤ 1000000) && decide (-1000000 ≤ k) && decide (a.length * k.toNat ≤ sizeLine) then newL true ((List.replicate k.toNat a).flatten.map .d) S else .fail
  | _, _, _ => .fail
def augV (op : Operator) (x y : Vl) (S : Store) : R Vl := match op, x, y with
  | .Add, .d (.int i), .d (.int j) => .ok (.d (.int (i + j))) S
  | .Sub, .d (.int i), .d (.int j) => .ok (.d (.int (i - j))) S
  | _, _, _ => .fail
/-- the order of ints, of texts -/
def ltV (x y : Vl) : Option (Int × Int) := match x, y with
  | .d (.int i), .d (.int j) => some (i, j)
  | _, _ => none
def inD (x : PyData) (ys : List PyData) : Option Bool := if eqOk x && PyData.canLayAll0 ys then some (ys.any fun y => PyData.eqv y x) else none
/-- ==: with an empty one at once -/
def eqD (a b : PyData) : Option Bool := match a, b with
  | .tuple xs, .tuple [] => some xs.isEmpty
  | .list xs, .list [] => some xs.isEmpty
  | .str x, .str y => some (x == y)
  | a, b => if eqOk a && eqOk b then some (PyData.eqv a b) else none
def lookK (k : L2.Key) : List (L2.Key × Vl) → Option Vl
  | [] => none
  | (j, v) :: r => if j = k then some v else lookK k r
def putK (k : L2.Key) (v : Vl) : List (L2.Key × Vl) → List (L2.Key × Vl)
  | [] => [(k, v)]
  | (j, w) :: r => if j = k then (j, v) :: r else (j, w) :: putK k v r
def lookD (k : L2.Key) : List (PyData × PyData) → Option PyData
  | [] => none
  | (j, v) :: r => if keyOf j = some k then some v else lookD k r
def isIn (x y : Vl) (S : Store) : Option Bool := match y with
  | .d (.dict kvs) => (match x with
    | .d j => (keyOf j).map fun k => (lookD k kvs).isSome
    | _ => none)
  | .d (.str t) => (match x with
    | .d (.str a) => some (!(Builtin.Str.occurrences t a 0 t.length 1).isEmpty)
    | _ => none)
  | .d (.tuple ys) => (match x with
    | .d j => inD j ys
    | _ => none)
  | .d (.list ys) => (match x with
    | .d j => inD j ys
    | _ => none)
  | .d _ => none
  | .r n => (match S[n]? with
    | some (some (.dic kvs)) => (match x with
      | .d j => (keyOf j).map fun k => (lookK k kvs).isSome
      | _ => none)
    | some (some (.lst ys)) => (match x, allD ys with
      | .d j, some zs => inD j zs
      | _, _ => none)
    | _ => none)
def isNone : Vl → Bool
  | .d .none => true
  | _ => false
def cmpV (op : CmpOp) (x y : Vl) (S : Store) : Option Bool := match op with
  | .Eq => (match datOf x S, datOf y S with
    | some a, some b => eqD a b
    | _, _ => none)
  | .NotEq => (match datOf x S, datOf y S with
    | some a, some b => (eqD a b).map (!·)
    | _, _ => none)
  | .Lt => (ltV x y).map fun p => decide (p.1 < p.2)
  | .LtE => (ltV x y).map fun p => decide (p.1 ≤ p.2)
  | .Gt => (ltV x y).map fun p => decide (p.2 < p.1)
  | .GtE => (ltV x y).map fun p => decide (p.2 ≤ p.1)
  | .Is => (match y with
    | .d .none => some (isNone x)
    | _ => none)
  | .IsNot => (match y with
    | .d .none => some (!isNone x)
    | _ => none)
  | .In => isIn x y S
  | .NotIn => (isIn x y S).map (!·)
def subV (x i : Vl) (S : Store) : Option Vl := match x with
  | .d (.tuple xs) => (match i with
    | .d (.int k) => (L2.atI xs k).map .d
    | _ => none)
  | .d (.list xs) => (match i with
    | .d (.int k) => (L2.atI xs k).map .d
    | _ => none)
  | .d (.str t) => (match i with
    | .d (.int k) => if t.length ≤ sizeLine then (L2.atI t.cps.toList k).map fun c => .d (.str ⟨#[c]⟩) else none
    | _ => none)
  | .d (.dict kvs) => (match i with
    | .d j => (match keyOf j with
      | some k => (lookD k kvs).map .d
      | none => none)
    | _ => none)
  | .d _ => none
  | .r n => (match S[n]? with
    | some (some (.lst xs)) => (match i with
      | .d (.int k) => L2.atI xs k
      | _ => none)
    | some (some (.dic kvs)) => (match i with
      | .d j => (match keyOf j with
        | some k => lookK k kvs
        | none => none)
      | _ => none)
    | some (some (.scr ns)) => (match i with
      | .d (.int k) => (L2.atI ns k).map fun j => .d (.int j)
      | _ => none)
    | _ => none)
def cutD {α : Type} (xs : List α) (lo hi : Option Int) : List α := (xs.drop (HT.sIx xs.length 0 lo)).take (HT.sIx xs.length xs.length hi - HT.sIx xs.length 0 lo)
def partV : Vl → Option Int
  | .d (.int k) => some k
  | _ => none
def slcV (x : Vl) (lo hi : Option Int) (S : Store) : R Vl := match x with
  | .d (.tuple xs) => .ok (.d (.tuple (cutD xs lo hi))) S
  | .d (.list xs) => .ok (.d (.list (cutD xs lo hi))) S
  | .d _ => .fail
  | .r n => (match S[n]? with
    | some (some (.lst xs)) => (match allD xs with
      | some ds => .ok (.d (.list (cutD ds lo hi))) S
      | none => .fail)
    | some (some (.scr ns)) => .ok (.d (.list ((cutD ns lo hi).map .int))) S
    | _ => .fail)
def revV (x : Vl) (S : Store) : R Vl := match x with
  | .d (.tuple xs) => .ok (.d (.tuple xs.reverse)) S
  | .d (.list xs) => .ok (.d (.list xs.reverse)) S
  | .d _ => .fail
  | .r n => (match S[n]? with
    | some (some (.lst xs)) => (match allD xs with
      | some ds => .ok (.d (.list ds.reverse)) S
      | none => .fail)
    | _ => .fail)
def tyOf (v : Vl) (S : Store) : Option String := match v with
  | .d .none => some "NoneType"
  | .d (.bool _) => some "bool"
  | .d (.int _) => some "int"
  | .d (.str _) => some "str"
  | .d (.list _) => some "list"
  | .d (.tuple _) => some "tuple"
  | .d (.dict _) => some "dict"
  | .r n => (match S[n]? with
    | some (some (.lst _)) => some "list"
    | some (some (.scr _)) => some "list"
    | some (some (.dic _)) => some "dict"
    | _ => none)
/-- isinstance of a built-in type (bool is an int) -/
def isTy (t c : String) : Bool := t == c || (t == "bool" && c == "int")
def intsOf : List Vl → Option (List Int)
  | [] => some []
  | .d (.int i) :: r => (intsOf r).map (i :: ·)
  | _ => none
def boolsOf : List Vl → Option (List Bool)
  | [] => some []
  | .d (.bool b) :: r => (boolsOf r).map (b :: ·)
  | _ => none
def maxI : Int → List Int → Int
  | m, [] => m
  | m, x :: r => maxI (if x > m then x else m) r
def minI : Int → List Int → Int
  | m, [] => m
  | m, x :: r => minI (if x < m then x else m) r
def insI (x : Int) : List Int → List Int
  | [] => [x]
  | y :: r => if x ≤ y then x :: y :: r else y :: insI x r
def sortI : List Int → List Int
  | [] => []
  | x :: r => insI x (sortI r)
def showOk (x : PyData) : Bool := x.showable && (decide (x.depth ≤ 20) && decide (x.shown.length ≤ sizeLine))
def biV (b : Bi) (xs : List Vl) (S : Store) : R Vl := match b, xs with
  | .len, [.d (.str t)] => if t.length ≤ sizeLine then .ok (.d (.int t.length)) S else .fail
  | .len, [.d (.list a)] => .ok (.d (.int a.length)) S
  | .len, [.d (.tuple a)] => .ok (.d (.int a.length)) S
  | .len, [.r n] => (match S[n]? with
    | some (some (.lst a)) => .ok (.d (.int a.length)) S
    | some (some (.dic a)) => .ok (.d (.int a.length)) S
    | some (some (.scr a)) => .ok (.d (.int a.length)) S
    | _ => .fail)
  | .abs, [.d (.int i)] => .ok (.d (.int (if i < 0 then -i else i))) S
  | .int, [.d (.int i)] => .ok (.d (.int i)) S
  | .int, [.d (.bool c)] => .ok (.d (.int (if c then 1 else 0))) S
  | .bool, [.d (.bool c)] => .ok (.d (.bool c)) S
  | .bool, [.d (.int i)] => .ok (.d (.bool (i != 0))) S
  | .str, [.d (.int i)] => if i.natAbs.log2 < 1920 then .ok (.d (.str (toString i))) S else .fail
  | .str, [.d (.str x)] => .ok (.d (.str x)) S
  | .repr, [.d x] => if showOk x then .ok (.d (.str x.shown)) S else .fail
  | .tuple, [x] => (match x with
    | .d (.tuple a) => .ok (.d (.tuple a)) S
    | .d (.list a) => .ok (.d (.tuple a)) S
    | _ => (match seqL x S with
      | some ys => newT ys S
      | none => .fail))
  | .list m, [x] => (match x with
    | .d (.tuple a) => newL m (a.map .d) S
    | _ => (match seqL x S with
      | some ys => newL m ys S
      | none => .fail))
  | .sum, [x] => (match seqL x S with
    | some ys => (match intsOf ys with
      | some ns => .ok (.d (.int ns.sum)) S
      | none => .fail)
    | none => .fail)
  | .min, [x] => (match seqL x S with
    | some ys => (match intsOf ys with
      | some (n :: ns) => .ok (.d (.int (minI n ns))) S
      | _ => .fail)
    | none => .fail)
  | .max, [x] => (match seqL x S with
    | some ys => (match intsOf ys with
      | some (n :: ns) => .ok (.d (.int (maxI n ns))) S
      | _ => .fail)
    | none => .fail)
  | .min, [.d (.int i), .d (.int j)] => .ok (.d (.int (if j < i then j else i))) S
  | .max, [.d (.int i), .d (.int j)] => .ok (.d (.int (if j > i then j else i))) S
  | .sorted, [x] => (match seqL x S with
    | some ys => (match intsOf ys with
      | some ns => .ok (.d (.list ((sortI ns).map .int))) S
      | none => .fail)
    | none => .fail)
  | .all, [x] => (match seqL x S with
    | some ys => (match boolsOf ys with
      | some bs => .ok (.d (.bool (bs.all id))) S
      | none => .fail)
    | none => .fail)
  | .any, [x] => (match seqL x S with
    | some ys => (match boolsOf ys with
      | some bs => .ok (.d (.bool (bs.any id))) S
      | none => .fail)
    | none => .fail)
  | _, _ => .fail
/-- what get gives for a key that lacks -/
def getDef : List Vl → Option PyData
  | [] => some .none
  | [.d z] => some z
  | _ => none
mutual
/-- no dict in it -/
def noDic : PyData → Bool
  | .list xs => noDics xs
  | .tuple xs => noDics xs
  | .dict _ => false
  | _ => true
def noDics : List PyData → Bool
  | [] => true
  | x :: r => noDic x && noDics r
end
/-- the first place of an equal one -/
def idxD (j : PyData) : List PyData → Option Nat
  | [] => none
  | x :: r => if PyData.eqv x j then some 0 else (idxD j r).map (· + 1)
def refsBelow (n : Nat) : List Vl → Bool
  | [] => true
  | .d _ :: r => refsBelow n r
  | .r m :: r => decide (m < n) && refsBelow n r
def setO (S : Store) (n : Nat) (o : Ob) : Store := S.set n (some o)
def metV (m : Mt) (x : Vl) (xs : List Vl) (S : Store) : R Vl := match m, x, xs with
  | .append, .r n, [y] => (match S[n]? with
    | some (some (.lst a)) => if decide (a.length < sizeLine) && refsBelow n [y] then .ok (.d .none) (setO S n (.lst (a ++ [y]))) else .fail
    | _ => .fail)
  | .pop, .r n, [] => (match S[n]? with
    | some (some (.lst a)) => (match a[a.length - 1]? with
      | some y => .ok y (setO S n (.lst a.dropLast))
      | none => .fail)
    | _ => .fail)
  | .extend, .r n, [.d (.list b)] => (match S[n]? with
    | some (some (.lst a)) => if a.length + b.length ≤ sizeLine then .ok (.d .none) (setO S n (.lst (a ++ b.map .d))) else .fail
    | _ => .fail)
  | .get, x, .d j :: r => (match keyOf j, getDef r with
    | some k, some z => (match x with
      | .d (.dict kvs) => .ok (.d ((lookD k kvs).getD z)) S
      | .d _ => .fail
      | .r n => (match S[n]? with
        | some (some (.dic kvs)) => .ok ((lookK k kvs).getD (.d z)) S
        | _ => .fail))
    | _, _ => .fail)
  | .index, x, [.d j] => (match datOf x S with
    | some (.list xs) => if (eqOk j && eqOk (.list xs)) && (noDic j && noDics xs) then (match idxD j xs with
      | some i => .ok (.d (.int (i : Nat))) S
      | none => .fail) else .fail
    | _ => .fail)
  | .upper, .d (.str x), [] => if x.length ≤ 5592405 then .ok (.d (.str (Txt.upper x))) S else .fail
  | _, _, _ => .fail
/-- whose method it is -/
def mtTy : Mt → String
  | .append | .pop | .extend | .count | .index => "list"
  | .get | .setdefault => "dict"
  | .split | .join | .upper => "str"
def putV (o i v : Vl) (S : Store) : R Unit := match o with
  | .r n => (match S[n]? with
    | some (some (.lst a)) => (match i with
      | .d (.int k) => (match L2.ixN a.length k with
        | some j => if refsBelow n [v] then .ok () (setO S n (.lst (a.set j v))) else .fail
        | none => .fail)
      | _ => .fail)
    | some (some (.dic kvs)) => (match i with
      | .d j => (match keyOf j with
        | some k => if refsBelow n [v] && decide (kvs.length < sizeLine) then .ok () (setO S n (.dic (putK k v kvs))) else .fail
        | none => .fail)
      | _ => .fail)
    | _ => .fail)
  | .d _ => .fail
/-- a live list of data is read no more as live -/
def frzV (v : Vl) (S : Store) : R Vl := match v with
  | .d x => .ok (.d x) S
  | .r n => (match S[n]? with
    | some (some (.lst xs)) => (match allD xs with
      | some ds => .ok (.d (.list ds)) (S.set n none)
      | none => .fail)
    | _ => .fail)
mutual
def setTg : Tg → Vl → Env → Option Env
  | .nm i, v, ρ => some (ρ.set i (some v))
  | .tp ts, v, ρ => (match v with
    | .d (.tuple xs) => setTgs ts (xs.map .d) ρ
    | .d (.list xs) => setTgs ts (xs.map .d) ρ
    | _ => none)
def setTgs : Tgs → List Vl → Env → Option Env
  | .nil, vs, ρ => (match vs with
    | [] => some ρ
    | _ => none)
  | .cons t ts, vs, ρ => (match vs with
    | v :: r => (match setTg t v ρ with
      | some ρ' => setTgs ts r ρ'
      | none => none)
    | [] => none)
end
def wipeE (ρ : Env) : List Nat → Env
  | [] => ρ
  | v :: vs => (wipeE ρ vs).set v none
/-- a walked live list must stand as it stood -/
def gOk (g : Option (Nat × List Vl)) (S : Store) : Prop := match g with
  | none => True
  | some (n, xs) => S[n]? = some (some (.lst xs))
inductive Fl where
  | nx (ρ : Env)
  | rt (v : Vl)
  | bk (ρ : Env)
  | ct (ρ : Env)
  | xc (x : Ex) (ρ : Env)
/-- an exception keeps the frame -/
@[inline] def R.bindS {α : Type} (m : R α) (ρ : Env) (f : α → Store → R Fl) : R Fl := match m with
  | .ok a S => f a S
  | .ex x S => .ok (.xc x ρ) S
  | .fail => .fail
def forL (f : Vl → Env → Store → R Fl) : List Vl → Env → Store → R Fl
  | [], ρ, S => .ok (.nx ρ) S
  | x :: xs, ρ, S => (f x ρ S).bind fun fl S1 => match fl with
    | .nx ρ1 => forL f xs ρ1 S1
    | .ct ρ1 => forL f xs ρ1 S1
    | .bk ρ1 => .ok (.nx ρ1) S1
    | .rt v => .ok (.rt v) S1
    | .xc y ρ1 => .ok (.xc y ρ1) S1
def whlL (c : Env → Store → R Bool) (f : Env → Store → R Fl) : Nat → Env → Store → R Fl
  | 0, _, _ => .fail
  | n + 1, ρ, S => (c ρ S).bindS ρ fun b S1 => if b then (f ρ S1).bind fun fl S2 => (match fl with
    | .nx ρ1 => whlL c f n ρ1 S2
    | .ct ρ1 => whlL c f n ρ1 S2
    | .bk ρ1 => .ok (.nx ρ1) S2
    | .rt v => .ok (.rt v) S2
    | .xc y ρ1 => .ok (.xc y ρ1) S2) else .ok (.nx ρ) S1
/-- a comprehension's loop: what is made, in order -/
def lcL (f : Vl → Store → R (List Vl)) : List Vl → Store → R (List Vl)
  | [], S => .ok [] S
  | x :: xs, S => (f x S).bind fun ys S1 => (lcL f xs S1).bind fun zs S2 => .ok (ys ++ zs) S2
def noEx {α : Type} : R α → R α
  | .ex _ _ => .fail
  | m => m
def rangeV : List Vl → Option (List Vl)
  | [.d (.int j)] => if decide (-(2 ^ 62) ≤ j) && decide (j < 2 ^ 62) then some ((List.range j.toNat).map fun (k : Nat) => Vl.d (.int k)) else none
  | [.d (.int i), .d (.int j)] => if (decide (-(2 ^ 62) ≤ i) && decide (i < 2 ^ 62)) && (decide (-(2 ^ 62) ≤ j) && decide (j < 2 ^ 62)) then some ((List.range (j - i).toNat).map fun (k : Nat) => Vl.d (.int (i + k))) else none
  | _ => none
def enumF : Nat → List PyData → List Vl
  | _, [] => []
  | k, x :: r => .d (.tuple [.int k, x]) :: enumF (k + 1) r
def plainD : Vl → Option (List PyData)
  | .d (.list xs) => some xs
  | .d (.tuple xs) => some xs
  | _ => none
def zipF : List PyData → List PyData → List Vl
  | x :: r, y :: q => .d (.tuple [x, y]) :: zipF r q
  | _, _ => []
def plainSeq (v : Vl) : Option (List PyData) := match v with
  | .d (.list xs) => some xs
  | .d (.tuple xs) => some xs
  | _ => none

section
variable (cf : Str → List Vl → Store → R Vl) (G : Str → Option PyData) (W : Nat)
mutual
def ev : E → Env → Store → R Vl
  | .con x, _, S => .ok (.d x) S
  | .var i, ρ, S => (match ρ[i]? with
    | some (some v) => .ok v S
    | _ => .fail)
  | .frz i, ρ, S => (match ρ[i]? with
    | some (some v) => frzV v S
    | _ => .fail)
  | .glob x, _, S => (match G x with
    | some v => .ok (.d v) S
    | none => .fail)
  | .bin op a b, ρ, S => (ev a ρ S).bind fun x S1 => (ev b ρ S1).bind fun y S2 => binV op x y S2
  | .binL op a b, ρ, S => (ev a ρ S).bind fun x S1 => (ev b ρ S1).bind fun y S2 => binLV op x y S2
  | .neg a, ρ, S => (ev a ρ S).bind fun x S1 => (match x with
    | .d (.int i) => .ok (.d (.int (-i))) S1
    | _ => .fail)
  | .not a, ρ, S => (ev a ρ S).bind fun x S1 => (ofO (truth x S1) S1).bind fun b S2 => .ok (.d (.bool (!b))) S2
  | .cmp op a b, ρ, S => (ev a ρ S).bind fun x S1 => (ev b ρ S1).bind fun y S2 => (ofO (cmpV op x y S2) S2).bind fun c S3 => .ok (.d (.bool c)) S3
  | .cmp2 op op2 a b c, ρ, S => (ev a ρ S).bind fun x S1 => (ev b ρ S1).bind fun y S2 => (ofO (cmpV op x y S2) S2).bind fun k S3 =>
    if k then (ev c ρ S3).bind fun z S4 => (ofO (cmpV op2 y z S4) S4).bind fun k2 S5 => .ok (.d (.bool k2)) S5 else .ok (.d (.bool false)) S3
  | .and a b, ρ, S => (ev a ρ S).bind fun x S1 => (ofO (truth x S1) S1).bind fun c S2 => if c then ev b ρ S2 else .ok x S2
  | .or a b, ρ, S => (ev a ρ S).bind fun x S1 => (ofO (truth x S1) S1).bind fun c S2 => if c then .ok x S2 else ev b ρ S2
  | .ite c a b, ρ, S => (ev c ρ S).bind fun x S1 => (ofO (truth x S1) S1).bind fun k S2 => if k then ev a ρ S2 else ev b ρ S2
  | .one a, ρ, S => ev a ρ S
  | .tup es, ρ, S => (evs es ρ S).bind fun xs S1 => newT xs S1
  | .lst m es, ρ, S => (evs es ρ S).bind fun xs S1 => newL m xs S1
  | .dic m ks es, ρ, S => (noEx (evs es ρ S)).bind fun xs S1 => if decide (ks.Nodup) && (decide (xs.length = ks.length) && decide (ks.length ≤ 1000)) then
      (if m then .ok (.r S1.length) (S1 ++ [some (.dic (ks.zip xs))]) else match allD xs with
        | some ds => .ok (.d (.dict ((ks.map keyD).zip ds))) S1
        | none => .fail) else .fail
  | .sub a i, ρ, S => (ev a ρ S).bind fun x S1 => (ev i ρ S1).bind fun y S2 => ofO (subV x y S2) S2
  | .slc a lo hi, ρ, S => (ev a ρ S).bind fun x S1 => (evP lo ρ S1).bind fun l S2 => (evP hi ρ S2).bind fun h S3 => slcV x l h S3
  | .rev a, ρ, S => (ev a ρ S).bind fun x S1 => revV x S1
  | .call f es, ρ, S => (evs es ρ S).bind fun xs S1 => cf f xs S1
  | .bi b es, ρ, S => (evs es ρ S).bind fun xs S1 => biV b xs S1
  | .isi a ts, ρ, S => (ev a ρ S).bind fun x S1 => (match tyOf x S1 with
    | some t => .ok (.d (.bool (ts.any (isTy t)))) S1
    | none => .fail)
  | .met m o es, ρ, S => (ev o ρ S).bind fun x S1 => if tyOf x S1 = some (mtTy m) then (evs es ρ S1).bind fun xs S2 => metV m x xs S2 else .fail
  | .inT neg x e, ρ, S => (ev e ρ S).bind fun v S1 => (match v, G x with
    | .d (.str z), some (.dict kvs) => .ok (.d (.bool ((lookD (.inr z) kvs).isSome != neg))) S1
    | _, _ => .fail)
  | .subT x e, ρ, S => (ev e ρ S).bind fun v S1 => (match v, G x with
    | .d (.str z), some (.dict kvs) => (match lookD (.inr z) kvs with
      | some d => .ok (.d d) S1
      | none => .fail)
    | _, _ => .fail)
  | .lc m own tg it c elt, ρ, S => (evI it ρ S).bind fun xs S1 => (noEx (lcL (fun x Sa => match setTg tg x (wipeE ρ own) with
      | some ρ1 => (evC c ρ1 Sa).bind fun k Sb => if k then (ev elt ρ1 Sb).bind fun y Sc => .ok [y] Sc else .ok [] Sb
      | none => .fail) xs S1)).bind fun ys S2 => newL m ys S2
  | .lc2 m own own2 tg it c tg2 it2 c2 elt, ρ, S => (evI it ρ S).bind fun xs S1 => (noEx (lcL (fun x Sa => match setTg tg x (wipeE ρ own) with
      | some ρ1 => (evC c ρ1 Sa).bind fun k Sb => if k then (evI it2 ρ1 Sb).bind fun us Sc => lcL (fun u Sd => match setTg tg2 u (wipeE ρ1 own2) with
          | some ρ2 => (evC c2 ρ2 Sd).bind fun k2 Se => if k2 then (ev elt ρ2 Se).bind fun y Sf => .ok [y] Sf else .ok [] Se
          | none => .fail) us Sc else .ok [] Sb
      | none => .fail) xs S1)).bind fun ys S2 => newL m ys S2
/-- a part of a slice -/
def evP : P → Env → Store → R (Option Int)
  | .no, _, S => .ok none S
  | .so e, ρ, S => (ev e ρ S).bind fun x S1 => (match partV x with
    | some k => .ok (some k) S1
    | none => .fail)
/-- a comprehension's test -/
def evC : P → Env → Store → R Bool
  | .no, _, S => .ok true S
  | .so e, ρ, S => (ev e ρ S).bind fun x S1 => ofO (truth x S1) S1
def evs : Es → Env → Store → R (List Vl)
  | .nil, _, S => .ok [] S
  | .cons e es, ρ, S => (ev e ρ S).bind fun x S1 => (evs es ρ S1).bind fun xs S2 => .ok (x :: xs) S2
  | .star e es, ρ, S => (ev e ρ S).bind fun x S1 => (match (seqT x).or (seqL x S1) with
    | some ys => (evs es ρ S1).bind fun xs S2 => .ok (ys ++ xs) S2
    | none => .fail)
/-- what is walked: data alone (a live list is frozen first) -/
def evI : I → Env → Store → R (List Vl)
  | .of e, ρ, S => (ev e ρ S).bind fun x S1 => ofO ((plainSeq x).map fun xs => xs.map Vl.d) S1
  | .rng es, ρ, S => (evs es ρ S).bind fun xs S1 => ofO (rangeV xs) S1
  | .enum a, ρ, S => (ev a ρ S).bind fun x S1 => ofO ((plainSeq x).map (enumF 0)) S1
  | .zip a b, ρ, S => (ev a ρ S).bind fun x S1 => (ev b ρ S1).bind fun y S2 => (match plainD x, plainD y with
    | some xs, some ys => .ok (zipF xs ys) S2
    | _, _ => .fail)
  | .rvd a, ρ, S => (ev a ρ S).bind fun x S1 => ofO ((plainSeq x).map fun xs => (xs.map Vl.d).reverse) S1
  | .rvr es, ρ, S => (evs es ρ S).bind fun xs S1 => ofO ((rangeV xs).map List.reverse) S1
end
mutual
def exS : St → Env → Store → R Fl
  | .expr e, ρ, S => (ev cf G e ρ S).bindS ρ fun _ S1 => .ok (.nx ρ) S1
  | .asg t e, ρ, S => (ev cf G e ρ S).bindS ρ fun x S1 => (match setTg t x ρ with
    | some ρ1 => .ok (.nx ρ1) S1
    | none => .fail)
  | .par2 i j a b, ρ, S => ((ev cf G a ρ S).bind fun x S1 => (ev cf G b ρ S1).bind fun y S2 => .ok (x, y) S2).bindS ρ fun p S3 => .ok (.nx ((ρ.set i (some p.1)).set j (some p.2))) S3
  | .par3 i j k a b c, ρ, S => ((ev cf G a ρ S).bind fun x S1 => (ev cf G b ρ S1).bind fun y S2 => (ev cf G c ρ S2).bind fun z S3 => .ok (x, y, z) S3).bindS ρ fun p S4 =>
      .ok (.nx (((ρ.set i (some p.1)).set j (some p.2.1)).set k (some p.2.2))) S4
  | .put o i v, ρ, S => ((ev cf G v ρ S).bind fun x S1 => (ev cf G o ρ S1).bind fun y S2 => (ev cf G i ρ S2).bind fun z S3 => putV y z x S3).bindS ρ fun _ S4 => .ok (.nx ρ) S4
  | .aug i op e, ρ, S => (match ρ[i]? with
    | some (some x) => ((ev cf G e ρ S).bind fun y S1 => augV op x y S1).bindS ρ fun z S2 => .ok (.nx (ρ.set i (some z))) S2
    | _ => .fail)
  | .ret e, ρ, S => (ev cf G e ρ S).bindS ρ fun x S1 => .ok (.rt x) S1
  | .retN, _, S => .ok (.rt (.d .none)) S
  | .ifs c t u, ρ, S => ((ev cf G c ρ S).bind fun x S1 => ofO (truth x S1) S1).bindS ρ fun k S2 => if k then exs t ρ S2 else exs u ρ S2
  | .for_ t it body, ρ, S => (evI cf G it ρ S).bindS ρ fun xs S1 => forL (fun x ρ1 Sa => match setTg t x ρ1 with
    | some ρ2 => exs body ρ2 Sa
    | none => .fail) xs ρ S1
  | .whl c body, ρ, S => whlL (fun ρ1 Sa => (ev cf G c ρ1 Sa).bind fun x Sb => ofO (truth x Sb) Sb) (fun ρ1 Sa => exs body ρ1 Sa) W ρ S
  | .pass, ρ, S => .ok (.nx ρ) S
  | .brk, ρ, S => .ok (.bk ρ) S
  | .cnt, ρ, S => .ok (.ct ρ) S
def exs : Ss → Env → Store → R Fl
  | .nil, ρ, S => .ok (.nx ρ) S
  | .cons s ss, ρ, S => (exS s ρ S).bind fun fl S1 => (match fl with
    | .nx ρ1 => exs ss ρ1 S1
    | .rt v => .ok (.rt v) S1
    | .bk ρ1 => .ok (.bk ρ1) S1
    | .ct ρ1 => .ok (.ct ρ1) S1
    | .xc x ρ1 => .ok (.xc x ρ1) S1)
end
end
/-- a call's end: what the call has made is dropped where nothing can reach it -/
def fin (n : Nat) (v : Vl) (S : Store) : R Vl := match v with
  | .d x => .ok (.d x) (S.take n)
  | .r k => if k < n then .ok (.r k) (S.take n) else .ok (.r k) S
/-- a program: its defs and constants -/
structure Prog where
  fns : List (Str × Fn)
  con : List (Str × PyData)
  W : Nat
def Prog.G (P : Prog) (x : Str) : Option PyData := P.con.lookup x
def start (fn : Fn) (vs : List Vl) : Env := vs.map some ++ List.replicate (fn.names.length - vs.length) none
/-- a body's end -/
def endC (n : Nat) (fl : Fl) (S1 : Store) : R Vl := match fl with
  | .nx _ => fin n (.d .none) S1
  | .rt v => fin n v S1
  | .xc x _ => if refsBelow n (x.fs.map (·.2)) then .ex x (S1.take n) else .fail
  | _ => .fail
def call1 (P : Prog) (cf : Str → List Vl → Store → R Vl) (fn : Fn) (vs : List Vl) (S : Store) : R Vl := if vs.length = fn.pars then
    (noEx (exs cf P.G P.W fn.body (start fn vs) S)).bind (endC S.length) else .fail
def run (P : Prog) : Nat → Str → List Vl → Store → R Vl
  | 0, _, _, _ => .fail
  | n + 1, f, vs, S => (match P.fns.lookup f with
    | some fn => call1 P (run P n) fn vs S
    | none => .fail)
end Tz

end
section
/-! Tz.Rep: how values stand in the abstract heap. -/
namespace Tz
open PySem PySem.Spec PyProof.Rows L2

def Kt (K : PySem.W.Frag) (a : Addr) (xs : List V) : Prop := ∃ (o : Obj) (its : Array Value) (n : Nat), K.lookup a = some o ∧ o.cls = .type "tuple" ∧ o.data = .seq its n ∧ its.size ≤ sizeLine ∧ Vals xs its.toList
def TupAt (K : PySem.W.Frag) (L : Addr → Prop) (H : Hp) (a : Addr) (vs : List V) : Prop := (H a = some (.tup vs) ∧ ¬ L a) ∨ Kt K a vs
mutual
inductive RepD (K : PySem.W.Frag) (L : Addr → Prop) (H : Hp) : PyData → V → Prop
  | non : RepD K L H .none .non
  | bl (b : Bool) : RepD K L H (.bool b) (.bl b)
  | int (i : Int) : RepD K L H (.int i) (.int i)
  | str (x : Str) : RepD K L H (.str x) (.str x)
  | lst {a : Addr} {vs : List V} {ds : List PyData} : H a = some (.lst vs) → ¬ L a → RepDs K L H ds vs → RepD K L H (.list ds) (.ref a)
  | tup {a : Addr} {vs : List V} {ds : List PyData} : TupAt K L H a vs → RepDs K L H ds vs → RepD K L H (.tuple ds) (.ref a)
  | dic {a : Addr} {kvs : List (Key × V)} {ds : List (PyData × PyData)} : H a = some (.dK kvs) → ¬ L a → RepKv K L H ds kvs → RepD K L H (.dict ds) (.ref a)
inductive RepDs (K : PySem.W.Frag) (L : Addr → Prop) (H : Hp) : List PyData → List V → Prop
  | nil : RepDs K L H [] []
  | cons {d : PyData} {v : V} {ds : List PyData} {vs : List V} : RepD K L H d v → RepDs K L H ds vs → RepDs K L H (d :: ds) (v :: vs)
inductive RepKv (K : PySem.W.Frag) (L : Addr → Prop) (H : Hp) : List (PyData × PyData) → List (Key × V) → Prop
  | nil : RepKv K L H [] []
  | cons {k : Key} {d : PyData} {v : V} {ds : List (PyData × PyData)} {kvs : List (Key × V)} : RepD K L H d v → RepKv K L H ds kvs → RepKv K L H ((keyD k, d) :: ds) ((k, v) :: kvs)
end

/-- what is tracked and not live stays -/
def Keep (L : Addr → Prop) (H : Hp) (L' : Addr → Prop) (H' : Hp) : Prop := ∀ a o, H a = some o → ¬ L a → H' a = some o ∧ ¬ L' a
theorem Keep.refl {L : Addr → Prop} {H : Hp} : Keep L H L H := fun _ _ h l => ⟨h, l⟩
theorem Keep.trans {L L' L'' : Addr → Prop} {H H' H'' : Hp} (a : Keep L H L' H') (b : Keep L' H' L'' H'') : Keep L H L'' H'' := fun x o h l =>
  let ⟨h1, l1⟩ := a x o h l
  b x o h1 l1
section
variable {K : PySem.W.Frag} {L L' : Addr → Prop} {H H' : Hp}
theorem TupAt.mono (k : Keep L H L' H') {a : Addr} {vs : List V} (h : TupAt K L H a vs) : TupAt K L' H' a vs := by
  rcases h with ⟨h, l⟩ | h
  · exact .inl (k a _ h l)
  · exact .inr h
theorem TupAt.sq {a : Addr} {vs : List V} (h : TupAt K L H a vs) : SqT K H a vs := by
  rcases h with ⟨h, _⟩ | h
  · exact .inl (.inl h)
  · exact .inr h
mutual
theorem RepD.mono (k : Keep L H L' H') : ∀ {d : PyData} {v : V}, RepD K L H d v → RepD K L' H' d v
  | _, _, .non => .non
  | _, _, .bl b => .bl b
  | _, _, .int i => .int i
  | _, _, .str x => .str x
  | _, _, .lst h l r => .lst (k _ _ h l).1 (k _ _ h l).2 (RepDs.mono k r)
  | _, _, .tup t r => .tup (t.mono k) (RepDs.mono k r)
  | _, _, .dic h l r => .dic (k _ _ h l).1 (k _ _ h l).2 (RepKv.mono k r)
theorem RepDs.mono (k : Keep L H L' H') : ∀ {ds : List PyData} {vs : List V}, RepDs K L H ds vs → RepDs K L' H' ds vs
  | _, _, .nil => .nil
  | _, _, .cons h r => .cons (RepD.mono k h) (RepDs.mono k r)
theorem RepKv.mono (k : Keep L H L' H') : ∀ {ds : List (PyData × PyData)} {kvs : List (Key × V)}, RepKv K L H ds kvs → RepKv K L' H' ds kvs
  | _, _, .nil => .nil
  | _, _, .cons h r => .cons (RepD.mono k h) (RepKv.mono k r)
end
theorem RepDs.length : ∀ {ds : List PyData} {vs : List V}, RepDs K L H ds vs → ds.length = vs.length
  | _, _, .nil => rfl
  | _, _, .cons _ r => by
    have := RepDs.length r
    simp [this]
theorem RepDs.append : ∀ {ds es : List PyData} {vs ws : List V}, RepDs K L H ds vs → RepDs K L H es ws → RepDs K L H (ds ++ es) (vs ++ ws)
  | _, _, _, _, .nil, q => q
  | _, _, _, _, .cons h r, q => .cons h (RepDs.append r q)
theorem RepDs.take : ∀ {ds : List PyData} {vs : List V} (n : Nat), RepDs K L H ds vs → RepDs K L H (ds.take n) (vs.take n)
  | _, _, 0, _ => .nil
  | _, _, _ + 1, .nil => .nil
  | _, _, n + 1, .cons h r => .cons h (RepDs.take n r)
theorem RepDs.drop : ∀ {ds : List PyData} {vs : List V} (n : Nat), RepDs K L H ds vs → RepDs K L H (ds.drop n) (vs.drop n)
  | _, _, 0, r => r
  | _, _, _ + 1, .nil => .nil
  | _, _, n + 1, .cons _ r => RepDs.drop n r
theorem RepDs.reverse : ∀ {ds : List PyData} {vs : List V}, RepDs K L H ds vs → RepDs K L H ds.reverse vs.reverse
  | _, _, .nil => .nil
  | _, _, .cons h r => by
    rw [List.reverse_cons, List.reverse_cons]
    exact (RepDs.reverse r).append (.cons h .nil)
theorem RepDs.rep {ds : List PyData} {vs : List V} (h : RepDs K L H ds vs) : ∀ k : Nat, RepDs K L H (List.replicate k ds).flatten (List.replicate k vs).flatten
  | 0 => .nil
  | k + 1 => by
    rw [List.replicate_succ, List.replicate_succ, List.flatten_cons, List.flatten_cons]
    exact h.append (RepDs.rep h k)
theorem RepDs.get : ∀ {ds : List PyData} {vs : List V} {i : Nat} {d : PyData}, RepDs K L H ds vs → ds[i]? = some d → ∃ v, vs[i]? = some v ∧ RepD K L H d v
  | _, _, _, _, .nil, e => by simp at e
  | _, _, 0, _, .cons h _, e => by
    simp at e
    subst e
    exact ⟨_, rfl, h⟩
  | _, _, i + 1, d, .cons _ r, e => by
    obtain ⟨v, h1, h2⟩ := RepDs.get (i := i) (d := d) r (by simpa using e)
    exact ⟨v, by simpa using h1, h2⟩
theorem RepDs.getV : ∀ {ds : List PyData} {vs : List V} {i : Nat} {v : V}, RepDs K L H ds vs → vs[i]? = some v → ∃ d, ds[i]? = some d ∧ RepD K L H d v
  | _, _, _, _, .nil, e => by simp at e
  | _, _, 0, _, .cons h _, e => by
    simp at e
    subst e
    exact ⟨_, rfl, h⟩
  | _, _, i + 1, d, .cons _ r, e => by
    obtain ⟨v, h1, h2⟩ := RepDs.getV (i := i) (v := d) r (by simpa using e)
    exact ⟨v, by simpa using h1, h2⟩
theorem RepDs.nil_iff {ds : List PyData} {vs : List V} (h : RepDs K L H ds vs) : vs = [] ↔ ds = [] := by
  cases h <;> simp
theorem RepDs.empty {ds : List PyData} {vs : List V} (h : RepDs K L H ds vs) : vs.isEmpty = ds.isEmpty := by
  cases h <;> rfl
theorem RepKv.length : ∀ {ds : List (PyData × PyData)} {kvs : List (Key × V)}, RepKv K L H ds kvs → ds.length = kvs.length
  | _, _, .nil => rfl
  | _, _, .cons _ r => by
    have := RepKv.length r
    simp [this]
theorem RepKv.empty {ds : List (PyData × PyData)} {kvs : List (Key × V)} (h : RepKv K L H ds kvs) : kvs.isEmpty = ds.isEmpty := by
  cases h <;> rfl
theorem ints_rep : ∀ ns : List Int, RepDs K L H (ns.map .int) (ns.map V.int)
  | [] => .nil
  | i :: r => .cons (.int i) (ints_rep r)
end

/-- where the store's places stand; what is reserved (an object that is just being made) -/
structure Mu where
  l : List Addr
  g : Addr → Prop
def Mu.push (μ : Mu) (p : Addr) : Mu := { μ with l := μ.l ++ [p] }
def Mu.cut (μ : Mu) (k : Nat) : Mu := { μ with l := μ.l.take k }
/-- reserve p -/
def Mu.rsv (μ : Mu) (p : Addr) : Mu := { μ with g := fun a => a = p ∨ μ.g a }
/-- the place n of the store is live and stands at a; or a is reserved -/
def Live (S : Store) (μ : Mu) (a : Addr) : Prop := μ.g a ∨ ∃ (n : Nat) (o : Ob), μ.l[n]? = some a ∧ S[n]? = some (some o)
section
variable (K : PySem.W.Frag) (S : Store) (μ : Mu) (H : Hp)
def RepV : Vl → V → Prop
  | .d x, u => RepD K (Live S μ) H x u
  | .r n, u => ∃ a, μ.l[n]? = some a ∧ u = .ref a
def RepVs : List Vl → List V → Prop := Paired (RepV K S μ H)
def RefsLt (n : Nat) (xs : List Vl) : Prop := ∀ m, Vl.r m ∈ xs → m < n
def RepO (n : Nat) : Ob → HO → Prop
  | .lst xs, h => ∃ vs, h = .lst vs ∧ RepVs K S μ H xs vs ∧ RefsLt n xs
  | .dic kvs, h => ∃ ws, h = .dK ws ∧ Paired (fun (p : Key × Vl) (q : Key × V) => p.1 = q.1 ∧ RepV K S μ H p.2 q.2) kvs ws ∧ RefsLt n (kvs.map (·.2)) ∧ (kvs.map (·.1)).Nodup
  | .scr ns, h => ∃ o, h = .frz o (.lst (ns.map V.int))
structure SOk : Prop where
  len : μ.l.length = S.length
  nd : ∀ (i j : Nat) (a : Addr), μ.l[i]? = some a → μ.l[j]? = some a → i = j
  trk : ∀ (n : Nat) (a : Addr), μ.l[n]? = some a → ∃ o, H a = some o
  obj : ∀ (n : Nat) (a : Addr) (o : Ob), μ.l[n]? = some a → S[n]? = some (some o) → ∃ h, H a = some h ∧ RepO K S μ H n o h
  res : ∀ a, μ.g a → ∃ o, H a = some o
  apart : ∀ (n : Nat) (a : Addr), μ.l[n]? = some a → ¬ μ.g a
end
/-- a later state -/
structure Ext (S : Store) (μ : Mu) (H : Hp) (S' : Store) (μ' : Mu) (H' : Hp) : Prop where
  pre : μ.l <+: μ'.l
  g : μ'.g = μ.g
  keep : Keep (Live S μ) H (Live S' μ') H'
  res : ∀ a, μ.g a → H' a = H a
theorem Ext.refl {S : Store} {μ : Mu} {H : Hp} : Ext S μ H S μ H := ⟨List.prefix_refl _, rfl, Keep.refl, fun _ _ => rfl⟩
theorem Ext.trans {S S' S'' : Store} {μ μ' μ'' : Mu} {H H' H'' : Hp} (a : Ext S μ H S' μ' H') (b : Ext S' μ' H' S'' μ'' H'') : Ext S μ H S'' μ'' H'' := ⟨a.pre.trans b.pre, b.g.trans a.g, a.keep.trans b.keep, fun x h => (b.res x (by rw [a.g]; exact h)).trans (a.res x h)⟩
theorem pre_get {α : Type} {l l' : List α} (h : l <+: l') {n : Nat} {a : α} (e : l[n]? = some a) : l'[n]? = some a := by
  obtain ⟨r, rfl⟩ := h
  rw [List.getElem?_append_left (by
    have := (List.getElem?_eq_some_iff.mp e).1
    exact this)]
  exact e
section
variable {K : PySem.W.Frag} {S S' : Store} {μ μ' : Mu} {H H' : Hp}
theorem RepV.mono (e : Ext S μ H S' μ' H') {x : Vl} {u : V} (h : RepV K S μ H x u) : RepV K S' μ' H' x u := by
  cases x with
  | d x => exact RepD.mono e.keep h
  | r n =>
    obtain ⟨a, h1, h2⟩ := h
    exact ⟨a, pre_get e.pre h1, h2⟩
theorem RepVs.mono (e : Ext S μ H S' μ' H') {xs : List Vl} {us : List V} (h : RepVs K S μ H xs us) : RepVs K S' μ' H' xs us := Paired.mapP h fun _ _ q => RepV.mono e q
theorem repVs_d : ∀ {ds : List PyData} {vs : List V}, RepDs K (Live S μ) H ds vs → RepVs K S μ H (ds.map Vl.d) vs
  | _, _, .nil => .nil
  | _, _, .cons h r => .cons h (repVs_d r)
theorem repVs_of : ∀ {xs : List Vl} {ds : List PyData} {vs : List V}, allD xs = some ds → RepVs K S μ H xs vs → RepDs K (Live S μ) H ds vs
  | [], ds, vs, e, h => by
    cases h
    have e' : ([] : List PyData) = ds := Option.some.inj e
    subst e'
    exact .nil
  | .d x :: r, ds, vs, e, h => by
    cases h with
    | cons h1 h2 =>
      unfold allD at e
      obtain ⟨ys, e1, e2⟩ := Option.map_eq_some_iff.mp e
      subst e2
      exact .cons h1 (repVs_of e1 h2)
  | .r n :: r, ds, vs, e, h => by cases e
theorem RepVs.length {xs : List Vl} {us : List V} (h : RepVs K S μ H xs us) : xs.length = us.length := Paired.length h
theorem RepVs.append {xs ys : List Vl} {us vs : List V} (h : RepVs K S μ H xs us) (q : RepVs K S μ H ys vs) : RepVs K S μ H (xs ++ ys) (us ++ vs) := by
  induction h with
  | nil => exact q
  | cons a _ ih => exact .cons a ih
theorem RepVs.get : ∀ {xs : List Vl} {us : List V} {i : Nat} {x : Vl}, RepVs K S μ H xs us → xs[i]? = some x → ∃ u, us[i]? = some u ∧ RepV K S μ H x u
  | _, _, _, _, .nil, e => by simp at e
  | _, _, 0, _, .cons h _, e => by
    simp at e
    subst e
    exact ⟨_, rfl, h⟩
  | _, _, i + 1, x, .cons _ r, e => by
    obtain ⟨v, h1, h2⟩ := RepVs.get (i := i) (x := x) r (by simpa using e)
    exact ⟨v, by simpa using h1, h2⟩
theorem RepVs.getV : ∀ {xs : List Vl} {us : List V} {i : Nat} {u : V}, RepVs K S μ H xs us → us[i]? = some u → ∃ x, xs[i]? = some x ∧ RepV K S μ H x u
  | _, _, _, _, .nil, e => by simp at e
  | _, _, 0, _, .cons h _, e => by
    simp at e
    subst e
    exact ⟨_, rfl, h⟩
  | _, _, i + 1, x, .cons _ r, e => by
    obtain ⟨v, h1, h2⟩ := RepVs.getV (i := i) (u := x) r (by simpa using e)
    exact ⟨v, by simpa using h1, h2⟩
theorem RepVs.set {x : Vl} {u : V} (h : RepV K S μ H x u) : ∀ {xs : List Vl} {us : List V} (i : Nat), RepVs K S μ H xs us → RepVs K S μ H (xs.set i x) (us.set i u)
  | _, _, _, .nil => .nil
  | _, _, 0, .cons _ r => .cons h r
  | _, _, i + 1, .cons q r => .cons q (RepVs.set h i r)
theorem RepVs.dropLast {xs : List Vl} {us : List V} (h : RepVs K S μ H xs us) : RepVs K S μ H xs.dropLast us.dropLast := by
  induction h with
  | nil => exact .nil
  | @cons a b l1 l2 p q ih =>
    cases q with
    | nil => exact .nil
    | cons p2 q2 => exact .cons p ih
/-- addresses of the store are tracked, so a new place is none of them -/
theorem SOk.new (ok : SOk K S μ H) {p : Addr} (h : H p = none) : ∀ n : Nat, μ.l[n]? ≠ some p := fun n e => by
  obtain ⟨o, q⟩ := ok.trk n p e
  rw [h] at q
  cases q
theorem SOk.newG (ok : SOk K S μ H) {p : Addr} (h : H p = none) : ¬ μ.g p := fun e => by
  obtain ⟨o, q⟩ := ok.res p e
  rw [h] at q
  cases q
theorem SOk.newL (ok : SOk K S μ H) {p : Addr} (h : H p = none) : ¬ Live S μ p := fun z => by
  rcases z with z | ⟨n, _, e, _⟩
  · exact ok.newG h z
  · exact ok.new h n e
/-- something is laid that is not of the store -/
theorem Ext.laid {p : Addr} {o : HO} (h : H p = none) (ok : SOk K S μ H) : Ext S μ H S μ (upd H p o) := ⟨List.prefix_refl _, rfl, fun a u e l => ⟨by
  rw [upd_ne (ne_of_none e h)]
  exact e, l⟩, fun a z => upd_ne fun (e : a = p) => ok.newG h (e ▸ z)⟩
theorem RepO.mono (e : Ext S μ H S' μ' H') {n : Nat} {o : Ob} {h : HO} (q : RepO K S μ H n o h) : RepO K S' μ' H' n o h := by
  cases o with
  | lst xs =>
    obtain ⟨vs, e1, r, l⟩ := q
    exact ⟨vs, e1, r.mono e, l⟩
  | dic kvs =>
    obtain ⟨ws, e1, r, l⟩ := q
    exact ⟨ws, e1, Paired.mapP r fun _ _ z => ⟨z.1, RepV.mono e z.2⟩, l⟩
  | scr ns => exact q
theorem SOk.laid (ok : SOk K S μ H) {p : Addr} {o : HO} (h : H p = none) : SOk K S μ (upd H p o) := by
  refine ⟨ok.len, ok.nd, fun n a e => ?_, fun n a ob e1 e2 => ?_, fun a z => ?_, ok.apart⟩
  · obtain ⟨u, q⟩ := ok.trk n a e
    exact ⟨u, by rw [upd_ne (ne_of_none q h)]; exact q⟩
  · obtain ⟨u, q, r⟩ := ok.obj n a ob e1 e2
    exact ⟨u, by rw [upd_ne (ne_of_none q h)]; exact q, r.mono (Ext.laid h ok)⟩
  · obtain ⟨u, q⟩ := ok.res a z
    exact ⟨u, by rw [upd_ne (ne_of_none q h)]; exact q⟩
theorem getA {α : Type} {l : List α} {x : α} : (l ++ [x])[l.length]? = some x := by simp
/-- a new live object -/
theorem Ext.push {p : Addr} {o : HO} {ob : Ob} (ok : SOk K S μ H) (h : H p = none) : Ext S μ H (S ++ [some ob]) (μ.push p) (upd H p o) := by
  refine ⟨List.prefix_append _ _, rfl, fun a u e l => ⟨by rw [upd_ne (ne_of_none e h)]; exact e, ?_⟩, fun a z => upd_ne fun (e : a = p) => ok.newG h (e ▸ z)⟩
  rintro (z | ⟨n, ob', e1, e2⟩)
  · exact l (.inl z)
  have e1 : (μ.l ++ [p])[n]? = some a := e1
  by_cases hn : n < S.length
  · rw [List.getElem?_append_left (by rw [ok.len]; exact hn)] at e1
    rw [List.getElem?_append_left hn] at e2
    exact l (.inr ⟨n, ob', e1, e2⟩)
  · by_cases hn2 : n = S.length
    · subst hn2
      rw [← ok.len, getA] at e1
      cases e1
      rw [h] at e
      cases e
    · rw [List.getElem?_eq_none (by simp; omega)] at e2
      cases e2
theorem SOk.push {p : Addr} {o : HO} {ob : Ob} (ok : SOk K S μ H) (h : H p = none) (r : RepO K (S ++ [some ob]) (μ.push p) (upd H p o) S.length ob o) : SOk K (S ++ [some ob]) (μ.push p) (upd H p o) := by
  have ext := Ext.push (p := p) (o := o) (ob := ob) ok h
  have old : ∀ (n : Nat) (a : Addr), (μ.l ++ [p])[n]? = some a → (μ.l[n]? = some a ∧ n < S.length) ∨ (n = S.length ∧ a = p) := fun n a e => by
    by_cases hn : n < S.length
    · rw [List.getElem?_append_left (by rw [ok.len]; exact hn)] at e
      exact .inl ⟨e, hn⟩
    · by_cases hn2 : n = S.length
      · subst hn2
        rw [← ok.len, getA] at e
        cases e
        exact .inr ⟨rfl, rfl⟩
      · rw [List.getElem?_eq_none (by rw [List.length_append, ok.len]; simp; omega)] at e
        cases e
  refine ⟨by show (μ.l ++ [p]).length = _; simp [ok.len], fun i j a e1 e2 => ?_, fun n a e => ?_, fun n a ob' e1 e2 => ?_, fun a z => ?_, fun n a e z => ?_⟩
  rotate_left 3
  · obtain ⟨u, q⟩ := ok.res a z
    exact ⟨u, by rw [upd_ne (ne_of_none q h)]; exact q⟩
  · rcases old n a e with ⟨q, _⟩ | ⟨_, rfl⟩
    · exact ok.apart n a q z
    · exact ok.newG h z
  · rcases old i a e1 with ⟨q1, _⟩ | ⟨q1, q2⟩ <;> rcases old j a e2 with ⟨z1, _⟩ | ⟨z1, z2⟩
    · exact ok.nd i j a q1 z1
    · subst z2
      exact absurd q1 (ok.new h i)
    · subst q2
      exact absurd z1 (ok.new h j)
    · omega
  · rcases old n a e with ⟨q, _⟩ | ⟨_, rfl⟩
    · obtain ⟨u, z⟩ := ok.trk n a q
      exact ⟨u, by rw [upd_ne (ne_of_none z h)]; exact z⟩
    · exact ⟨o, upd_same⟩
  · rcases old n a e1 with ⟨q, hn⟩ | ⟨hn, rfl⟩
    · rw [List.getElem?_append_left hn] at e2
      obtain ⟨u, z, w⟩ := ok.obj n a ob' q e2
      exact ⟨u, by rw [upd_ne (ne_of_none z h)]; exact z, w.mono ext⟩
    · subst hn
      rw [getA] at e2
      cases e2
      exact ⟨o, upd_same, r⟩
/-- a live object is changed -/
theorem Ext.put {n : Nat} {a : Addr} {o : HO} {ob ob' : Ob} (ok : SOk K S μ H) (e1 : μ.l[n]? = some a) (e2 : S[n]? = some (some ob)) : Ext S μ H (setO S n ob') μ (upd H a o) := by
  refine ⟨List.prefix_refl _, rfl, fun b u e l => ?_, fun b z => upd_ne fun e => ok.apart n a e1 (e ▸ z)⟩
  have hb : b ≠ a := fun z => l (.inr ⟨n, ob, by rw [z]; exact e1, e2⟩)
  refine ⟨by rw [upd_ne hb]; exact e, ?_⟩
  rintro (z | ⟨m, ob2, q1, q2⟩)
  · exact l (.inl z)
  have hm : m ≠ n := fun z => hb (by
    rw [z, e1] at q1
    exact (Option.some.inj q1).symm)
  unfold setO at q2
  rw [List.getElem?_set_ne (Ne.symm hm)] at q2
  exact l (.inr ⟨m, ob2, q1, q2⟩)
theorem SOk.put {n : Nat} {a : Addr} {o : HO} {ob ob' : Ob} (ok : SOk K S μ H) (e1 : μ.l[n]? = some a) (e2 : S[n]? = some (some ob)) (r : RepO K (setO S n ob') μ (upd H a o) n ob' o) : SOk K (setO S n ob') μ (upd H a o) := by
  have ext := Ext.put (o := o) (ob' := ob') ok e1 e2
  have hn : n < S.length := (List.getElem?_eq_some_iff.mp e2).1
  refine ⟨by unfold setO; simp [ok.len], ok.nd, fun m b e => ?_, fun m b ob2 q1 q2 => ?_, fun b z => ?_, ok.apart⟩
  rotate_left 2
  · obtain ⟨u, q⟩ := ok.res b z
    exact ⟨u, by rw [upd_ne fun (e : b = a) => ok.apart n a e1 (e ▸ z)]; exact q⟩
  · by_cases hb : b = a
    · subst hb
      exact ⟨o, upd_same⟩
    · obtain ⟨u, z⟩ := ok.trk m b e
      exact ⟨u, by rw [upd_ne hb]; exact z⟩
  · by_cases hm : m = n
    · subst hm
      rw [e1] at q1
      cases q1
      unfold setO at q2
      rw [List.getElem?_set_self hn] at q2
      cases q2
      exact ⟨o, upd_same, r⟩
    · have hb : b ≠ a := fun z => hm (ok.nd m n a (by rw [← z]; exact q1) e1)
      unfold setO at q2
      rw [List.getElem?_set_ne (Ne.symm hm)] at q2
      obtain ⟨u, z, w⟩ := ok.obj m b ob2 q1 q2
      exact ⟨u, by rw [upd_ne hb]; exact z, w.mono ext⟩
/-- a live object is live no more -/
theorem Ext.drop {n : Nat} : Ext S μ H (S.set n none) μ H := by
  refine ⟨List.prefix_refl _, rfl, fun a u e l => ⟨e, ?_⟩, fun _ _ => rfl⟩
  rintro (z | ⟨m, ob, q1, q2⟩)
  · exact l (.inl z)
  by_cases hm : m = n
  · subst hm
    by_cases hl : m < S.length
    · rw [List.getElem?_set_self hl] at q2
      cases q2
    · rw [List.getElem?_eq_none (by simp; omega)] at q2
      cases q2
  · rw [List.getElem?_set_ne (Ne.symm hm)] at q2
    exact l (.inr ⟨m, ob, q1, q2⟩)
theorem SOk.drop {n : Nat} (ok : SOk K S μ H) : SOk K (S.set n none) μ H := by
  refine ⟨by simp [ok.len], ok.nd, ok.trk, fun m b ob q1 q2 => ?_, ok.res, ok.apart⟩
  by_cases hm : m = n
  · subst hm
    by_cases hl : m < S.length
    · rw [List.getElem?_set_self hl] at q2
      cases q2
    · rw [List.getElem?_eq_none (by simp; omega)] at q2
      cases q2
  · rw [List.getElem?_set_ne (Ne.symm hm)] at q2
    obtain ⟨u, z, w⟩ := ok.obj m b ob q1 q2
    exact ⟨u, z, w.mono Ext.drop⟩
/-- the store's end is cut off -/
theorem Keep.cut {k : Nat} : Keep (Live S μ) H (Live (S.take k) (μ.cut k)) H := fun a u e l => ⟨e, fun z => by
  rcases z with z | ⟨m, ob, q1, q2⟩
  · exact l (.inl z)
  have q1 : (μ.l.take k)[m]? = some a := q1
  refine l (.inr ⟨m, ob, ?_, ?_⟩)
  · rw [List.getElem?_take] at q1
    split at q1
    · exact q1
    · cases q1
  · rw [List.getElem?_take] at q2
    split at q2
    · exact q2
    · cases q2⟩
theorem RepV.cut {k : Nat} {x : Vl} {u : V} (h : RepV K S μ H x u) (hx : ∀ m, x = .r m → m < k) : RepV K (S.take k) (μ.cut k) H x u := by
  cases x with
  | d x => exact RepD.mono Keep.cut h
  | r n =>
    obtain ⟨a, h1, h2⟩ := h
    refine ⟨a, ?_, h2⟩
    show (μ.l.take k)[n]? = some a
    rw [List.getElem?_take, if_pos (hx n rfl)]
    exact h1
theorem RepVs.cut {k : Nat} : ∀ {xs : List Vl} {us : List V}, RepVs K S μ H xs us → RefsLt k xs → RepVs K (S.take k) (μ.cut k) H xs us
  | _, _, .nil, _ => .nil
  | _, _, .cons h r, l => .cons (RepV.cut h fun m e => l m (by rw [e]; exact List.mem_cons_self ..)) (RepVs.cut r fun m z => l m (List.mem_cons_of_mem _ z))
theorem RepO.cut {k n : Nat} (hn : n ≤ k) {o : Ob} {h : HO} (q : RepO K S μ H n o h) : RepO K (S.take k) (μ.cut k) H n o h := by
  cases o with
  | lst xs =>
    obtain ⟨vs, e1, r, l⟩ := q
    exact ⟨vs, e1, r.cut fun m z => Nat.lt_of_lt_of_le (l m z) hn, l⟩
  | dic kvs =>
    obtain ⟨ws, e1, r, l, nd⟩ := q
    refine ⟨ws, e1, ?_, l, nd⟩
    clear e1 nd
    induction r with
    | nil => exact .nil
    | cons p q ih =>
      refine .cons ⟨p.1, RepV.cut p.2 fun m e => Nat.lt_of_lt_of_le (l m (by rw [List.map_cons, e]; exact List.mem_cons_self ..)) hn⟩ (ih fun m z => l m (by rw [List.map_cons]; exact List.mem_cons_of_mem _ z))
  | scr ns => exact q
theorem SOk.cut (ok : SOk K S μ H) (k : Nat) : SOk K (S.take k) (μ.cut k) H := by
  have g : ∀ {α : Type} {l : List α} {n : Nat} {x : α}, (l.take k)[n]? = some x → l[n]? = some x ∧ n < k := fun {α l n x} e => by
    rw [List.getElem?_take] at e
    split at e
    · exact ⟨e, by assumption⟩
    · cases e
  refine ⟨by show (μ.l.take k).length = _; simp [ok.len], fun i j a e1 e2 => ok.nd i j a (g e1).1 (g e2).1, fun n a e => ok.trk n a (g e).1, fun n a o e1 e2 => ?_, ok.res, fun n a e => ok.apart n a (g e).1⟩
  obtain ⟨u, z, w⟩ := ok.obj n a o (g e1).1 (g e2).1
  exact ⟨u, z, w.cut (Nat.le_of_lt (g e1).2)⟩
end

/-! ### a reserved place -/
section
variable {K : PySem.W.Frag} {S S2 : Store} {μ μ2 : Mu} {H H2 : Hp} {p : Addr} {o : HO}
theorem SOk.rsv (ok : SOk K S μ H) (h : H p = none) : SOk K S (μ.rsv p) (upd H p o) := by
  have ok' := ok.laid (o := o) h
  have ext : ∀ {x : Vl} {u : V}, RepV K S μ H x u → RepV K S (μ.rsv p) (upd H p o) x u := fun {x u} r => by
    cases x with
    | d d =>
      refine RepD.mono (fun a w e l => ⟨by rw [upd_ne (ne_of_none e h)]; exact e, ?_⟩) r
      rintro ((z | z) | z)
      · rw [z, h] at e
        cases e
      · exact l (.inl z)
      · exact l (.inr z)
    | r n => exact r
  refine ⟨ok.len, ok.nd, ok'.trk, fun n a ob e1 e2 => ?_, fun a z => ?_, fun n a e z => ?_⟩
  · obtain ⟨u, q, r⟩ := ok.obj n a ob e1 e2
    refine ⟨u, by rw [upd_ne (ne_of_none q h)]; exact q, ?_⟩
    cases ob with
    | lst xs =>
      obtain ⟨vs, e1, r, l⟩ := r
      exact ⟨vs, e1, Paired.mapP r fun _ _ z => ext z, l⟩
    | dic kvs =>
      obtain ⟨ws, e1, r, l⟩ := r
      exact ⟨ws, e1, Paired.mapP r fun _ _ z => ⟨z.1, ext z.2⟩, l⟩
    | scr ns => exact r
  · rcases z with z | z
    · exact ⟨o, by rw [z]; exact upd_same⟩
    · exact ok'.res a z
  · rcases z with z | z
    · exact ok.new h n (z ▸ e)
    · exact ok.apart n a e z
theorem RepV.rsv (r : RepV K S μ H x u) (h : H p = none) : RepV K S (μ.rsv p) (upd H p o) x u := by
  cases x with
  | d d =>
    refine RepD.mono (fun a w e l => ⟨by rw [upd_ne (ne_of_none e h)]; exact e, ?_⟩) r
    rintro ((z | z) | z)
    · rw [z, h] at e
      cases e
    · exact l (.inl z)
    · exact l (.inr z)
  | r n => exact r
/-- behind what was made while p was reserved, p holds o': everything else reads as before -/
theorem Keep.unrsv {g : Addr → Prop} (e : μ2.g = fun a => a = p ∨ g a) : Keep (Live S2 μ2) H2 (Live S2 { μ2 with g := g }) (upd H2 p o) := fun a w q l => by
  have hp : a ≠ p := fun z => l (.inl (by rw [e]; exact .inl z))
  refine ⟨by rw [upd_ne hp]; exact q, ?_⟩
  rintro (z | z)
  · exact l (.inl (by rw [e]; exact .inr z))
  · exact l (.inr z)
theorem RepV.unrsv {g : Addr → Prop} (e : μ2.g = fun a => a = p ∨ g a) {x : Vl} {u : V} (r : RepV K S2 μ2 H2 x u) : RepV K S2 { μ2 with g := g } (upd H2 p o) x u := by
  cases x with
  | d d => exact RepD.mono (Keep.unrsv e) r
  | r n => exact r
theorem RepVs.unrsv {g : Addr → Prop} (e : μ2.g = fun a => a = p ∨ g a) {xs : List Vl} {us : List V} (r : RepVs K S2 μ2 H2 xs us) : RepVs K S2 { μ2 with g := g } (upd H2 p o) xs us := Paired.mapP r fun _ _ z => RepV.unrsv e z
theorem SOk.unrsv {g : Addr → Prop} (ok : SOk K S2 μ2 H2) (e : μ2.g = fun a => a = p ∨ g a) (ng : ¬ g p) : SOk K S2 { μ2 with g := g } (upd H2 p o) := by
  refine ⟨ok.len, ok.nd, fun n a q => ?_, fun n a ob q1 q2 => ?_, fun a z => ?_, fun n a q z => ok.apart n a q (by rw [e]; exact .inr z)⟩
  · by_cases hp : a = p
    · exact ⟨o, by rw [hp]; exact upd_same⟩
    · obtain ⟨u, w⟩ := ok.trk n a q
      exact ⟨u, by rw [upd_ne hp]; exact w⟩
  · have hp : a ≠ p := fun z => ok.apart n a q1 (by rw [e]; exact .inl z)
    obtain ⟨u, w, r⟩ := ok.obj n a ob q1 q2
    refine ⟨u, by rw [upd_ne hp]; exact w, ?_⟩
    cases ob with
    | lst xs =>
      obtain ⟨vs, e1, r, l⟩ := r
      exact ⟨vs, e1, RepVs.unrsv e r, l⟩
    | dic kvs =>
      obtain ⟨ws, e1, r, l⟩ := r
      exact ⟨ws, e1, Paired.mapP r fun _ _ z => ⟨z.1, RepV.unrsv e z.2⟩, l⟩
    | scr ns => exact r
  · have hp : a ≠ p := fun w => ng (w ▸ z)
    obtain ⟨u, w⟩ := ok.res a (by rw [e]; exact .inr z)
    exact ⟨u, by rw [upd_ne hp]; exact w⟩
/-- from ahead of the reservation -/
theorem Ext.unrsv {o1 : HO} (h : H p = none) (ok : SOk K S μ H) (e : Ext S (μ.rsv p) (upd H p o1) S2 μ2 H2) : Ext S μ H S2 { μ2 with g := μ.g } (upd H2 p o) := by
  refine ⟨e.pre, rfl, fun a w q l => ?_, fun a z => ?_⟩
  · have hp : a ≠ p := ne_of_none q h
    obtain ⟨z1, z2⟩ := e.keep a w (by rw [upd_ne hp]; exact q) (by
      rintro ((z | z) | z)
      · exact hp z
      · exact l (.inl z)
      · exact l (.inr z))
    refine ⟨by rw [upd_ne hp]; exact z1, ?_⟩
    rintro (z | z)
    · exact z2 (.inl (by rw [e.g]; exact .inr z))
    · exact z2 (.inr z)
  · have hp : a ≠ p := fun w => ok.newG h (w ▸ z)
    rw [upd_ne hp, e.res a (.inr z), upd_ne hp]
end
/-! ### a reserved place becomes live -/
section
variable {K : PySem.W.Frag} {S S2 : Store} {μ μ2 : Mu} {H H2 : Hp} {p : Addr} {o : HO} {ob : Ob} {g : Addr → Prop}
def Mu.adopt (μ2 : Mu) (p : Addr) (g : Addr → Prop) : Mu := ⟨μ2.l ++ [p], g⟩
theorem adopt_at (ok : SOk K S2 μ2 H2) {n : Nat} {a : Addr} (e : (μ2.l ++ [p])[n]? = some a) : (μ2.l[n]? = some a ∧ n < S2.length) ∨ (n = S2.length ∧ a = p) := by
  by_cases hn : n < S2.length
  · rw [List.getElem?_append_left (by rw [ok.len]; exact hn)] at e
    exact .inl ⟨e, hn⟩
  · by_cases hn2 : n = S2.length
    · subst hn2
      rw [← ok.len, getA] at e
      cases e
      exact .inr ⟨rfl, rfl⟩
    · rw [List.getElem?_eq_none (by rw [List.length_append, ok.len]; simp; omega)] at e
      cases e
theorem Live.adopt (ok : SOk K S2 μ2 H2) (e : μ2.g = fun a => a = p ∨ g a) {a : Addr} (h : Live (S2 ++ [some ob]) (μ2.adopt p g) a) : Live S2 μ2 a := by
  rcases h with z | ⟨n, ob', e1, e2⟩
  · exact .inl (by rw [e]; exact .inr z)
  · rcases adopt_at ok e1 with ⟨q, hn⟩ | ⟨hn, rfl⟩
    · rw [List.getElem?_append_left hn] at e2
      exact .inr ⟨n, ob', q, e2⟩
    · exact .inl (by rw [e]; exact .inl rfl)
theorem Keep.adopt (ok : SOk K S2 μ2 H2) (e : μ2.g = fun a => a = p ∨ g a) : Keep (Live S2 μ2) H2 (Live (S2 ++ [some ob]) (μ2.adopt p g)) (upd H2 p o) := fun a w q l => by
  have hp : a ≠ p := fun z => l (.inl (by rw [e]; exact .inl z))
  exact ⟨by rw [upd_ne hp]; exact q, fun z => l (z.adopt ok e)⟩
theorem RepV.adopt (ok : SOk K S2 μ2 H2) (e : μ2.g = fun a => a = p ∨ g a) {x : Vl} {u : V} (r : RepV K S2 μ2 H2 x u) : RepV K (S2 ++ [some ob]) (μ2.adopt p g) (upd H2 p o) x u := by
  cases x with
  | d d => exact RepD.mono (Keep.adopt ok e) r
  | r n =>
    obtain ⟨a, h1, h2⟩ := r
    exact ⟨a, pre_get (List.prefix_append _ _) h1, h2⟩
theorem RepVs.adopt (ok : SOk K S2 μ2 H2) (e : μ2.g = fun a => a = p ∨ g a) {xs : List Vl} {us : List V} (r : RepVs K S2 μ2 H2 xs us) : RepVs K (S2 ++ [some ob]) (μ2.adopt p g) (upd H2 p o) xs us := Paired.mapP r fun _ _ z => RepV.adopt ok e z
theorem SOk.adopt (ok : SOk K S2 μ2 H2) (e : μ2.g = fun a => a = p ∨ g a) (ng : ¬ g p) (r : RepO K (S2 ++ [some ob]) (μ2.adopt p g) (upd H2 p o) S2.length ob o) : SOk K (S2 ++ [some ob]) (μ2.adopt p g) (upd H2 p o) := by
  have np : ∀ n : Nat, μ2.l[n]? ≠ some p := fun n z => ok.apart n p z (by rw [e]; exact .inl rfl)
  refine ⟨by show (μ2.l ++ [p]).length = _; simp [ok.len], fun i j a e1 e2 => ?_, fun n a q => ?_, fun n a ob' q1 q2 => ?_, fun a z => ?_, fun n a q z => ?_⟩
  · rcases adopt_at ok e1 with ⟨q1, _⟩ | ⟨q1, q2⟩ <;> rcases adopt_at ok e2 with ⟨z1, _⟩ | ⟨z1, z2⟩
    · exact ok.nd i j a q1 z1
    · subst z2
      exact absurd q1 (np i)
    · subst q2
      exact absurd z1 (np j)
    · omega
  · rcases adopt_at ok q with ⟨q, _⟩ | ⟨_, rfl⟩
    · have hp : a ≠ p := fun z => np n (z ▸ q)
      obtain ⟨u, w⟩ := ok.trk n a q
      exact ⟨u, by rw [upd_ne hp]; exact w⟩
    · exact ⟨o, upd_same⟩
  · rcases adopt_at ok q1 with ⟨q, hn⟩ | ⟨hn, rfl⟩
    · have hp : a ≠ p := fun z => np n (z ▸ q)
      rw [List.getElem?_append_left hn] at q2
      obtain ⟨u, w, r'⟩ := ok.obj n a ob' q q2
      refine ⟨u, by rw [upd_ne hp]; exact w, ?_⟩
      cases ob' with
      | lst xs =>
        obtain ⟨vs, e1, r', l⟩ := r'
        exact ⟨vs, e1, RepVs.adopt ok e r', l⟩
      | dic kvs =>
        obtain ⟨ws, e1, r', l⟩ := r'
        exact ⟨ws, e1, Paired.mapP r' fun _ _ z => ⟨z.1, RepV.adopt ok e z.2⟩, l⟩
      | scr ns => exact r'
    · subst hn
      rw [getA] at q2
      cases q2
      exact ⟨o, upd_same, r⟩
  · have hp : a ≠ p := fun w => ng (w ▸ z)
    obtain ⟨u, w⟩ := ok.res a (by rw [e]; exact .inr z)
    exact ⟨u, by rw [upd_ne hp]; exact w⟩
  · rcases adopt_at ok q with ⟨q, _⟩ | ⟨_, rfl⟩
    · exact ok.apart n a q (by rw [e]; exact .inr z)
    · exact ng z
theorem Ext.adopt {o1 : HO} (h : H p = none) (ok : SOk K S μ H) (ok2 : SOk K S2 μ2 H2) (e : Ext S (μ.rsv p) (upd H p o1) S2 μ2 H2) : Ext S μ H (S2 ++ [some ob]) (μ2.adopt p μ.g) (upd H2 p o) := by
  refine ⟨e.pre.trans (List.prefix_append _ _), rfl, fun a w q l => ?_, fun a z => ?_⟩
  · have hp : a ≠ p := ne_of_none q h
    obtain ⟨z1, z2⟩ := e.keep a w (by rw [upd_ne hp]; exact q) (by
      rintro ((z | z) | z)
      · exact hp z
      · exact l (.inl z)
      · exact l (.inr z))
    exact ⟨by rw [upd_ne hp]; exact z1, fun z => z2 (z.adopt ok2 e.g)⟩
  · have hp : a ≠ p := fun w => ok.newG h (w ▸ z)
    rw [upd_ne hp, e.res a (.inr z), upd_ne hp]
end
/-! ### the frame -/
def EnvOk (K : PySem.W.Frag) (S : Store) (μ : Mu) (H : Hp) (ρ : Env) (σ : L2.St) : Prop := ρ.length = σ.length ∧ ∀ (i : Nat) (v : Vl), ρ[i]? = some (some v) → ∃ u, σ[i]? = some (some u) ∧ RepV K S μ H v u
theorem EnvOk.mono {K : PySem.W.Frag} {S S' : Store} {μ μ' : Mu} {H H' : Hp} {ρ : Env} {σ : L2.St} (e : Ext S μ H S' μ' H') (h : EnvOk K S μ H ρ σ) : EnvOk K S' μ' H' ρ σ := ⟨h.1, fun i v q =>
  let ⟨u, q1, q2⟩ := h.2 i v q
  ⟨u, q1, q2.mono e⟩⟩
theorem EnvOk.set {K : PySem.W.Frag} {S : Store} {μ : Mu} {H : Hp} {ρ : Env} {σ : L2.St} {v : Vl} {u : V} (h : EnvOk K S μ H ρ σ) (i : Nat) (r : RepV K S μ H v u) : EnvOk K S μ H (ρ.set i (some v)) (σ.set i (some u)) := by
  refine ⟨by simp [h.1], fun j w q => ?_⟩
  by_cases hj : i = j
  · subst hj
    by_cases hl : i < ρ.length
    · rw [List.getElem?_set_self hl] at q
      cases q
      exact ⟨u, List.getElem?_set_self (by rw [← h.1]; exact hl), r⟩
    · rw [List.getElem?_eq_none (by simp; omega)] at q
      cases q
  · rw [List.getElem?_set_ne hj] at q
    obtain ⟨u', q1, q2⟩ := h.2 j w q
    exact ⟨u', by rw [List.getElem?_set_ne hj]; exact q1, q2⟩
theorem EnvOk.wiped {K : PySem.W.Frag} {S : Store} {μ : Mu} {H : Hp} {ρ : Env} {σ : L2.St} (h : EnvOk K S μ H ρ σ) : ∀ vs : List Nat, EnvOk K S μ H (wipeE ρ vs) (wipe σ vs)
  | [] => h
  | v :: vs => by
    have ih := EnvOk.wiped h vs
    refine ⟨by unfold wipeE L2.wipe; simp [ih.1], fun j w q => ?_⟩
    unfold wipeE at q
    unfold L2.wipe
    by_cases hj : v = j
    · subst hj
      by_cases hl : v < (wipeE ρ vs).length
      · rw [List.getElem?_set_self hl] at q
        cases q
      · rw [List.getElem?_eq_none (by simp; omega)] at q
        cases q
    · rw [List.getElem?_set_ne hj] at q
      obtain ⟨u', q1, q2⟩ := ih.2 j w q
      exact ⟨u', by rw [List.getElem?_set_ne hj]; exact q1, q2⟩

/-! ### readings by the interpreter -/
/-- how an exception lies -/
abbrev XRep := Ex → Value → Option Addr → Store → Mu → Hp → Prop
abbrev WX := Value → Option Addr → L2.St → Hp → Prop
section
variable (K : PySem.W.Frag) (XR : XRep) (Wx : WX)
/-- what must hold of an answer -/
def Post {α : Type} (σ : L2.St) (S : Store) (μ : Mu) (H : Hp) (Q : α → Store → Mu → Hp → Prop) : R α → Prop
  | .ok v S' => ∀ μ' H', Ext S μ H S' μ' H' → SOk K S' μ' H' → Q v S' μ' H'
  | .ex x S' => ∀ μ' H' c d, Ext S μ H S' μ' H' → SOk K S' μ' H' → XR x c d S' μ' H' → Wx c d σ H'
  | .fail => False
structure At (σ : L2.St) (H : Hp) (ρ : Env) (S : Store) (μ : Mu) : Prop where
  ok : SOk K S μ H
  env : EnvOk K S μ H ρ σ
/-- an expression that gives m -/
def tM (m : Env → Store → R Vl) : TE := fun σ H Q => ∃ ρ S μ, At K σ H ρ S μ ∧ Post K XR Wx σ S μ H (fun v S' μ' H' => ∀ u, RepV K S' μ' H' v u → Q u H') (m ρ S)
/-- a test that gives m -/
def tMB (m : Env → Store → R Bool) : TT := fun σ H Q => ∃ ρ S μ, At K σ H ρ S μ ∧ Post K XR Wx σ S μ H (fun b _ _ H' => Q b H') (m ρ S)
def tMA (m : Env → Store → R (List Vl)) : TA := fun σ H Q => ∃ ρ S μ, At K σ H ρ S μ ∧ Post K XR Wx σ S μ H (fun vs S' μ' H' => ∀ us, RepVs K S' μ' H' vs us → Q us H') (m ρ S)
def tMO (m : Env → Store → R (Option Int)) : TO := fun σ H Q => ∃ ρ S μ, At K σ H ρ S μ ∧ Post K XR Wx σ S μ H (fun b _ _ H' => Q b H') (m ρ S)
end
section
variable {K : PySem.W.Frag} {XR : XRep} {Wx : WX} {α β : Type} {σ : L2.St} {S S1 : Store} {μ μ1 : Mu} {H H1 : Hp}
theorem Post.imp {Q Q' : α → Store → Mu → Hp → Prop} {m : R α} (h : Post K XR Wx σ S μ H Q m) (f : ∀ v S' μ' H', Ext S μ H S' μ' H' → SOk K S' μ' H' → Q v S' μ' H' → Q' v S' μ' H') : Post K XR Wx σ S μ H Q' m := by
  cases m with
  | ok v S' => exact fun μ' H' e o => f v S' μ' H' e o (h μ' H' e o)
  | ex x S' => exact h
  | fail => exact h
theorem Post.later {Q : α → Store → Mu → Hp → Prop} {m : R α} (e : Ext S μ H S1 μ1 H1) (h : Post K XR Wx σ S μ H Q m) : Post K XR Wx σ S1 μ1 H1 Q m := by
  cases m with
  | ok v S' => exact fun μ' H' e' o => h μ' H' (e.trans e') o
  | ex x S' => exact fun μ' H' c d e' o => h μ' H' c d (e.trans e') o
  | fail => exact h
/-- one after another -/
theorem Post.bind {Q : β → Store → Mu → Hp → Prop} {m : R α} {f : α → Store → R β} (h : Post K XR Wx σ S μ H Q (m.bind f)) :
    Post K XR Wx σ S μ H (fun v S' μ' H' => Post K XR Wx σ S' μ' H' Q (f v S')) m := by
  cases m with
  | ok v S' => exact fun μ' H' e o => Post.later e h
  | ex x S' => exact h
  | fail => exact h
theorem At.mono {ρ : Env} (a : At K σ H ρ S μ) (e : Ext S μ H S1 μ1 H1) (o : SOk K S1 μ1 H1) : At K σ H1 ρ S1 μ1 := ⟨o, a.env.mono e⟩
theorem Post.here {Q : α → Store → Mu → Hp → Prop} {v : α} (ok : SOk K S μ H) (h : Post K XR Wx σ S μ H Q (.ok v S)) : Q v S μ H := h μ H Ext.refl ok
theorem Post.ofO {Q : β → Store → Mu → Hp → Prop} {o : Option α} {f : α → Store → R β} (h : Post K XR Wx σ S μ H Q ((ofO o S).bind f)) : ∃ a, o = some a ∧ Post K XR Wx σ S μ H Q (f a S) := by
  cases o with
  | none => exact h.elim
  | some a => exact ⟨a, rfl, h⟩
end
end Tz

end
section
namespace Tz
open PySem PySem.Spec PyProof.Rows L2
theorem tuple_mul0 (l : Addr) (n : Nat) (dd : Option Addr) (sl : Array (Option Value)) (x : Int) (u : Tok) (c0 : (decide (x < -(2 ^ 63)) || decide (x ≥ 2 ^ 63)) = false) :
    Meets (Builtin.«tuple.__mul__» ⟨[.ref l, .int x u], []⟩) (fun _ R s => s.heap.get? l = some { cls := .type "tuple", dict := dd, data := .seq #[] n, slots := sl } ∧ R (.ok (.ret (Value.ref l))) s) :=
  .of_wp fun prog w A R s ⟨hl, h⟩ => by
    obtain ⟨hp, g, d, tk, os⟩ := s
    have f1 := AutoSeq1.idx_int
    wp_walk using wpAny_loadPart' hl
    refine wpAny_ite_false (decide_eq_false (by rw [c0]; exact Bool.false_ne_true)) ?_
    wp_walk using wpAny_loadPart' hl
    exact ⟨_, rfl, h⟩
theorem flat_nil {α : Type} : ∀ n : Nat, (List.replicate n ([] : List α)).flatten = []
  | 0 => rfl
  | n + 1 => by
    rw [List.replicate_succ, List.flatten_cons, flat_nil n]
    rfl
theorem op_rep0 {X : Cx} : OpR X (binaryOp .Mult) (fun x y H Q => ∃ l k, x = .ref l ∧ y = .int k ∧ SqT X.K H l [] ∧ 2 ≤ k ∧ k ≤ 1000 ∧ Q x H) := by
  intro pins s σ H x y v u Q I rx ry ⟨l, k, ex, ey, hT, h1, h2, q⟩
  subst ex ey
  cases rx
  obtain ⟨t, rfl⟩ := ry
  obtain ⟨its, r, ⟨⟨cls, dd, data, sl⟩, ho, hc, n, hd⟩, hs⟩ := I.tuple hT
  cases r
  simp only at hc hd
  subst hc hd
  have c0 : (decide (k < -(2 ^ 63)) || decide (k ≥ 2 ^ 63)) = false := by
    rw [Bool.or_eq_false_iff]
    exact ⟨decide_eq_false (by omega), decide_eq_false (by omega)⟩
  exact wpAny_binaryOp_repeat_ref (T := "tuple") (U := "int") (by decide) ⟨_, ho, rfl⟩ (fun s' => typeIs_int s' k t) noFill_tuple_mul F.fills_int_mul F.slot_int_rmul repeat_tuple F.slot_int_index.lookup
    (call_meets F.slot_int_rmul (typeIs_int s k t) F.entry_int_rmul (F.args_int_rmul_2 _ _) (int_rmul_tuple k t l #[] n dd sl) ⟨ho, rfl, ⟨_, ho, rfl⟩,
      call_meets F.slot_tuple_mul ⟨_, ho, rfl⟩ F.entry_tuple_mul (F.args_tuple_mul_2 _ _) (tuple_mul0 l n dd sl k t c0) ⟨ho, V.ref l, H, I, rfl, q⟩⟩)
end Tz

end
section
/-! Tz.Ops1: operations on values. -/
namespace Tz
open PySem PySem.Spec PyProof.Rows L2

/-! ### data as it is read off the heap -/
section
variable {X : Cx} {pins : List (Addr × Obj)} {σ : L2.St} {H : Hp} {s : Shared} {L : Addr → Prop}
theorem key_reads {h : Heap} {k : Key} {v : Value} (e : keyIs k v = true) : Reads h v (keyD k) [] := by
  rcases keyIs_shape e with ⟨i, t, rfl, rfl⟩ | ⟨x, t, rfl, rfl⟩
  · exact .int i t
  · exact .str x t
mutual
theorem RepD.reads (I : Inv X pins σ H s) (hB : ∃ o, X.base.get? sysModules = some o) : ∀ {d : PyData} {v : V} {u : Value}, RepD X.K L H d v → RelV v u → ∃ as, Reads s.heap u d as ∧ sysModules ∉ as
  | _, _, _, .non, r => by
    cases r
    exact ⟨_, .none, by simp⟩
  | _, _, _, .bl b, r => by
    cases r
    exact ⟨_, .bool b, by simp⟩
  | _, _, _, .int i, r => by
    obtain ⟨t, rfl⟩ := r
    exact ⟨_, .int i t, by simp⟩
  | _, _, _, .str x, r => by
    obtain ⟨t, rfl⟩ := r
    exact ⟨_, .str x t, by simp⟩
  | _, _, _, .lst (a := a) h _ q, r => by
    cases r
    obtain ⟨its, rv, ⟨o, n, ho, hc, _, hd⟩, _⟩ := I.list (.inl (.inl h))
    obtain ⟨as, hr, hn⟩ := RepDs.reads I hB q rv
    refine ⟨_, Reads.list ho hc hd hr, ?_⟩
    obtain ⟨ob, e⟩ := hB
    have z := (I.bs _ _ e).2
    simp only [List.mem_cons, not_or]
    exact ⟨fun w => (by rw [w, h] at z; cases z), hn⟩
  | _, _, _, .tup (a := a) h q, r => by
    cases r
    obtain ⟨its, rv, ⟨o, ho, hc, n, hd⟩, _⟩ := I.tuple h.sq
    obtain ⟨as, hr, hn⟩ := RepDs.reads I hB q rv
    exact ⟨_, Reads.tuple ho hc hd hr, hn⟩
  | _, _, _, .dic (a := a) (kvs := kvs) h _ q, r => by
    cases r
    obtain ⟨hz, hS, vs, rv, o, es, ep, ho, hc, hd, hk, hp, hn⟩ := I.hok a _ h
    obtain ⟨as, bs, h1, h2, n1, n2⟩ := RepKv.reads I hB q rv hp
    refine ⟨_, Reads.dict ho hc.1 hd h1 h2, ?_⟩
    obtain ⟨ob, e⟩ := hB
    have z := (I.bs _ _ e).2
    simp only [List.cons_append, List.mem_cons, List.mem_append, not_or]
    exact ⟨fun w => (by rw [w, h] at z; cases z), n1, n2⟩
theorem RepDs.reads (I : Inv X pins σ H s) (hB : ∃ o, X.base.get? sysModules = some o) : ∀ {ds : List PyData} {vs : List V} {us : List Value}, RepDs X.K L H ds vs → Vals vs us → ∃ as, ReadsAll s.heap us ds as ∧ sysModules ∉ as
  | _, _, _, .nil, r => by
    cases r
    exact ⟨_, .nil, by simp⟩
  | _, _, _, .cons h q, r => by
    cases r with
    | cons r1 r2 =>
      obtain ⟨as, q1, n1⟩ := RepD.reads I hB h r1
      obtain ⟨bs, q2, n2⟩ := RepDs.reads I hB q r2
      exact ⟨_, .cons q1 q2, by simp only [List.mem_append, not_or]; exact ⟨n1, n2⟩⟩
theorem RepKv.reads (I : Inv X pins σ H s) (hB : ∃ o, X.base.get? sysModules = some o) : ∀ {ds : List (PyData × PyData)} {kvs : List (Key × V)} {vs : List (Key × Value)} {es : List DictEntry}, RepKv X.K L H ds kvs → KV kvs vs → Pairs (mixKind X.prog X.w) es vs →
    ∃ as bs, ReadsAll s.heap (es.map (·.key)) (ds.map (·.1)) as ∧ ReadsAll s.heap (es.map (·.val)) (ds.map (·.2)) bs ∧ sysModules ∉ as ∧ sysModules ∉ bs
  | _, _, _, _, .nil, r, p => by
    cases r
    cases p
    exact ⟨_, _, .nil, .nil, by simp, by simp⟩
  | _, _, _, _, .cons (k := k) h q, r, p => by
    cases r with
    | cons r1 r2 =>
      cases p with
      | @cons en _ _ _ p1 p2 p3 =>
        obtain ⟨as, bs, h1, h2, n1, n2⟩ := RepKv.reads I hB q r2 p3
        have e1 := r1.1
        have e2 := r1.2
        rw [← p2] at e2
        obtain ⟨cs, q1, n3⟩ := RepD.reads I hB h e2
        have e3 : keyIs k en.key = true := by
          rw [← e1] at p1
          exact p1
        exact ⟨_, _, .cons (key_reads e3) h1, .cons q1 h2, by simpa using n1, by simp only [List.mem_append, not_or]; exact ⟨n3, n2⟩⟩
end
end

/-! ### ends -/
section
variable {K : PySem.W.Frag} {S : Store} {μ : Mu} {H : Hp} {Q : VK}
/-- what an operation that leaves the store alone must come to -/
abbrev Give (K : PySem.W.Frag) (S : Store) (μ : Mu) (H : Hp) (v : Vl) (Q : VK) : Prop := ∀ μ' H', Ext S μ H S μ' H' → SOk K S μ' H' → ∀ u, RepV K S μ' H' v u → Q u H'
theorem Give.here {v : Vl} {u : V} (q : Give K S μ H v Q) (ok : SOk K S μ H) (r : RepV K S μ H v u) : Q u H := q μ H Ext.refl ok u r
theorem Give.lst {ds : List PyData} {vs : List V} (q : Give K S μ H (.d (.list ds)) Q) (ok : SOk K S μ H) (r : RepDs K (Live S μ) H ds vs) : ∀ p, H p = none → Q (.ref p) (upd H p (.lst vs)) := fun p hp =>
  q μ _ (Ext.laid hp ok) (ok.laid hp) _ (.lst upd_same (ok.newL hp) (r.mono (Ext.laid (μ := μ) (S := S) hp ok).keep))
theorem Give.tup {ds : List PyData} {vs : List V} (q : Give K S μ H (.d (.tuple ds)) Q) (ok : SOk K S μ H) (r : RepDs K (Live S μ) H ds vs) : ∀ p, H p = none → Q (.ref p) (upd H p (.tup vs)) := fun p hp =>
  q μ _ (Ext.laid hp ok) (ok.laid hp) _ (.tup (.inl ⟨upd_same, ok.newL hp⟩) (r.mono (Ext.laid (μ := μ) (S := S) hp ok).keep))
end

/-! ### two-place operators -/
section
variable {X : Cx}
theorem cut_rep {K : PySem.W.Frag} {L : Addr → Prop} {H : Hp} {ds : List PyData} {vs : List V} (h : RepDs K L H ds vs) (lo hi : Option Int) : RepDs K L H (cutD ds lo hi) (cutV vs lo hi) := by
  unfold cutD cutV
  rw [h.length]
  exact (h.drop _).take _
theorem mul_ok {i j : Int} (h : mulOk i j = true) : CMulW i j := by
  unfold mulOk at h
  unfold CMulW
  exact of_decide_eq_true h
theorem op_bin (op : Operator) : OpR X (binaryOp op) (fun x y H Q => ∃ a b S μ v S', SOk X.K S μ H ∧ RepV X.K S μ H a x ∧ RepV X.K S μ H b y ∧ binV op a b S = .ok v S' ∧
    ∀ μ' H', Ext S μ H S' μ' H' → SOk X.K S' μ' H' → ∀ u, RepV X.K S' μ' H' v u → Q u H') := by
  intro pins s σ H x y v u Q I rx ry h
  obtain ⟨a, b, S, μ, w, S', ok, ra, rb, e, q⟩ := h
  cases op <;> simp only [binV] at e <;> try (cases e; done)
  · -- +
    split at e
    · cases e
      cases ra
      cases rb
      exact op_add pins s σ H _ _ v u Q I rx ry ⟨_, _, rfl, rfl, Give.here q ok (.int _)⟩
    · split at e
      · cases e
        cases ra
        cases rb
        exact op_add_str pins s σ H _ _ v u Q I rx ry ⟨_, _, rfl, rfl, by assumption, Give.here q ok (.str _)⟩
      · cases e
    · split at e
      · rename_i a b hz
        cases e
        cases ra with
        | tup ta ra =>
          cases rb with
          | tup tb rb =>
            refine op_catA pins s σ H _ _ v u Q I rx ry ⟨_, _, _, _, rfl, rfl, ta.sq, tb.sq, by rw [← ra.length, ← rb.length]; exact hz, fun z => ?_, fun z1 z2 => ?_, fun z1 z2 => Give.tup q ok (ra.append rb)⟩
            · rw [ra.nil_iff] at z
              subst z
              exact Give.here q ok (.tup tb rb)
            · rw [rb.nil_iff] at z2
              subst z2
              refine Give.here q ok ?_
              rw [List.append_nil]
              exact .tup ta ra
      · cases e
    · split at e
      · rename_i a b hz
        cases e
        cases ra with
        | lst ha la ra =>
          cases rb with
          | lst hb lb rb => exact op_cat pins s σ H _ _ v u Q I rx ry ⟨_, _, _, _, rfl, rfl, ha, hb, by rw [← ra.length, ← rb.length]; exact hz, Give.lst q ok (ra.append rb)⟩
      · cases e
    · cases e
  · -- -
    split at e
    · cases e
      cases ra
      cases rb
      exact op_sub pins s σ H _ _ v u Q I rx ry ⟨_, _, rfl, rfl, Give.here q ok (.int _)⟩
    · cases e
  · -- *
    split at e
    · split at e
      · rename_i hz
        cases e
        cases ra
        cases rb
        exact op_mulW pins s σ H _ _ v u Q I rx ry ⟨_, _, rfl, rfl, mul_ok hz, Give.here q ok (.int _)⟩
      · cases e
    · split at e
      · rename_i a k hz
        cases e
        simp only [Bool.and_eq_true, decide_eq_true_eq] at hz
        cases rb
        cases ra with
        | lst ha la ra => exact op_rep pins s σ H _ _ v u Q I rx ry ⟨_, _, _, rfl, rfl, ha, by omega, by omega, by rw [← ra.length]; exact hz.2, Give.lst q ok (ra.rep _)⟩
      · cases e
    · split at e
      · rename_i a k hz
        cases e
        simp only [Bool.and_eq_true, decide_eq_true_eq, Bool.not_eq_true'] at hz
        cases rb
        cases ra with
        | tup ta ra =>
          cases ra with
          | nil =>
            rw [flat_nil] at q
            exact op_rep0 pins s σ H _ _ v u Q I rx ry ⟨_, _, rfl, rfl, ta.sq, hz.1, hz.2.1, Give.here q ok (.tup ta .nil)⟩
          | cons r1 r2 =>
            exact op_repT pins s σ H _ _ v u Q I rx ry ⟨_, _, _, rfl, rfl, ta.sq, List.cons_ne_nil _ _, hz.1, hz.2.1, by rw [← (RepDs.cons r1 r2).length]; exact hz.2.2, Give.tup q ok ((RepDs.cons r1 r2).rep _)⟩
      · cases e
    · cases e
  · -- %
    split at e
    · split at e
      · cases e
        cases ra
        cases rb
        exact op_mod pins s σ H _ _ v u Q I rx ry ⟨_, _, rfl, rfl, by assumption, Give.here q ok (.int _)⟩
      · cases e
    · cases e
  · -- **
    split at e
    · split at e
      · rename_i hz
        cases e
        cases ra
        cases rb
        unfold powOk at hz
        simp only [Bool.and_eq_true, decide_eq_true_eq] at hz
        exact op_pow pins s σ H _ _ v u Q I rx ry ⟨_, _, rfl, rfl, ⟨hz.1, hz.2.1, hz.2.2⟩, Give.here q ok (.int _)⟩
      · cases e
    · cases e
  · -- //
    split at e
    · split at e
      · rename_i hz
        cases e
        cases ra
        cases rb
        unfold divOk at hz
        simp only [Bool.and_eq_true, decide_eq_true_eq] at hz
        exact op_fdivW pins s σ H _ _ v u Q I rx ry ⟨_, _, rfl, rfl, hz, Give.here q ok (.int _)⟩
      · cases e
    · cases e
theorem bin_noex {op : Operator} {a b : Vl} {S S' : Store} {x : Ex} : binV op a b S ≠ .ex x S' := by
  intro h
  cases op <;> simp only [binV] at h <;> (repeat' (split at h)) <;> cases h
end

/-! ### truth -/
section
variable {X : Cx}
theorem tru_V {S : Store} {μ : Mu} {H : Hp} {a : Vl} {x : V} {k : Bool} (ok : SOk X.K S μ H) (ra : RepV X.K S μ H a x) (e : truth a S = some k) : TruV X.K x H k := by
  cases a with
  | d d =>
    cases ra <;> simp only [truth] at e
    · cases e; rfl
    · cases e; rfl
    · cases e; rfl
    · split at e
      · cases e
        exact ⟨by assumption, rfl⟩
      · cases e
    · rename_i h l r
      cases e
      exact .inl ⟨_, .inl (.inl h), by rw [r.empty]⟩
    · rename_i t r
      cases e
      exact .inr (.inl ⟨_, t.sq, by rw [r.empty]⟩)
    · rename_i h l r
      cases e
      exact .inr (.inr ⟨_, h, by rw [r.empty]⟩)
  | r n =>
    obtain ⟨p, h1, rfl⟩ := ra
    simp only [truth] at e
    split at e
    · rename_i xs hs
      cases e
      obtain ⟨h, hh, vs, rfl, r, _⟩ := ok.obj n p _ h1 hs
      refine .inl ⟨_, .inl (.inl hh), ?_⟩
      cases r <;> rfl
    · rename_i kvs hs
      cases e
      obtain ⟨h, hh, ws, rfl, r, _⟩ := ok.obj n p _ h1 hs
      refine .inr (.inr ⟨_, hh, ?_⟩)
      cases r <;> rfl
    · cases e
end
end Tz

end
section
/-! Tz.Ops2: comparisons, subscripts, slices. -/
namespace Tz
open PySem PySem.Spec PyProof.Rows L2
section
variable {X : Cx} {pins : List (Addr × Obj)} {σ : L2.St} {H : Hp} {s : Shared} {S : Store} {μ : Mu}
theorem dat_reads (I : Inv X pins σ H s) (hB : ∃ o, X.base.get? sysModules = some o) (ok : SOk X.K S μ H) {a : Vl} {x : V} {u : Value} {d : PyData} (ra : RepV X.K S μ H a x) (r : RelV x u) (e : datOf a S = some d) : ∃ as, Reads s.heap u d as := by
  cases a with
  | d y =>
    cases e
    obtain ⟨as, h, _⟩ := RepD.reads I hB ra r
    exact ⟨as, h⟩
  | r n =>
    obtain ⟨p, h1, rfl⟩ := ra
    cases r
    simp only [datOf] at e
    split at e
    · rename_i xs hs
      obtain ⟨ds, e1, rfl⟩ := Option.map_eq_some_iff.mp e
      obtain ⟨h, hh, vs, rfl, rv, _⟩ := ok.obj n p _ h1 hs
      obtain ⟨its, rv2, ⟨o, k, ho, hc, _, hd⟩, _⟩ := I.list (.inl (.inl hh))
      obtain ⟨as, hr, _⟩ := RepDs.reads I hB (repVs_of e1 rv) rv2
      exact ⟨_, Reads.list ho hc hd hr⟩
    · cases e
theorem eqvAll_nil : ∀ xs : List PyData, PyData.eqvAll xs [] = xs.isEmpty
  | [] => rfl
  | _ :: _ => rfl
theorem eq_reads {A : Around} {E : Value → Shared → Prop} {Q : Value → Shared → Prop} {prog : Program} {w : World} {a b : Value} {da db : PyData} {as bs : List Addr} {k : Bool} (ra : Reads s.heap a da as) (rb : Reads s.heap b db bs) (e : eqD da db = some k) (hu : A.units + 64 < cLine) (h : Q (.bool k) s) :
    wpAny (model prog w) A (compareOp .Eq a b) Q E s := by
  have gen : ∀ {da db : PyData} {as bs : List Addr}, Reads s.heap a da as → Reads s.heap b db bs → (if eqOk da && eqOk db then some (PyData.eqv da db) else none) = some k → wpAny (model prog w) A (compareOp .Eq a b) Q E s := fun {da db as bs} ra rb e => by
    split at e
    · rename_i hz
      rw [Bool.and_eq_true] at hz
      cases e
      exact SeqAt.compareEq_shaped ra rb hz.1 hz.2 hu h
    · cases e
  unfold eqD at e
  split at e
  · rename_i xs
    cases e
    cases ra with
    | @tuple l1 o1 vs1 n1 _ as1 h1 h2 h3 h4 =>
      cases rb with
      | @tuple l2 o2 vs2 n2 xs2 as2 k1 k2 k3 k4 =>
        have z1 : vs1.size = xs.length := by simpa using SeqAt.ReadsAll.length _ _ _ h4
        have z2 : vs2.size = 0 := by simpa using SeqAt.ReadsAll.length _ _ _ k4
        have q := SeqAt.RcAt.tuples (e := fun _ => true) ⟨_, h1, h2, _, h3⟩ ⟨_, k1, k2, _, k3⟩ (show A.units < cLine by omega) (fun j j1 j2 => absurd j2 (by omega)) prog w E Q
        refine q ?_
        rw [z1, z2]
        cases xs <;> exact h
  · rename_i xs
    cases e
    cases ra with
    | @list l1 o1 vs1 n1 _ as1 h1 h2 h3 h4 =>
      cases rb with
      | @list l2 o2 vs2 n2 xs2 as2 k1 k2 k3 k4 =>
        have z1 : vs1.size = xs.length := by simpa using SeqAt.ReadsAll.length _ _ _ h4
        have z2 : vs2.size = 0 := by simpa using SeqAt.ReadsAll.length _ _ _ k4
        cases xs with
        | nil => exact SeqAt.RcAt.lists (e := fun _ => true) ⟨_, h1, h2, _, h3⟩ ⟨_, k1, k2, _, k3⟩ (by rw [z1, z2]; rfl) (show A.units < cLine by omega) (fun j j1 j2 => absurd j2 (by omega)) prog w E Q (by rw [z1]; exact h)
        | cons y ys => exact SeqAt.RcAt.lists_lengths ⟨_, h1, h2, _, h3⟩ ⟨_, k1, k2, _, k3⟩ (by rw [z1, z2]; rfl) (show A.units < cLine by omega) prog w E Q h
  · cases e
    cases ra
    cases rb
    exact PyProof.Rows.eq_str h
  · exact gen ra rb e
theorem ne_reads {A : Around} {E : Value → Shared → Prop} {Q : Value → Shared → Prop} {prog : Program} {w : World} {a b : Value} {da db : PyData} {as bs : List Addr} {k : Bool} (ra : Reads s.heap a da as) (rb : Reads s.heap b db bs) (e : eqD da db = some k) (hu : A.units + 64 < cLine) (h : Q (.bool (!k)) s) :
    wpAny (model prog w) A (compareOp .NotEq a b) Q E s := by
  have gen : ∀ {da db : PyData} {as bs : List Addr}, Reads s.heap a da as → Reads s.heap b db bs → (if eqOk da && eqOk db then some (PyData.eqv da db) else none) = some k → wpAny (model prog w) A (compareOp .NotEq a b) Q E s := fun {da db as bs} ra rb e => by
    split at e
    · rename_i hz
      rw [Bool.and_eq_true] at hz
      cases e
      exact SeqAt.compareNe_shaped ra rb hz.1 hz.2 hu h
    · cases e
  unfold eqD at e
  split at e
  · rename_i xs
    cases e
    cases ra with
    | @tuple l1 o1 vs1 n1 _ as1 h1 h2 h3 h4 =>
      cases rb with
      | @tuple l2 o2 vs2 n2 xs2 as2 k1 k2 k3 k4 =>
        have z1 : vs1.size = xs.length := by simpa using SeqAt.ReadsAll.length _ _ _ h4
        have z2 : vs2.size = 0 := by simpa using SeqAt.ReadsAll.length _ _ _ k4
        have q := SeqAt.RcNeAt.tuples (e := fun _ => true) ⟨_, h1, h2, _, h3⟩ ⟨_, k1, k2, _, k3⟩ (show A.units < cLine by omega) (fun j j1 j2 => absurd j2 (by omega)) prog w E Q
        refine q ?_
        rw [z1, z2]
        cases xs <;> exact h
  · rename_i xs
    cases e
    cases ra with
    | @list l1 o1 vs1 n1 _ as1 h1 h2 h3 h4 =>
      cases rb with
      | @list l2 o2 vs2 n2 xs2 as2 k1 k2 k3 k4 =>
        have z1 : vs1.size = xs.length := by simpa using SeqAt.ReadsAll.length _ _ _ h4
        have z2 : vs2.size = 0 := by simpa using SeqAt.ReadsAll.length _ _ _ k4
        cases xs with
        | nil => exact SeqAt.RcNeAt.lists (e := fun _ => true) ⟨_, h1, h2, _, h3⟩ ⟨_, k1, k2, _, k3⟩ (by rw [z1, z2]; rfl) (show A.units < cLine by omega) (fun j j1 j2 => absurd j2 (by omega)) prog w E Q (by rw [z1]; exact h)
        | cons y ys => exact SeqAt.RcNeAt.lists_lengths ⟨_, h1, h2, _, h3⟩ ⟨_, k1, k2, _, k3⟩ (by rw [z1, z2]; rfl) (show A.units < cLine by omega) prog w E Q h
  · cases e
    cases ra
    cases rb
    exact PyProof.Rows.ne_str h
  · exact gen ra rb e

/-! ### keys -/
theorem keyOf_rep {K : PySem.W.Frag} {L : Addr → Prop} {d : PyData} {k : Key} {x : V} (e : keyOf d = some k) (r : RepD K L H d x) : x = kV k := by
  cases r <;> simp only [keyOf] at e <;> cases e <;> rfl
theorem keyOf_D : ∀ k : Key, keyOf (keyD k) = some k
  | .inl _ => rfl
  | .inr _ => rfl
theorem lookD_rep {K : PySem.W.Frag} {L : Addr → Prop} {k : Key} : ∀ {ds : List (PyData × PyData)} {kvs : List (Key × V)}, RepKv K L H ds kvs →
    (match lookD k ds with | some d => ∃ v, valV kvs k = some v ∧ RepD K L H d v | none => valV kvs k = none)
  | _, _, .nil => rfl
  | _, _, .cons (k := j) (d := d) h r => by
    have ih := lookD_rep (k := k) r
    unfold lookD
    rw [keyOf_D]
    by_cases e : j = k
    · subst e
      rw [if_pos rfl]
      exact ⟨_, valV_pos rfl, h⟩
    · rw [if_neg (fun z => e (Option.some.inj z)), valV_neg (p := (j, _)) e]
      exact ih
abbrev KvOk (K : PySem.W.Frag) (S : Store) (μ : Mu) (H : Hp) (kvs : List (Key × Vl)) (ws : List (Key × V)) : Prop := Paired (fun (p : Key × Vl) (q : Key × V) => p.1 = q.1 ∧ RepV K S μ H p.2 q.2) kvs ws
theorem lookK_rep {K : PySem.W.Frag} {k : Key} : ∀ {kvs : List (Key × Vl)} {ws : List (Key × V)}, KvOk K S μ H kvs ws →
    (match lookK k kvs with | some d => ∃ v, valV ws k = some v ∧ RepV K S μ H d v | none => valV ws k = none)
  | _, _, .nil => rfl
  | (j, v) :: kvs, (j', w) :: ws, .cons h r => by
    have ih := lookK_rep (k := k) r
    have e1 : j = j' := h.1
    subst e1
    unfold lookK
    by_cases e : j = k
    · subst e
      rw [if_pos rfl]
      exact ⟨_, valV_pos rfl, h.2⟩
    · rw [if_neg e, valV_neg (p := (j, w)) e]
      exact ih
theorem dget_dk {H : Hp} {a : Addr} {kvs : List (Key × V)} {k : Key} {r : Option V} (e : H a = some (.dK kvs)) (h : valV kvs k = r) : DGet H a (kV k) r := by
  rw [← h]
  exact DGet.k e
/-- what a dict value holds at a key -/
def dlook (y : Vl) (S : Store) (k : Key) : Option (Option Vl) := match y with
  | .d (.dict kvs) => some ((lookD k kvs).map .d)
  | .d _ => none
  | .r n => (match S[n]? with
    | some (some (.dic kvs)) => some (lookK k kvs)
    | _ => none)
theorem dlook_rep {K : PySem.W.Frag} (ok : SOk K S μ H) {y : Vl} {x : V} {k : Key} {r : Option Vl} (ry : RepV K S μ H y x) (e : dlook y S k = some r) :
    ∃ a o, x = .ref a ∧ DGet H a (kV k) o ∧ o.isSome = r.isSome ∧ (∀ v, r = some v → ∃ w, o = some w ∧ RepV K S μ H v w) := by
  cases y with
  | d d =>
    cases ry <;> simp only [dlook] at e <;> try (cases e; done)
    rename_i a kvs ds h l q
    cases e
    have z := lookD_rep (k := k) q
    split at z
    · rename_i d' e1
      obtain ⟨v, e2, e3⟩ := z
      exact ⟨a, some v, rfl, dget_dk h e2, by rw [e1]; rfl, fun w hw => by rw [e1] at hw; cases hw; exact ⟨v, rfl, e3⟩⟩
    · rename_i e1
      exact ⟨a, none, rfl, dget_dk h z, by rw [e1]; rfl, fun w hw => by rw [e1] at hw; cases hw⟩
  | r n =>
    obtain ⟨p, h1, rfl⟩ := ry
    simp only [dlook] at e
    split at e
    · rename_i kvs hs
      cases e
      obtain ⟨h, hh, ws, rfl, rv, _⟩ := ok.obj n p _ h1 hs
      have z := lookK_rep (k := k) rv
      split at z
      · rename_i d' e1
        obtain ⟨v, e2, e3⟩ := z
        exact ⟨p, some v, rfl, dget_dk hh e2, by rw [e1]; rfl, fun w hw => by rw [e1] at hw; cases hw; exact ⟨v, rfl, e3⟩⟩
      · rename_i e1
        exact ⟨p, none, rfl, dget_dk hh z, by rw [e1]; rfl, fun w hw => by rw [e1] at hw; cases hw⟩
    · cases e
theorem in_room {A : Around} {d : PyData} {n : Nat} (hd : eqOk d = true) (hu : A.units + 65 < cLine) : A.units + 1 + min n d.depth < cLine := by
  have := SeqAt.depth_of_shaped hd
  have h2 : min n d.depth ≤ d.depth := Nat.min_le_right _ _
  omega
/-- x in y -/
theorem in_ok (hB : ∃ o, X.base.get? sysModules = some o) (hu : X.A.units + 65 < cLine) (neg : Bool) (I : Inv X pins σ H s) (ok : SOk X.K S μ H) {a b : Vl} {x y : V} {v u : Value} {k : Bool} (ra : RepV X.K S μ H a x) (rb : RepV X.K S μ H b y) (rx : RelV x v) (ry : RelV y u)
    (e : isIn a b S = some k) {Q : Value → Shared → Prop} (q : ∀ s', Inv X pins σ H s' → Q (.bool (if neg then !k else k)) s') : wpAny (model X.prog X.w) X.A (compareOp (if neg then .NotIn else .In) v u) Q X.xe s := by
  have dict : ∀ {j : PyData}, a = .d j → (∀ kk, keyOf j = some kk → ∀ o, dlook b S kk = some o → k = o.isSome → wpAny (model X.prog X.w) X.A (compareOp (if neg then .NotIn else .In) v u) Q X.xe s) := fun {j} ea kk hk o ho ek => by
    subst ea
    have ex := keyOf_rep hk ra
    obtain ⟨p, o', ey, g, z1, _⟩ := dlook_rep ok rb ho
    subst ex ey
    cases ry
    cases neg with
    | true => exact d_notIn (by omega) I g rx fun s' I' => by rw [z1, ← ek]; exact q s' I'
    | false => exact d_in (by omega) I g rx fun s' I' => by rw [z1, ← ek]; exact q s' I'
  have seq : ∀ {j : PyData} {ys : List PyData}, a = .d j → inD j ys = some k → (∃ as, Reads s.heap u (.tuple ys) as ∨ Reads s.heap u (.list ys) as) → wpAny (model X.prog X.w) X.A (compareOp (if neg then .NotIn else .In) v u) Q X.xe s := fun {j ys} ea ek rd => by
    subst ea
    unfold inD at ek
    split at ek
    · rename_i hz
      rw [Bool.and_eq_true] at hz
      cases ek
      obtain ⟨cs, rj, _⟩ := RepD.reads I hB ra rx
      obtain ⟨as, rd | rd⟩ := rd <;> cases neg
      · exact SeqAt.in_tuple_reads rd rj hz.2 (SeqAt.canLay_of_shaped hz.1) (in_room hz.1 hu) (q s I)
      · exact SeqAt.notIn_tuple_reads rd rj hz.2 (SeqAt.canLay_of_shaped hz.1) (in_room hz.1 hu) (q s I)
      · exact SeqAt.in_list_reads rd rj hz.2 (SeqAt.canLay_of_shaped hz.1) (in_room hz.1 hu) (q s I)
      · exact SeqAt.notIn_list_reads rd rj hz.2 (SeqAt.canLay_of_shaped hz.1) (in_room hz.1 hu) (q s I)
    · cases ek
  unfold isIn at e
  split at e
  · split at e
    · rename_i kvs j
      obtain ⟨kk, h1, h2⟩ := Option.map_eq_some_iff.mp e
      refine dict rfl kk h1 _ rfl ?_
      rw [← h2, Option.isSome_map]
    · cases e
  · split at e
    · cases e
      cases ra
      cases rb
      obtain ⟨t, rfl⟩ := rx
      obtain ⟨t', rfl⟩ := ry
      cases neg with
      | false => exact in_str (q s I)
      | true => exact notIn_str (q s I)
    · cases e
  · split at e
    · rename_i ys j
      obtain ⟨as, rd, _⟩ := RepD.reads I hB rb ry
      exact seq rfl e ⟨as, .inl rd⟩
    · cases e
  · split at e
    · rename_i ys j
      obtain ⟨as, rd, _⟩ := RepD.reads I hB rb ry
      exact seq rfl e ⟨as, .inr rd⟩
    · cases e
  · cases e
  · split at e
    · split at e
      · rename_i kvs hs _ j
        obtain ⟨kk, h1, h2⟩ := Option.map_eq_some_iff.mp e
        exact dict rfl kk h1 (lookK kk kvs) (by simp only [dlook, hs]) h2.symm
      · cases e
    · split at e
      · rename_i ys hs _ _ j zs hz
        obtain ⟨as, rd⟩ := dat_reads (d := .list zs) I hB ok rb ry (by simp only [datOf, hs, hz]; rfl)
        exact seq rfl e ⟨as, .inr rd⟩
      · cases e
    · cases e
/-- comparisons -/
theorem op_cmp (hB : ∃ o, X.base.get? sysModules = some o) (hu : X.A.units + 65 < cLine) (op : CmpOp) : OpR X (compareOp op) (fun x y H Q => ∃ a b S μ k, SOk X.K S μ H ∧ RepV X.K S μ H a x ∧ RepV X.K S μ H b y ∧ cmpV op a b S = some k ∧ Q (.bl k) H) := by
  intro pins s σ H x y v u Q I rx ry h
  obtain ⟨a, b, S, μ, k, ok, ra, rb, e, q⟩ := h
  have lt : ∀ {f : Int × Int → Bool}, (ltV a b).map f = some k → ∃ i j, x = .int i ∧ y = .int j ∧ k = f (i, j) := fun {f} e => by
    obtain ⟨p, h1, h2⟩ := Option.map_eq_some_iff.mp e
    unfold ltV at h1
    split at h1
    · cases h1
      cases ra
      cases rb
      exact ⟨_, _, rfl, rfl, h2.symm⟩
    · cases h1
  cases op with
  | Eq =>
    simp only [cmpV] at e
    split at e
    · rename_i da db e1 e2
      obtain ⟨as, r1⟩ := dat_reads I hB ok ra rx e1
      obtain ⟨bs, r2⟩ := dat_reads I hB ok rb ry e2
      exact eq_reads r1 r2 e (by omega) ⟨.bl k, H, I, rfl, q⟩
    · cases e
  | NotEq =>
    simp only [cmpV] at e
    split at e
    · rename_i da db e1 e2
      obtain ⟨k', e3, e4⟩ := Option.map_eq_some_iff.mp e
      obtain ⟨as, r1⟩ := dat_reads I hB ok ra rx e1
      obtain ⟨bs, r2⟩ := dat_reads I hB ok rb ry e2
      exact ne_reads r1 r2 e3 (by omega) ⟨.bl k, H, I, by rw [e4]; rfl, q⟩
    · cases e
  | Lt =>
    obtain ⟨i, j, rfl, rfl, ek⟩ := lt e
    exact op_lt pins s σ H _ _ v u Q I rx ry ⟨i, j, rfl, rfl, by rw [ek] at q; exact q⟩
  | LtE =>
    obtain ⟨i, j, rfl, rfl, ek⟩ := lt e
    exact op_le pins s σ H _ _ v u Q I rx ry ⟨i, j, rfl, rfl, by rw [ek] at q; exact q⟩
  | Gt =>
    obtain ⟨i, j, rfl, rfl, ek⟩ := lt e
    exact op_gt pins s σ H _ _ v u Q I rx ry ⟨i, j, rfl, rfl, by rw [ek] at q; exact q⟩
  | GtE =>
    obtain ⟨i, j, rfl, rfl, ek⟩ := lt e
    exact op_ge pins s σ H _ _ v u Q I rx ry ⟨i, j, rfl, rfl, by rw [ek] at q; exact q⟩
  | Is =>
    simp only [cmpV] at e
    split at e
    · cases e
      cases rb
      refine op_isN pins s σ H _ _ v u Q I rx ry ⟨rfl, ?_⟩
      have : decide (x = V.non) = isNone a := by
        cases a with
        | d d => cases ra <;> rfl
        | r n =>
          obtain ⟨p, _, rfl⟩ := ra
          rfl
      rw [this]
      exact q
    · cases e
  | IsNot =>
    simp only [cmpV] at e
    split at e
    · cases e
      cases rb
      refine op_notN pins s σ H _ _ v u Q I rx ry ⟨rfl, ?_⟩
      have : decide (x = V.non) = isNone a := by
        cases a with
        | d d => cases ra <;> rfl
        | r n =>
          obtain ⟨p, _, rfl⟩ := ra
          rfl
      rw [this]
      exact q
    · cases e
  | In => exact in_ok hB hu false I ok ra rb rx ry e fun s' I' => ⟨.bl k, H, I', rfl, q⟩
  | NotIn =>
    obtain ⟨k', e1, e2⟩ := Option.map_eq_some_iff.mp e
    exact in_ok hB hu true I ok ra rb rx ry e1 fun s' I' => ⟨.bl k, H, I', by rw [← e2]; rfl, q⟩
end
end Tz

end
section
/-! Tz.Ops3: subscripts, slices, built-in functions. -/
namespace Tz
open PySem PySem.Spec PyProof.Rows L2
section
variable {X : Cx} {pins : List (Addr × Obj)} {σ : L2.St} {H : Hp} {s : Shared} {S : Store} {μ : Mu} {K : PySem.W.Frag}
theorem atI_by {α β : Type} {xs : List α} {ys : List β} (hl : xs.length = ys.length) {k : Int} {x : α} (e : atI xs k = some x) : ∃ j : Nat, xs[j]? = some x ∧ ∀ y, ys[j]? = some y → atI ys k = some y := by
  unfold atI at e
  obtain ⟨j, h1, h2⟩ := Option.bind_eq_some_iff.mp e
  refine ⟨j, h2, fun y hy => ?_⟩
  unfold atI
  rw [← hl, h1]
  exact hy
theorem seqL_rep (ok : SOk K S μ H) {a : Vl} {x : V} {xs : List Vl} (ra : RepV K S μ H a x) (e : seqL a S = some xs) : ∃ p vs, x = .ref p ∧ SqL K H p vs ∧ RepVs K S μ H xs vs := by
  cases a with
  | d d =>
    cases ra <;> simp only [seqL] at e <;> try (cases e; done)
    rename_i p vs ds h l r
    cases e
    exact ⟨p, vs, rfl, .inl (.inl h), repVs_d r⟩
  | r n =>
    obtain ⟨p, h1, rfl⟩ := ra
    simp only [seqL] at e
    split at e
    · rename_i ys hs
      cases e
      obtain ⟨h, hh, vs, rfl, rv, _⟩ := ok.obj n p _ h1 hs
      exact ⟨p, vs, rfl, .inl (.inl hh), rv⟩
    · rename_i ns hs
      cases e
      obtain ⟨h, hh, o, rfl⟩ := ok.obj n p _ h1 hs
      refine ⟨p, _, rfl, .inl (.inr ⟨o, hh⟩), ?_⟩
      have : ns.map (fun i => Vl.d (.int i)) = (ns.map PyData.int).map Vl.d := by rw [List.map_map]; rfl
      rw [this]
      exact repVs_d (ints_rep ns)
    · cases e
theorem ix_V (hu : X.A.units + 65 < cLine) : IxR X (fun x y H Q => ∃ a b S μ v, SOk X.K S μ H ∧ RepV X.K S μ H a x ∧ RepV X.K S μ H b y ∧ subV a b S = some v ∧ ∀ u, RepV X.K S μ H v u → Q u H) := by
  intro value slice pins s σ H x y v u Q I rx ry h hs
  obtain ⟨a, b, S, μ, w, ok, ra, rb, e, q⟩ := h
  have dict : ∀ {j : PyData} {kk : Key}, b = .d j → keyOf j = some kk → dlook a S kk = some (some w) → wpAny (model X.prog X.w) X.A (subscriptTail value slice v u) (EP X pins σ Q) X.xe s := fun {j kk} eb hk hd => by
    subst eb
    have ey := keyOf_rep hk rb
    obtain ⟨p, o', ex, g, z1, z2⟩ := dlook_rep ok ra hd
    obtain ⟨w', e1, e2⟩ := z2 w rfl
    subst ey ex e1
    cases rx
    exact tail_any (dict_typeIs I g) PySem.F.slot_dict_getitem.lookup (d_getItem (by omega) I g ry fun u' s3 I3 ru => ⟨w', H, I3, ru, q w' e2⟩) hs
  unfold subV at e
  split at e
  · split at e
    · obtain ⟨d, e1, rfl⟩ := Option.map_eq_some_iff.mp e
      cases rb
      cases ra with
      | tup t r =>
        obtain ⟨j, h1, h2⟩ := atI_by r.length e1
        obtain ⟨z, h3, h4⟩ := r.get h1
        exact ix_tup value slice pins s σ H _ _ v u Q I rx ry ⟨_, _, _, z, rfl, rfl, t.sq, h2 z h3, q z h4⟩ hs
    · cases e
  · split at e
    · obtain ⟨d, e1, rfl⟩ := Option.map_eq_some_iff.mp e
      cases rb
      cases ra with
      | lst h l r =>
        obtain ⟨j, h1, h2⟩ := atI_by r.length e1
        obtain ⟨z, h3, h4⟩ := r.get h1
        exact ix_list value slice pins s σ H _ _ v u Q I rx ry ⟨_, _, _, z, rfl, rfl, .inl (.inl h), h2 z h3, q z h4⟩ hs
    · cases e
  · split at e
    · split at e
      · rename_i hz
        obtain ⟨c, e1, rfl⟩ := Option.map_eq_some_iff.mp e
        cases rb
        cases ra
        exact ix_str value slice pins s σ H _ _ v u Q I rx ry ⟨_, _, c, rfl, rfl, hz, e1, q _ (.str _)⟩ hs
      · cases e
    · cases e
  · split at e
    · split at e
      · rename_i kk hk
        exact dict rfl hk (by simp only [dlook, e])
      · cases e
    · cases e
  · cases e
  · split at e
    · rename_i xs hx
      split at e
      · cases rb
        obtain ⟨p, h1, rfl⟩ := ra
        obtain ⟨h, hh, vs, rfl, rv, _⟩ := ok.obj _ p _ h1 hx
        obtain ⟨j, h2, h3⟩ := atI_by rv.length e
        obtain ⟨z, h4, h5⟩ := rv.get h2
        exact ix_list value slice pins s σ H _ _ v u Q I rx ry ⟨_, _, _, z, rfl, rfl, .inl (.inl hh), h3 z h4, q z h5⟩ hs
      · cases e
    · rename_i n kvs hx
      split at e
      · split at e
        · rename_i kk hk
          exact dict rfl hk (by simp only [dlook, hx, e])
        · cases e
      · cases e
    · rename_i n ns hx
      split at e
      · obtain ⟨i, e1, rfl⟩ := Option.map_eq_some_iff.mp e
        cases rb
        obtain ⟨p, h1, rfl⟩ := ra
        obtain ⟨h, hh, o, rfl⟩ := ok.obj _ p _ h1 hx
        obtain ⟨j, h2, h3⟩ := atI_by (ys := ns.map V.int) (by simp) e1
        exact ix_list value slice pins s σ H _ _ v u Q I rx ry ⟨_, _, _, .int i, rfl, rfl, .inl (.inr ⟨o, hh⟩), h3 _ (by rw [List.getElem?_map, h2]; rfl), q _ (.int i)⟩ hs
      · cases e
    · cases e

/-! ### slices -/
theorem cutD_whole {α : Type} {xs : List α} {lo hi : Option Int} (h : HT.sIx xs.length 0 lo = 0 ∧ HT.sIx xs.length xs.length hi = xs.length) : cutD xs lo hi = xs := by
  unfold cutD
  rw [h.1, h.2]
  simp
theorem cutD_map {α β : Type} (f : α → β) (xs : List α) (lo hi : Option Int) : cutD (xs.map f) lo hi = (cutD xs lo hi).map f := by
  unfold cutD
  rw [List.length_map, List.map_take, List.map_drop]
theorem sl_V : SlR X (fun x lo hi H Q => ∃ a S μ v S', SOk X.K S μ H ∧ RepV X.K S μ H a x ∧ slcV a lo hi S = .ok v S' ∧
    ∀ μ' H', Ext S μ H S' μ' H' → SOk X.K S' μ' H' → ∀ u, RepV X.K S' μ' H' v u → Q u H') := by
  intro pins s σ H x v vl vu lo hi sl Q I rx hs pl pu h
  obtain ⟨a, S, μ, w, S', ok, ra, e, q⟩ := h
  unfold slcV at e
  split at e
  · cases e
    cases ra with
    | tup t r =>
      refine sl_tupA pins s σ H _ v vl vu lo hi sl Q I rx hs pl pu ⟨_, _, rfl, t.sq, fun z => ?_, fun z => Give.tup q ok (cut_rep r lo hi)⟩
      rw [← r.length] at z
      refine Give.here q ok ?_
      rw [cutD_whole z]
      exact .tup t r
  · cases e
    cases ra with
    | lst h l r => exact sl_list pins s σ H _ v vl vu lo hi sl Q I rx hs pl pu ⟨_, _, rfl, .inl (.inl h), Give.lst q ok (cut_rep r lo hi)⟩
  · cases e
  · split at e
    · rename_i n xs hx
      split at e
      · rename_i ds hd
        cases e
        obtain ⟨p, h1, rfl⟩ := ra
        obtain ⟨h, hh, vs, rfl, rv, _⟩ := ok.obj _ p _ h1 hx
        exact sl_list pins s σ H _ v vl vu lo hi sl Q I rx hs pl pu ⟨_, _, rfl, .inl (.inl hh), Give.lst q ok (cut_rep (repVs_of hd rv) lo hi)⟩
      · cases e
    · rename_i n ns hx
      cases e
      obtain ⟨p, h1, rfl⟩ := ra
      obtain ⟨h, hh, o, rfl⟩ := ok.obj _ p _ h1 hx
      refine sl_list pins s σ H _ v vl vu lo hi sl Q I rx hs pl pu ⟨_, _, rfl, .inl (.inr ⟨o, hh⟩), ?_⟩
      rw [← cutD_map] at q
      exact Give.lst q ok (cut_rep (ints_rep ns) lo hi)
    · cases e
theorem slc_noex {a : Vl} {lo hi : Option Int} {S S' : Store} {x : Ex} : slcV a lo hi S ≠ .ex x S' := by
  intro h
  unfold slcV at h
  (repeat' (split at h)) <;> cases h

/-! ### built-in functions -/
theorem ints_V : ∀ {xs : List Vl} {vs : List V} {ns : List Int}, RepVs K S μ H xs vs → intsOf xs = some ns → vs = ns.map V.int
  | [], _, _, .nil, e => by
    cases e
    rfl
  | .d (.int i) :: r, _, ns, .cons h q, e => by
    simp only [intsOf] at e
    obtain ⟨ms, e1, rfl⟩ := Option.map_eq_some_iff.mp e
    have ih := ints_V q e1
    cases h
    rw [ih]
    rfl
theorem bools_V : ∀ {xs : List Vl} {vs : List V} {bs : List Bool}, RepVs K S μ H xs vs → boolsOf xs = some bs → vs = bs.map V.bl
  | [], _, _, .nil, e => by
    cases e
    rfl
  | .d (.bool i) :: r, _, ns, .cons h q, e => by
    simp only [boolsOf] at e
    obtain ⟨ms, e1, rfl⟩ := Option.map_eq_some_iff.mp e
    have ih := bools_V q e1
    cases h
    rw [ih]
    rfl
theorem maxI_mem : ∀ (ns : List Int) (m : Int), (maxI m ns = m ∨ maxI m ns ∈ ns) ∧ m ≤ maxI m ns ∧ ∀ y ∈ ns, y ≤ maxI m ns
  | [], m => ⟨.inl rfl, Int.le_refl _, fun _ h => nomatch h⟩
  | x :: r, m => by
    have ih := maxI_mem r (if x > m then x else m)
    unfold maxI
    by_cases h : x > m
    · rw [if_pos h] at ih ⊢
      refine ⟨.inr ?_, by omega, fun y hy => ?_⟩
      · rcases ih.1 with e | e
        · rw [e]; exact List.mem_cons_self ..
        · exact List.mem_cons_of_mem _ e
      · rcases List.mem_cons.mp hy with rfl | hy
        · exact ih.2.1
        · exact ih.2.2 y hy
    · rw [if_neg h] at ih ⊢
      refine ⟨?_, ih.2.1, fun y hy => ?_⟩
      · rcases ih.1 with e | e
        · exact .inl e
        · exact .inr (List.mem_cons_of_mem _ e)
      · rcases List.mem_cons.mp hy with rfl | hy
        · have := ih.2.1; omega
        · exact ih.2.2 y hy
theorem minI_mem : ∀ (ns : List Int) (m : Int), (minI m ns = m ∨ minI m ns ∈ ns) ∧ minI m ns ≤ m ∧ ∀ y ∈ ns, minI m ns ≤ y
  | [], m => ⟨.inl rfl, Int.le_refl _, fun _ h => nomatch h⟩
  | x :: r, m => by
    have ih := minI_mem r (if x < m then x else m)
    unfold minI
    by_cases h : x < m
    · rw [if_pos h] at ih ⊢
      refine ⟨.inr ?_, by omega, fun y hy => ?_⟩
      · rcases ih.1 with e | e
        · rw [e]; exact List.mem_cons_self ..
        · exact List.mem_cons_of_mem _ e
      · rcases List.mem_cons.mp hy with rfl | hy
        · exact ih.2.1
        · exact ih.2.2 y hy
    · rw [if_neg h] at ih ⊢
      refine ⟨?_, ih.2.1, fun y hy => ?_⟩
      · rcases ih.1 with e | e
        · exact .inl e
        · exact .inr (List.mem_cons_of_mem _ e)
      · rcases List.mem_cons.mp hy with rfl | hy
        · have := ih.2.1; omega
        · exact ih.2.2 y hy
theorem rep1 {xs : List Vl} {x : Vl} {vs : List V} (e : xs = [x]) (r : RepVs K S μ H xs vs) : ∃ v, vs = [v] ∧ RepV K S μ H x v := by
  subst e
  cases r with
  | cons h t =>
    cases t
    exact ⟨_, rfl, h⟩
theorem rep2 {xs : List Vl} {x y : Vl} {vs : List V} (e : xs = [x, y]) (r : RepVs K S μ H xs vs) : ∃ v w, vs = [v, w] ∧ RepV K S μ H x v ∧ RepV K S μ H y w := by
  subst e
  cases r with
  | cons h t =>
    cases t with
    | cons h2 t2 =>
      cases t2
      exact ⟨_, _, rfl, h, h2⟩
/-- a new list, frozen or live -/
theorem newL_ok {m : Bool} {xs : List Vl} {vs : List V} {v : Vl} {S' : Store} {Q : VK} (ok : SOk K S μ H) (r : RepVs K S μ H xs vs) (rl : RefsLt S.length xs) (e : newL m xs S = .ok v S')
    (q : ∀ μ' H', Ext S μ H S' μ' H' → SOk K S' μ' H' → ∀ u, RepV K S' μ' H' v u → Q u H') : vs.length ≤ sizeLine ∧ ∀ p, H p = none → Q (.ref p) (upd H p (.lst vs)) := by
  unfold newL at e
  split at e
  · rename_i hz
    refine ⟨by rw [← r.length]; exact hz, fun p hp => ?_⟩
    split at e
    · cases e
      have ext := Ext.push (p := p) (o := .lst vs) (ob := .lst xs) ok hp
      refine q (μ.push p) _ ext (ok.push hp ⟨vs, rfl, r.mono ext, rl⟩) _ ⟨p, ?_, rfl⟩
      show (μ.l ++ [p])[S.length]? = some p
      rw [← ok.len, getA]
    · split at e
      · rename_i ds hd
        cases e
        exact Give.lst q ok (repVs_of hd r) p hp
      · cases e
  · cases e
theorem newT_ok {xs : List Vl} {vs : List V} {v : Vl} {S' : Store} {Q : VK} (ok : SOk K S μ H) (r : RepVs K S μ H xs vs) (e : newT xs S = .ok v S')
    (q : ∀ μ' H', Ext S μ H S' μ' H' → SOk K S' μ' H' → ∀ u, RepV K S' μ' H' v u → Q u H') : vs.length ≤ sizeLine ∧ ∀ p, H p = none → Q (.ref p) (upd H p (.tup vs)) := by
  unfold newT at e
  split at e
  · rename_i hz
    refine ⟨by rw [← r.length]; exact hz, ?_⟩
    split at e
    · rename_i ds hd
      cases e
      exact Give.tup q ok (repVs_of hd r)
    · cases e
  · cases e
/-- live places are of the store -/
theorem RepVs.lt (ok : SOk K S μ H) : ∀ {xs : List Vl} {vs : List V}, RepVs K S μ H xs vs → RefsLt S.length xs
  | _, _, .nil, _, h => nomatch h
  | x :: xs, _, .cons h r, m, hm => by
    rcases List.mem_cons.mp hm with e | hm
    · subst e
      obtain ⟨a, h1, _⟩ := h
      rw [← ok.len]
      exact (List.getElem?_eq_some_iff.mp h1).1
    · exact RepVs.lt ok r m hm
def biVal : Bi → Value
  | .len => .builtin "len"
  | .abs => .builtin "abs"
  | .int => .type "int"
  | .str => .type "str"
  | .repr => .builtin "repr"
  | .tuple => .type "tuple"
  | .list _ => .type "list"
  | .sum => .builtin "sum"
  | .min => .builtin "min"
  | .max => .builtin "max"
  | .all => .builtin "all"
  | .any => .builtin "any"
  | .sorted => .builtin "sorted"
  | .bool => .type "bool"
theorem call_bool_one : CallR X (.type "bool") (fun xs H Q => (∃ i, xs = [.int i] ∧ Q (.bl (i != 0)) H) ∨ ∃ k, xs = [.bl k] ∧ Q (.bl k) H) := call_bool1
theorem repr_V (hB : ∃ o, X.base.get? sysModules = some o) (hg : X.A.guards = some []) (hu : X.A.units + 65 < cLine) : CallR X (.builtin "repr") (fun xs H Q => ∃ (d : PyData) (x : V) (L : Addr → Prop), xs = [x] ∧ RepD X.K L H d x ∧ showOk d = true ∧ Q (.str d.shown) H) := by
  intro pins s σ H xs us Q I r h
  obtain ⟨d, x, L, rfl, rd, hs, q⟩ := h
  obtain ⟨u, rfl, rx⟩ := vals1 r
  unfold showOk at hs
  simp only [Bool.and_eq_true, decide_eq_true_eq] at hs
  obtain ⟨h1, h2, h3⟩ := hs
  obtain ⟨as, hr, hn⟩ := RepD.reads I hB rd rx
  have refc : ∀ a, u = Value.ref a → wpAny (model X.prog X.w) X.A (call (.builtin "repr") [u]) (EP X pins σ Q) X.xe s := fun a ea => by
    subst ea
    exact repr_of_reads' hr h1 (fun _ => hn) hg (by omega) (fun _ _ e => e) (fun h' t tk kp => ⟨.str d.shown, H, I.kept (t' := tk) kp, ⟨_, rfl⟩, q⟩) h3
  cases rd with
  | non =>
    cases rx
    exact PySem.P.repr_of_none ⟨.str _, H, I.tok _, ⟨_, rfl⟩, q⟩
  | bl b =>
    cases rx
    refine PySem.P.repr_of_bool ⟨.str _, H, I.tok _, ⟨_, rfl⟩, ?_⟩
    cases b <;> exact q
  | int i =>
    obtain ⟨t, rfl⟩ := rx
    exact PySem.P.repr_of_int (by simpa [PyData.showable] using h1) ⟨.str _, H, I.tok _, ⟨_, rfl⟩, q⟩
  | str z =>
    obtain ⟨t, rfl⟩ := rx
    exact PySem.P.repr_of_str ⟨.str _, H, I.tok _, ⟨_, rfl⟩, q⟩ (by simpa only [PyData.shown] using h3)
  | lst _ _ _ => cases rx; exact refc _ rfl
  | tup _ _ => cases rx; exact refc _ rfl
  | dic _ _ _ => cases rx; exact refc _ rfl
theorem bi_noex {b : Bi} {xs : List Vl} {S S' : Store} {x : Ex} : biV b xs S ≠ .ex x S' := by
  intro h
  unfold biV newT newL at h
  (repeat' (split at h)) <;> cases h
end
end Tz

end
section
/-! Tz.Ops4: built-in functions and methods. -/
namespace Tz
open PySem PySem.Spec PyProof.Rows L2
section
theorem insI_perm (x : Int) : ∀ l : List Int, (insI x l).Perm (x :: l)
  | [] => .refl _
  | y :: r => by
    unfold insI
    split
    · exact .refl _
    · exact ((insI_perm x r).cons y).trans (.swap x y r)
theorem sortI_perm : ∀ l : List Int, (sortI l).Perm l
  | [] => .refl _
  | x :: r => (insI_perm x _).trans ((sortI_perm r).cons x)
theorem insI_sorted (x : Int) : ∀ l : List Int, l.Pairwise (· ≤ ·) → (insI x l).Pairwise (· ≤ ·)
  | [], _ => by simp [insI]
  | y :: r, h => by
    have h' := List.pairwise_cons.mp h
    unfold insI
    split
    · rename_i hx
      refine List.pairwise_cons.mpr ⟨fun z hz => ?_, h⟩
      rcases List.mem_cons.mp hz with rfl | hz
      · exact hx
      · have := h'.1 z hz; omega
    · rename_i hx
      refine List.pairwise_cons.mpr ⟨fun z hz => ?_, insI_sorted x r h'.2⟩
      rcases List.mem_cons.mp ((insI_perm x r).mem_iff.mp hz) with rfl | hz
      · omega
      · exact h'.1 z hz
theorem sortI_sorted : ∀ l : List Int, (sortI l).Pairwise (· ≤ ·)
  | [] => .nil
  | x :: r => insI_sorted x _ (sortI_sorted r)
theorem sorted_same : ∀ {l l' : List Int}, l.Perm l' → l.Pairwise (· ≤ ·) → l'.Pairwise (· ≤ ·) → l = l'
  | [], l', p, _, _ => (List.nil_perm.mp p).symm
  | x :: r, [], p, _, _ => absurd p.length_eq (by simp)
  | x :: r, y :: q, p, h, h' => by
    have a := List.pairwise_cons.mp h
    have b := List.pairwise_cons.mp h'
    have e : x = y := by
      have m1 : x ∈ y :: q := p.mem_iff.mp (List.mem_cons_self ..)
      have m2 : y ∈ x :: r := p.mem_iff.mpr (List.mem_cons_self ..)
      rcases List.mem_cons.mp m1 with e | m1
      · exact e
      · rcases List.mem_cons.mp m2 with e | m2
        · exact e.symm
        · have z1 := b.1 x m1
          have z2 := a.1 y m2
          omega
    subst e
    rw [sorted_same (p.cons_inv) a.2 b.2]
variable {X : Cx} {pins : List (Addr × Obj)} {σ : L2.St} {H : Hp} {s : Shared} {S : Store} {μ : Mu} {K : PySem.W.Frag}
theorem call_bi (hB : ∃ o, X.base.get? sysModules = some o) (hg : X.A.guards = some []) (hu : X.A.units + 65 < cLine) (hc : X.calm = true) (b : Bi) : CallR X (biVal b) (fun xs H Q => ∃ vs S μ v S', SOk X.K S μ H ∧ RepVs X.K S μ H vs xs ∧ biV b vs S = .ok v S' ∧
    ∀ μ' H', Ext S μ H S' μ' H' → SOk X.K S' μ' H' → ∀ u, RepV X.K S' μ' H' v u → Q u H') := by
  intro pins s σ H xs us Q I r h
  obtain ⟨vs, S, μ, v, S', ok, rv, e, q⟩ := h
  cases b with
  | len =>
    show wpAny _ _ (call (.builtin "len") us) _ _ _
    simp only [biV] at e
    split at e <;> rename_i heq <;> try (cases heq; done)
    · obtain ⟨z, rfl, rz⟩ := rep1 rfl rv
      split at e
      · cases e
        cases rz
        exact call_len pins s σ H _ us Q I r ⟨_, _, rfl, ⟨by assumption, rfl⟩, Give.here q ok (.int _)⟩
      · cases e
    · obtain ⟨z, rfl, rz⟩ := rep1 rfl rv
      cases e
      cases rz with
      | lst h l rr => exact call_len pins s σ H _ us Q I r ⟨_, _, rfl, .inl ⟨_, .inl (.inl h), rr.length⟩, Give.here q ok (.int _)⟩
    · obtain ⟨z, rfl, rz⟩ := rep1 rfl rv
      cases e
      cases rz with
      | tup t rr => exact call_len pins s σ H _ us Q I r ⟨_, _, rfl, .inr ⟨_, t.sq, rr.length⟩, Give.here q ok (.int _)⟩
    · obtain ⟨z, rfl, p, h1, rfl⟩ := rep1 rfl rv
      split at e
      · rename_i a hs
        cases e
        obtain ⟨h, hh, ws, rfl, rr, _⟩ := ok.obj _ p _ h1 hs
        exact call_len pins s σ H _ us Q I r ⟨_, _, rfl, .inl ⟨_, .inl (.inl hh), rr.length⟩, Give.here q ok (.int _)⟩
      · rename_i a hs
        cases e
        obtain ⟨h, hh, ws, rfl, rr, _⟩ := ok.obj _ p _ h1 hs
        have hl : a.length = ws.length := Paired.length rr
        refine call_lenD pins s σ H _ us Q I r ⟨p, ws, rfl, hh, ?_⟩
        rw [← hl]
        exact Give.here q ok (.int _)
      · rename_i a hs
        cases e
        obtain ⟨h, hh, o, rfl⟩ := ok.obj _ p _ h1 hs
        exact call_len pins s σ H _ us Q I r ⟨_, _, rfl, .inl ⟨_, .inl (.inr ⟨o, hh⟩), by simp⟩, Give.here q ok (.int _)⟩
      · cases e
    · cases e
  | abs =>
    show wpAny _ _ (call (.builtin "abs") us) _ _ _
    simp only [biV] at e
    split at e <;> rename_i heq <;> try (cases heq; done)
    · obtain ⟨z, rfl, rz⟩ := rep1 rfl rv
      cases e
      cases rz
      exact call_abs pins s σ H _ us Q I r ⟨_, rfl, Give.here q ok (.int _)⟩
    · cases e
  | int =>
    show wpAny _ _ (call (.type "int") us) _ _ _
    simp only [biV] at e
    split at e <;> rename_i heq <;> try (cases heq; done)
    · obtain ⟨z, rfl, rz⟩ := rep1 rfl rv
      cases e
      cases rz
      exact call_int1 pins s σ H _ us Q I r (.inl ⟨_, rfl, Give.here q ok (.int _)⟩)
    · obtain ⟨z, rfl, rz⟩ := rep1 rfl rv
      cases e
      cases rz
      exact call_int1 pins s σ H _ us Q I r (.inr ⟨_, rfl, Give.here q ok (.int _)⟩)
    · cases e
  | bool =>
    show wpAny _ _ (call (.type "bool") us) _ _ _
    simp only [biV] at e
    split at e <;> rename_i heq <;> try (cases heq; done)
    · obtain ⟨z, rfl, rz⟩ := rep1 rfl rv
      cases e
      cases rz
      exact call_bool1 pins s σ H _ us Q I r (.inr ⟨_, rfl, Give.here q ok (.bl _)⟩)
    · obtain ⟨z, rfl, rz⟩ := rep1 rfl rv
      cases e
      cases rz
      exact call_bool1 pins s σ H _ us Q I r (.inl ⟨_, rfl, Give.here q ok (.bl _)⟩)
    · cases e
  | str =>
    show wpAny _ _ (call (.type "str") us) _ _ _
    simp only [biV] at e
    split at e <;> rename_i heq <;> try (cases heq; done)
    · obtain ⟨z, rfl, rz⟩ := rep1 rfl rv
      split at e
      · cases e
        cases rz
        exact call_str_int pins s σ H _ us Q I r ⟨_, rfl, by assumption, Give.here q ok (.str _)⟩
      · cases e
    · obtain ⟨z, rfl, rz⟩ := rep1 rfl rv
      cases e
      cases rz
      exact SkE.call_str_str pins s σ H _ us Q I r ⟨_, rfl, Give.here q ok (.str _)⟩
    · cases e
  | repr =>
    show wpAny _ _ (call (.builtin "repr") us) _ _ _
    simp only [biV] at e
    split at e <;> rename_i heq <;> try (cases heq; done)
    · obtain ⟨z, rfl, rz⟩ := rep1 rfl rv
      split at e
      · rename_i hs
        cases e
        exact repr_V hB hg hu pins s σ H _ us Q I r ⟨_, z, _, rfl, rz, hs, Give.here q ok (.str _)⟩
      · cases e
    · cases e
  | tuple =>
    show wpAny _ _ (call (.type "tuple") us) _ _ _
    simp only [biV] at e
    split at e <;> rename_i heq <;> try (cases heq; done)
    · obtain ⟨z, rfl, rz⟩ := rep1 rfl rv
      split at e
      · cases e
        cases rz with
        | tup t rr => exact call_tuple_of pins s σ H _ us Q I r ⟨_, _, rfl, .inr ⟨t.sq, Give.here q ok (.tup t rr)⟩⟩
      · cases e
        cases rz with
        | lst h l rr => exact call_tuple_of pins s σ H _ us Q I r ⟨_, _, rfl, .inl ⟨.inl (.inl h), Give.tup q ok rr⟩⟩
      · split at e
        · rename_i ys hs
          obtain ⟨p, ws, rfl, hq, rr⟩ := seqL_rep ok rz hs
          exact call_tuple_of pins s σ H _ us Q I r ⟨_, _, rfl, .inl ⟨hq, (newT_ok ok rr e q).2⟩⟩
        · cases e
    · cases e
  | list m =>
    show wpAny _ _ (call (.type "list") us) _ _ _
    simp only [biV] at e
    split at e <;> rename_i heq <;> try (cases heq; done)
    · obtain ⟨z, rfl, rz⟩ := rep1 rfl rv
      split at e
      · cases rz with
        | tup t rr => exact call_list_of pins s σ H _ us Q I r ⟨_, _, rfl, .inr t.sq, (newL_ok ok (repVs_d rr) (RepVs.lt ok (repVs_d rr)) e q).2⟩
      · split at e
        · rename_i ys hs
          obtain ⟨p, ws, rfl, hq, rr⟩ := seqL_rep ok rz hs
          exact call_list_of pins s σ H _ us Q I r ⟨_, _, rfl, .inl hq, (newL_ok ok rr (RepVs.lt ok rr) e q).2⟩
        · cases e
    · cases e
  | sum =>
    show wpAny _ _ (call (.builtin "sum") us) _ _ _
    simp only [biV] at e
    split at e <;> rename_i heq <;> try (cases heq; done)
    · obtain ⟨z, rfl, rz⟩ := rep1 rfl rv
      split at e
      · rename_i ys hs
        split at e
        · rename_i ns hn
          cases e
          obtain ⟨p, ws, rfl, hq, rr⟩ := seqL_rep ok rz hs
          rw [ints_V rr hn] at hq
          exact cr_sum hc pins s σ H _ us Q I r ⟨p, ns, rfl, hq, Give.here q ok (.int _)⟩
        · cases e
      · cases e
    · cases e
  | sorted =>
    show wpAny _ _ (call (.builtin "sorted") us) _ _ _
    simp only [biV] at e
    split at e <;> rename_i heq <;> try (cases heq; done)
    · obtain ⟨z, rfl, rz⟩ := rep1 rfl rv
      split at e
      · rename_i ys hs
        split at e
        · rename_i ns hn
          cases e
          obtain ⟨p, ws, rfl, hq, rr⟩ := seqL_rep ok rz hs
          rw [ints_V rr hn] at hq
          refine cr_sortedI pins s σ H _ us Q I r ⟨p, ns, rfl, hq, fun ns' p' h1 h2 hp => ?_⟩
          rw [sorted_same (h1.trans (sortI_perm ns).symm) h2 (sortI_sorted ns)]
          exact Give.lst q ok (ints_rep _) p' hp
        · cases e
      · cases e
    · cases e
  | min =>
    show wpAny _ _ (call (.builtin "min") us) _ _ _
    simp only [biV] at e
    split at e <;> rename_i heq <;> try (cases heq; done)
    · obtain ⟨z, rfl, rz⟩ := rep1 rfl rv
      split at e
      · rename_i ys hs
        split at e
        · rename_i n ns hn
          cases e
          obtain ⟨p, ws, rfl, hq, rr⟩ := seqL_rep ok rz hs
          rw [ints_V rr hn] at hq
          refine cr_min hc pins s σ H _ us Q I r ⟨p, _, rfl, hq, by simp, fun m h1 h2 => ?_⟩
          obtain ⟨z1, z2, z3⟩ := minI_mem ns n
          have : m = minI n ns := by
            have a1 : minI n ns ≤ m := by
              rcases List.mem_cons.mp h1 with e | h1
              · omega
              · exact z3 m h1
            have a2 : m ≤ minI n ns := h2 _ (by
              rcases z1 with e | e
              · rw [e]; exact List.mem_cons_self ..
              · exact List.mem_cons_of_mem _ e)
            omega
          rw [this]
          exact Give.here q ok (.int _)
        · cases e
      · cases e
    · obtain ⟨z1, z2, rfl, r1, r2⟩ := rep2 rfl rv
      cases e
      cases r1
      cases r2
      exact call_min2 hc pins s σ H _ us Q I r ⟨_, _, rfl, Give.here q ok (.int _)⟩
    · cases e
  | max =>
    show wpAny _ _ (call (.builtin "max") us) _ _ _
    simp only [biV] at e
    split at e <;> rename_i heq <;> try (cases heq; done)
    · obtain ⟨z, rfl, rz⟩ := rep1 rfl rv
      split at e
      · rename_i ys hs
        split at e
        · rename_i n ns hn
          cases e
          obtain ⟨p, ws, rfl, hq, rr⟩ := seqL_rep ok rz hs
          rw [ints_V rr hn] at hq
          refine cr_max hc pins s σ H _ us Q I r ⟨p, _, rfl, hq, by simp, fun m h1 h2 => ?_⟩
          obtain ⟨z1, z2, z3⟩ := maxI_mem ns n
          have : m = maxI n ns := by
            have a1 : m ≤ maxI n ns := by
              rcases List.mem_cons.mp h1 with e | h1
              · omega
              · exact z3 m h1
            have a2 : maxI n ns ≤ m := h2 _ (by
              rcases z1 with e | e
              · rw [e]; exact List.mem_cons_self ..
              · exact List.mem_cons_of_mem _ e)
            omega
          rw [this]
          exact Give.here q ok (.int _)
        · cases e
      · cases e
    · obtain ⟨z1, z2, rfl, r1, r2⟩ := rep2 rfl rv
      cases e
      cases r1
      cases r2
      exact call_max2 hc pins s σ H _ us Q I r ⟨_, _, rfl, Give.here q ok (.int _)⟩
    · cases e
  | all =>
    show wpAny _ _ (call (.builtin "all") us) _ _ _
    simp only [biV] at e
    split at e <;> rename_i heq <;> try (cases heq; done)
    · obtain ⟨z, rfl, rz⟩ := rep1 rfl rv
      split at e
      · rename_i ys hs
        split at e
        · rename_i ns hn
          cases e
          obtain ⟨p, ws, rfl, hq, rr⟩ := seqL_rep ok rz hs
          rw [bools_V rr hn] at hq
          exact cr_all hc pins s σ H _ us Q I r ⟨p, ns, rfl, hq, Give.here q ok (.bl _)⟩
        · cases e
      · cases e
    · cases e
  | any =>
    show wpAny _ _ (call (.builtin "any") us) _ _ _
    simp only [biV] at e
    split at e <;> rename_i heq <;> try (cases heq; done)
    · obtain ⟨z, rfl, rz⟩ := rep1 rfl rv
      split at e
      · rename_i ys hs
        split at e
        · rename_i ns hn
          cases e
          obtain ⟨p, ws, rfl, hq, rr⟩ := seqL_rep ok rz hs
          rw [bools_V rr hn] at hq
          exact cr_any hc pins s σ H _ us Q I r ⟨p, ns, rfl, hq, Give.here q ok (.bl _)⟩
        · cases e
      · cases e
    · cases e
end
end Tz

end
section
/-! Tz.Rule1: the context, expressions. -/
namespace Tz
open PySem PySem.Spec PyProof.Rows L2

/-- a def's promise where no repr is under way -/
structure FnG (P : Program) (w : World) (K : PySem.W.Frag) (mg : Str → Option Value) (base : Heap) (k : Nat) (f : Addr) (fd : FuncData) (ps : List Str) (sp : Sp) : Prop where
  len : ∀ vs H Q E, sp vs H Q E → vs.length = ps.length
  run : ∀ (A : Around) (outer : List PySem.Env) (s : Shared) (H : Hp) (args : Args) (us : List Value) (vs : List V) (Q : VK) (E : XK), Room k A → A.guards = some [] → Env0 P w K mg base A outer s H → BindsTo s fd args (ps.zip us) → Vals vs us → sp vs H Q E →
    codeAny (model P w) A (.call (.ref f) args) (CR (L2.CX P w) outer P w H s Q E) s
/-- what the interpreter promises of a def -/
def spM (K : PySem.W.Frag) (XR : XRep) (T : Prog) (k : Nat) (f : Str) (n : Nat) : Sp := fun vs H Q E => vs.length = n ∧ ∃ ds S μ, SOk K S μ H ∧ RepVs K S μ H ds vs ∧
  Post K XR (fun c d _ H' => E c d H') [] S μ H (fun v S' μ' H' => ∀ u, RepV K S' μ' H' v u → Q u H') (run T k f ds S)
def bltNames : List Str := ["len", "abs", "int", "str", "repr", "tuple", "list", "sum", "min", "max", "all", "any", "sorted", "bool", "isinstance", "range", "enumerate", "zip", "reversed", "set", "dict"]
def scal : PyData → Bool
  | .int _ => true
  | .str _ => true
  | _ => false
/-- a dict of the module, by its keys -/
def TabOk (K : PySem.W.Frag) (w : World) (mg : Str → Option Value) (x : Str) (kvs : List (PyData × PyData)) : Prop := ∃ d es n, mg x = some (.ref d) ∧ KDict K w d es n ∧ ∀ z : Str, (match lookD (.inr z) kvs with
  | some dd => ∃ u v, PySem.W.nsIn K d z = some (some u) ∧ RelV v u ∧ ∀ L H, RepD K L H dd v
  | none => PySem.W.nsIn K d z = some none)
structure Cxt (X : Cx) (T : Prog) (XR : XRep) (k : Nat) : Prop where
  room : Room k X.A
  guards : X.A.guards = some []
  calm : X.calm = true
  nd : X.N.Nodup
  sysB : ∃ o, X.base.get? sysModules = some o
  blt : ∀ x ∈ bltNames, X.mg x = none
  con : ∀ x d, T.G x = some d → scal d = true → ∃ u v, X.mg x = some u ∧ RelV v u ∧ ∀ L H, RepD X.K L H d v
  tab : ∀ x kvs, T.G x = some (.dict kvs) → TabOk X.K X.w X.mg x kvs
  fns : ∀ f fn, T.fns.lookup f = some fn → ∃ a fd, X.mg f = some (.ref a) ∧ PySem.W.keepIn X.K (.ref a) = true ∧ Binds X.K fd (fn.names.take fn.pars) [] ∧ FnG X.prog X.w X.K X.mg X.base k a fd (fn.names.take fn.pars) (spM X.K XR T k f fn.pars)
section
variable {X : Cx} {T : Prog} {XR : XRep} {k : Nat}
theorem Cxt.hu (c : Cxt X T XR k) : X.A.units + 65 < cLine := by
  have := c.room.un
  omega
end
theorem _root_.L2.PE.imp {X : Cx} {e : Expr} {t t' : TE} (h : PE X e t) (i : ∀ σ H Q, t' σ H Q → t σ H Q) : PE X e t' := ⟨fun pins s σ H Q I hw => h.run pins s σ H Q I (i σ H Q hw)⟩
theorem _root_.L2.PT.imp {X : Cx} {e : Expr} {t t' : TT} (h : PT X e t) (i : ∀ σ H Q, t' σ H Q → t σ H Q) : PT X e t' := ⟨fun pins s σ H Q I hw => h.run pins s σ H Q I (i σ H Q hw)⟩
theorem _root_.L2.PA.imp {X : Cx} {es : List Expr} {t t' : TA} (h : PA X es t) (i : ∀ σ H Q, t' σ H Q → t σ H Q) : PA X es t' := ⟨fun pos pins s σ H Q I hw => h.run pos pins s σ H Q I (i σ H Q hw)⟩

section
variable {X : Cx} {T : Prog} {XR : XRep} {Wx : WX} {k : Nat}
abbrev SE (X : Cx) (XR : XRep) (Wx : WX) (e : Expr) (m : Env → Store → R Vl) : Prop := PE X e (tM X.K XR Wx m)
abbrev SA (X : Cx) (XR : XRep) (Wx : WX) (es : List Expr) (m : Env → Store → R (List Vl)) : Prop := PA X es (tMA X.K XR Wx m)
abbrev SB (X : Cx) (XR : XRep) (Wx : WX) (e : Expr) (m : Env → Store → R Bool) : Prop := PT X e (tMB X.K XR Wx m)
abbrev PostV (K : PySem.W.Frag) (XR : XRep) (Wx : WX) (σ : L2.St) (S : Store) (μ : Mu) (H : Hp) (Q : VK) (m : R Vl) : Prop := Post K XR Wx σ S μ H (fun v S' μ' H' => ∀ u, RepV K S' μ' H' v u → Q u H') m
/-- one value, then an operation -/
theorem tM_one {K : PySem.W.Frag} {a m : Env → Store → R Vl} {f : Vl → Store → R Vl} {r : V → Hp → VK → Prop} {σ : L2.St} {H : Hp} {Q : VK} (hm : ∀ ρ S, m ρ S = (a ρ S).bind f)
    (hr : ∀ H S μ x u, SOk K S μ H → RepV K S μ H x u → PostV K XR Wx σ S μ H Q (f x S) → r u H Q) (h : tM K XR Wx m σ H Q) : tUn r (tM K XR Wx a) σ H Q := by
  obtain ⟨ρ, S, μ, at_, h⟩ := h
  rw [hm] at h
  exact ⟨ρ, S, μ, at_, h.bind.imp fun x S1 μ1 H1 e1 o1 h1 u ru => hr H1 S1 μ1 x u o1 ru h1⟩
/-- two values, then an operation -/
theorem tM_two {K : PySem.W.Frag} {a b m : Env → Store → R Vl} {f : Vl → Vl → Store → R Vl} {r : R2} {σ : L2.St} {H : Hp} {Q : VK} (hm : ∀ ρ S, m ρ S = (a ρ S).bind fun x S1 => (b ρ S1).bind fun y S2 => f x y S2)
    (hr : ∀ H S μ x y u w, SOk K S μ H → RepV K S μ H x u → RepV K S μ H y w → PostV K XR Wx σ S μ H Q (f x y S) → r u w H Q) (h : tM K XR Wx m σ H Q) : tOp r (tM K XR Wx a) (tM K XR Wx b) σ H Q := by
  obtain ⟨ρ, S, μ, at_, h⟩ := h
  rw [hm] at h
  refine ⟨ρ, S, μ, at_, h.bind.imp fun x S1 μ1 H1 e1 o1 h1 u ru => ⟨ρ, S1, μ1, at_.mono e1 o1, h1.bind.imp fun y S2 μ2 H2 e2 o2 h2 w rw' => ?_⟩⟩
  exact hr H2 S2 μ2 x y u w o2 (ru.mono e2) rw' h2
/-- an answer that is not an exception -/
theorem post_ok {α : Type} {K : PySem.W.Frag} {σ : L2.St} {S : Store} {μ : Mu} {H : Hp} {Q : α → Store → Mu → Hp → Prop} {m : R α} (nx : ∀ x S', m ≠ .ex x S') (h : Post K XR Wx σ S μ H Q m) : ∃ v S', m = .ok v S' ∧ ∀ μ' H', Ext S μ H S' μ' H' → SOk K S' μ' H' → Q v S' μ' H' := by
  cases m with
  | ok v S' => exact ⟨v, S', rfl, h⟩
  | ex x S' => exact absurd rfl (nx x S')
  | fail => exact h.elim

theorem bind_ok {α β : Type} {m : R α} {f : α → Store → R β} {v : β} {S' : Store} (h : m.bind f = .ok v S') : ∃ a S1, m = .ok a S1 ∧ f a S1 = .ok v S' := by
  cases m with
  | ok a S1 => exact ⟨a, S1, rfl, h⟩
  | ex x S1 => cases h
  | fail => cases h
/-! ### constants and names -/
theorem se_con {e : Expr} {v : V} {d : PyData} (h : PE X e (tC v)) (r : ∀ L H, RepD X.K L H d v) : SE X XR Wx e (fun _ S => .ok (.d d) S) :=
  h.imp fun σ H Q ⟨ρ, S, μ, at_, q⟩ => q.here at_.ok v (r _ _)
theorem se_var {i : Nat} {e : Expr} (h : PE X e (tVar i)) : SE X XR Wx e (fun ρ S => match ρ[i]? with | some (some v) => .ok v S | _ => .fail) := by
  refine h.imp fun σ H Q ⟨ρ, S, μ, at_, q⟩ => ?_
  dsimp only at q
  split at q
  · rename_i v hv
    obtain ⟨u, h1, h2⟩ := at_.env.2 i v hv
    exact ⟨u, h1, q.here at_.ok u h2⟩
  · exact q.elim
theorem frz_rep {K : PySem.W.Frag} {S : Store} {μ : Mu} {H : Hp} {v w : Vl} {u : V} {S' : Store} (ok : SOk K S μ H) (r : RepV K S μ H v u) (e : frzV v S = .ok w S') : Ext S μ H S' μ H ∧ SOk K S' μ H ∧ RepV K S' μ H w u := by
  unfold frzV at e
  split at e
  · cases e
    exact ⟨Ext.refl, ok, r⟩
  · rename_i n
    split at e
    · rename_i xs hs
      split at e
      · rename_i ds hd
        cases e
        obtain ⟨p, h1, rfl⟩ := r
        obtain ⟨h, hh, vs, rfl, rv, _⟩ := ok.obj n p _ h1 hs
        refine ⟨Ext.drop, ok.drop, .lst hh ?_ ((repVs_of hd rv).mono (Ext.drop (μ := μ)).keep)⟩
        rintro (z | ⟨m, ob, q1, q2⟩)
        · exact ok.apart n p h1 z
        have : m = n := ok.nd m n p q1 h1
        subst this
        rw [List.getElem?_set_self (List.getElem?_eq_some_iff.mp hs).1] at q2
        cases q2
      · cases e
    · cases e
theorem frz_noex {v : Vl} {S S' : Store} {x : Ex} : frzV v S ≠ .ex x S' := by
  intro h
  unfold frzV at h
  (repeat' (split at h)) <;> cases h
theorem se_frz {i : Nat} {e : Expr} (h : PE X e (tVar i)) : SE X XR Wx e (fun ρ S => match ρ[i]? with | some (some v) => frzV v S | _ => .fail) := by
  refine h.imp fun σ H Q ⟨ρ, S, μ, at_, q⟩ => ?_
  dsimp only at q
  split at q
  · rename_i v hv
    obtain ⟨u, h1, h2⟩ := at_.env.2 i v hv
    obtain ⟨w, S', e, q⟩ := post_ok (fun _ _ => frz_noex) q
    obtain ⟨z1, z2, z3⟩ := frz_rep at_.ok h2 e
    exact ⟨u, h1, q μ H z1 z2 u z3⟩
  · exact q.elim

/-! ### operators -/
theorem se_bin {op : Operator} {a b : Expr} {ma mb : Env → Store → R Vl} {pos : Pos} (ha : SE X XR Wx a ma) (hb : SE X XR Wx b mb) : SE X XR Wx (.BinOp a op b pos) (fun ρ S => (ma ρ S).bind fun x S1 => (mb ρ S1).bind fun y S2 => binV op x y S2) :=
  (pe_op (op_bin op) ha hb).imp fun σ H Q h => tM_two (fun _ _ => rfl) (fun H S μ x y u w ok ru rw' q => by
    obtain ⟨v, S', e, q⟩ := post_ok (fun _ _ => bin_noex) q
    exact ⟨x, y, S, μ, v, S', ok, ru, rw', e, q⟩) h
theorem se_neg {a : Expr} {ma : Env → Store → R Vl} {pos : Pos} (ha : SE X XR Wx a ma) : SE X XR Wx (.UnaryOp .USub a pos) (fun ρ S => (ma ρ S).bind fun x S1 => (match x with | .d (.int i) => .ok (.d (.int (-i))) S1 | _ => .fail)) :=
  (pe_un un_neg ha).imp fun σ H Q h => tM_one (fun _ _ => rfl) (fun H S μ x u ok ru q => by
    split at q
    · cases ru
      exact ⟨_, rfl, q.here ok _ (.int _)⟩
    · exact q.elim) h
theorem tru_post {K : PySem.W.Frag} {β : Type} {σ : L2.St} {S : Store} {μ : Mu} {H : Hp} {Q : β → Store → Mu → Hp → Prop} {x : Vl} {f : Bool → Store → R β} (h : Post K XR Wx σ S μ H Q ((ofO (truth x S) S).bind f)) : ∃ b, truth x S = some b ∧ Post K XR Wx σ S μ H Q (f b S) := h.ofO
theorem se_not {a : Expr} {ma : Env → Store → R Vl} {pos : Pos} (ha : SE X XR Wx a ma) : SE X XR Wx (.UnaryOp .Not a pos) (fun ρ S => (ma ρ S).bind fun x S1 => (ofO (truth x S1) S1).bind fun b S2 => .ok (.d (.bool (!b))) S2) := by
  refine (pe_notT ha).imp fun σ H Q h => ?_
  obtain ⟨ρ, S, μ, at_, h⟩ := h
  refine ⟨ρ, S, μ, at_, h.bind.imp fun x S1 μ1 H1 e1 o1 h1 u ru => ?_⟩
  obtain ⟨b, hb, q⟩ := tru_post h1
  exact ⟨b, tru_V o1 ru hb, q.here o1 _ (.bl _)⟩
theorem se_cmp (c : Cxt X T XR k) {op : CmpOp} {a b : Expr} {ma mb : Env → Store → R Vl} {pos : Pos} (ha : SE X XR Wx a ma) (hb : SE X XR Wx b mb) (hm : behindInMarks op b = false) :
    SE X XR Wx (.Compare a [op] [b] pos) (fun ρ S => (ma ρ S).bind fun x S1 => (mb ρ S1).bind fun y S2 => (ofO (cmpV op x y S2) S2).bind fun k S3 => .ok (.d (.bool k)) S3) :=
  (pe_cmpR (op_cmp c.sysB c.hu op) ha hb hm).imp fun σ H Q h => tM_two (fun _ _ => rfl) (fun H S μ x y u w ok ru rw' q => by
    obtain ⟨k, e, q⟩ := q.ofO
    exact ⟨x, y, S, μ, k, ok, ru, rw', e, q.here ok _ (.bl k)⟩) h
theorem se_cmp2 (c : Cxt X T XR k) {op op2 : CmpOp} {a b d : Expr} {ma mb md : Env → Store → R Vl} {pos : Pos} (ha : SE X XR Wx a ma) (hb : SE X XR Wx b mb) (hd : SE X XR Wx d md) (hm : lastMarks [op, op2] [b, d] = false) :
    SE X XR Wx (.Compare a [op, op2] [b, d] pos) (fun ρ S => (ma ρ S).bind fun x S1 => (mb ρ S1).bind fun y S2 => (ofO (cmpV op x y S2) S2).bind fun k S3 =>
      if k then (md ρ S3).bind fun z S4 => (ofO (cmpV op2 y z S4) S4).bind fun k2 S5 => .ok (.d (.bool k2)) S5 else .ok (.d (.bool false)) S3) := by
  refine (pe_chain (op_cmp c.sysB c.hu op) (op_cmp c.sysB c.hu op2) ha hb hd hm).imp fun σ H Q h => ?_
  obtain ⟨ρ, S, μ, at_, h⟩ := h
  refine ⟨ρ, S, μ, at_, h.bind.imp fun x S1 μ1 H1 e1 o1 h1 u ru => ⟨ρ, S1, μ1, at_.mono e1 o1, h1.bind.imp fun y S2 μ2 H2 e2 o2 h2 w rw' => ?_⟩⟩
  obtain ⟨k, e, q⟩ := h2.ofO
  refine ⟨x, y, S2, μ2, k, o2, ru.mono e2, rw', e, k, rfl, ?_⟩
  cases k with
  | false => exact q.here o2 _ (.bl false)
  | true =>
    refine ⟨ρ, S2, μ2, (at_.mono e1 o1).mono e2 o2, q.bind.imp fun z S3 μ3 H3 e3 o3 h3 w3 rz => ?_⟩
    obtain ⟨k2, e', q'⟩ := h3.ofO
    exact ⟨y, z, S3, μ3, k2, o3, rw'.mono e3, rz, e', q'.here o3 _ (.bl k2)⟩
theorem se_and {a b : Expr} {rest : List Expr} {ma mb : Env → Store → R Vl} {pos : Pos} (ha : SE X XR Wx a ma) (hb : SE X XR Wx (.BoolOp .And (b :: rest) pos) mb) :
    SE X XR Wx (.BoolOp .And (a :: b :: rest) pos) (fun ρ S => (ma ρ S).bind fun x S1 => (ofO (truth x S1) S1).bind fun c S2 => if c then mb ρ S2 else .ok x S2) := by
  refine (pe_andT ha hb).imp fun σ H Q h => ?_
  obtain ⟨ρ, S, μ, at_, h⟩ := h
  refine ⟨ρ, S, μ, at_, h.bind.imp fun x S1 μ1 H1 e1 o1 h1 u ru => ?_⟩
  obtain ⟨b, hb, q⟩ := tru_post h1
  refine ⟨b, tru_V o1 ru hb, ?_⟩
  cases b with
  | true => exact ⟨ρ, S1, μ1, at_.mono e1 o1, q⟩
  | false => exact q.here o1 _ ru
theorem se_or {a b : Expr} {rest : List Expr} {ma mb : Env → Store → R Vl} {pos : Pos} (ha : SE X XR Wx a ma) (hb : SE X XR Wx (.BoolOp .Or (b :: rest) pos) mb) :
    SE X XR Wx (.BoolOp .Or (a :: b :: rest) pos) (fun ρ S => (ma ρ S).bind fun x S1 => (ofO (truth x S1) S1).bind fun c S2 => if c then .ok x S2 else mb ρ S2) := by
  refine (pe_orT ha hb).imp fun σ H Q h => ?_
  obtain ⟨ρ, S, μ, at_, h⟩ := h
  refine ⟨ρ, S, μ, at_, h.bind.imp fun x S1 μ1 H1 e1 o1 h1 u ru => ?_⟩
  obtain ⟨b, hb, q⟩ := tru_post h1
  refine ⟨b, tru_V o1 ru hb, ?_⟩
  cases b with
  | false => exact ⟨ρ, S1, μ1, at_.mono e1 o1, q⟩
  | true => exact q.here o1 _ ru
theorem se_boolOne {op : BoolOp} {a : Expr} {ma : Env → Store → R Vl} {pos : Pos} (ha : SE X XR Wx a ma) : SE X XR Wx (.BoolOp op [a] pos) ma := pe_one ha

/-! ### tests -/
/-- a test by its value -/
abbrev tstM (m : Env → Store → R Vl) : Env → Store → R Bool := fun ρ S => (m ρ S).bind fun x S1 => ofO (truth x S1) S1
theorem sb_plain {a : Expr} {ma : Env → Store → R Vl} (ha : SE X XR Wx a ma) (he : ∀ whole, isTrue a X.env whole = (do let v ← whole; standAt a.pos; holding [v] (truthy v))) : SB X XR Wx a (tstM ma) := by
  refine (pt_truth ha he).imp fun σ H Q h => ?_
  obtain ⟨ρ, S, μ, at_, h⟩ := h
  refine ⟨ρ, S, μ, at_, h.bind.imp fun x S1 μ1 H1 e1 o1 h1 u ru => ?_⟩
  cases e : truth x S1 with
  | none => rw [e] at h1; exact h1.elim
  | some b =>
    rw [e] at h1
    exact ⟨b, tru_V o1 ru e, h1.here o1⟩
theorem sb_not {a : Expr} {ma : Env → Store → R Vl} {pos : Pos} (ha : SB X XR Wx a (tstM ma)) : SB X XR Wx (.UnaryOp .Not a pos) (tstM fun ρ S => (ma ρ S).bind fun x S1 => (ofO (truth x S1) S1).bind fun b S2 => .ok (.d (.bool (!b))) S2) := by
  refine (pt_not ha).imp fun σ H Q h => ?_
  obtain ⟨ρ, S, μ, at_, h⟩ := h
  refine ⟨ρ, S, μ, at_, ?_⟩
  dsimp only [tstM] at h ⊢
  cases e : ma ρ S with
  | fail => rw [e] at h; exact h
  | ex x S1 => rw [e] at h; exact h
  | ok x S1 =>
    rw [e] at h
    cases e2 : truth x S1 with
    | none =>
      simp only [R.bind, e2, ofO] at h
      exact h.elim
    | some b =>
      simp only [R.bind, e2, ofO] at h ⊢
      exact h
theorem sb_and {a b : Expr} {rest : List Expr} {ma mb : Env → Store → R Vl} {pos : Pos} (ha : SB X XR Wx a (tstM ma)) (hb : PW X (.BoolOp .And (b :: rest) pos) (tMB X.K XR Wx (tstM mb))) :
    PW X (.BoolOp .And (a :: b :: rest) pos) (tMB X.K XR Wx (tstM fun ρ S => (ma ρ S).bind fun x S1 => (ofO (truth x S1) S1).bind fun c S2 => if c then mb ρ S2 else .ok x S2)) := by
  refine ⟨fun wh pins s σ H Q I h => (pw_and ha hb).run wh pins s σ H Q I ?_⟩
  obtain ⟨ρ, S, μ, at_, h⟩ := h
  refine ⟨ρ, S, μ, at_, ?_⟩
  dsimp only [tstM] at h ⊢
  cases e : ma ρ S with
  | fail => rw [e] at h; exact h
  | ex x S1 => rw [e] at h; exact h
  | ok x S1 =>
    rw [e] at h
    cases e2 : truth x S1 with
    | none =>
      simp only [R.bind, e2, ofO] at h
      exact h.elim
    | some b =>
      simp only [R.bind, e2, ofO] at h ⊢
      refine fun μ1 H1 e1 o1 => ?_
      cases b with
      | true => exact ⟨ρ, S1, μ1, at_.mono e1 o1, Post.later e1 h⟩
      | false =>
        simp only [if_neg Bool.false_ne_true, e2] at h
        exact h μ1 H1 e1 o1
theorem sb_or {a b : Expr} {rest : List Expr} {ma mb : Env → Store → R Vl} {pos : Pos} (ha : SB X XR Wx a (tstM ma)) (hb : PW X (.BoolOp .Or (b :: rest) pos) (tMB X.K XR Wx (tstM mb))) :
    PW X (.BoolOp .Or (a :: b :: rest) pos) (tMB X.K XR Wx (tstM fun ρ S => (ma ρ S).bind fun x S1 => (ofO (truth x S1) S1).bind fun c S2 => if c then .ok x S2 else mb ρ S2)) := by
  refine ⟨fun wh pins s σ H Q I h => (pw_or ha hb).run wh pins s σ H Q I ?_⟩
  obtain ⟨ρ, S, μ, at_, h⟩ := h
  refine ⟨ρ, S, μ, at_, ?_⟩
  dsimp only [tstM] at h ⊢
  cases e : ma ρ S with
  | fail => rw [e] at h; exact h
  | ex x S1 => rw [e] at h; exact h
  | ok x S1 =>
    rw [e] at h
    cases e2 : truth x S1 with
    | none =>
      simp only [R.bind, e2, ofO] at h
      exact h.elim
    | some b =>
      simp only [R.bind, e2, ofO] at h ⊢
      refine fun μ1 H1 e1 o1 => ?_
      cases b with
      | false => exact ⟨ρ, S1, μ1, at_.mono e1 o1, Post.later e1 h⟩
      | true =>
        simp only [if_true, e2] at h
        exact h μ1 H1 e1 o1
theorem sb_boolOne {op : BoolOp} {a : Expr} {m : Env → Store → R Bool} {pos : Pos} (ha : SB X XR Wx a m) : PW X (.BoolOp op [a] pos) (tMB X.K XR Wx m) := by
  cases op with
  | And => exact pw_and1 ha
  | Or => exact pw_or1 ha
/-- a comparison's value is a bool -/
theorem sb_val {a : Expr} {ma : Env → Store → R Vl} {t : TE} (hb : ∀ ρ S v S', ma ρ S = .ok v S' → ∃ b, v = .d (.bool b)) (h : PT X a (tTest t)) (i : ∀ σ H Q, tM X.K XR Wx ma σ H Q → t σ H Q) : SB X XR Wx a (tstM ma) := by
  refine h.imp fun σ H Q hh => ?_
  obtain ⟨ρ, S, μ, at_, hh⟩ := hh
  refine i σ H _ ⟨ρ, S, μ, at_, ?_⟩
  dsimp only [tstM] at hh
  cases e : ma ρ S with
  | fail => rw [e] at hh; exact hh
  | ex x S1 => rw [e] at hh; exact hh
  | ok x S1 =>
    rw [e] at hh
    obtain ⟨b, rfl⟩ := hb ρ S x S1 e
    intro μ1 H1 e1 o1 u ru
    cases ru
    exact ⟨b, rfl, hh μ1 H1 e1 o1⟩
theorem sb_cmp (c : Cxt X T XR k) {op : CmpOp} {a b : Expr} {ma mb : Env → Store → R Vl} {pos : Pos} (ha : SE X XR Wx a ma) (hb : SE X XR Wx b mb) (hm : behindInMarks op b = false) :
    SB X XR Wx (.Compare a [op] [b] pos) (tstM fun ρ S => (ma ρ S).bind fun x S1 => (mb ρ S1).bind fun y S2 => (ofO (cmpV op x y S2) S2).bind fun k S3 => .ok (.d (.bool k)) S3) := by
  refine sb_val (fun ρ S v S' e => ?_) (pt_cmpR (op_cmp c.sysB c.hu op) ha hb hm) (fun σ H Q h => tM_two (fun _ _ => rfl) (fun H S μ x y u w ok ru rw' q => by
    obtain ⟨k, e, q⟩ := q.ofO
    exact ⟨x, y, S, μ, k, ok, ru, rw', e, q.here ok _ (.bl k)⟩) h)
  obtain ⟨x, S1, _, e⟩ := bind_ok e
  obtain ⟨y, S2, _, e⟩ := bind_ok e
  obtain ⟨k, S3, _, e⟩ := bind_ok e
  cases e
  exact ⟨_, rfl⟩
theorem sb_cmp2 (c : Cxt X T XR k) {op op2 : CmpOp} {a b d : Expr} {ma mb md : Env → Store → R Vl} {pos : Pos} (ha : SE X XR Wx a ma) (hb : SE X XR Wx b mb) (hd : SE X XR Wx d md) (hm : lastMarks [op, op2] [b, d] = false) :
    SB X XR Wx (.Compare a [op, op2] [b, d] pos) (tstM fun ρ S => (ma ρ S).bind fun x S1 => (mb ρ S1).bind fun y S2 => (ofO (cmpV op x y S2) S2).bind fun k S3 =>
      if k then (md ρ S3).bind fun z S4 => (ofO (cmpV op2 y z S4) S4).bind fun k2 S5 => .ok (.d (.bool k2)) S5 else .ok (.d (.bool false)) S3) := by
  refine sb_val (fun ρ S v S' e => ?_) (pt_chain (op_cmp c.sysB c.hu op) (op_cmp c.sysB c.hu op2) ha hb hd hm) (fun σ H Q h => ?_)
  · obtain ⟨x, S1, _, e⟩ := bind_ok e
    obtain ⟨y, S2, _, e⟩ := bind_ok e
    obtain ⟨k, S3, _, e⟩ := bind_ok e
    split at e
    · obtain ⟨z, S4, _, e⟩ := bind_ok e
      obtain ⟨k2, S5, _, e⟩ := bind_ok e
      cases e
      exact ⟨_, rfl⟩
    · cases e
      exact ⟨_, rfl⟩
  · obtain ⟨ρ, S, μ, at_, h⟩ := h
    refine ⟨ρ, S, μ, at_, h.bind.imp fun x S1 μ1 H1 e1 o1 h1 u ru => ⟨ρ, S1, μ1, at_.mono e1 o1, h1.bind.imp fun y S2 μ2 H2 e2 o2 h2 w rw' => ?_⟩⟩
    obtain ⟨k, e, q⟩ := h2.ofO
    refine ⟨x, y, S2, μ2, k, o2, ru.mono e2, rw', e, k, rfl, ?_⟩
    cases k with
    | false => exact q.here o2 _ (.bl false)
    | true =>
      refine ⟨ρ, S2, μ2, (at_.mono e1 o1).mono e2 o2, q.bind.imp fun z S3 μ3 H3 e3 o3 h3 w3 rz => ?_⟩
      obtain ⟨k2, e', q'⟩ := h3.ofO
      exact ⟨y, z, S3, μ3, k2, o3, rw'.mono e3, rz, e', q'.here o3 _ (.bl k2)⟩
theorem se_ite {c a b : Expr} {mc ma mb : Env → Store → R Vl} {pos : Pos} (hc : SB X XR Wx c (tstM mc)) (ha : SE X XR Wx a ma) (hb : SE X XR Wx b mb) :
    SE X XR Wx (.IfExp c a b pos) (fun ρ S => (mc ρ S).bind fun x S1 => (ofO (truth x S1) S1).bind fun k S2 => if k then ma ρ S2 else mb ρ S2) := by
  refine (pe_ifExp hc ha hb).imp fun σ H Q h => ?_
  obtain ⟨ρ, S, μ, at_, h⟩ := h
  refine ⟨ρ, S, μ, at_, ?_⟩
  have e : ((mc ρ S).bind fun x S1 => (ofO (truth x S1) S1).bind fun k S2 => if k then ma ρ S2 else mb ρ S2) = (tstM mc ρ S).bind fun k S2 => if k then ma ρ S2 else mb ρ S2 := by
    unfold tstM
    cases mc ρ S <;> rfl
  dsimp only at h
  rw [e] at h
  refine h.bind.imp fun k S1 μ1 H1 e1 o1 h1 => ?_
  cases k with
  | true => exact ⟨ρ, S1, μ1, at_.mono e1 o1, h1⟩
  | false => exact ⟨ρ, S1, μ1, at_.mono e1 o1, h1⟩
end
end Tz

end
section
/-! Tz.Rule2: displays, subscripts, calls. -/
namespace Tz
open PySem PySem.Spec PyProof.Rows L2 StX
section
variable {X : Cx} {T : Prog} {XR : XRep} {Wx : WX} {k : Nat}
/-! ### argument lists -/
theorem sa_nil : SA X XR Wx [] (fun _ S => .ok [] S) := pa_nil.imp fun σ H Q ⟨ρ, S, μ, at_, q⟩ => q.here at_.ok [] .nil
theorem sa_cons {e : Expr} {es : List Expr} {m : Env → Store → R Vl} {ms : Env → Store → R (List Vl)} (he : SE X XR Wx e m) (hes : SA X XR Wx es ms) (hs : starEach (e :: es) X.env = (false, eval e X.env) :: starEach es X.env) :
    SA X XR Wx (e :: es) (fun ρ S => (m ρ S).bind fun x S1 => (ms ρ S1).bind fun xs S2 => .ok (x :: xs) S2) := by
  refine (pa_cons he hes hs).imp fun σ H Q h => ?_
  obtain ⟨ρ, S, μ, at_, h⟩ := h
  refine ⟨ρ, S, μ, at_, h.bind.imp fun x S1 μ1 H1 e1 o1 h1 u ru => ⟨ρ, S1, μ1, at_.mono e1 o1, h1.bind.imp fun xs S2 μ2 H2 e2 o2 h2 us rs => ?_⟩⟩
  exact h2.here o2 _ (.cons (ru.mono e2) rs)
theorem sa_star {e : Expr} {es : List Expr} {p : Pos} {m : Env → Store → R Vl} {ms : Env → Store → R (List Vl)} (he : SE X XR Wx e m) (hes : SA X XR Wx es ms) :
    SA X XR Wx (.Starred e p :: es) (fun ρ S => (m ρ S).bind fun x S1 => (match (seqT x).or (seqL x S1) with
      | some ys => (ms ρ S1).bind fun xs S2 => .ok (ys ++ xs) S2
      | none => .fail)) := by
  refine (pa_star he hes).imp fun σ H Q h => ?_
  obtain ⟨ρ, S, μ, at_, h⟩ := h
  refine ⟨ρ, S, μ, at_, h.bind.imp fun x S1 μ1 H1 e1 o1 h1 u ru => ?_⟩
  have go : ∀ {ys : List Vl} {p : Addr} {vs : List V}, u = V.ref p → (SqT X.K H1 p vs ∨ SqL X.K H1 p vs) → RepVs X.K S1 μ1 H1 ys vs → Post X.K XR Wx σ S1 μ1 H1 (fun vs S' μ' H' => ∀ us, RepVs X.K S' μ' H' vs us → Q us H') ((ms ρ S1).bind fun xs S2 => .ok (ys ++ xs) S2) →
      ∃ p xs, u = V.ref p ∧ (SqT X.K H1 p xs ∨ SqL X.K H1 p xs) ∧ tMA X.K XR Wx ms σ H1 (fun ys H2 => Q (xs ++ ys) H2) := fun {ys p vs} eu hq rv h1 => by
    refine ⟨p, vs, eu, hq, ρ, S1, μ1, at_.mono e1 o1, h1.bind.imp fun xs S2 μ2 H2 e2 o2 h2 us rs => ?_⟩
    exact h2.here o2 _ ((rv.mono e2).append rs)
  split at h1
  · rename_i ys hy
    cases hT : seqT x with
    | some zs =>
      rw [hT] at hy
      cases hy
      unfold seqT at hT
      split at hT
      · cases hT
        cases ru with
        | tup t r => exact go rfl (.inl t.sq) (repVs_d r) h1
      · cases hT
    | none =>
      rw [hT] at hy
      obtain ⟨p, vs, eu, hq, rv⟩ := seqL_rep o1 ru hy
      exact go eu (.inr hq) rv h1
  · exact h1.elim

/-! ### displays -/
theorem newT_noex {xs : List Vl} {S S' : Store} {x : Ex} : newT xs S ≠ .ex x S' := by
  intro h
  unfold newT at h
  (repeat' (split at h)) <;> cases h
theorem newL_noex {m : Bool} {xs : List Vl} {S S' : Store} {x : Ex} : newL m xs S ≠ .ex x S' := by
  intro h
  unfold newL at h
  (repeat' (split at h)) <;> cases h
theorem se_tup {es : List Expr} {ms : Env → Store → R (List Vl)} {x1 : Nat} {pos : Pos} (h : SA X XR Wx es ms) : SE X XR Wx (.Tuple es x1 pos) (fun ρ S => (ms ρ S).bind fun xs S1 => newT xs S1) := by
  refine (pe_tup h).imp fun σ H Q h => ?_
  obtain ⟨ρ, S, μ, at_, h⟩ := h
  refine ⟨ρ, S, μ, at_, h.bind.imp fun xs S1 μ1 H1 e1 o1 h1 us rs => ?_⟩
  obtain ⟨v, S', e, q⟩ := post_ok (fun _ _ => newT_noex) h1
  exact newT_ok o1 rs e q
theorem se_lst {m : Bool} {es : List Expr} {ms : Env → Store → R (List Vl)} {pos : Pos} (h : SA X XR Wx es ms) : SE X XR Wx (.List es pos) (fun ρ S => (ms ρ S).bind fun xs S1 => newL m xs S1) := by
  refine (pe_lst h).imp fun σ H Q h => ?_
  obtain ⟨ρ, S, μ, at_, h⟩ := h
  refine ⟨ρ, S, μ, at_, h.bind.imp fun xs S1 μ1 H1 e1 o1 h1 us rs => ?_⟩
  obtain ⟨v, S', e, q⟩ := post_ok (fun _ _ => newL_noex) h1
  exact newL_ok o1 rs (RepVs.lt o1 rs) e q

/-! ### dict displays -/
/-- the pairs of a display: keys that are written -/
inductive DicOk (X : Cx) (XR : XRep) (Wx : WX) : List (Option Expr) → List Expr → List Key → (Env → Store → R (List Vl)) → Prop
  | nil : DicOk X XR Wx [] [] [] (fun _ S => .ok [] S)
  | cons {ke e : Expr} {key : Key} {kes : List (Option Expr)} {es : List Expr} {ks : List Key} {m : Env → Store → R Vl} {ms : Env → Store → R (List Vl)} : PE X ke (tC (kV key)) → SE X XR Wx e m → DicOk X XR Wx kes es ks ms →
      DicOk X XR Wx (some ke :: kes) (e :: es) (key :: ks) (fun ρ S => (m ρ S).bind fun x S1 => (ms ρ S1).bind fun xs S2 => .ok (x :: xs) S2)
theorem DicOk.pps {kes : List (Option Expr)} {es : List Expr} {ks : List Key} {ms : Env → Store → R (List Vl)} {pos : Pos} (h : DicOk X XR Wx kes es ks ms) : ∃ trs, PPs X pos kes es trs ∧
    ∀ σ H ρ S μ (Q : List (V × V) → Hp → Prop), At X.K σ H ρ S μ → Post X.K XR Wx σ S μ H (fun vs S' μ' H' => ∀ us, RepVs X.K S' μ' H' vs us → Q ((ks.map kV).zip us) H') (ms ρ S) → tPairs trs σ H Q := by
  induction h with
  | nil => exact ⟨[], pps_nil, fun σ H ρ S μ Q at_ h => h.here at_.ok [] .nil⟩
  | @cons ke e key kes es ks m ms hk he hr ih =>
    obtain ⟨trs, h1, h2⟩ := ih
    refine ⟨(tC (kV key), tM X.K XR Wx m) :: trs, pps_cons hk he h1, fun σ H ρ S μ Q at_ h => ?_⟩
    refine ⟨ρ, S, μ, at_, h.bind.imp fun x S1 μ1 H1 e1 o1 h3 u ru => ?_⟩
    refine h2 σ H1 ρ S1 μ1 _ (at_.mono e1 o1) (h3.bind.imp fun xs S2 μ2 H2 e2 o2 h4 us rs => ?_)
    exact h4.here o2 _ (.cons (ru.mono e2) rs)
theorem DicOk.lens {kes : List (Option Expr)} {es : List Expr} {ks : List Key} {ms : Env → Store → R (List Vl)} (h : DicOk X XR Wx kes es ks ms) : kes.length = es.length ∧ kes.length = ks.length ∧ kes.all (·.isSome) = true := by
  induction h with
  | nil => exact ⟨rfl, rfl, rfl⟩
  | cons _ _ _ ih => exact ⟨by simp [ih.1], by simp [ih.2.1], by simp [ih.2.2]⟩
theorem putK_new {κ : Type} [DecidableEq κ] {kvs : List (κ × V)} {k : κ} {v : V} (h : k ∉ kvs.map (·.1)) : L2.putK kvs k v = kvs ++ [(k, v)] := by
  unfold L2.putK
  rw [if_neg]
  intro z
  obtain ⟨p, hp, e⟩ := List.any_eq_true.mp z
  exact h (List.mem_map.mpr ⟨p, hp, of_decide_eq_true e⟩)
theorem mergeK_new : ∀ (more kvs : List (Key × V)), ((kvs ++ more).map (·.1)).Nodup → mergeK kvs more = kvs ++ more
  | [], kvs, _ => by simp [mergeK]
  | p :: r, kvs, h => by
    show mergeK (L2.putK kvs p.1 p.2) r = _
    have hn : p.1 ∉ kvs.map (·.1) := fun z => by
      rw [List.map_append, List.map_cons] at h
      have := (List.nodup_append.mp h).2.2 _ z _ (List.mem_cons_self ..)
      exact this rfl
    rw [putK_new hn, mergeK_new r (kvs ++ [(p.1, p.2)]) (by simpa using h)]
    simp
theorem zip_keys {α β : Type} : ∀ {ks : List α} {xs : List β}, xs.length = ks.length → (ks.zip xs).map (·.1) = ks
  | [], [], _ => rfl
  | k :: ks, x :: xs, h => by
    rw [List.zip_cons_cons, List.map_cons, zip_keys (by simpa using h)]
  | [], _ :: _, h => by simp at h
  | _ :: _, [], h => by simp at h
theorem zip_vals {α β : Type} : ∀ {ks : List α} {xs : List β}, xs.length = ks.length → (ks.zip xs).map (·.2) = xs
  | [], [], _ => rfl
  | k :: ks, x :: xs, h => by
    rw [List.zip_cons_cons, List.map_cons, zip_vals (by simpa using h)]
  | [], _ :: _, h => by simp at h
  | _ :: _, [], h => by simp at h
theorem kvOk_zip {K : PySem.W.Frag} {S : Store} {μ : Mu} {H : Hp} : ∀ {ks : List Key} {xs : List Vl} {us : List V}, RepVs K S μ H xs us → KvOk K S μ H (ks.zip xs) (ks.zip us)
  | [], _, _, _ => by
    rw [List.zip_nil_left, List.zip_nil_left]
    exact .nil
  | k :: ks, _, _, .nil => by
    rw [List.zip_nil_right, List.zip_nil_right]
    exact .nil
  | k :: ks, _, _, .cons h r => .cons ⟨rfl, h⟩ (kvOk_zip r)
theorem repKv_zip {K : PySem.W.Frag} {L : Addr → Prop} {H : Hp} : ∀ {ks : List Key} {ds : List PyData} {us : List V}, RepDs K L H ds us → RepKv K L H ((ks.map keyD).zip ds) (ks.zip us)
  | [], _, _, _ => by
    rw [List.map_nil, List.zip_nil_left, List.zip_nil_left]
    exact .nil
  | k :: ks, _, _, .nil => by
    rw [List.zip_nil_right, List.zip_nil_right]
    exact .nil
  | k :: ks, _, _, .cons h r => .cons h (repKv_zip r)
def dicV (m : Bool) (ks : List Key) (xs : List Vl) (S1 : Store) : R Vl := if decide (ks.Nodup) && (decide (xs.length = ks.length) && decide (ks.length ≤ 1000)) then
      (if m then .ok (.r S1.length) (S1 ++ [some (.dic (ks.zip xs))]) else match allD xs with
        | some ds => .ok (.d (.dict ((ks.map keyD).zip ds))) S1
        | none => .fail) else .fail
theorem dicV_noex {m : Bool} {ks : List Key} {xs : List Vl} {S S' : Store} {x : Ex} : dicV m ks xs S ≠ .ex x S' := by
  intro h
  unfold dicV at h
  (repeat' (split at h)) <;> cases h
/-- a dict is made where p was reserved -/
theorem dic_end {m : Bool} {ks : List Key} {xs : List Vl} {us : List V} {S S2 S' : Store} {μ μ2 : Mu} {H H2 : Hp} {v : Vl} {Q : VK} {p : Addr} {K : PySem.W.Frag} (ok : SOk K S μ H) (hp : H p = none) (ok2 : SOk K S2 μ2 H2) (r : RepVs K S2 μ2 H2 xs us) (ex : Ext S (μ.rsv p) (upd H p (.dK [])) S2 μ2 H2)
    (e : dicV m ks xs S2 = .ok v S') (q : ∀ μ' H', Ext S μ H S' μ' H' → SOk K S' μ' H' → ∀ u, RepV K S' μ' H' v u → Q u H') : us.length = ks.length ∧ ks.Nodup ∧ Q (.ref p) (upd H2 p (.dK (ks.zip us))) := by
  unfold dicV at e
  split at e
  · rename_i hz
    simp only [Bool.and_eq_true, decide_eq_true_eq] at hz
    have hl : us.length = ks.length := by rw [← r.length]; exact hz.2.1
    refine ⟨hl, hz.1, ?_⟩
    have eg : μ2.g = fun a => a = p ∨ μ.g a := ex.g
    have ok3 := SOk.unrsv (o := .dK (ks.zip us)) ok2 eg (ok.newG hp)
    have ex3 := Ext.unrsv (o := .dK (ks.zip us)) hp ok ex
    have hp2 : ∀ n : Nat, μ2.l[n]? ≠ some p := fun n z => ok2.apart n p z (by rw [eg]; exact .inl rfl)
    split at e
    · cases e
      have ok4 : SOk K (S2 ++ [some (.dic (ks.zip xs))]) (μ2.adopt p μ.g) (upd H2 p (.dK (ks.zip us))) := SOk.adopt ok2 eg (ok.newG hp) ⟨_, rfl, kvOk_zip (RepVs.adopt ok2 eg r), by
          rw [zip_vals hz.2.1]
          exact RepVs.lt ok2 r, by
          rw [zip_keys hz.2.1]
          exact hz.1⟩
      refine q _ _ (Ext.adopt hp ok ok2 ex) ok4 _ ⟨p, ?_, rfl⟩
      show (μ2.l ++ [p])[S2.length]? = some p
      rw [← ok2.len, getA]
    · split at e
      · rename_i ds hd
        cases e
        refine q _ _ ex3 ok3 _ (.dic upd_same ?_ (repKv_zip ((repVs_of hd r).mono (Keep.unrsv eg))))
        rintro (z | ⟨n, _, z, _⟩)
        · exact ok.newG hp z
        · exact hp2 n z
      · cases e
  · cases e
theorem zip_kv : ∀ (ks : List Key) (us : List V), (ks.map kV).zip us = (ks.zip us).map fun kv => (kV kv.1, kv.2)
  | [], _ => rfl
  | _ :: _, [] => rfl
  | k :: ks, u :: us => by
    rw [List.map_cons, List.zip_cons_cons, List.zip_cons_cons, List.map_cons, zip_kv ks us]
theorem se_dic {m : Bool} {kes : List (Option Expr)} {es : List Expr} {ks : List Key} {ms : Env → Store → R (List Vl)} {pos : Pos} (h : DicOk X XR Wx kes es ks ms) (h0 : ks ≠ []) (h15 : ks.length ≤ 15) :
    SE X XR Wx (.Dict kes es pos) (fun ρ S => (noEx (ms ρ S)).bind fun xs S1 => dicV m ks xs S1) := by
  obtain ⟨trs, h1, h2⟩ := h.pps (pos := pos)
  obtain ⟨l1, l2, l3⟩ := h.lens
  have h0' : kes ≠ [] := fun z => h0 (by
    rw [z] at l2
    exact List.eq_nil_of_length_eq_zero l2.symm)
  refine (pe_disp h1 l3 l1 h0' (by omega)).imp fun σ H Q hh p hp => ?_
  obtain ⟨ρ, S, μ, at_, hh⟩ := hh
  have ok1 : SOk X.K S (μ.rsv p) (upd H p (.dK [])) := at_.ok.rsv hp
  have env1 : EnvOk X.K S (μ.rsv p) (upd H p (.dK [])) ρ σ := ⟨at_.env.1, fun i v q =>
    let ⟨u, q1, q2⟩ := at_.env.2 i v q
    ⟨u, q1, RepV.rsv q2 hp⟩⟩
  refine h2 σ _ ρ S (μ.rsv p) _ ⟨ok1, env1⟩ ?_
  dsimp only at hh
  cases e : ms ρ S with
  | fail => rw [e] at hh; exact hh
  | ex x S' =>
    rw [e] at hh
    exact hh.elim
  | ok xs S2 =>
    rw [e] at hh
    intro μ2 H2 ex ok2 us rs
    obtain ⟨v, S', e', q⟩ := post_ok (fun _ _ => dicV_noex) hh
    obtain ⟨z1, z2, z3⟩ := dic_end at_.ok hp ok2 rs ex e' q
    refine ⟨(ex.res p (.inl rfl)).trans upd_same, ks.zip us, ?_, ?_, ?_⟩
    · exact zip_kv ks us
    · simp; omega
    · rw [mergeK_new _ [] (by rw [List.nil_append, zip_keys z1]; exact z2), List.nil_append]
      exact z3
end
end Tz

end
section
/-! Tz.Rule3: subscripts, slices, calls of built-in things. -/
namespace Tz
open PySem PySem.Spec PyProof.Rows L2 StX
/-! ### t[::-1] of a tuple -/
section
variable {prog : Program} {w : World} {A : Around} {E : Value → Shared → Prop} {s : Shared}
theorem back_places (n : Nat) : Builtin.Slice.slicePlaces ((n : Int) - 1) (-1) (-1) = n := by
  unfold Builtin.Slice.slicePlaces
  rw [if_neg (show ¬ ((-1 : Int) > 0) by omega)]
  split
  · rw [show (-(-1) : Int) = 1 by omega, Int.ediv_one]
    omega
  · omega
theorem back_pick (xs : Array Value) : ((List.range xs.size).filterMap fun (m : Nat) => xs[(((xs.size : Nat) : Int) - 1 + (m : Int) * (-1)).toNat]?).toArray = xs.toList.reverse.toArray := by
  congr 1
  apply List.ext_getElem?
  intro i
  by_cases hi : i < xs.size
  · have e1 : ∀ (n : Nat), n ≤ xs.size → ((List.range n).filterMap fun (m : Nat) => xs[(((xs.size : Nat) : Int) - 1 + (m : Int) * (-1)).toNat]?) = (List.range n).map fun m => xs[xs.size - 1 - m]?.getD .none := by
      intro n
      induction n with
      | zero => intro _; rfl
      | succ k ih =>
        intro hk
        rw [List.range_succ, List.filterMap_append, List.map_append, ih (by omega)]
        congr 1
        have z : (((xs.size : Nat) : Int) - 1 + ((k : Nat) : Int) * (-1)).toNat = xs.size - 1 - k := by omega
        have z2 : xs[xs.size - 1 - k]? = some (xs[xs.size - 1 - k]'(by omega)) := Array.getElem?_eq_getElem (by omega)
        simp only [List.filterMap_cons, List.filterMap_nil, List.map_cons, List.map_nil, z, z2, Option.getD_some]
    rw [e1 _ (Nat.le_refl _), List.getElem?_map, List.getElem?_range hi, List.getElem?_reverse (by simpa using hi)]
    simp only [Option.map_some, Array.length_toList, Array.getElem?_toList]
    rw [Array.getElem?_eq_getElem (by omega : xs.size - 1 - i < xs.size)]
    rfl
  · rw [List.getElem?_eq_none, List.getElem?_eq_none]
    · simp; omega
    · have := List.length_filterMap_le (fun (m : Nat) => xs[(((xs.size : Nat) : Int) - 1 + (m : Int) * (-1)).toNat]?) (List.range xs.size)
      rw [List.length_range] at this
      omega
theorem back_applied {sl : Addr} {v3 : Value} {n : Nat} {Q : Int × Int × Nat → Shared → Prop} (hs : s.heap.IsSliceOf sl .none .none v3) (p3 : IsPart v3 (some (-1))) (h : Q ((n : Int) - 1, -1, n) s) :
    wpAny (model prog w) A (Builtin.Slice.sliceApplied (.ref sl) (pure (n : Int))) Q E s := by
  obtain ⟨ob, hob, hcls, hdat⟩ := id hs
  unfold Builtin.Slice.sliceApplied Builtin.Slice.sliceFields
  have f1 : wpAny (model prog w) A (field (.ref sl) 0) (fun a s1 => wpAny (model prog w) A (field (.ref sl) 1) (fun b s2 => wpAny (model prog w) A (field (.ref sl) 2) (fun c s3 => a = .none ∧ b = .none ∧ c = v3 ∧ s3 = s) E s2) E s1) E s :=
    wpAny_field hob hdat (x := .none) rfl (wpAny_field hob hdat (x := .none) rfl (wpAny_field hob hdat (x := v3) rfl ⟨rfl, rfl, rfl, rfl⟩))
  refine wpAny_bind (wpAny_bind (wpAny_mono f1 (fun a s1 h1 => wpAny_bind (wpAny_mono h1 (fun b s2 h2 => wpAny_bind (wpAny_mono h2 (fun c s3 h3 => wpAny_pure ?_) fun _ _ z => z)) fun _ _ z => z)) fun _ _ z => z))
  obtain ⟨rfl, rfl, rfl, rfl⟩ := h3
  refine wpAny_bind (HT.slicePart_ p3 ?_)
  show wpAny _ _ (if ((-1 : Int) == 0) = true then _ else _) _ _ _
  rw [if_neg (by decide)]
  refine wpAny_bind (slicePart_none (wpAny_bind (slicePart_none (wpAny_bind (wpAny_pure ?_)))))
  show wpAny _ _ (pure ((n : Int) - 1, (-1 : Int), Builtin.Slice.slicePlaces ((n : Int) - 1) (-1) (-1))) _ _ _
  rw [back_places]
  exact wpAny_pure h
theorem getItem_back {t sl : Addr} {items : Array Value} {v3 : Value} {Q : Value → Shared → Prop} (hq : IsTup s.heap t items) (hs : s.heap.IsSliceOf sl .none .none v3) (p3 : IsPart v3 (some (-1)))
    (h : Q (.ref s.heap.objs.size) { s with heap := s.heap.push { cls := .type "tuple", data := .seq items.toList.reverse.toArray } }) (hz : items.size ≤ sizeLine) : wpAny (model prog w) A (getItem (.ref t) (.ref sl)) Q E s := by
  have ho : sizeOk (.seq items.toList.reverse.toArray) := by
    show items.toList.reverse.toArray.size ≤ sizeLine
    rw [List.size_toArray, List.length_reverse, Array.length_toList]
    exact hz
  obtain ⟨ob, hob, hcls, hdat⟩ := id hs
  have ty : s.TypeIs (.ref sl) "slice" := ⟨ob, hob, hcls⟩
  unfold getItem
  try with_reducible refine wpAny_holding ?_
  first | refine wpAny_bind (wpAny_pure ?_) | skip
  refine wpAny_bind (wpAny_sequenceKey hq.typeIs (by decide) ?_)
  refine wpAny_bind (wpAny_callSpecial?_slot (name := Str.ofString "__getitem__") hq.typeIs PyProof.Rows.slot_tuple_getitem
    (wpAny_call_entry PyProof.Rows.slot_tuple_getitem hq.typeIs PyProof.Rows.entry_tuple_getitem ?_ (PyProof.Rows.args_tuple_getitem _ _)))
  show wpAny _ _ (Builtin.Tuple.tupleItemsOf (.ref t) >>= _) _ _ s
  refine wpAny_bind (PyProof.Rows.tupleItemsOf_ hq ?_)
  refine wpAny_bind (wpAny_typeOf ty ?_)
  rw [if_pos (by decide)]
  refine wpAny_bind (back_applied hs p3 ?_)
  show wpAny _ _ (if (((items.size : Int) - 1) == 0 && (-1 : Int) == 1 && items.size == items.size) = true then _ else _) _ _ s
  rw [if_neg (by rw [show ((-1 : Int) == 1) = false from rfl, Bool.and_false, Bool.false_and]; exact Bool.false_ne_true), back_pick]
  first
    | exact wpAny_bind (m := Builtin.Tuple.tupleExact _) (wpAny_newObj_type (wpAny_pure ⟨_, rfl, wpAny_pure h⟩) ho)
    | exact wpAny_bind (m := Builtin.Tuple.tupleExact _) (wpAny_newObj_type (wpAny_bind (wpAny_pure (wpAny_pure ⟨_, rfl, wpAny_pure h⟩))) ho)
    | exact wpAny_bind (wpAny_bind (m := Builtin.Tuple.tupleExact _) (wpAny_newObj_type (wpAny_pure (wpAny_pure ⟨_, rfl, wpAny_pure h⟩)) ho))
    | exact wpAny_bind (wpAny_bind (m := Builtin.Tuple.tupleExact _) (wpAny_newObj_type (wpAny_pure ⟨_, rfl, wpAny_pure h⟩) ho))
end
section
variable {X : Cx} {T : Prog} {XR : XRep} {Wx : WX} {k : Nat}
theorem pe_back {e : Expr} {te : TE} {kk : Nat} {p1 p2 p3 pos : Pos} (he : PE X e te) : PE X (.Subscript e (.Slice none none (some (.UnaryOp .USub (.Constant (.int 1) kk p1) p2)) p3) pos)
    (fun σ H Q => te σ H fun x H1 => ∃ a xs, x = .ref a ∧ ((SqL X.K H1 a xs ∧ ∀ p, H1 p = none → Q (.ref p) (upd H1 p (.lst xs.reverse))) ∨ (SqT X.K H1 a xs ∧ ∀ p, H1 p = none → Q (.ref p) (upd H1 p (.tup xs.reverse))))) := by
  refine ⟨fun pins s σ H Q I h => ?_⟩
  refine Subscript_ (thn (he.run pins s σ H _ I h) fun v s1 ⟨x, Hx, Ix, rx, a, xs, ex, q⟩ => ?_)
  subst ex
  cases rx
  have back : PO X (some (.UnaryOp .USub (.Constant (.int 1) kk p1) p2)) (tPart (tUn (rU fun i => .int (-i)) (tC (.int 1)))) := po_some (pe_un un_neg pe_int)
  refine wpAny_Slice (thn (po_none.run pins s1 σ Hx (fun o H' => o = none ∧ H' = Hx) Ix ⟨rfl, rfl⟩) fun w1 s2 ⟨l1, Ha, Ia, pa, ea, eA⟩ => ?_)
  subst ea eA
  refine thn (po_none.run pins s2 σ Ha (fun o H' => o = none ∧ H' = Ha) Ia ⟨rfl, rfl⟩) fun w2 s3 ⟨l2, Hb, Ib, pb, eb, eB⟩ => ?_
  subst eb eB
  refine thn (back.run pins s3 σ Hb (fun o H' => o = some (-1) ∧ H' = Hb) Ib ⟨1, rfl, -1, rfl, rfl, rfl⟩) fun w3 s4 ⟨l3, Hc, Ic, pc, ec, eC⟩ => ?_
  subst ec eC
  cases pa
  cases pb
  have Id : Inv X pins σ Hc { s4 with heap := s4.heap.push { cls := .type "slice", data := .fields #[.none, .none, w3] } } := Ic.kept (t' := s4.toks) fun b ob z => Heap.get?_push_of_some _ z
  show wpAny (model X.prog X.w) X.A (subscriptTail e (.Slice none none (some (.UnaryOp .USub (.Constant (.int 1) kk p1) p2)) p3) (.ref a) (.ref s4.heap.objs.size)) (EP X pins σ Q) X.xe { s4 with heap := s4.heap.push { cls := .type "slice", data := .fields #[.none, .none, w3] } }
  rcases q with ⟨hx, q⟩ | ⟨hx, q⟩
  · obtain ⟨its, r, hl, hz⟩ := Id.list hx
    have len := r.length
    refine tail_any (ops := [.ref a, .ref s4.heap.objs.size]) hl.isList.typeIs (PySem.slot_list_getitem.lookup) ?_ (by with_unfolding_all rfl)
    refine wpAny_getItem_list_slice hl.isList (Heap.IsSliceOf.new _ .none .none w3) .none .none pc (by decide) ?_ (by rw [List.size_toArray]; omega)
    rw [PySem.W.krv_pick]
    exact ⟨.ref _, _, Id.laid (t' := s4.toks) (o := .lst xs.reverse) (fun b ob z => Heap.get?_push_of_some _ z) (Nat.le_refl _) ⟨by rw [List.length_reverse]; exact hz, _, 0, r.reverse, Heap.get?_push_size _ rfl⟩, rfl, q _ (Id.hok.fresh (Nat.le_refl _))⟩
  · obtain ⟨its, r, hl, hz⟩ := Id.tuple hx
    have len := r.length
    refine tail_any (ops := [.ref a, .ref s4.heap.objs.size]) hl.typeIs PyProof.Rows.slot_tuple_getitem.lookup ?_ (by with_unfolding_all rfl)
    refine getItem_back hl (Heap.IsSliceOf.new _ .none .none w3) pc ?_ (by rw [List.size_toArray]; omega)
    exact ⟨.ref _, _, Id.laid (t' := s4.toks) (o := .tup xs.reverse) (fun b ob z => Heap.get?_push_of_some _ z) (Nat.le_refl _) ⟨by rw [List.length_reverse]; exact hz, _, r.reverse, IsTup.new _ _⟩, rfl, q _ (Id.hok.fresh (Nat.le_refl _))⟩
theorem rev_noex {a : Vl} {S S' : Store} {x : Ex} : revV a S ≠ .ex x S' := by
  intro h
  unfold revV at h
  (repeat' (split at h)) <;> cases h
theorem se_rev {e : Expr} {m : Env → Store → R Vl} {kk : Nat} {p1 p2 p3 pos : Pos} (he : SE X XR Wx e m) : SE X XR Wx (.Subscript e (.Slice none none (some (.UnaryOp .USub (.Constant (.int 1) kk p1) p2)) p3) pos) (fun ρ S => (m ρ S).bind fun x S1 => revV x S1) := by
  refine (pe_back he).imp fun σ H Q h => ?_
  obtain ⟨ρ, S, μ, at_, h⟩ := h
  refine ⟨ρ, S, μ, at_, h.bind.imp fun x S1 μ1 H1 e1 o1 h1 u ru => ?_⟩
  obtain ⟨v, S', e, q⟩ := post_ok (fun _ _ => rev_noex) h1
  unfold revV at e
  split at e
  · cases e
    cases ru with
    | tup t r => exact ⟨_, _, rfl, .inr ⟨t.sq, Give.tup q o1 r.reverse⟩⟩
  · cases e
    cases ru with
    | lst h l r => exact ⟨_, _, rfl, .inl ⟨.inl (.inl h), Give.lst q o1 r.reverse⟩⟩
  · cases e
  · split at e
    · rename_i xs hs
      split at e
      · rename_i ds hd
        cases e
        obtain ⟨p, h2, rfl⟩ := ru
        obtain ⟨h, hh, vs, rfl, rv, _⟩ := o1.obj _ p _ h2 hs
        exact ⟨_, _, rfl, .inl ⟨.inl (.inl hh), Give.lst q o1 (repVs_of hd rv).reverse⟩⟩
      · cases e
    · cases e
/-! ### a[i], a[i:j] -/
theorem se_sub (c : Cxt X T XR k) {a b : Expr} {ma mb : Env → Store → R Vl} {pos : Pos} (ha : SE X XR Wx a ma) (hb : SE X XR Wx b mb) (hs : PlainIx b) :
    SE X XR Wx (.Subscript a b pos) (fun ρ S => (ma ρ S).bind fun x S1 => (mb ρ S1).bind fun y S2 => ofO (subV x y S2) S2) :=
  (pe_ix (ix_V c.hu) ha hb hs).imp fun σ H Q h => tM_two (fun _ _ => rfl) (fun H S μ x y u w ok ru rw' q => by
    cases e : subV x y S with
    | none => rw [e] at q; exact q.elim
    | some v =>
      rw [e] at q
      exact ⟨x, y, S, μ, v, ok, ru, rw', e, fun u' r' => q.here ok u' r'⟩) h
theorem so_none : PO X none (tMO X.K XR Wx fun _ S => .ok none S) := ⟨fun pins s σ H Q I ⟨ρ, S, μ, at_, q⟩ => po_none.run pins s σ H Q I (q.here at_.ok)⟩
theorem so_some {e : Expr} {m : Env → Store → R Vl} (h : SE X XR Wx e m) : PO X (some e) (tMO X.K XR Wx fun ρ S => (m ρ S).bind fun x S1 => (match partV x with | some j => .ok (some j) S1 | none => .fail)) := by
  refine ⟨fun pins s σ H Q I hh => (po_some h).run pins s σ H Q I ?_⟩
  obtain ⟨ρ, S, μ, at_, hh⟩ := hh
  refine ⟨ρ, S, μ, at_, hh.bind.imp fun x S1 μ1 H1 e1 o1 h1 u ru => ?_⟩
  cases e : partV x with
  | none => rw [e] at h1; exact h1.elim
  | some j =>
    rw [e] at h1
    unfold partV at e
    split at e
    · cases e
      cases ru
      exact ⟨_, rfl, h1.here o1⟩
    · cases e
theorem se_slc {a : Expr} {lo hi : Option Expr} {ma : Env → Store → R Vl} {ml mh : Env → Store → R (Option Int)} {p2 pos : Pos} (ha : SE X XR Wx a ma) (hl : PO X lo (tMO X.K XR Wx ml)) (hh : PO X hi (tMO X.K XR Wx mh)) :
    SE X XR Wx (.Subscript a (.Slice lo hi none p2) pos) (fun ρ S => (ma ρ S).bind fun x S1 => (ml ρ S1).bind fun l S2 => (mh ρ S2).bind fun h S3 => slcV x l h S3) := by
  refine (pe_slice sl_V ha hl hh).imp fun σ H Q h => ?_
  obtain ⟨ρ, S, μ, at_, h⟩ := h
  refine ⟨ρ, S, μ, at_, h.bind.imp fun x S1 μ1 H1 e1 o1 h1 u ru => ⟨ρ, S1, μ1, at_.mono e1 o1, h1.bind.imp fun l S2 μ2 H2 e2 o2 h2 => ⟨ρ, S2, μ2, (at_.mono e1 o1).mono e2 o2, h2.bind.imp fun hh S3 μ3 H3 e3 o3 h3 => ?_⟩⟩⟩
  obtain ⟨v, S', e, q⟩ := post_ok (fun _ _ => slc_noex) h3
  exact ⟨x, S3, μ3, v, S', o3, (ru.mono e2).mono e3, e, q⟩
/-! ### built-in functions -/
def biName : Bi → Str
  | .len => "len"
  | .abs => "abs"
  | .int => "int"
  | .str => "str"
  | .repr => "repr"
  | .tuple => "tuple"
  | .list _ => "list"
  | .sum => "sum"
  | .min => "min"
  | .max => "max"
  | .all => "all"
  | .any => "any"
  | .sorted => "sorted"
  | .bool => "bool"
theorem biName_mem (b : Bi) : biName b ∈ bltNames := by
  cases b with
  | list m => cases m <;> decide +kernel
  | _ => decide +kernel
theorem biName_boot (b : Bi) : bootBuiltins (biName b) = some (biVal b) := by
  cases b with
  | list m => cases m <;> decide +kernel
  | _ => decide +kernel
theorem biName_ne (b : Bi) : biName b ≠ "__name__" ∧ (biName b == ("__debug__" : Str)) = false := by
  cases b with
  | list m => cases m <;> decide +kernel
  | _ => decide +kernel
theorem se_bi (c : Cxt X T XR k) {b : Bi} {e : Expr} {es : List Expr} {p pos : Pos} {ms : Env → Store → R (List Vl)} (ha : SA X XR Wx (e :: es) ms) (hg : Gl X (biName b)) (he : starEach (e :: es) X.env = (false, eval e X.env) :: starEach es X.env) (hpl : (backTo pos (starEach es X.env)).any (·.1) = false) :
    SE X XR Wx (.Call (.Name (biName b) p) (e :: es) [] pos) (fun ρ S => (ms ρ S).bind fun xs S1 => biV b xs S1) := by
  have hm := c.blt _ (biName_mem b)
  have h1 : PE X (.Call (.Name (biName b) p) (e :: es) [] pos) (tCB (fun xs H Q => ∃ vs S μ v S', SOk X.K S μ H ∧ RepVs X.K S μ H vs xs ∧ biV b vs S = .ok v S' ∧
    ∀ μ' H', Ext S μ H S' μ' H' → SOk X.K S' μ' H' → ∀ u, RepV X.K S' μ' H' v u → Q u H') (tMA X.K XR Wx ms)) := by
    have hv := biName_boot b
    have hr := call_bi c.sysB c.guards c.hu c.calm b
    cases hb : biVal b with
    | builtin id =>
      rw [hb] at hv hr
      exact pe_callB hr hg hm hv ha (biName_ne b).1 (biName_ne b).2 he hpl
    | type ty =>
      rw [hb] at hv hr
      exact pe_callTy hr hg hm hv ha (biName_ne b).1 (biName_ne b).2 he hpl
    | _ => cases b <;> cases hb
  refine h1.imp fun σ H Q h => ?_
  obtain ⟨ρ, S, μ, at_, h⟩ := h
  refine ⟨ρ, S, μ, at_, h.bind.imp fun xs S1 μ1 H1 e1 o1 h1 us rs => ?_⟩
  obtain ⟨v, S', e, q⟩ := post_ok (fun _ _ => bi_noex) h1
  exact ⟨xs, S1, μ1, v, S', o1, rs, e, q⟩
/-! ### isinstance -/
def tyNames : List String := ["NoneType", "bool", "int", "str", "list", "tuple", "dict"]
def isiNames : List String := ["bool", "int", "str", "list", "tuple", "dict"]
theorem kit_all : (tyNames.all fun t => isiNames.all fun c => decide (kitB t c = some (isTy t c))) = true := by decide +kernel
theorem kit_one {K : PySem.W.Frag} {t c : String} (ht : t ∈ tyNames) (hc : c ∈ isiNames) : PySem.W.kitOne K (.type t) (.type c) = some (isTy t c) := kit_ty (of_decide_eq_true (List.all_eq_true.mp (List.all_eq_true.mp kit_all t ht) c hc))
theorem tyOf_rep {K : PySem.W.Frag} {S : Store} {μ : Mu} {H : Hp} {a : Vl} {x : V} {t : String} (ok : SOk K S μ H) (r : RepV K S μ H a x) (e : tyOf a S = some t) : TyX K H x (.type t) ∧ t ∈ tyNames := by
  cases a with
  | d d =>
    cases r with
    | non => cases e; exact ⟨.base .non, by decide⟩
    | bl b => cases e; exact ⟨.base (.bl b), by decide⟩
    | int i => cases e; exact ⟨.base (.int i), by decide⟩
    | str z => cases e; exact ⟨.base (.str z), by decide⟩
    | lst h l r => cases e; exact ⟨.base (.lst h), by decide⟩
    | tup h r =>
      cases e
      refine ⟨?_, by decide⟩
      rcases h with ⟨h, _⟩ | ⟨o, its, n, hk, hc, _⟩
      · exact .base (.tup h)
      · exact .kTuple hk hc
    | dic h l r => cases e; exact ⟨.base (.dK h), by decide⟩
  | r n =>
    obtain ⟨p, h1, rfl⟩ := r
    simp only [tyOf] at e
    split at e
    · rename_i xs hs
      cases e
      obtain ⟨h, hh, vs, rfl, rv, _⟩ := ok.obj n p _ h1 hs
      exact ⟨.base (.lst hh), by decide⟩
    · rename_i xs hs
      cases e
      obtain ⟨h, hh, o, rfl⟩ := ok.obj n p _ h1 hs
      exact ⟨.base (.frz hh), by decide⟩
    · rename_i xs hs
      cases e
      obtain ⟨h, hh, ws, rfl, rv, _⟩ := ok.obj n p _ h1 hs
      exact ⟨.base (.dK hh), by decide⟩
    · cases e
def tyStr (t : String) : Str := t
theorem ty_boot {t : String} (h : t ∈ isiNames) : bootBuiltins (tyStr t) = some (.type t) := by
  have z : (isiNames.all fun t => decide (bootBuiltins (tyStr t) = some (.type t))) = true := by decide +kernel
  exact of_decide_eq_true (List.all_eq_true.mp z t h)
theorem se_isi (c : Cxt X T XR k) {a : Expr} {t : String} {p p2 pos : Pos} {m : Env → Store → R Vl} (ha : SE X XR Wx a m) (ht : t ∈ isiNames) (hg : Gl X "isinstance") (hgt : Gl X (tyStr t)) (hm : X.mg (tyStr t) = none) (hn : tyStr t ≠ "__name__") (hd : (tyStr t == ("__debug__" : Str)) = false)
    (h1 : starEach [a, .Name (tyStr t) p2] X.env = (false, eval a X.env) :: starEach [.Name (tyStr t) p2] X.env) (h2 : (backTo pos (starEach [.Name (tyStr t) p2] X.env)).any (·.1) = false := by rfl) (h3 : starEach [.Name (tyStr t) p2] X.env = (false, eval (.Name (tyStr t) p2) X.env) :: starEach [] X.env := by rfl) :
    SE X XR Wx (.Call (.Name "isinstance" p) [a, .Name (tyStr t) p2] [] pos) (fun ρ S => (m ρ S).bind fun x S1 => (match tyOf x S1 with
      | some ty => .ok (.d (.bool ([t].any (isTy ty)))) S1
      | none => .fail)) := by
  refine (pe_callB call_isi hg (c.blt _ (by decide +kernel)) PyProof.Rows.boot_isinstance (pa_cons ha (pa_cons (pe_bltn (v := .ty t) hgt hm (ty_boot ht) rfl hn hd) pa_nil h3) h1) (by decide) (by decide) h1 h2).imp fun σ H Q h => ?_
  obtain ⟨ρ, S, μ, at_, h⟩ := h
  refine ⟨ρ, S, μ, at_, h.bind.imp fun x S1 μ1 H1 e1 o1 h1 u ru => ?_⟩
  cases e : tyOf x S1 with
  | none => rw [e] at h1; exact h1.elim
  | some ty =>
    rw [e] at h1
    obtain ⟨z1, z2⟩ := tyOf_rep o1 ru e
    refine ⟨u, .ty t, .type ty, .type t, isTy ty t, rfl, .ty t, z1, kit_one z2 ht, h1.here o1 _ ?_⟩
    have : [t].any (isTy ty) = isTy ty t := by simp
    rw [this]
    exact .bl _
/-! ### + and * that make a list to be changed -/
theorem binL_noex {op : Operator} {a b : Vl} {S S' : Store} {x : Ex} : binLV op a b S ≠ .ex x S' := by
  intro h
  unfold binLV at h
  (repeat' (split at h)) <;> first | cases h | exact newL_noex h
theorem op_binL (op : Operator) : OpR X (binaryOp op) (fun x y H Q => ∃ a b S μ v S', SOk X.K S μ H ∧ RepV X.K S μ H a x ∧ RepV X.K S μ H b y ∧ binLV op a b S = .ok v S' ∧
    ∀ μ' H', Ext S μ H S' μ' H' → SOk X.K S' μ' H' → ∀ u, RepV X.K S' μ' H' v u → Q u H') := by
  intro pins s σ H x y v u Q I rx ry h
  obtain ⟨a, b, S, μ, w, S', ok, ra, rb, e, q⟩ := h
  unfold binLV at e
  split at e
  · split at e
    · rename_i a b hz
      cases ra with
      | lst ha la ra =>
        cases rb with
        | lst hb lb rb =>
          have rr := repVs_d (S := S) (μ := μ) (ra.append rb)
          exact op_cat pins s σ H _ _ v u Q I rx ry ⟨_, _, _, _, rfl, rfl, ha, hb, by rw [← ra.length, ← rb.length]; exact hz, (newL_ok ok rr (RepVs.lt ok rr) e q).2⟩
    · cases e
  · split at e
    · rename_i a k hz
      simp only [Bool.and_eq_true, decide_eq_true_eq] at hz
      cases rb
      cases ra with
      | lst ha la ra =>
        have rr := repVs_d (S := S) (μ := μ) (ra.rep k.toNat)
        exact op_rep pins s σ H _ _ v u Q I rx ry ⟨_, _, _, rfl, rfl, ha, by omega, by omega, by rw [← ra.length]; exact hz.2, (newL_ok ok rr (RepVs.lt ok rr) e q).2⟩
    · cases e
  · cases e
theorem se_binL {op : Operator} {a b : Expr} {ma mb : Env → Store → R Vl} {pos : Pos} (ha : SE X XR Wx a ma) (hb : SE X XR Wx b mb) : SE X XR Wx (.BinOp a op b pos) (fun ρ S => (ma ρ S).bind fun x S1 => (mb ρ S1).bind fun y S2 => binLV op x y S2) :=
  (pe_op (op_binL op) ha hb).imp fun σ H Q h => tM_two (fun _ _ => rfl) (fun H S μ x y u w ok ru rw' q => by
    obtain ⟨v, S', e, q⟩ := post_ok (fun _ _ => binL_noex) q
    exact ⟨x, y, S, μ, v, S', ok, ru, rw', e, q⟩) h
end
end Tz

end
section
/-! Tz.Rule4: calls of defs, methods, targets, what is walked. -/
namespace Tz
open PySem PySem.Spec PyProof.Rows L2 StX
section
variable {X : Cx} {T : Prog} {XR : XRep} {Wx : WX} {k : Nat}
/-! ### a def of the text is called -/
theorem run_fnG {f : Addr} {fd : FuncData} {ps : List Str} {sp : Sp} {pins : List (Addr × Obj)} {σ : L2.St} {H : Hp} {s : Shared} {Q : VK} {us : List Value} {vs : List V} (F : FnG X.prog X.w X.K X.mg X.base k f fd ps sp) (hr : Room k X.A) (hg : X.A.guards = some []) (hb : Binds X.K fd ps []) (tk : Takes X Wx)
    (I : Inv X pins σ H s) (r : Vals vs us) (h : sp vs H Q fun c d H' => Wx c d σ H') : wpAny (model X.prog X.w) X.A (call (.ref f) us) (EP X pins σ Q) X.xe s := by
  have hl : us.length = ps.length := by rw [← r.length]; exact F.len _ _ _ _ h
  have bt : BindsTo s fd ⟨us, []⟩ (ps.zip us) := by
    have z := hb s us I.kIn (by rw [List.append_nil]; exact hl)
    rw [List.append_nil] at z
    exact z
  refine wpAny_call (codeAny_mono (F.run X.A X.stack s H ⟨us, []⟩ us vs Q _ hr hg I.env0 bt r h) fun res s' hq => ?_)
  cases res with
  | error e => exact tk e s' (XE.of_call I (fun _ _ _ z => z) hq)
  | ok fl =>
    cases fl with
    | ret u => exact I.after hq
    | next => exact hq.elim
    | brk => exact hq.elim
    | cont => exact hq.elim
theorem run_len {T : Prog} {f : Str} {fn : Fn} (hf : T.fns.lookup f = some fn) {ds : List Vl} {S : Store} : ∀ {k : Nat}, run T k f ds S ≠ .fail → ds.length = fn.pars
  | 0, h => absurd rfl h
  | k + 1, h => by
    unfold run at h
    rw [hf] at h
    dsimp only [call1] at h
    split at h
    · assumption
    · exact absurd rfl h
theorem call_go (c : Cxt X T XR k) (tk : Takes X Wx) {f : Str} {fn : Fn} (hf : T.fns.lookup f = some fn) {a : Addr} {fd : FuncData} (hb : Binds X.K fd (fn.names.take fn.pars) []) (F : FnG X.prog X.w X.K X.mg X.base k a fd (fn.names.take fn.pars) (spM X.K XR T k f fn.pars))
    {pins : List (Addr × Obj)} {σ : L2.St} {H1 : Hp} {s1 : Shared} {Q : VK} {us : List Value} {vs : List V} {xs : List Vl} {S1 : Store} {μ1 : Mu} (I1 : Inv X pins σ H1 s1) (r1 : Vals vs us) (o1 : SOk X.K S1 μ1 H1) (rx : RepVs X.K S1 μ1 H1 xs vs) (h1 : PostV X.K XR Wx σ S1 μ1 H1 Q (run T k f xs S1)) :
      wpAny (model X.prog X.w) X.A (call (.ref a) us) (EP X pins σ Q) X.xe s1 := by
  refine run_fnG F c.room c.guards hb tk I1 r1 ⟨?_, xs, S1, μ1, o1, rx, ?_⟩
  · rw [← rx.length]
    refine run_len (S := S1) (k := k) hf fun z => ?_
    rw [z] at h1
    exact h1.elim
  · cases e : run T k f xs S1 with
    | fail => rw [e] at h1; exact h1.elim
    | ok v S' => rw [e] at h1; exact h1
    | ex x S' => rw [e] at h1; exact h1
theorem se_call0 (c : Cxt X T XR k) (tk : Takes X Wx) {f : Str} {fn : Fn} (hf : T.fns.lookup f = some fn) {p pos : Pos} (hg : Gl X f) (hd : (f == ("__debug__" : Str)) = false) :
    SE X XR Wx (.Call (.Name f p) [] [] pos) (fun ρ S => run T k f [] S) := by
  obtain ⟨a, fd, hm, hk, hb, F⟩ := c.fns f fn hf
  refine ⟨fun pins s σ H Q I h => ?_⟩
  refine wpAny_Call_Name_kw (ld_glob I hg hm ?_ hd)
  obtain ⟨ρ, S, μ, at_, h⟩ := h
  exact PySem.W.callWith_K0 I.kIn hk (call_go c tk hf hb F I .nil at_.ok .nil h)
theorem se_call (c : Cxt X T XR k) (tk : Takes X Wx) {f : Str} {fn : Fn} (hf : T.fns.lookup f = some fn) {e : Expr} {r : List Expr} {p pos : Pos} {ms : Env → Store → R (List Vl)} (ha : SA X XR Wx (e :: r) ms) (hg : Gl X f) (hd : (f == ("__debug__" : Str)) = false)
    (he : starEach (e :: r) X.env = (false, eval e X.env) :: starEach r X.env) (he2 : (backTo pos (starEach r X.env)).any (·.1) = false) :
    SE X XR Wx (.Call (.Name f p) (e :: r) [] pos) (fun ρ S => (ms ρ S).bind fun xs S1 => run T k f xs S1) := by
  obtain ⟨a, fd, hm, hk, hb, F⟩ := c.fns f fn hf
  refine ⟨fun pins s σ H Q I h => ?_⟩
  refine wpAny_Call_Name_kw (ld_glob I hg hm ?_ hd)
  obtain ⟨ρ, S, μ, at_, h⟩ := h
  refine PySem.W.callWith_K (h₀ := X.base) I.ok.mod.kin hk (thn (ha.run pos pins s σ H (fun us H' => ∃ xs S1 μ1, SOk X.K S1 μ1 H' ∧ RepVs X.K S1 μ1 H' xs us ∧ PostV X.K XR Wx σ S1 μ1 H' Q (run T k f xs S1)) I ⟨ρ, S, μ, at_, h.bind.imp fun xs S1 μ1 H1 e1 o1 h1 us rs => ⟨xs, S1, μ1, o1, rs, h1⟩⟩) fun us s1 ⟨vs, H1, I1, rv, xs, S1, μ1, o1, rs, q⟩ => ⟨I1.kIn, ?_⟩) he he2
  exact call_go c tk hf hb F I1 rv o1 rs q

/-! ### methods -/
def mtNm : Mt → Str
  | .append => "append"
  | .pop => "pop"
  | .extend => "extend"
  | .get => "get"
  | .split => "split"
  | .join => "join"
  | .count => "count"
  | .index => "index"
  | .setdefault => "setdefault"
  | .upper => "upper"
def mtId : Mt → String
  | .append => "list.append"
  | .pop => "list.pop"
  | .extend => "list.extend"
  | .get => "dict.get"
  | .split => "str.split"
  | .join => "str.join"
  | .count => "list.count"
  | .index => "list.index"
  | .setdefault => "dict.setdefault"
  | .upper => "str.upper"
theorem mt_ty (m : Mt) : typeOf (.builtin (mtId m)) = pure (.type "method_descriptor") := by cases m <;> rfl
theorem mt_attrs (m : Mt) : PlainAttrs (mtTy m) := by
  cases m
  · exact PySem.F.plainAttrs_list
  · exact PySem.F.plainAttrs_list
  · exact PySem.F.plainAttrs_list
  · exact PySem.F.plainAttrs_dict
  · exact PySem.F.plainAttrs_str
  · exact PySem.F.plainAttrs_str
  · exact PySem.F.plainAttrs_list
  · exact PySem.F.plainAttrs_list
  · exact PySem.F.plainAttrs_dict
  · exact PySem.F.plainAttrs_str
theorem mt_slot (m : Mt) : Slot (mtTy m) (mtNm m) (mtId m) := by
  cases m
  · exact PySem.F.slot_list_append
  · exact PySem.F.slot_list_pop
  · exact PySem.F.slot_list_extend
  · exact PySem.F.slot_dict_get
  · exact PySem.F.slot_str_split
  · exact PySem.F.slot_str_join
  · exact PySem.F.slot_list_count
  · exact PySem.F.slot_list_index
  · exact PySem.F.slot_dict_setdefault
  · exact PySem.F.slot_str_upper
theorem ty_tyV {K : PySem.W.Frag} {S : Store} {μ : Mu} {H : Hp} {a : Vl} {x : V} {m : Mt} (ok : SOk K S μ H) (r : RepV K S μ H a x) (e : tyOf a S = some (mtTy m)) : tyV K (mtTy m) x H := by
  have ht : mtTy m = "list" ∨ mtTy m = "dict" ∨ mtTy m = "str" := by cases m <;> simp [mtTy]
  generalize mtTy m = t at e ht
  have lst : t = "list" → ∀ xs, seqL a S = some xs → tyV K t x H := fun e xs hx => by
    obtain ⟨p, vs, rfl, hq, _⟩ := seqL_rep ok r hx
    exact .inl ⟨e, vs, hq⟩
  cases a with
  | d d =>
    cases d with
    | none => rcases ht with rfl | rfl | rfl <;> exact absurd (Option.some.inj e) (by decide)
    | bool b => rcases ht with rfl | rfl | rfl <;> exact absurd (Option.some.inj e) (by decide)
    | int b => rcases ht with rfl | rfl | rfl <;> exact absurd (Option.some.inj e) (by decide)
    | str b =>
      cases (Option.some.inj e)
      cases r
      rfl
    | list b =>
      cases (Option.some.inj e)
      exact lst rfl _ rfl
    | tuple b => rcases ht with rfl | rfl | rfl <;> exact absurd (Option.some.inj e) (by decide)
    | dict b =>
      cases (Option.some.inj e)
      cases r with
      | dic h _ _ => exact .inr (.inr (.inl ⟨rfl, .inl ⟨_, h⟩⟩))
  | r n =>
    unfold tyOf at e
    dsimp only at e
    split at e
    · rename_i xs h
      cases (Option.some.inj e)
      exact lst rfl xs (by unfold seqL; dsimp only; rw [h])
    · rename_i xs h
      cases (Option.some.inj e)
      exact lst rfl _ (by unfold seqL; dsimp only; rw [h])
    · rename_i kvs hs
      cases (Option.some.inj e)
      obtain ⟨p, h1, rfl⟩ := r
      obtain ⟨h, hh, ws, rfl, _⟩ := ok.obj n p _ h1 hs
      exact .inr (.inr (.inl ⟨rfl, .inl ⟨_, hh⟩⟩))
    · cases e
theorem met_noex {m : Mt} {a : Vl} {xs : List Vl} {S S' : Store} {x : Ex} : metV m a xs S ≠ .ex x S' := by
  intro h
  unfold metV at h
  (repeat' (split at h)) <;> cases h
theorem refsBelow_lt {n : Nat} : ∀ {xs : List Vl}, refsBelow n xs = true → RefsLt n xs
  | [], _, m, h => by cases h
  | .d x :: r, h, m, q => by
    unfold refsBelow at h
    rcases List.mem_cons.mp q with z | z
    · cases z
    · exact refsBelow_lt h m z
  | .r j :: r, h, m, q => by
    unfold refsBelow at h
    simp only [Bool.and_eq_true, decide_eq_true_eq] at h
    rcases List.mem_cons.mp q with z | z
    · cases z
      exact h.1
    · exact refsBelow_lt h.2 m z
theorem RefsLt.app {n : Nat} {xs ys : List Vl} (h : RefsLt n xs) (q : RefsLt n ys) : RefsLt n (xs ++ ys) := fun m z => (List.mem_append.mp z).elim (h m) (q m)
mutual
theorem RepD.dp {K : PySem.W.Frag} {L : Addr → Prop} {H : Hp} : ∀ {d : PyData} {v : V}, noDic d = true → RepD K L H d v → Dp K H v d
  | _, _, _, .non => .non
  | _, _, _, .bl b => .bl b
  | _, _, _, .int i => .int i
  | _, _, _, .str x => .str x
  | _, _, h, .lst e l r => .lst (.inl (.inl e)) (RepDs.dp h r)
  | _, _, h, .tup t r => .tup t.sq (RepDs.dp h r)
  | _, _, h, .dic e l r => by cases h
theorem RepDs.dp {K : PySem.W.Frag} {L : Addr → Prop} {H : Hp} : ∀ {ds : List PyData} {vs : List V}, noDics ds = true → RepDs K L H ds vs → DpAll K H vs ds
  | _, _, _, .nil => .nil
  | _, _, h, .cons a r => by
    unfold noDics at h
    rw [Bool.and_eq_true] at h
    exact .cons (RepD.dp h.1 a) (RepDs.dp h.2 r)
end
theorem idx_at {j : PyData} : ∀ {xs : List PyData} {i : Nat}, idxD j xs = some i → ∃ z, xs[i]? = some z ∧ PyData.eqv z j = true ∧ ∀ (m : Nat) (z' : PyData), m < i → xs[m]? = some z' → PyData.eqv z' j = false
  | [], _, h => by cases h
  | x :: r, i, h => by
    unfold idxD at h
    split at h
    · rename_i e
      cases h
      exact ⟨x, rfl, e, fun m z' hm => absurd hm (Nat.not_lt_zero _)⟩
    · rename_i e
      obtain ⟨k, h1, rfl⟩ := Option.map_eq_some_iff.mp h
      obtain ⟨z, q1, q2, q3⟩ := idx_at h1
      refine ⟨z, by simpa using q1, q2, fun m z' hm hz => ?_⟩
      cases m with
      | zero =>
        simp at hz
        subst hz
        simpa using e
      | succ m => exact q3 m z' (by omega) (by simpa using hz)
theorem met_V (hu : X.A.units + 65 < cLine) (m : Mt) : MtR X (mtId m) (fun x vs H Q => ∃ a as S μ v S', SOk X.K S μ H ∧ RepV X.K S μ H a x ∧ RepVs X.K S μ H as vs ∧ metV m a as S = .ok v S' ∧
    ∀ μ' H', Ext S μ H S' μ' H' → SOk X.K S' μ' H' → ∀ u, RepV X.K S' μ' H' v u → Q u H') := by
  intro pins s σ H x vs v us Q I rx rv ⟨a, as, S, μ, w, S', ok, ra, ras, e, q⟩
  unfold metV at e
  split at e
  · rename_i n y
    split at e
    · rename_i xs hs
      split at e
      · rename_i hz
        cases e
        simp only [Bool.and_eq_true, decide_eq_true_eq] at hz
        obtain ⟨p, h1, rfl⟩ := ra
        obtain ⟨h, hh, ws, rfl, rw', rl⟩ := ok.obj n p _ h1 hs
        obtain ⟨z, rfl, rz⟩ := rep1 rfl ras
        have ext := Ext.put (o := .lst (ws ++ [z])) (ob' := .lst (xs ++ [y])) ok h1 hs
        refine mt_append pins s σ H _ _ v us Q I rx rv ⟨p, ws, z, rfl, rfl, hh, by rw [← rw'.length]; exact hz.1, q μ _ ext (ok.put h1 hs ⟨_, rfl, (rw'.append (.cons rz .nil)).mono ext, rl.app (refsBelow_lt hz.2)⟩) _ .non⟩
      · cases e
    · cases e
  · rename_i n
    split at e
    · rename_i xs hs
      split at e
      · rename_i y hy
        cases e
        obtain ⟨p, h1, rfl⟩ := ra
        obtain ⟨h, hh, ws, rfl, rw', rl⟩ := ok.obj n p _ h1 hs
        have hv : vs = [] := by cases ras; rfl
        subst hv
        obtain ⟨z, hz, rz⟩ := rw'.get hy
        have ext := Ext.put (o := .lst ws.dropLast) (ob' := .lst xs.dropLast) ok h1 hs
        refine mt_pop pins s σ H _ _ v us Q I rx rv ⟨p, ws, z, rfl, rfl, hh, by rw [← rw'.length]; exact hz, q μ _ ext (ok.put h1 hs ⟨_, rfl, rw'.dropLast.mono ext, fun j hj => rl j ((List.dropLast_subset _) hj)⟩) _ (rz.mono ext)⟩
      · cases e
    · cases e
  · rename_i n b
    split at e
    · rename_i xs hs
      split at e
      · rename_i hz
        cases e
        obtain ⟨p, h1, rfl⟩ := ra
        obtain ⟨h, hh, ws, rfl, rw', rl⟩ := ok.obj n p _ h1 hs
        obtain ⟨z, rfl, rz⟩ := rep1 rfl ras
        cases rz with
        | @lst ab vb _ hb lb rb =>
          have rb' := repVs_d (S := S) (μ := μ) rb
          have ext := Ext.put (o := .lst (ws ++ vb)) (ob' := .lst (xs ++ b.map .d)) ok h1 hs
          refine mt_extend pins s σ H _ _ v us Q I rx rv ⟨p, _, ws, _, rfl, rfl, hh, hb, by rw [← rw'.length, ← rb.length]; exact hz, q μ _ ext (ok.put h1 hs ⟨_, rfl, (rw'.append rb').mono ext, rl.app fun m hm => ?_⟩) _ .non⟩
          obtain ⟨d, _, hd⟩ := List.mem_map.mp hm
          cases hd
      · cases e
    · cases e
  · rename_i j r
    split at e
    · rename_i k z hk hz
      obtain ⟨y, ys, rfl, ry, rys⟩ : ∃ y ys, vs = y :: ys ∧ RepV X.K S μ H (.d j) y ∧ RepVs X.K S μ H r ys := by
        cases ras with
        | cons p1 p2 => exact ⟨_, _, rfl, p1, p2⟩
      have ey : y = kV k := keyOf_rep hk ry
      have go : ∀ (o : Option Vl), dlook a S k = some o → o.getD (.d z) = w → S = S' → wpAny (model X.prog X.w) X.A (call (.builtin "dict.get") (v :: us)) (EP X pins σ Q) X.xe s := fun o ho ew es => by
        subst es
        obtain ⟨p, ov, rfl, dg, hs, hv⟩ := dlook_rep ok ra ho
        cases rx
        have fin : ∀ dv, RepD X.K (Live S μ) H z dv → ∀ w' s', Inv X pins σ H s' → RelV (ov.getD dv) w' → EP X pins σ Q w' s' := fun dv rdv w' s' I' rw' => by
          refine ⟨ov.getD dv, H, I', rw', q μ H Ext.refl ok _ ?_⟩
          subst ew
          cases o with
          | none =>
            cases ov with
            | none => exact rdv
            | some _ => cases hs
          | some x =>
            obtain ⟨w2, rfl, rw2⟩ := hv x rfl
            exact rw2
        cases rv with
        | cons r1 r2 =>
          subst ey
          cases r with
          | nil =>
            cases hz
            cases rys
            cases r2
            exact d_get1 (by omega) I dg r1 (fin _ .non)
          | cons x r' =>
            cases x with
            | r n => cases hz
            | d zz =>
              cases r' with
              | cons _ _ => cases hz
              | nil =>
                cases hz
                cases rys with
                | cons p1 p2 =>
                  cases p2
                  cases r2 with
                  | cons q1 q2 =>
                    cases q2
                    exact d_get2 (by omega) I dg r1 q1 (fin _ p1)
      split at e
      · rename_i kvs
        cases e
        refine go _ rfl ?_ rfl
        cases lookD k kvs <;> rfl
      · cases e
      · split at e
        · rename_i kvs hs
          cases e
          exact go _ (by simp only [dlook, hs]) rfl rfl
        · cases e
    · cases e
  · rename_i j
    split at e
    · rename_i ds hd
      split at e
      · rename_i hz
        simp only [Bool.and_eq_true] at hz
        split at e
        · rename_i i hi
          cases e
          obtain ⟨y, rfl, ry⟩ := rep1 rfl ras
          obtain ⟨z, z1, z2, z3⟩ := idx_at hi
          have dl : ∃ p, x = V.ref p ∧ Dp X.K H (V.ref p) (.list ds) := by
            cases a with
            | d d =>
              cases hd
              cases ra with
              | lst e1 l1 r1 => exact ⟨_, rfl, .lst (.inl (.inl e1)) (RepDs.dp hz.2.2 r1)⟩
            | r n =>
              obtain ⟨p, h1, rfl⟩ := ra
              simp only [datOf] at hd
              split at hd
              · rename_i xs hs
                obtain ⟨ds', e1, e2⟩ := Option.map_eq_some_iff.mp hd
                cases e2
                obtain ⟨h, hh, vs, rfl, rv2, _⟩ := ok.obj n p _ h1 hs
                exact ⟨p, rfl, .lst (.inl (.inl hh)) (RepDs.dp hz.2.2 (repVs_of e1 rv2))⟩
              · cases hd
          obtain ⟨p, rfl, dp⟩ := dl
          exact mt_indexD hu pins s σ H _ _ v us Q I rx rv ⟨p, y, j, ds, i, z, rfl, rfl, dp, RepD.dp hz.2.1 ry, hz.1.2, hz.1.1, z1, z2, z3, q μ H Ext.refl ok _ (.int _)⟩
        · cases e
      · cases e
    · cases e
  · split at e
    · rename_i hz
      cases e
      cases ra
      cases ras
      exact mt_upper pins s σ H _ _ v us Q I rx rv ⟨_, rfl, rfl, hz, q μ H Ext.refl ok _ (.str _)⟩
    · cases e
  · cases e
theorem se_met0 (hu : X.A.units + 65 < cLine) {m : Mt} {o : Expr} {mo : Env → Store → R Vl} {apos cpos : Pos} (ho : SE X XR Wx o mo) (hbase : attributeBase o (mtNm m) X.env (eval o X.env) = eval o X.env) (hline : (apos.endLine == cpos.line) = true) :
    SE X XR Wx (.Call (.Attribute o (mtNm m) apos) [] [] cpos) (fun ρ S => (mo ρ S).bind fun x S1 => if tyOf x S1 = some (mtTy m) then metV m x [] S1 else .fail) := by
  refine (pe_bm0 (mt_attrs m) (mt_slot m) (mt_ty m) (met_V hu m) ho hbase hline).imp fun σ H Q h => ?_
  obtain ⟨ρ, S, μ, at_, h⟩ := h
  refine ⟨ρ, S, μ, at_, h.bind.imp fun x S1 μ1 H1 e1 o1 h1 u ru => ?_⟩
  split at h1
  · rename_i ht
    obtain ⟨v, S', e, q⟩ := post_ok (fun _ _ => met_noex) h1
    exact ⟨ty_tyV o1 ru ht, x, [], S1, μ1, v, S', o1, ru, .nil, e, q⟩
  · exact h1.elim
theorem se_met (hu : X.A.units + 65 < cLine) {m : Mt} {o e : Expr} {es : List Expr} {mo : Env → Store → R Vl} {ms : Env → Store → R (List Vl)} {apos cpos : Pos} (ho : SE X XR Wx o mo) (ha : SA X XR Wx (e :: es) ms) (hbase : attributeBase o (mtNm m) X.env (eval o X.env) = eval o X.env)
    (hfew : ((backTo cpos (starEach (e :: es) X.env)).all (fun x => !x.1) && (backToKw cpos (keywordEach [] X.env)).all (fun x => x.1.isSome)
      && decide ((e :: es).length + ([] : List Keyword).length + (if ([] : List Keyword).isEmpty then 0 else 1) < 30)) = true)
    (hline : (apos.endLine == cpos.line) = true) (hs : starEach (e :: es) X.env = (false, eval e X.env) :: starEach es X.env) (hplain : (backTo cpos (starEach es X.env)).any (·.1) = false) :
    SE X XR Wx (.Call (.Attribute o (mtNm m) apos) (e :: es) [] cpos) (fun ρ S => (mo ρ S).bind fun x S1 => if tyOf x S1 = some (mtTy m) then (ms ρ S1).bind fun xs S2 => metV m x xs S2 else .fail) := by
  refine (pe_bm (mt_attrs m) (mt_slot m) (mt_ty m) (met_V hu m) ho ha hbase hfew hline hs hplain).imp fun σ H Q h => ?_
  obtain ⟨ρ, S, μ, at_, h⟩ := h
  refine ⟨ρ, S, μ, at_, h.bind.imp fun x S1 μ1 H1 e1 o1 h1 u ru => ?_⟩
  split at h1
  · rename_i ht
    refine ⟨ty_tyV o1 ru ht, ρ, S1, μ1, at_.mono e1 o1, h1.bind.imp fun xs S2 μ2 H2 e2 o2 h2 us rs => ?_⟩
    obtain ⟨v, S', e, q⟩ := post_ok (fun _ _ => met_noex) h2
    exact ⟨x, xs, S2, μ2, v, S', o2, ru.mono e2, rs, e, q⟩
  · exact h1.elim
end
end Tz

end
section
/-! Tz.Rule5: targets, what is walked, comprehensions. -/
namespace Tz
open PySem PySem.Spec PyProof.Rows L2 StX
/-! ### targets -/
mutual
def slotsT : Tg → List Nat
  | .nm i => [i]
  | .tp ts => slotsTs ts
def slotsTs : Tgs → List Nat
  | .nil => []
  | .cons t ts => slotsT t ++ slotsTs ts
end
/-- the same but for these slots -/
structure Same (vs : List Nat) (σ σ' : L2.St) : Prop where
  len : σ'.length = σ.length
  out : ∀ i, i ∉ vs → σ'[i]? = σ[i]?
theorem Same.refl {vs : List Nat} {σ : L2.St} : Same vs σ σ := ⟨rfl, fun _ _ => rfl⟩
theorem Same.wipe {vs : List Nat} {σ σ' : L2.St} (h : Same vs σ σ') : L2.wipe σ' vs = L2.wipe σ vs := by
  refine List.ext_getElem? fun i => ?_
  by_cases hi : i ∈ vs
  · have key : ∀ τ : L2.St, (L2.wipe τ vs)[i]? = if i < τ.length then some none else none := fun τ => by
      clear h
      induction vs with
      | nil => cases hi
      | cons v r ih =>
        unfold L2.wipe
        by_cases hv : v = i
        · subst hv
          by_cases hl : v < τ.length
          · rw [List.getElem?_set_self (by rw [wipe_length]; exact hl), if_pos hl]
          · rw [if_neg hl, List.getElem?_eq_none (by rw [List.length_set, wipe_length]; omega)]
        · rw [List.getElem?_set_ne hv]
          exact ih ((List.mem_cons.mp hi).resolve_left (Ne.symm hv))
    rw [key, key, h.len]
  · rw [wipe_out hi, wipe_out hi, h.out i hi]
theorem wipe_wipe {vs : List Nat} {σ : L2.St} : L2.wipe (L2.wipe σ vs) vs = L2.wipe σ vs := Same.wipe ⟨wipe_length _ _, fun i hi => wipe_out hi⟩
section
variable (K : PySem.W.Frag)
def gM (t : Tg) : TG := fun v σ H Q => ∃ x ρ S μ ρ', At K σ H ρ S μ ∧ RepV K S μ H x v ∧ setTg t x ρ = some ρ' ∧ ∀ σ', At K σ' H ρ' S μ → Same (slotsT t) σ σ' → Q σ' H
def gMs (ts : Tgs) : TGs := fun vs σ H Q => ∃ xs ρ S μ ρ', At K σ H ρ S μ ∧ RepVs K S μ H xs vs ∧ setTgs ts xs ρ = some ρ' ∧ ∀ σ', At K σ' H ρ' S μ → Same (slotsTs ts) σ σ' → Q σ' H
end
theorem _root_.L2.PG.imp {X : Cx} {e : Expr} {t t' : TG} (h : PG X e t) (i : ∀ v σ H Q, t' v σ H Q → t v σ H Q) : PG X e t' := ⟨fun pins s σ H v u Q I r hw => h.run pins s σ H v u Q I r (i v σ H Q hw)⟩
theorem _root_.L2.PGs.imp {X : Cx} {e : List Expr} {t t' : TGs} (h : PGs X e t) (i : ∀ v σ H Q, t' v σ H Q → t v σ H Q) : PGs X e t' := ⟨fun pins s σ H v u Q I r hw => h.run pins s σ H v u Q I r (i v σ H Q hw)⟩
theorem _root_.L2.PI.imp {X : Cx} {tg e : Expr} {t t' : TI} (h : PI X tg e t) (i : ∀ σ H R, t' σ H R → t σ H R) : PI X tg e t' := ⟨fun pins s σ H R I hw => h.run pins s σ H R I (i σ H R hw)⟩
section
variable {X : Cx} {T : Prog} {XR : XRep} {Wx : WX} {k : Nat}
theorem tg_nm {i : Nat} {x : Str} {pos : Pos} (hN : X.N.Nodup) (hi : X.N[i]? = some x) (hx : Loc X.env.scope x) (hf : X.fn x = true ∨ X.env.scope.names.lookup x = some .local) : PG X (.Name x pos) (gM X.K (.nm i)) := by
  refine (pg_name hN hi hx hf).imp fun v σ H Q h => ?_
  obtain ⟨x, ρ, S, μ, ρ', at_, r, e, q⟩ := h
  unfold setTg at e
  cases e
  refine q _ ⟨at_.ok, at_.env.set i r⟩ ⟨by simp, fun j hj => ?_⟩
  rw [List.getElem?_set_ne]
  exact fun z => hj (by rw [z]; exact List.mem_singleton_self _)
theorem tgs_nil : PGs X [] (gMs X.K .nil) := by
  refine pgs_nil.imp fun vs σ H Q h => ?_
  obtain ⟨xs, ρ, S, μ, ρ', at_, r, e, q⟩ := h
  cases r with
  | nil =>
    unfold setTgs at e
    cases e
    exact ⟨rfl, q σ at_ Same.refl⟩
  | cons a b =>
    unfold setTgs at e
    cases e
theorem tgs_cons {e : Expr} {es : List Expr} {t : Tg} {ts : Tgs} (h1 : PG X e (gM X.K t)) (h2 : PGs X es (gMs X.K ts)) (hs : (assignEach (e :: es) X.env).map (·.2) = assign e X.env :: (assignEach es X.env).map (·.2)) : PGs X (e :: es) (gMs X.K (.cons t ts)) := by
  refine (pgs_cons h1 h2 hs).imp fun vs σ H Q h => ?_
  obtain ⟨xs, ρ, S, μ, ρ', at_, r, e, q⟩ := h
  unfold setTgs at e
  cases r with
  | nil => cases e
  | @cons x v xr vr a b =>
    dsimp only at e
    split at e
    · rename_i ρ1 e1
      refine ⟨_, _, rfl, _, ρ, S, μ, ρ1, at_, a, e1, fun σ1 at1 s1 => ⟨xr, ρ1, S, μ, ρ', at1, b, e, fun σ2 at2 s2 => q σ2 at2 ?_⟩⟩
      refine ⟨s2.len.trans s1.len, fun i hi => ?_⟩
      unfold slotsTs at hi
      rw [s2.out i fun z => hi (List.mem_append_right _ z), s1.out i fun z => hi (List.mem_append_left _ z)]
    · cases e
def tgsLen : Tgs → Nat
  | .nil => 0
  | .cons _ ts => tgsLen ts + 1
theorem setTgs_len : ∀ {ts : Tgs} {xs : List Vl} {ρ ρ' : Env}, setTgs ts xs ρ = some ρ' → xs.length = tgsLen ts
  | .nil, [], _, _, _ => rfl
  | .nil, _ :: _, _, _, e => by unfold setTgs at e; cases e
  | .cons t ts, [], _, _, e => by unfold setTgs at e; cases e
  | .cons t ts, x :: xs, ρ, ρ', e => by
    unfold setTgs at e
    dsimp only at e
    split at e
    · have := setTgs_len e
      simp [tgsLen, this]
    · cases e
/-- a tuple's or a list's items -/
theorem pg_seq {X : Cx} {es : List Expr} {k : Nat} {n : Nat} {t : TGs} {pos : Pos} (hc : X.calm = true) (h : PGs X es t) (hn : (assignEach es X.env).length = n) (hst : (assignEach es X.env).findIdx? (·.1) = none) :
    PG X (.Tuple es k pos) (fun v σ H Q => gTup X.K n t v σ H Q ∨ gUnl X.K n t v σ H Q) := ⟨fun pins s σ H v u Q I r hw => by
  rcases hw with hw | hw
  · exact (pg_tup hc h hn hst).run pins s σ H v u Q I r hw
  · exact (pg_unl hc h hn hst).run pins s σ H v u Q I r hw⟩
theorem tg_tp {es : List Expr} {kk : Nat} {ts : Tgs} {pos : Pos} (hc : X.calm = true) (h : PGs X es (gMs X.K ts)) (hn : (assignEach es X.env).length = tgsLen ts) (hst : (assignEach es X.env).findIdx? (·.1) = none) : PG X (.Tuple es kk pos) (gM X.K (.tp ts)) := by
  refine (pg_seq hc h hn hst).imp fun v σ H Q h => ?_
  obtain ⟨x, ρ, S, μ, ρ', at_, r, e, q⟩ := h
  unfold setTg at e
  split at e
  · cases r with
    | tup t rd =>
      have rv := repVs_d rd
      exact .inl ⟨_, _, rfl, t.sq, by rw [← rv.length]; exact setTgs_len e, _, ρ, S, μ, ρ', at_, rv, e, q⟩
  · cases r with
    | lst hh l rd =>
      have rv := repVs_d rd
      exact .inr ⟨_, _, rfl, .inl (.inl hh), by rw [← rv.length]; exact setTgs_len e, _, ρ, S, μ, ρ', at_, rv, e, q⟩
  · cases e

/-! ### what is walked -/
def WalkOk (K : PySem.W.Frag) (J : It) (xs : List Vl) (S : Store) (μ : Mu) (H : Hp) : Prop := ∀ S2 μ2 H2, Keep (Live S μ) H (Live S2 μ2) H2 → SOk K S2 μ2 H2 → ∀ i, (xs.length ≤ i → J.stop i H2) ∧ ∀ x, xs[i]? = some x → J.go i H2 ∧
  ∀ v H3, J.yld i H2 v H3 → Ext S2 μ2 H2 S2 μ2 H3 ∧ SOk K S2 μ2 H3 ∧ RepV K S2 μ2 H3 x v
def iM (K : PySem.W.Frag) (XR : XRep) (Wx : WX) (m : Env → Store → R (List Vl)) : TI := fun σ H R => ∃ ρ S μ, At K σ H ρ S μ ∧ Post K XR Wx σ S μ H (fun xs S' μ' H' => ∀ J, WalkOk K J xs S' μ' H' → R J H') (m ρ S)
theorem map_get {ds : List PyData} {i : Nat} {x : Vl} (h : (ds.map Vl.d)[i]? = some x) : ∃ d, ds[i]? = some d ∧ x = .d d := by
  rw [List.getElem?_map] at h
  cases e : ds[i]? with
  | none => rw [e] at h; cases h
  | some d =>
    rw [e] at h
    exact ⟨d, rfl, (Option.some.inj h).symm⟩
theorem walk_list {K : PySem.W.Frag} {S : Store} {μ : Mu} {H : Hp} {a : Addr} {vs : List V} {ds : List PyData} (h : H a = some (.lst vs)) (l : ¬ Live S μ a) (r : RepDs K (Live S μ) H ds vs) : WalkOk K (Itl K a) (ds.map .d) S μ H := by
  intro S2 μ2 H2 kp ok i
  obtain ⟨h2, l2⟩ := kp a _ h l
  have hq : SqL K H2 a vs := .inl (.inl h2)
  refine ⟨fun hi => ⟨vs, hq, by rw [← r.length]; simpa using hi⟩, fun x hx => ?_⟩
  obtain ⟨d, hd, rfl⟩ := map_get hx
  obtain ⟨v, hv, rd⟩ := r.get hd
  refine ⟨⟨vs, v, hq, hv⟩, fun u H3 ⟨e3, hu⟩ => ?_⟩
  subst e3
  have e : vs[i]? = some u := hu vs hq
  rw [hv] at e
  cases e
  exact ⟨Ext.refl, ok, RepD.mono kp rd⟩
theorem walk_tup {K : PySem.W.Frag} {S : Store} {μ : Mu} {H : Hp} {a : Addr} {vs : List V} {ds : List PyData} (t : TupAt K (Live S μ) H a vs) (r : RepDs K (Live S μ) H ds vs) : WalkOk K (Itt K a) (ds.map .d) S μ H := by
  intro S2 μ2 H2 kp ok i
  have hq : SqT K H2 a vs := (t.mono kp).sq
  refine ⟨fun hi => ⟨vs, hq, by rw [← r.length]; simpa using hi⟩, fun x hx => ?_⟩
  obtain ⟨d, hd, rfl⟩ := map_get hx
  obtain ⟨v, hv, rd⟩ := r.get hd
  refine ⟨⟨vs, v, hq, hv⟩, fun u H3 ⟨e3, hu⟩ => ?_⟩
  subst e3
  have e : vs[i]? = some u := hu vs hq
  rw [hv] at e
  cases e
  exact ⟨Ext.refl, ok, RepD.mono kp rd⟩
theorem walk_range {K : PySem.W.Frag} {S : Store} {μ : Mu} {H : Hp} {lo : Int} {n : Nat} : WalkOk K (Itr lo n) ((List.range n).map fun (j : Nat) => Vl.d (.int (lo + j))) S μ H := by
  intro S2 μ2 H2 kp ok i
  refine ⟨fun hi => (show n ≤ i by simpa using hi), fun x hx => ?_⟩
  rw [List.getElem?_map] at hx
  by_cases hl : i < n
  · rw [List.getElem?_range hl] at hx
    cases hx
    refine ⟨hl, fun u H3 ⟨e3, hu⟩ => ?_⟩
    subst e3 hu
    exact ⟨Ext.refl, ok, .int _⟩
  · rw [List.getElem?_eq_none (by simpa using hl)] at hx
    cases hx
/-- a list or a tuple is walked -/
def iSeq (K : PySem.W.Frag) (tl : TE) : TI := fun σ H R => tl σ H fun x H1 => ∃ a, x = .ref a ∧ (((∃ xs, SqL K H1 a xs) ∧ R (Itl K a) H1) ∨ ((∃ xs, SqT K H1 a xs) ∧ R (Itt K a) H1))
theorem pi_seq {tg l : Expr} {tl : TE} (hl : PE X l tl) : PI X tg l (iSeq X.K tl) := by
  refine ⟨fun pins s σ H R I h => thn (hl.run pins s σ H _ I h) fun v s1 ⟨x, H1, I1, r1, q1⟩ => ?_⟩
  have fp : ∀ b ∈ [s1.heap.objs.size], FpOk X pins H1 b := fun b hb => by
    rw [List.mem_singleton.mp hb]
    exact I1.fpOk (Nat.le_refl _) (I1.hok.fresh (Nat.le_refl _))
  obtain ⟨a, rfl, ⟨⟨xs, hq⟩, q⟩ | ⟨⟨xs, hq⟩, q⟩⟩ := q1
  · cases r1
    obtain ⟨its, _, p, _⟩ := I1.list hq
    exact wpAny_pyIter_list p.isList ⟨_, _, _, _, _, rfl, I1.kept (t' := s1.toks) (fun b o e => Heap.get?_push_of_some _ e), turn_list a _, ⟨_, Heap.get?_push_size _ rfl, rfl, rfl⟩, fp, q⟩
  · cases r1
    obtain ⟨its, _, p, _⟩ := I1.tuple hq
    exact wpAny_pyIter_tuple (show s1.heap.IsTuple a its.toArray from p) ⟨_, _, _, _, _, rfl, I1.kept (t' := s1.toks) (fun b o e => Heap.get?_push_of_some _ e), turn_tuple a _, ⟨_, Heap.get?_push_size _ rfl, rfl, rfl⟩, fp, q⟩
theorem si_of {tg l : Expr} {m : Env → Store → R Vl} (hl : SE X XR Wx l m) : PI X tg l (iM X.K XR Wx fun ρ S => (m ρ S).bind fun x S1 => ofO ((plainSeq x).map fun xs => xs.map Vl.d) S1) := by
  refine (pi_seq hl).imp fun σ H R h => ?_
  obtain ⟨ρ, S, μ, at_, h⟩ := h
  refine ⟨ρ, S, μ, at_, h.bind.imp fun x S1 μ1 H1 e1 o1 h1 u ru => ?_⟩
  unfold plainSeq at h1
  split at h1
  · cases ru with
    | lst hh l r => exact ⟨_, rfl, .inl ⟨⟨_, .inl (.inl hh)⟩, h1.here o1 _ (walk_list hh l r)⟩⟩
  · cases ru with
    | tup t r => exact ⟨_, rfl, .inr ⟨⟨_, t.sq⟩, h1.here o1 _ (walk_tup t r)⟩⟩
  · exact h1.elim
theorem rng_one {m : Int} : (List.range m.toNat).map (fun (j : Nat) => Vl.d (.int j)) = (List.range m.toNat).map fun (j : Nat) => Vl.d (.int (0 + j)) := by simp
theorem si_rng1 {tg a : Expr} {p pos : Pos} {ms : Env → Store → R (List Vl)} (hg : Gl X "range") (hm : X.mg "range" = none) (ha : SA X XR Wx [a] ms) (hs : starEach [a] X.env = [(false, eval a X.env)]) :
    PI X tg (.Call (.Name "range" p) [a] [] pos) (iM X.K XR Wx fun ρ S => (ms ρ S).bind fun xs S1 => ofO (match xs with | [.d (.int j)] => rangeV [.d (.int j)] | _ => none) S1) := by
  refine (pi_range1 hg hm ha hs).imp fun σ H R h => ?_
  obtain ⟨ρ, S, μ, at_, h⟩ := h
  refine ⟨ρ, S, μ, at_, h.bind.imp fun xs S1 μ1 H1 e1 o1 h1 us rs => ?_⟩
  split at h1
  · rename_i j
    obtain ⟨v, rfl, rv⟩ := rep1 rfl rs
    cases rv
    unfold rangeV at h1
    dsimp only at h1
    split at h1
    · rename_i hz
      simp only [Bool.and_eq_true, decide_eq_true_eq] at hz
      refine ⟨j, rfl, hz.1, hz.2, h1.here o1 _ ?_⟩
      rw [rng_one]
      exact walk_range
    · exact h1.elim
  · exact h1.elim
theorem si_rng2 {tg a b : Expr} {p pos : Pos} {ms : Env → Store → R (List Vl)} (hg : Gl X "range") (hm : X.mg "range" = none) (ha : SA X XR Wx [a, b] ms) (hs : starEach [a, b] X.env = [(false, eval a X.env), (false, eval b X.env)]) (hs2 : starEach [b] X.env = [(false, eval b X.env)]) :
    PI X tg (.Call (.Name "range" p) [a, b] [] pos) (iM X.K XR Wx fun ρ S => (ms ρ S).bind fun xs S1 => ofO (match xs with | [.d (.int i), .d (.int j)] => rangeV [.d (.int i), .d (.int j)] | _ => none) S1) := by
  refine (pi_range2 hg hm ha hs hs2).imp fun σ H R h => ?_
  obtain ⟨ρ, S, μ, at_, h⟩ := h
  refine ⟨ρ, S, μ, at_, h.bind.imp fun xs S1 μ1 H1 e1 o1 h1 us rs => ?_⟩
  split at h1
  · rename_i i j
    obtain ⟨v, w, rfl, rv, rw'⟩ := rep2 rfl rs
    cases rv
    cases rw'
    unfold rangeV at h1
    dsimp only at h1
    split at h1
    · rename_i hz
      simp only [Bool.and_eq_true, decide_eq_true_eq] at hz
      exact ⟨i, j, rfl, ⟨hz.1.1, hz.1.2, hz.2.1, hz.2.2⟩, h1.here o1 _ walk_range⟩
    · exact h1.elim
  · exact h1.elim
end
end Tz

end
section
/-! Tz.Rule6: comprehensions. -/
namespace Tz
open PySem PySem.Spec PyProof.Rows L2 StX
/-! ### a reserved place is written -/
section
variable {K : PySem.W.Frag} {S : Store} {μ : Mu} {H : Hp} {p : Addr} {o : HO}
theorem Keep.resPut (g : μ.g p) : Keep (Live S μ) H (Live S μ) (upd H p o) := fun a w q l => by
  have hp : a ≠ p := fun z => l (.inl (by rw [z]; exact g))
  exact ⟨by rw [upd_ne hp]; exact q, l⟩
theorem RepV.resPut (g : μ.g p) {x : Vl} {u : V} (r : RepV K S μ H x u) : RepV K S μ (upd H p o) x u := by
  cases x with
  | d d => exact RepD.mono (Keep.resPut g) r
  | r n => exact r
theorem RepVs.resPut (g : μ.g p) {xs : List Vl} {us : List V} (r : RepVs K S μ H xs us) : RepVs K S μ (upd H p o) xs us := Paired.mapP r fun _ _ z => RepV.resPut g z
theorem SOk.resPut (g : μ.g p) (ok : SOk K S μ H) : SOk K S μ (upd H p o) := by
  refine ⟨ok.len, ok.nd, fun n a q => ?_, fun n a ob q1 q2 => ?_, fun a z => ?_, ok.apart⟩
  · by_cases hp : a = p
    · exact ⟨o, by rw [hp]; exact upd_same⟩
    · obtain ⟨u, w⟩ := ok.trk n a q
      exact ⟨u, by rw [upd_ne hp]; exact w⟩
  · have hp : a ≠ p := fun z => ok.apart n a q1 (by rw [z]; exact g)
    obtain ⟨u, w, r⟩ := ok.obj n a ob q1 q2
    refine ⟨u, by rw [upd_ne hp]; exact w, ?_⟩
    cases ob with
    | lst xs =>
      obtain ⟨vs, e1, r, l⟩ := r
      exact ⟨vs, e1, RepVs.resPut g r, l⟩
    | dic kvs =>
      obtain ⟨ws, e1, r, l⟩ := r
      exact ⟨ws, e1, Paired.mapP r fun _ _ z => ⟨z.1, RepV.resPut g z.2⟩, l⟩
    | scr ns => exact r
  · by_cases hp : a = p
    · exact ⟨o, by rw [hp]; exact upd_same⟩
    · obtain ⟨u, w⟩ := ok.res a z
      exact ⟨u, by rw [upd_ne hp]; exact w⟩
theorem Ext.resPut {S2 : Store} {μ2 : Mu} {H2 : Hp} (g : μ.g p) (e : Ext S μ H S2 μ2 H2) : Ext S μ (upd H p o) S2 μ2 (upd H2 p o) := by
  refine ⟨e.pre, e.g, fun a w q l => ?_, fun a z => ?_⟩
  · have hp : a ≠ p := fun z => l (.inl (by rw [z]; exact g))
    rw [upd_ne hp] at q
    obtain ⟨z1, z2⟩ := e.keep a w q l
    exact ⟨by rw [upd_ne hp]; exact z1, z2⟩
  · by_cases hp : a = p
    · rw [hp, upd_same, upd_same]
    · rw [upd_ne hp, upd_ne hp]
      exact e.res a z
theorem upd_upd {H : Hp} {p : Addr} {o o' : HO} : upd (upd H p o) p o' = upd H p o' := by
  funext a
  by_cases h : a = p
  · rw [h, upd_same, upd_same]
  · rw [upd_ne h, upd_ne h, upd_ne h]
theorem upd_eq {H : Hp} {p : Addr} {o : HO} (h : H p = some o) : upd H p o = H := by
  funext a
  by_cases e : a = p
  · rw [e, upd_same, h]
  · rw [upd_ne e]
end
/-- a list that is being made at D: the state behind the start -/
structure Lc (K : PySem.W.Frag) (S1 : Store) (μ1 : Mu) (H1 : Hp) (D : Addr) (S : Store) (μ : Mu) (H : Hp) (ys : List Vl) (acc : List V) : Prop where
  at_ : H D = some (.lst acc)
  ok : SOk K S μ H
  ext : Ext S1 (μ1.rsv D) (upd H1 D (.lst [])) S μ (upd H D (.lst []))
  rep : RepVs K S μ H ys acc
section
variable {K : PySem.W.Frag} {S1 S S' : Store} {μ1 μ μ' : Mu} {H1 H H' : Hp} {D : Addr} {ys : List Vl} {acc : List V}
theorem Lc.res (l : Lc K S1 μ1 H1 D S μ H ys acc) : μ.g D := by
  rw [l.ext.g]
  exact .inl rfl
theorem Lc.start (ok : SOk K S1 μ1 H1) (hD : H1 D = none) : Lc K S1 μ1 H1 D S1 (μ1.rsv D) (upd H1 D (.lst [])) [] [] := ⟨upd_same, ok.rsv hD, by rw [upd_upd]; exact Ext.refl, .nil⟩
theorem Lc.mono (l : Lc K S1 μ1 H1 D S μ H ys acc) (e : Ext S μ H S' μ' H') (ok : SOk K S' μ' H') : Lc K S1 μ1 H1 D S' μ' H' ys acc := ⟨(e.res D l.res).trans l.at_, ok, l.ext.trans (e.resPut l.res), l.rep.mono e⟩
theorem Lc.add (l : Lc K S1 μ1 H1 D S μ H ys acc) {y : Vl} {u : V} (r : RepV K S μ H y u) : Lc K S1 μ1 H1 D S μ (upd H D (.lst (acc ++ [u]))) (ys ++ [y]) (acc ++ [u]) :=
  ⟨upd_same, l.ok.resPut l.res, by rw [upd_upd]; exact l.ext, (l.rep.append (.cons r .nil)).resPut l.res⟩
/-- what stood before still stands -/
theorem Lc.keep (l : Lc K S1 μ1 H1 D S μ H ys acc) (hD : H1 D = none) : Keep (Live S1 μ1) H1 (Live S μ) H := fun a w q n => by
  have hp : a ≠ D := fun z => by
    rw [z, hD] at q
    cases q
  obtain ⟨z1, z2⟩ := l.ext.keep a w (by rw [upd_ne hp]; exact q) (by
    rintro ((z | z) | z)
    · exact hp z
    · exact n (.inl z)
    · exact n (.inr z))
  rw [upd_ne hp] at z1
  exact ⟨z1, z2⟩
theorem Lc.old (l : Lc K S1 μ1 H1 D S μ H ys acc) (hD : H1 D = none) {x : Vl} {u : V} (r : RepV K S1 μ1 H1 x u) : RepV K S μ H x u := by
  have h := RepV.resPut (o := .lst acc) l.res ((RepV.rsv (o := .lst []) r hD).mono l.ext)
  rw [upd_upd, upd_eq l.at_] at h
  exact h
theorem Lc.env (l : Lc K S1 μ1 H1 D S μ H ys acc) (hD : H1 D = none) {ρ : Env} {σ : L2.St} (e : EnvOk K S1 μ1 H1 ρ σ) : EnvOk K S μ H ρ σ := ⟨e.1, fun i v q =>
  let ⟨u, q1, q2⟩ := e.2 i v q
  ⟨u, q1, l.old hD q2⟩⟩
/-- the list is whole -/
theorem Lc.done {m : Bool} {v : Vl} {Q : VK} (l : Lc K S1 μ1 H1 D S μ H ys acc) (ok1 : SOk K S1 μ1 H1) (hD : H1 D = none) (e : newL m ys S = .ok v S') (q : ∀ μ' H', Ext S1 μ1 H1 S' μ' H' → SOk K S' μ' H' → ∀ u, RepV K S' μ' H' v u → Q u H') : Q (.ref D) H := by
  unfold newL at e
  split at e
  · have eg : μ.g = fun a => a = D ∨ μ1.g a := l.ext.g
    have hp2 : ∀ n : Nat, μ.l[n]? ≠ some D := fun n z => l.ok.apart n D z l.res
    have ok0 : SOk K S μ (upd H D (.lst [])) := l.ok.resPut l.res
    split at e
    · cases e
      have ok4 : SOk K (S ++ [some (.lst ys)]) (μ.adopt D μ1.g) (upd (upd H D (.lst [])) D (.lst acc)) := SOk.adopt ok0 eg (ok1.newG hD) ⟨_, rfl, RepVs.adopt ok0 eg (l.rep.resPut l.res), RepVs.lt l.ok l.rep⟩
      have z := q _ _ (Ext.adopt hD ok1 ok0 l.ext) ok4 (.ref D) ⟨D, by
        show (μ.l ++ [D])[S.length]? = some D
        rw [← l.ok.len, getA], rfl⟩
      rw [upd_upd, upd_eq l.at_] at z
      exact z
    · split at e
      · rename_i ds hd
        cases e
        have ok3 := SOk.unrsv (o := .lst acc) ok0 eg (ok1.newG hD)
        have ex3 := Ext.unrsv (o := .lst acc) hD ok1 l.ext
        have z := q _ _ ex3 ok3 (.ref D) (.lst upd_same (by
          rintro (z | ⟨n, _, z, _⟩)
          · exact ok1.newG hD z
          · exact hp2 n z) ((repVs_of hd (l.rep.resPut (o := .lst []) l.res)).mono (Keep.unrsv eg)))
        rw [upd_upd, upd_eq l.at_] at z
        exact z
      · cases e
  · cases e
end
theorem lcL_cons {f : Vl → Store → R (List Vl)} {x : Vl} {xs ys : List Vl} {S S2 : Store} (h : lcL f (x :: xs) S = .ok ys S2) : ∃ y1 Sa y2, f x S = .ok y1 Sa ∧ lcL f xs Sa = .ok y2 S2 ∧ ys = y1 ++ y2 := by
  obtain ⟨y1, Sa, h1, h2⟩ := bind_ok (show (f x S).bind _ = _ from h)
  obtain ⟨y2, Sb, h3, h4⟩ := bind_ok h2
  cases h4
  exact ⟨y1, Sa, y2, h1, h3, rfl⟩
def NoX : WX := fun _ _ _ _ => False
theorem takes_no {X : Cx} : Takes X NoX := fun u s' ⟨a, B, sI, pins, σ, H, cls, d, e, I, nb, up, sky, na, os, ag, w⟩ => w.elim
theorem Cxt.blk {X : Cx} {T : Prog} {XR : XRep} {k : Nat} (c : Cxt X T XR k) (s : Shared) (H : Hp) (scope : Scope) (cenv : PySem.Env) (fp : List Addr) : Cxt (X.blk s H scope cenv fp) T XR k := ⟨c.room, c.guards, c.calm, c.nd, c.sysB, c.blt, c.con, c.tab, c.fns⟩
theorem drop_get {α : Type} {xs : List α} {i : Nat} {x : α} (h : xs[i]? = some x) : xs.drop i = x :: xs.drop (i + 1) := by
  obtain ⟨hl, e⟩ := List.getElem?_eq_some_iff.mp h
  rw [List.drop_eq_getElem_cons hl, e]
section
variable {X : Cx} {T : Prog} {XR : XRep} {Wx : WX} {k : Nat}
/-- one turn's work -/
abbrev lcF (t : Tg) (ρ : Env) (own : List Nat) (mc : Env → Store → R Bool) (me : Env → Store → R Vl) : Vl → Store → R (List Vl) := fun x Sa => match setTg t x (wipeE ρ own) with
      | some ρ1 => (mc ρ1 Sa).bind fun k Sb => if k then (me ρ1 Sb).bind fun y Sc => .ok [y] Sc else .ok [] Sb
      | none => .fail
theorem lc_of {K : PySem.W.Frag} {m : Bool} {t : Tg} {own : List Nat} {mi : Env → Store → R (List Vl)} {mc : Env → Store → R Bool} {me : Env → Store → R Vl} (ht : ∀ i ∈ slotsT t, i ∈ own) {σ : L2.St} {H : Hp} {Q : VK}
    (h : tM K XR Wx (fun ρ S => (mi ρ S).bind fun xs S1 => (noEx (lcL (lcF t ρ own mc me) xs S1)).bind fun ys S2 => newL m ys S2) σ H Q) : tLc (iM K XR Wx mi) (gM K t) (tMB K XR NoX mc) (tM K XR NoX me) own σ H Q := by
  obtain ⟨ρ, S, μ, at_, h⟩ := h
  refine ⟨ρ, S, μ, at_, h.bind.imp fun xs S1 μ1 H1 e1 o1 h1 J wk D hD => ?_⟩
  have at1 := at_.mono e1 o1
  cases e : lcL (lcF t ρ own mc me) xs S1 with
  | fail => rw [e] at h1; exact h1.elim
  | ex x S' => rw [e] at h1; exact h1.elim
  | ok ys S2 =>
    rw [e] at h1
    obtain ⟨v, S', e', q⟩ := post_ok (fun _ _ => newL_noex) (show Post K XR Wx σ S1 μ1 H1 _ (newL m ys S2) from h1)
    have hys : ys.length ≤ sizeLine := by
      unfold newL at e'
      split at e'
      · assumption
      · cases e'
    refine ⟨fun i n H' => n = xs.length - i ∧ i ≤ xs.length ∧ ∃ Si μi y1 y2 acc, Lc K S1 μ1 H1 D Si μi H' y1 acc ∧ lcL (lcF t ρ own mc me) (xs.drop i) Si = .ok y2 S2 ∧ ys = y1 ++ y2,
      ⟨xs.length, by simp, Nat.zero_le _, S1, _, [], ys, [], Lc.start o1 hD, e, rfl⟩, ?_⟩
    rintro i n Hi ⟨rfl, hi, Si, μi, y1, y2, acc, l, el, rfl⟩
    obtain ⟨w1, w2⟩ := wk Si μi Hi (l.keep hD) l.ok i
    by_cases hlt : i < xs.length
    · have hx : xs[i]? = some xs[i] := List.getElem?_eq_getElem hlt
      obtain ⟨go, yl⟩ := w2 _ hx
      rw [drop_get hx] at el
      obtain ⟨z1, Sa, z2, f1, f2, rfl⟩ := lcL_cons el
      refine .inr ⟨go, fun H' => ∃ Si μi acc, Lc K S1 μ1 H1 D Si μi H' (y1 ++ z1) acc ∧ lcL (lcF t ρ own mc me) (xs.drop (i + 1)) Si = .ok z2 S2, ?_, fun u H3 hy => ?_⟩
      · rintro H' ⟨Si, μi, acc, l', el'⟩
        exact ⟨xs.length - (i + 1), by omega, rfl, hlt, Si, μi, y1 ++ z1, z2, acc, l', el', by rw [List.append_assoc]⟩
      · obtain ⟨x3, o3, r3⟩ := yl u H3 hy
        have l3 := l.mono x3 o3
        dsimp only [lcF] at f1
        split at f1
        · rename_i ρ1 hr
          refine ⟨_, wipeE ρ own, Si, μi, ρ1, ⟨o3, (l3.env hD at1.env).wiped own⟩, r3, hr, fun σ2 at2 sm => ⟨?_, ρ1, Si, μi, at2, ?_⟩⟩
          · have : Same own (L2.wipe σ own) σ2 := ⟨sm.len, fun j hj => sm.out j fun z => hj (ht j z)⟩
            rw [this.wipe, wipe_wipe]
          · obtain ⟨b, Sb, g1, g2⟩ := bind_ok f1
            rw [g1]
            intro μb Hb xb ob
            have lb := l3.mono xb ob
            cases b with
            | false =>
              rw [if_neg Bool.false_ne_true] at g2
              dsimp only
              rw [if_neg Bool.false_ne_true]
              cases g2
              exact ⟨_, μb, acc, by rw [List.append_nil]; exact lb, f2⟩
            | true =>
              rw [if_pos rfl] at g2
              dsimp only
              rw [if_pos rfl]
              obtain ⟨y, Sc, g3, g4⟩ := bind_ok g2
              cases g4
              refine ⟨ρ1, Sb, μb, at2.mono xb ob, ?_⟩
              rw [g3]
              intro μc Hc xc oc w rw'
              have lc := lb.mono xc oc
              refine ⟨acc, lc.at_, ?_, _, μc, acc ++ [w], lc.add rw', f2⟩
              have hl := lc.rep.length
              rw [List.length_append, List.length_append] at hys
              simp at hys
              omega
        · cases f1
    · have e2 : i = xs.length := by omega
      subst e2
      rw [List.drop_length] at el
      cases el
      refine .inl ⟨w1 (Nat.le_refl _), ?_⟩
      rw [List.append_nil] at e'
      exact l.done o1 hD e' q
theorem se_lc (c : Cxt X T XR k) {m : Bool} {elt tg iter : Expr} {ifs : List Expr} {scope : Scope} {own : List (Str × Nat)} {pos : Pos} {t : Tg} {mi : Env → Store → R (List Vl)} {mc : Env → Store → R Bool} {me : Env → Store → R Vl} (ht : ∀ i ∈ slotsT t, i ∈ own.map (·.2)) (hi : PI X tg iter (iM X.K XR Wx mi)) (ok : BlkOk X.N X.env.scope scope own)
    (hg : ∀ (s : Shared) (H : Hp) (C : Addr) (cl : List (Str × Addr)) (fp : List Addr), PG (X.blk s H scope (compEnvC scope cl C X.env) fp) tg (gM X.K t)) (hc : ∀ (s : Shared) (H : Hp) (C : Addr) (cl : List (Str × Addr)) (fp : List Addr), PTs (X.blk s H scope (compEnvC scope cl C X.env) fp) ifs (tMB X.K XR NoX mc))
    (he : ∀ (s : Shared) (H : Hp) (C : Addr) (cl : List (Str × Addr)) (fp : List Addr), SE (X.blk s H scope (compEnvC scope cl C X.env) fp) XR NoX elt me) (hs : ∀ x, foldedSetIterable iter X.env x = pure x) :
    SE X XR Wx (.ListComp elt [⟨tg, iter, ifs, 0⟩] scope pos) (fun ρ S => (mi ρ S).bind fun xs S1 => (noEx (lcL (lcF t ρ (own.map (·.2)) mc me) xs S1)).bind fun ys S2 => newL m ys S2) :=
  (pe_lc c.calm c.nd hi ok hg hc he hs).imp fun σ H Q h => lc_of ht h
end
end Tz

end
section
/-! Tz.Rule7: statements. -/
namespace Tz
open PySem PySem.Spec PyProof.Rows L2 StX
section
variable (K : PySem.W.Frag) (XR : XRep) (Wx : WX)
/-- where a statement may leave -/
def FlOk (D : Ends) (S' : Store) (μ' : Mu) (H' : Hp) : Fl → Prop
  | .nx ρ' => ∀ σ', EnvOk K S' μ' H' ρ' σ' → D.nx σ' H'
  | .rt v => ∀ u, RepV K S' μ' H' v u → D.rt u H'
  | .bk ρ' => ∀ σ', EnvOk K S' μ' H' ρ' σ' → D.bk σ' H'
  | .ct ρ' => ∀ σ', EnvOk K S' μ' H' ρ' σ' → D.ct σ' H'
  | .xc x ρ' => ∀ σ' c d, EnvOk K S' μ' H' ρ' σ' → XR x c d S' μ' H' → Wx c d σ' H'
def PostF (D : Ends) (S : Store) (μ : Mu) (H : Hp) : R Fl → Prop
  | .ok fl S' => ∀ μ' H', Ext S μ H S' μ' H' → SOk K S' μ' H' → FlOk K XR Wx D S' μ' H' fl
  | .ex _ _ => False
  | .fail => False
def tMS (m : Env → Store → R Fl) : TS := fun D σ H => ∃ ρ S μ, At K σ H ρ S μ ∧ PostF K XR Wx D S μ H (m ρ S)
end
theorem _root_.L2.PS.imp {X : Cx} {e : Stmt} {t t' : TS} (h : PS X e t) (i : ∀ D σ H, t' D σ H → t D σ H) : PS X e t' := ⟨fun pins s σ H D I hw => h.run pins s σ H D I (i D σ H hw)⟩
theorem _root_.L2.PSs.imp {X : Cx} {e : List Stmt} {t t' : TS} (h : PSs X e t) (i : ∀ D σ H, t' D σ H → t D σ H) : PSs X e t' := ⟨fun pins s σ H D I hw => h.run pins s σ H D I (i D σ H hw)⟩
section
variable {K : PySem.W.Frag} {XR : XRep} {Wx : WX} {D D' : Ends} {S S1 : Store} {μ μ1 : Mu} {H H1 : Hp} {σ : L2.St} {ρ : Env}
theorem PostF.later {m : R Fl} (e : Ext S μ H S1 μ1 H1) (h : PostF K XR Wx D S μ H m) : PostF K XR Wx D S1 μ1 H1 m := by
  cases m with
  | ok v S' => exact fun μ' H' e' o => h μ' H' (e.trans e') o
  | ex x S' => exact h
  | fail => exact h
theorem PostF.bindS {α : Type} {m : R α} {f : α → Store → R Fl} (at_ : At K σ H ρ S μ) (h : PostF K XR Wx D S μ H (m.bindS ρ f)) : Post K XR Wx σ S μ H (fun v S' μ' H' => PostF K XR Wx D S' μ' H' (f v S')) m := by
  cases m with
  | ok v S' => exact fun μ' H' e o => PostF.later e h
  | ex x S' => exact fun μ' H' c d e o xr => h μ' H' e o σ c d (at_.env.mono e) xr
  | fail => exact h.elim
theorem PostF.here {fl : Fl} (ok : SOk K S μ H) (h : PostF K XR Wx D S μ H (.ok fl S)) : FlOk K XR Wx D S μ H fl := h μ H Ext.refl ok
/-- one after another -/
theorem PostF.bind {m : R Fl} {f : Fl → Store → R Fl} (h : PostF K XR Wx D S μ H (m.bind f)) (i : ∀ fl S' μ' H', m = .ok fl S' → Ext S μ H S' μ' H' → SOk K S' μ' H' → PostF K XR Wx D S' μ' H' (f fl S') → FlOk K XR Wx D' S' μ' H' fl) : PostF K XR Wx D' S μ H m := by
  cases m with
  | ok v S' => exact fun μ' H' e o => i v S' μ' H' rfl e o (PostF.later e h)
  | ex x S' => exact h.elim
  | fail => exact h.elim
end
section
variable {X : Cx} {T : Prog} {XR : XRep} {Wx : WX} {k : Nat}
abbrev SS (X : Cx) (XR : XRep) (Wx : WX) (st : Stmt) (m : Env → Store → R Fl) : Prop := PS X st (tMS X.K XR Wx m)
abbrev SSs (X : Cx) (XR : XRep) (Wx : WX) (st : List Stmt) (m : Env → Store → R Fl) : Prop := PSs X st (tMS X.K XR Wx m)
theorem ss_nil : SSs X XR Wx [] (fun ρ S => .ok (.nx ρ) S) := pss_nil.imp fun D σ H ⟨ρ, S, μ, at_, h⟩ => h.here at_.ok σ at_.env
theorem ss_cons {st : Stmt} {rest : List Stmt} {m ms : Env → Store → R Fl} (h1 : SS X XR Wx st m) (h2 : SSs X XR Wx rest ms) : SSs X XR Wx (st :: rest) (fun ρ S => (m ρ S).bind fun fl S1 => (match fl with
    | .nx ρ1 => ms ρ1 S1
    | .rt v => .ok (.rt v) S1
    | .bk ρ1 => .ok (.bk ρ1) S1
    | .ct ρ1 => .ok (.ct ρ1) S1
    | .xc x ρ1 => .ok (.xc x ρ1) S1)) := by
  refine (pss_cons h1 h2).imp fun D σ H h => ?_
  obtain ⟨ρ, S, μ, at_, h⟩ := h
  refine ⟨ρ, S, μ, at_, h.bind fun fl S' μ' H' _ e o q => ?_⟩
  cases fl with
  | nx ρ1 => exact fun σ' ev => ⟨ρ1, S', μ', ⟨o, ev⟩, q⟩
  | rt v => exact q.here o
  | bk ρ1 => exact q.here o
  | ct ρ1 => exact q.here o
  | xc x ρ1 => exact q.here o
theorem ss_pass {pos : Pos} : SS X XR Wx (.Pass pos) (fun ρ S => .ok (.nx ρ) S) := ps_pass.imp fun D σ H ⟨ρ, S, μ, at_, h⟩ => h.here at_.ok σ at_.env
theorem ss_break {pos : Pos} : SS X XR Wx (.Break pos) (fun ρ S => .ok (.bk ρ) S) := ps_break.imp fun D σ H ⟨ρ, S, μ, at_, h⟩ => h.here at_.ok σ at_.env
theorem ss_continue {pos : Pos} : SS X XR Wx (.Continue pos) (fun ρ S => .ok (.ct ρ) S) := ps_continue.imp fun D σ H ⟨ρ, S, μ, at_, h⟩ => h.here at_.ok σ at_.env
theorem ss_expr {e : Expr} {m : Env → Store → R Vl} {pos : Pos} (he : SE X XR Wx e m) (hs : swapsWith e none pos.line X.env = pure false) : SS X XR Wx (.Expr e pos) (fun ρ S => (m ρ S).bindS ρ fun _ S1 => .ok (.nx ρ) S1) := by
  refine (ps_expr he hs).imp fun D σ H h => ?_
  obtain ⟨ρ, S, μ, at_, h⟩ := h
  exact ⟨ρ, S, μ, at_, (h.bindS at_).imp fun v S1 μ1 H1 e1 o1 q u ru => q.here o1 σ (at_.env.mono e1)⟩
theorem ss_ret {e : Expr} {m : Env → Store → R Vl} {pos : Pos} (he : SE X XR Wx e m) : SS X XR Wx (.Return (some e) pos) (fun ρ S => (m ρ S).bindS ρ fun x S1 => .ok (.rt x) S1) := by
  refine (ps_ret he).imp fun D σ H h => ?_
  obtain ⟨ρ, S, μ, at_, h⟩ := h
  exact ⟨ρ, S, μ, at_, (h.bindS at_).imp fun v S1 μ1 H1 e1 o1 q u ru => q.here o1 u ru⟩
theorem ss_retN {pos : Pos} : SS X XR Wx (.Return none pos) (fun ρ S => .ok (.rt (.d .none)) S) := ps_retN.imp fun D σ H ⟨ρ, S, μ, at_, h⟩ => h.here at_.ok _ .non
theorem ss_if {c : Expr} {a b : List Stmt} {mc : Env → Store → R Vl} {ma mb : Env → Store → R Fl} {pos : Pos} (hc : SB X XR Wx c (tstM mc)) (ha : SSs X XR Wx a ma) (hb : SSs X XR Wx b mb) :
    SS X XR Wx (.If c a b pos) (fun ρ S => ((mc ρ S).bind fun x S1 => ofO (truth x S1) S1).bindS ρ fun k S2 => if k then ma ρ S2 else mb ρ S2) := by
  refine (ps_if hc ha hb).imp fun D σ H h => ?_
  obtain ⟨ρ, S, μ, at_, h⟩ := h
  refine ⟨ρ, S, μ, at_, (h.bindS at_).imp fun b S1 μ1 H1 e1 o1 q => ?_⟩
  cases b with
  | true => exact ⟨ρ, S1, μ1, at_.mono e1 o1, q⟩
  | false => exact ⟨ρ, S1, μ1, at_.mono e1 o1, q⟩
/-! ### assignments -/
abbrev asgM (t : Tg) (m : Env → Store → R Vl) : Env → Store → R Fl := fun ρ S => (m ρ S).bindS ρ fun x S1 => (match setTg t x ρ with
    | some ρ1 => .ok (.nx ρ1) S1
    | none => .fail)
theorem asg_end {K : PySem.W.Frag} {t : Tg} {D : Ends} {σ : L2.St} {ρ : Env} {S : Store} {μ : Mu} {H : Hp} {x : Vl} {u : V} (at_ : At K σ H ρ S μ) (r : RepV K S μ H x u) (h : PostF K XR Wx D S μ H (match setTg t x ρ with
    | some ρ1 => .ok (.nx ρ1) S
    | none => .fail)) : gM K t u σ H D.nx := by
  split at h
  · rename_i ρ1 e
    exact ⟨x, ρ, S, μ, ρ1, at_, r, e, fun σ' at2 _ => h.here at_.ok σ' at2.env⟩
  · exact h.elim
theorem asg_of {K : PySem.W.Frag} {t : Tg} {m : Env → Store → R Vl} {D : Ends} {σ : L2.St} {H : Hp} (h : tMS K XR Wx (asgM t m) D σ H) : tM K XR Wx m σ H fun x H1 => gM K t x σ H1 D.nx := by
  obtain ⟨ρ, S, μ, at_, h⟩ := h
  exact ⟨ρ, S, μ, at_, (h.bindS at_).imp fun x S1 μ1 H1 e1 o1 q u ru => asg_end (at_.mono e1 o1) ru q⟩
theorem ss_asg {tg e : Expr} {t : Tg} {m : Env → Store → R Vl} {pos : Pos} (he : SE X XR Wx e m) (hg : PG X tg (gM X.K t)) (hs : swapsWithSole [tg] e pos.line X.env = pure false) (hw : swappedStores [tg] e X.env = pure none) (h1 : (assignEach [tg] X.env).map (·.2) = [assign tg X.env]) :
    SS X XR Wx (.Assign [tg] e pos) (asgM t m) := (ps_asg he hg hs hw h1).imp fun D σ H h => asg_of h
theorem gM_nm {K : PySem.W.Frag} {i : Nat} {u : V} {σ : L2.St} {H : Hp} {Q : L2.St → Hp → Prop} (h : gM K (.nm i) u σ H Q) : gName i u σ H Q := by
  obtain ⟨x, ρ, S, μ, ρ', at_, r, e, q⟩ := h
  unfold setTg at e
  cases e
  refine q _ ⟨at_.ok, at_.env.set i r⟩ ⟨by simp, fun j hj => ?_⟩
  rw [List.getElem?_set_ne]
  exact fun z => hj (by rw [z]; exact List.mem_singleton_self _)
theorem tM_imp {K : PySem.W.Frag} {m : Env → Store → R Vl} {σ : L2.St} {H : Hp} {Q Q' : VK} (h : tM K XR Wx m σ H Q) (i : ∀ u H, Q u H → Q' u H) : tM K XR Wx m σ H Q' := by
  obtain ⟨ρ, S, μ, at_, h⟩ := h
  exact ⟨ρ, S, μ, at_, h.imp fun v S1 μ1 H1 e1 o1 q u ru => i u H1 (q u ru)⟩
theorem ss_set {e : Expr} {i : Nat} {x : Str} {m : Env → Store → R Vl} {pos pos' : Pos} (hN : X.N.Nodup) (hi : X.N[i]? = some x) (hx : Loc X.env.scope x) (he : SE X XR Wx e m) (hs : swapsWith e (some (.Name x pos')) pos.line X.env = pure false) (hf : X.fn x = true ∨ X.env.scope.names.lookup x = some .local) :
    SS X XR Wx (.Assign [.Name x pos'] e pos) (asgM (.nm i) m) := (ps_set hN hi hx he hs hf).imp fun D σ H h => tM_imp (asg_of h) fun u H q => gM_nm q
theorem ss_setLc (c : Cxt X T XR k) {m : Bool} {i : Nat} {y : Str} {py spos : Pos} {elt tg iter : Expr} {ifs : List Expr} {scope : Scope} {own : List (Str × Nat)} {pos : Pos} {t : Tg} {mi : Env → Store → R (List Vl)} {mc : Env → Store → R Bool} {me : Env → Store → R Vl} (hy : X.N[i]? = some y) (hyl : X.env.scope.names.lookup y = some .local)
    (hsw : swapsWith (.ListComp elt [⟨tg, iter, ifs, 0⟩] scope pos) (some (.Name y py)) spos.line X.env = pure true) (ht : ∀ i ∈ slotsT t, i ∈ own.map (·.2)) (hi : PI X tg iter (iM X.K XR Wx mi)) (ok : BlkOk X.N X.env.scope scope own)
    (hg : ∀ (s : Shared) (H : Hp) (C : Addr) (cl : List (Str × Addr)) (fp : List Addr), PG (X.blk s H scope (compEnvC scope cl C X.env) fp) tg (gM X.K t)) (hc : ∀ (s : Shared) (H : Hp) (C : Addr) (cl : List (Str × Addr)) (fp : List Addr), PTs (X.blk s H scope (compEnvC scope cl C X.env) fp) ifs (tMB X.K XR NoX mc))
    (he : ∀ (s : Shared) (H : Hp) (C : Addr) (cl : List (Str × Addr)) (fp : List Addr), SE (X.blk s H scope (compEnvC scope cl C X.env) fp) XR NoX elt me) (hs : ∀ x, foldedSetIterable iter X.env x = pure x) :
    SS X XR Wx (.Assign [.Name y py] (.ListComp elt [⟨tg, iter, ifs, 0⟩] scope pos) spos) (asgM (.nm i) fun ρ S => (mi ρ S).bind fun xs S1 => (noEx (lcL (lcF t ρ (own.map (·.2)) mc me) xs S1)).bind fun ys S2 => newL m ys S2) :=
  (ps_setLc c.calm c.nd hy hyl hsw hi ok hg hc he hs).imp fun D σ H h => lc_of ht (tM_imp (asg_of h) fun u H q => gM_nm q)
theorem ss_par2 (c : Cxt X T XR k) {i j : Nat} {x y : Str} {a b : Expr} {ma mb : Env → Store → R Vl} {px py pt pos : Pos} {kt k2 : Nat} {pt2 : Pos} (hi : X.N[i]? = some x) (hj : X.N[j]? = some y) (hij : i ≠ j) (hx : X.env.scope.names.lookup x = some .local) (hy : X.env.scope.names.lookup y = some .local)
    (ha : SA X XR Wx [a, b] (fun ρ S => (ma ρ S).bind fun x S1 => ((mb ρ S1).bind fun x S1 => (.ok [x] S1 : R (List Vl))).bind fun xs S2 => .ok (x :: xs) S2))
    (hw : swappedStores [.Tuple [.Name x px, .Name y py] kt pt] (.Tuple [a, b] k2 pt2) X.env = pure (some [x, y])) (hs : swapsWithSole [.Tuple [.Name x px, .Name y py] kt pt] (.Tuple [a, b] k2 pt2) pos.line X.env = pure false) :
    SS X XR Wx (.Assign [.Tuple [.Name x px, .Name y py] kt pt] (.Tuple [a, b] k2 pt2) pos) (fun ρ S => ((ma ρ S).bind fun x S1 => (mb ρ S1).bind fun y S2 => .ok (x, y) S2).bindS ρ fun p S3 => .ok (.nx ((ρ.set i (some p.1)).set j (some p.2))) S3) := by
  refine (ps_par c.calm c.nd hi hj hij hx hy ha hw hs).imp fun D σ H h => ?_
  obtain ⟨ρ, S, μ, at_, h⟩ := h
  refine ⟨ρ, S, μ, at_, ?_⟩
  have h := h.bindS at_
  dsimp only
  cases e1 : ma ρ S with
  | fail => rw [e1] at h; exact h.elim
  | ex x S1 => rw [e1] at h; exact h
  | ok x1 S1 =>
    rw [e1] at h
    simp only [R.bind] at h ⊢
    cases e2 : mb ρ S1 with
    | fail => rw [e2] at h; exact h.elim
    | ex x S1 => rw [e2] at h; exact h
    | ok x2 S2 =>
      rw [e2] at h
      intro μ2 H2 ex ok us rs
      obtain ⟨v, w, rfl, rv, rw'⟩ := rep2 rfl rs
      exact ⟨v, w, rfl, (h μ2 H2 ex ok).here ok _ (((at_.env.mono ex).set i rv).set j rw')⟩
theorem rep3 {K : PySem.W.Frag} {S : Store} {μ : Mu} {H : Hp} {x y z : Vl} {vs : List V} (r : RepVs K S μ H [x, y, z] vs) : ∃ u v w, vs = [u, v, w] ∧ RepV K S μ H x u ∧ RepV K S μ H y v ∧ RepV K S μ H z w := by
  cases r with
  | cons a r => cases r with
    | cons b r => cases r with
      | cons c r =>
        cases r
        exact ⟨_, _, _, rfl, a, b, c⟩
theorem ss_par3 (c : Cxt X T XR k) {i j l : Nat} {x y z : Str} {a b d : Expr} {ma mb md : Env → Store → R Vl} {px py pz pt pos : Pos} {kt k2 : Nat} {pt2 : Pos} (hi : X.N[i]? = some x) (hj : X.N[j]? = some y) (hl : X.N[l]? = some z) (hij : i ≠ j) (hil : i ≠ l) (hjl : j ≠ l) (hx : X.env.scope.names.lookup x = some .local) (hy : X.env.scope.names.lookup y = some .local) (hz : X.env.scope.names.lookup z = some .local)
    (ha : SA X XR Wx [a, b, d] (fun ρ S => (ma ρ S).bind fun x S1 => ((mb ρ S1).bind fun x S1 => ((md ρ S1).bind fun x S1 => (.ok [x] S1 : R (List Vl))).bind fun xs S2 => .ok (x :: xs) S2).bind fun xs S2 => .ok (x :: xs) S2))
    (hw : swappedStores [.Tuple [.Name x px, .Name y py, .Name z pz] kt pt] (.Tuple [a, b, d] k2 pt2) X.env = pure (some [x, y, z])) (hs : swapsWithSole [.Tuple [.Name x px, .Name y py, .Name z pz] kt pt] (.Tuple [a, b, d] k2 pt2) pos.line X.env = pure false) :
    SS X XR Wx (.Assign [.Tuple [.Name x px, .Name y py, .Name z pz] kt pt] (.Tuple [a, b, d] k2 pt2) pos) (fun ρ S => ((ma ρ S).bind fun x S1 => (mb ρ S1).bind fun y S2 => (md ρ S2).bind fun z S3 => .ok (x, y, z) S3).bindS ρ fun p S4 => .ok (.nx (((ρ.set i (some p.1)).set j (some p.2.1)).set l (some p.2.2))) S4) := by
  refine (ps_par3 c.calm c.nd hi hj hl hij hil hjl hx hy hz ha hw hs).imp fun D σ H h => ?_
  obtain ⟨ρ, S, μ, at_, h⟩ := h
  refine ⟨ρ, S, μ, at_, ?_⟩
  have h := h.bindS at_
  dsimp only
  cases e1 : ma ρ S with
  | fail => rw [e1] at h; exact h.elim
  | ex x S1 => rw [e1] at h; exact h
  | ok x1 S1 =>
    rw [e1] at h
    simp only [R.bind] at h ⊢
    cases e2 : mb ρ S1 with
    | fail => rw [e2] at h; exact h.elim
    | ex x S1 => rw [e2] at h; exact h
    | ok x2 S2 =>
      rw [e2] at h
      dsimp only at h ⊢
      cases e3 : md ρ S2 with
      | fail => rw [e3] at h; exact h.elim
      | ex x S1 => rw [e3] at h; exact h
      | ok x3 S3 =>
        rw [e3] at h
        intro μ2 H2 ex ok us rs
        obtain ⟨v, w, t, rfl, rv, rw', rt⟩ := rep3 rs
        exact ⟨v, w, t, rfl, (h μ2 H2 ex ok).here ok _ ((((at_.env.mono ex).set i rv).set j rw').set l rt)⟩
/-! ### item stores -/
theorem putK_rep {K : PySem.W.Frag} {S : Store} {μ : Mu} {H : Hp} {kk : Key} {x : Vl} {u : V} (r : RepV K S μ H x u) : ∀ {kvs : List (Key × Vl)} {ws : List (Key × V)}, KvOk K S μ H kvs ws → (kvs.map (·.1)).Nodup → KvOk K S μ H (putK kk x kvs) (L2.putK ws kk u)
  | _, _, .nil, _ => .cons ⟨rfl, r⟩ .nil
  | (k1, v1) :: kr, (k2, v2) :: wr, .cons h t, nd => by
    obtain ⟨h1, h2⟩ := h
    dsimp only at h1 h2
    subst h1
    have ih := putK_rep (kk := kk) r t (by simpa using (List.nodup_cons.mp nd).2)
    unfold putK
    by_cases hk : k1 = kk
    · rw [if_pos hk]
      have e : L2.putK ((k1, v2) :: wr) kk u = (k1, u) :: wr := by
        unfold L2.putK
        rw [if_pos (by simp [hk])]
        rw [List.map_cons, if_pos hk]
        congr 1
        have hn : kk ∉ wr.map (·.1) := by
          have : wr.map (·.1) = kr.map (·.1) := by
            clear ih nd
            induction t with
            | nil => rfl
            | cons p q ih2 => rw [List.map_cons, List.map_cons, ih2, p.1]
          rw [this, ← hk]
          exact (List.nodup_cons.mp nd).1
        refine (List.map_congr_left fun p hp => ?_).trans (List.map_id _)
        rw [if_neg]
        · rfl
        · exact fun z => hn (by rw [← z]; exact List.mem_map.mpr ⟨p, hp, rfl⟩)
      rw [e]
      exact .cons ⟨rfl, r⟩ t
    · rw [if_neg hk]
      have e : L2.putK ((k1, v2) :: wr) kk u = (k1, v2) :: L2.putK wr kk u := by
        unfold L2.putK
        rw [List.any_cons, decide_eq_false hk, Bool.false_or]
        split
        · rw [List.map_cons, if_neg hk]
        · rfl
      rw [e]
      exact .cons ⟨rfl, h2⟩ ih
theorem putK_vals {kk : Key} {x : Vl} : ∀ {kvs : List (Key × Vl)} {y : Vl}, y ∈ (putK kk x kvs).map (·.2) → y = x ∨ y ∈ kvs.map (·.2)
  | [], y, h => by
    unfold putK at h
    exact .inl (by simpa using h)
  | (k1, v1) :: r, y, h => by
    unfold putK at h
    split at h
    · rcases List.mem_cons.mp h with z | z
      · exact .inl z
      · exact .inr (List.mem_cons_of_mem _ z)
    · rcases List.mem_cons.mp h with z | z
      · exact .inr (by rw [z]; exact List.mem_cons_self ..)
      · rcases putK_vals z with z | z
        · exact .inl z
        · exact .inr (List.mem_cons_of_mem _ z)
theorem putK_keys {kk : Key} {x : Vl} : ∀ {kvs : List (Key × Vl)} {y : Key}, y ∈ (putK kk x kvs).map (·.1) → y = kk ∨ y ∈ kvs.map (·.1)
  | [], y, h => by
    unfold putK at h
    exact .inl (by simpa using h)
  | (k1, v1) :: r, y, h => by
    unfold putK at h
    split at h
    · rcases List.mem_cons.mp h with z | z
      · exact .inr (by rw [z]; exact List.mem_cons_self ..)
      · exact .inr (List.mem_cons_of_mem _ z)
    · rcases List.mem_cons.mp h with z | z
      · exact .inr (by rw [z]; exact List.mem_cons_self ..)
      · rcases putK_keys z with z | z
        · exact .inl z
        · exact .inr (List.mem_cons_of_mem _ z)
theorem putK_nodup {kk : Key} {x : Vl} : ∀ {kvs : List (Key × Vl)}, (kvs.map (·.1)).Nodup → ((putK kk x kvs).map (·.1)).Nodup
  | [], h => by
    unfold putK
    simp
  | (k1, v1) :: r, h => by
    unfold putK
    split
    · exact h
    · rename_i hk
      rw [List.map_cons] at h ⊢
      obtain ⟨h1, h2⟩ := List.nodup_cons.mp h
      refine List.nodup_cons.mpr ⟨fun z => ?_, putK_nodup h2⟩
      rcases putK_keys z with z | z
      · exact hk z
      · exact h1 z
theorem mem_set {α : Type} {xs : List α} {j : Nat} {x y : α} (h : y ∈ xs.set j x) : y = x ∨ y ∈ xs := by
  rcases List.mem_or_eq_of_mem_set h with z | z
  · exact .inr z
  · exact .inl z
theorem put_V (hu : X.A.units + 65 < cLine) : PSet X (fun o i v H Q => ∃ a b x S μ S', SOk X.K S μ H ∧ RepV X.K S μ H a o ∧ RepV X.K S μ H b i ∧ RepV X.K S μ H x v ∧ putV a b x S = .ok () S' ∧
    ∀ μ' H', Ext S μ H S' μ' H' → SOk X.K S' μ' H' → Q H') := by
  intro pins s σ H o i v ov iv u Q I ro ri rv ⟨a, b, x, S, μ, S', ok, ra, rb, rx, e, q⟩
  unfold putV at e
  split at e
  · rename_i n
    obtain ⟨p, h1, rfl⟩ := ra
    split at e
    · rename_i xs hs
      obtain ⟨h, hh, ws, rfl, rw', rl⟩ := ok.obj n p _ h1 hs
      split at e
      · rename_i kk
        cases rb
        split at e
        · rename_i j hj
          split at e
          · rename_i hz
            cases e
            have ext := Ext.put (o := .lst (ws.set j v)) (ob' := .lst (xs.set j x)) ok h1 hs
            refine set_list pins s σ H _ _ _ ov iv u Q I ro ri rv ⟨p, ws, kk, j, rfl, rfl, hh, by rw [← rw'.length]; exact hj, q μ _ ext (ok.put h1 hs ⟨_, rfl, (RepVs.set rx j rw').mono ext, fun m hm => ?_⟩)⟩
            rcases mem_set hm with z | z
            · exact refsBelow_lt hz m (by rw [z]; exact List.mem_singleton_self _)
            · exact rl m z
          · cases e
        · cases e
      · cases e
    · rename_i kvs hs
      obtain ⟨h, hh, ws, rfl, rw', rl, nd⟩ := ok.obj n p _ h1 hs
      split at e
      · rename_i d
        split at e
        · rename_i kk hk
          split at e
          · rename_i hz
            cases e
            simp only [Bool.and_eq_true, decide_eq_true_eq] at hz
            have ei := keyOf_rep hk rb
            subst ei
            have ext := Ext.put (o := .dK (L2.putK ws kk v)) (ob' := .dic (putK kk x kvs)) ok h1 hs
            refine set_dict (by omega) pins s σ H _ _ _ ov iv u Q I ro ri rv ⟨p, _, rfl, .k hh (by rw [← Paired.length rw']; exact hz.2), q μ _ ext (ok.put h1 hs ⟨_, rfl, Paired.mapP (putK_rep rx rw' nd) fun _ _ z => ⟨z.1, RepV.mono ext z.2⟩, fun m hm => ?_, putK_nodup nd⟩)⟩
            rcases putK_vals hm with z | z
            · exact refsBelow_lt hz.1 m (by rw [z]; exact List.mem_singleton_self _)
            · exact rl m z
          · cases e
        · cases e
      · cases e
    · cases e
  · cases e
theorem put_noex {a b c : Vl} {S S' : Store} {x : Ex} : putV a b c S ≠ .ex x S' := by
  intro h
  unfold putV at h
  (repeat' (split at h)) <;> cases h
theorem ss_put (c : Cxt X T XR k) {o i e : Expr} {mo mi me : Env → Store → R Vl} {pos tpos : Pos} (he : SE X XR Wx e me) (ho : SE X XR Wx o mo) (hi : SE X XR Wx i mi) (hs : swapsWithSole [.Subscript o i tpos] e pos.line X.env = pure false) (hw : swappedStores [.Subscript o i tpos] e X.env = pure none)
    (h1 : (assignEach [.Subscript o i tpos] X.env).map (·.2) = [assign (.Subscript o i tpos) X.env])
    (ha : ∀ v, assign (.Subscript o i tpos) X.env v = (do
      let ov ← holding [v] (eval o X.env)
      let iv ← holding [v, ov] (eval i X.env)
      standAt tpos
      holding [v, ov, iv] (setItem ov iv v)
      release [v, ov, iv] [])) :
    SS X XR Wx (.Assign [.Subscript o i tpos] e pos) (fun ρ S => ((me ρ S).bind fun x S1 => (mo ρ S1).bind fun y S2 => (mi ρ S2).bind fun z S3 => putV y z x S3).bindS ρ fun _ S4 => .ok (.nx ρ) S4) := by
  refine (ps_asg he (pg_sub ho hi (put_V c.hu) ha) hs hw h1).imp fun D σ H h => ?_
  obtain ⟨ρ, S, μ, at_, h⟩ := h
  refine ⟨ρ, S, μ, at_, (h.bindS at_).bind.imp fun x S1 μ1 H1 e1 o1 q u ru => ?_⟩
  refine ⟨ρ, S1, μ1, at_.mono e1 o1, q.bind.imp fun y S2 μ2 H2 e2 o2 q2 w rw' => ?_⟩
  refine ⟨ρ, S2, μ2, (at_.mono e1 o1).mono e2 o2, q2.bind.imp fun z S3 μ3 H3 e3 o3 q3 w3 rz => ?_⟩
  obtain ⟨v, S', e, q4⟩ := post_ok (fun _ _ => put_noex) q3
  refine ⟨y, z, x, S3, μ3, S', o3, rw'.mono e3, rz, (ru.mono e2).mono e3, e, fun μ4 H4 e4 o4 => ?_⟩
  exact (q4 μ4 H4 e4 o4).here o4 σ (at_.env.mono (((e1.trans e2).trans e3).trans e4))
theorem aug_noex {op : Operator} {a b : Vl} {S S' : Store} {x : Ex} : augV op a b S ≠ .ex x S' := by
  intro h
  unfold augV at h
  (repeat' (split at h)) <;> cases h
theorem aug_V (op : Operator) : PIp X op (fun x y H Q => ∃ a b S μ v S', SOk X.K S μ H ∧ RepV X.K S μ H a x ∧ RepV X.K S μ H b y ∧ augV op a b S = .ok v S' ∧ ∀ μ' H', Ext S μ H S' μ' H' → SOk X.K S' μ' H' → ∀ u, RepV X.K S' μ' H' v u → Q u H') := by
  intro pins s σ H x y v u Q I rx ry ⟨a, b, S, μ, w, S', ok, ra, rb, e, q⟩
  unfold augV at e
  split at e
  · cases e
    cases ra
    cases rb
    exact ip_add pins s σ H _ _ v u Q I rx ry ⟨_, _, rfl, rfl, q μ H Ext.refl ok _ (.int _)⟩
  · cases e
    cases ra
    cases rb
    exact ip_sub pins s σ H _ _ v u Q I rx ry ⟨_, _, rfl, rfl, q μ H Ext.refl ok _ (.int _)⟩
  · cases e
theorem ss_aug {op : Operator} {i : Nat} {x : Str} {e : Expr} {m : Env → Store → R Vl} {pos pos' : Pos} (hN : X.N.Nodup) (hi : X.N[i]? = some x) (hx : Loc X.env.scope x) (he : SE X XR Wx e m) (hf : X.fn x = true ∨ X.env.scope.names.lookup x = some .local) :
    SS X XR Wx (.AugAssign (.Name x pos') op e pos) (fun ρ S => (match ρ[i]? with
    | some (some x) => ((m ρ S).bind fun y S1 => augV op x y S1).bindS ρ fun z S2 => .ok (.nx (ρ.set i (some z))) S2
    | _ => .fail)) := by
  refine (ps_aug hN hi hx he (aug_V op) hf).imp fun D σ H h => ?_
  obtain ⟨ρ, S, μ, at_, h⟩ := h
  dsimp only at h
  split at h
  · rename_i v hv
    obtain ⟨u, h1, h2⟩ := at_.env.2 i v hv
    refine ⟨u, h1, ρ, S, μ, at_, (h.bindS at_).bind.imp fun y S1 μ1 H1 e1 o1 q w rw' => ?_⟩
    obtain ⟨z, S', e, q2⟩ := post_ok (fun _ _ => aug_noex) q
    refine ⟨v, y, S1, μ1, z, S', o1, h2.mono e1, rw', e, fun μ2 H2 e2 o2 uz rz => ?_⟩
    exact (q2 μ2 H2 e2 o2).here o2 _ ((at_.env.mono (e1.trans e2)).set i rz)
  · exact h.elim
/-! ### loops -/
theorem ss_for (c : Cxt X T XR k) (hp : PassesOwn (model X.prog X.w) X.A X.env X.xe) {tg iter : Expr} {body : List Stmt} {t : Tg} {mi : Env → Store → R (List Vl)} {mb : Env → Store → R Fl} {pos : Pos} (hi : PI X tg iter (iM X.K XR Wx mi)) (hg : PG X tg (gM X.K t)) (hb : SSs X XR Wx body mb) (hs : ∀ x, foldedSetIterable iter X.env x = pure x) :
    SS X XR Wx (.For tg iter body [] pos) (fun ρ S => (mi ρ S).bindS ρ fun xs S1 => forL (fun x ρ1 Sa => match setTg t x ρ1 with
    | some ρ2 => mb ρ2 Sa
    | none => .fail) xs ρ S1) := by
  refine (ps_for hp c.calm hi hg hb hs).imp fun D σ H h => ?_
  obtain ⟨ρ, S, μ, at_, h⟩ := h
  refine ⟨ρ, S, μ, at_, (h.bindS at_).imp fun xs S1 μ1 H1 e1 o1 q J wk => ?_⟩
  refine ⟨fun i n σ' H' => n = xs.length - i ∧ i ≤ xs.length ∧ ∃ ρi Si μi, At X.K σ' H' ρi Si μi ∧ Ext S1 μ1 H1 Si μi H' ∧ PostF X.K XR Wx D Si μi H' (forL (fun x ρ1 Sa => match setTg t x ρ1 with
    | some ρ2 => mb ρ2 Sa
    | none => .fail) (xs.drop i) ρi Si), ⟨xs.length, by simp, Nat.zero_le _, ρ, S1, μ1, at_.mono e1 o1, Ext.refl, q⟩, ?_⟩
  rintro i n σi Hi ⟨rfl, hi, ρi, Si, μi, ati, xi, q⟩
  obtain ⟨w1, w2⟩ := wk Si μi Hi xi.keep ati.ok i
  by_cases hlt : i < xs.length
  · have hx : xs[i]? = some xs[i] := List.getElem?_eq_getElem hlt
    obtain ⟨go, yl⟩ := w2 _ hx
    rw [drop_get hx] at q
    refine .inr ⟨go, fun σ' H' => ∃ ρi Si μi, At X.K σ' H' ρi Si μi ∧ Ext S1 μ1 H1 Si μi H' ∧ PostF X.K XR Wx D Si μi H' (forL (fun x ρ1 Sa => match setTg t x ρ1 with
      | some ρ2 => mb ρ2 Sa
      | none => .fail) (xs.drop (i + 1)) ρi Si), fun σ' H' z => ⟨_, by omega, rfl, hlt, z⟩, fun u H3 hy => ?_⟩
    obtain ⟨x3, o3, r3⟩ := yl u H3 hy
    unfold forL at q
    cases e : setTg t xs[i] ρi with
    | none =>
      rw [e] at q
      exact q.elim
    | some ρ2 =>
      rw [e] at q
      refine ⟨_, ρi, Si, μi, ρ2, ati.mono x3 o3, r3, e, fun σ2 at2 _ => ⟨ρ2, Si, μi, at2, (q.later x3).bind fun fl S' μ' H' _ e' o' q' => ?_⟩⟩
      have xx := (xi.trans x3).trans e'
      cases fl with
      | nx ρ1 => exact fun σ' ev => ⟨ρ1, S', μ', ⟨o', ev⟩, xx, q'⟩
      | ct ρ1 => exact fun σ' ev => ⟨ρ1, S', μ', ⟨o', ev⟩, xx, q'⟩
      | rt v => exact q'.here o'
      | bk ρ1 => exact q'.here o'
      | xc x ρ1 => exact q'.here o'
  · have e2 : i = xs.length := by omega
    subst e2
    rw [List.drop_length] at q
    exact .inl ⟨w1 (Nat.le_refl _), q.here ati.ok σi ati.env⟩
theorem ss_whl (hp : PassesOwn (model X.prog X.w) X.A X.env X.xe) {W : Nat} {ce : Expr} {body : List Stmt} {mc : Env → Store → R Vl} {mb : Env → Store → R Fl} {pos : Pos} (hc : SB X XR Wx ce (tstM mc)) (hb : SSs X XR Wx body mb) :
    SS X XR Wx (.While ce body [] pos) (fun ρ S => whlL (fun ρ1 Sa => (mc ρ1 Sa).bind fun x Sb => ofO (truth x Sb) Sb) (fun ρ1 Sa => mb ρ1 Sa) W ρ S) := by
  refine (ps_while hp hc hb).imp fun D σ H h => ?_
  obtain ⟨ρ, S, μ, at_, h⟩ := h
  refine ⟨fun m σ' H' => ∃ ρi Si μi, At X.K σ' H' ρi Si μi ∧ PostF X.K XR Wx D Si μi H' (whlL (fun ρ1 Sa => (mc ρ1 Sa).bind fun x Sb => ofO (truth x Sb) Sb) (fun ρ1 Sa => mb ρ1 Sa) m ρi Si), ⟨W, ρ, S, μ, at_, h⟩, ?_⟩
  rintro m σi Hi ⟨ρi, Si, μi, ati, q⟩
  cases m with
  | zero => exact q.elim
  | succ m =>
    unfold whlL at q
    refine ⟨ρi, Si, μi, ati, (q.bindS ati).imp fun b S1 μ1 H1 e1 o1 q1 => ?_⟩
    cases b with
    | false => exact q1.here o1 σi (ati.env.mono e1)
    | true =>
      refine ⟨fun σ' H' => ∃ ρi Si μi, At X.K σ' H' ρi Si μi ∧ PostF X.K XR Wx D Si μi H' (whlL (fun ρ1 Sa => (mc ρ1 Sa).bind fun x Sb => ofO (truth x Sb) Sb) (fun ρ1 Sa => mb ρ1 Sa) m ρi Si), fun σ' H' z => ⟨m, Nat.lt_succ_self m, z⟩, ρi, S1, μ1, ati.mono e1 o1, ?_⟩
      refine (show PostF X.K XR Wx D S1 μ1 H1 ((mb ρi S1).bind _) from q1).bind fun fl S' μ' H' _ e' o' q' => ?_
      cases fl with
      | nx ρ1 => exact fun σ' ev => ⟨ρ1, S', μ', ⟨o', ev⟩, q'⟩
      | ct ρ1 => exact fun σ' ev => ⟨ρ1, S', μ', ⟨o', ev⟩, q'⟩
      | rt v => exact q'.here o'
      | bk ρ1 => exact q'.here o'
      | xc x ρ1 => exact q'.here o'
/-! ### tables -/
abbrev inTM (G : Str → Option PyData) (neg : Bool) (x : Str) (m : Env → Store → R Vl) : Env → Store → R Vl := fun ρ S => (m ρ S).bind fun v S1 => (match v, G x with
    | .d (.str z), some (.dict kvs) => .ok (.d (.bool ((lookD (.inr z) kvs).isSome != neg))) S1
    | _, _ => .fail)
theorem inT_of {K : PySem.W.Frag} {w : World} {mg : Str → Option Value} {x : Str} {kvs : List (PyData × PyData)} {d : Addr} {neg : Bool} {z : Str} (h : match lookD (.inr z) kvs with
  | some dd => ∃ u v, PySem.W.nsIn K d z = some (some u) ∧ RelV v u ∧ ∀ L H, RepD K L H dd v
  | none => PySem.W.nsIn K d z = some none) : ∃ r, PySem.W.nsIn K d z = some r ∧ r.isSome = (lookD (.inr z) kvs).isSome := by
  split at h
  · rename_i dd e
    obtain ⟨u, v, h1, _⟩ := h
    exact ⟨_, h1, by rw [e]; rfl⟩
  · rename_i e
    exact ⟨_, h, by rw [e]; rfl⟩
theorem inT_tm (c : Cxt X T XR k) {neg : Bool} {x : Str} {kvs : List (PyData × PyData)} {d : Addr} (hk : T.G x = some (.dict kvs)) (hd : ∀ z : Str, (match lookD (.inr z) kvs with
  | some dd => ∃ u v, PySem.W.nsIn X.K d z = some (some u) ∧ RelV v u ∧ ∀ L H, RepD X.K L H dd v
  | none => PySem.W.nsIn X.K d z = some none)) {m : Env → Store → R Vl} {σ : L2.St} {H : Hp} {Q : VK} (h : tM X.K XR Wx (inTM T.G neg x m) σ H Q) :
    tM X.K XR Wx m σ H fun v H1 => ∃ (z : Str) (r : Option Value), v = .str z ∧ V.ref d = V.ref d ∧ PySem.W.nsIn X.K d z = some r ∧ Q (.bl (r.isSome != neg)) H1 := by
  obtain ⟨ρ, S, μ, at_, h⟩ := h
  refine ⟨ρ, S, μ, at_, h.bind.imp fun v S1 μ1 H1 e1 o1 q u ru => ?_⟩
  rw [hk] at q
  split at q
  · rename_i z kvs' e
    cases e
    cases ru
    obtain ⟨r, r1, r2⟩ := inT_of (mg := X.mg) (w := X.w) (x := x) (neg := neg) (hd z)
    exact ⟨z, r, rfl, rfl, r1, by rw [r2]; exact q.here o1 _ (.bl _)⟩
  · exact q.elim
theorem inT_bool {G : Str → Option PyData} {neg : Bool} {x : Str} {m : Env → Store → R Vl} {ρ : Env} {S S' : Store} {v : Vl} (h : inTM G neg x m ρ S = .ok v S') : ∃ b, v = .d (.bool b) := by
  obtain ⟨a, S1, _, e⟩ := bind_ok h
  split at e
  · cases e
    exact ⟨_, rfl⟩
  · cases e
theorem se_inT (c : Cxt X T XR k) {neg : Bool} {x : Str} {kvs : List (PyData × PyData)} (hk : T.G x = some (.dict kvs)) {e : Expr} {p pos : Pos} {m : Env → Store → R Vl} (he : SE X XR Wx e m) (hg : Gl X x) (hn : (x == ("__debug__" : Str)) = false) :
    SE X XR Wx (.Compare e [if neg then .NotIn else .In] [.Name x p] pos) (inTM T.G neg x m) ∧ SB X XR Wx (.Compare e [if neg then .NotIn else .In] [.Name x p] pos) (tstM (inTM T.G neg x m)) := by
  obtain ⟨d, es, n, h1, h2, h3⟩ := c.tab x kvs hk
  have hb : PE X (.Name x p) (tC (.ref d)) := pe_glob hg h1 rfl hn
  cases neg with
  | false =>
    have i : ∀ σ H Q, tM X.K XR Wx (inTM T.G false x m) σ H Q → tOp (fun x y H Q => ∃ (z : Str) (r : Option Value), x = .str z ∧ y = .ref d ∧ PySem.W.nsIn X.K d z = some r ∧ Q (.bl r.isSome) H) (tM X.K XR Wx m) (tC (.ref d)) σ H Q := fun σ H Q h => tM_imp (inT_tm c hk h3 h) fun u H ⟨z, r, e1, e2, e3, q⟩ => ⟨z, r, e1, e2, e3, by rw [show (r.isSome != false) = r.isSome by cases r.isSome <;> rfl] at q; exact q⟩
    exact ⟨(pe_cmpR (op_in_kd h2) he hb rfl).imp i, sb_val (fun _ _ _ _ h => inT_bool h) (pt_cmpR (op_in_kd h2) he hb rfl) i⟩
  | true =>
    have i : ∀ σ H Q, tM X.K XR Wx (inTM T.G true x m) σ H Q → tOp (fun x y H Q => ∃ (z : Str) (r : Option Value), x = .str z ∧ y = .ref d ∧ PySem.W.nsIn X.K d z = some r ∧ Q (.bl (!r.isSome)) H) (tM X.K XR Wx m) (tC (.ref d)) σ H Q := fun σ H Q h => tM_imp (inT_tm c hk h3 h) fun u H ⟨z, r, e1, e2, e3, q⟩ => ⟨z, r, e1, e2, e3, by rw [show (r.isSome != true) = !r.isSome by cases r.isSome <;> rfl] at q; exact q⟩
    exact ⟨(pe_cmpR (op_notIn_kd h2) he hb rfl).imp i, sb_val (fun _ _ _ _ h => inT_bool h) (pt_cmpR (op_notIn_kd h2) he hb rfl) i⟩
theorem se_subT (c : Cxt X T XR k) {x : Str} {kvs : List (PyData × PyData)} (hk : T.G x = some (.dict kvs)) {e : Expr} {p pos : Pos} {m : Env → Store → R Vl} (he : SE X XR Wx e m) (hg : Gl X x) (hn : (x == ("__debug__" : Str)) = false) (hs : PlainIx e) :
    SE X XR Wx (.Subscript (.Name x p) e pos) (fun ρ S => (m ρ S).bind fun v S1 => (match v, T.G x with
    | .d (.str z), some (.dict kvs) => (match lookD (.inr z) kvs with
      | some d => .ok (.d d) S1
      | none => .fail)
    | _, _ => .fail)) := by
  obtain ⟨d, es, n, h1, h2, h3⟩ := c.tab x kvs hk
  refine (pe_ix ix_kdict (pe_glob hg h1 (v := .ref d) rfl hn) he hs).imp fun σ H Q h => ?_
  obtain ⟨ρ, S, μ, at_, h⟩ := h
  refine ⟨ρ, S, μ, at_, h.bind.imp fun v S1 μ1 H1 e1 o1 q u ru => ?_⟩
  rw [hk] at q
  split at q
  · rename_i z kvs' e
    cases e
    cases ru
    have hz := h3 z
    split at q
    · rename_i dd ed
      rw [ed] at hz
      obtain ⟨u0, v0, z1, z2, z3⟩ := hz
      exact ⟨d, z, v0, rfl, rfl, ⟨es, n, u0, h2.at_, h2.lit, z1, z2⟩, q.here o1 _ (z3 _ _)⟩
    · exact q.elim
  · exact q.elim
end
end Tz

end
section
/-! Tz.Chk: the checker. -/
namespace Tz
open PySem PySem.Spec PyProof.Rows L2 StX
/-! ### small tests -/
def visB (sc : Scope) (x : Str) : Bool := match sc.names.lookup x with
  | some .local => true
  | some .cell => true
  | some .free => true
  | _ => false
def locB (sc : Scope) (x : Str) : Bool := match sc.names.lookup x with
  | some .local => true
  | some .cell => true
  | _ => false
def localB (sc : Scope) (x : Str) : Bool := match sc.names.lookup x with
  | some .local => true
  | _ => false
def glB (sc : Scope) (x : Str) : Bool := match sc.names.lookup x with
  | some .globalImplicit => true
  | _ => false
def plainNm (x : Str) : Bool := !(x == ("__debug__" : Str)) && !(x == ("__classdict__" : Str))
def isStar : Expr → Bool
  | .Starred .. => true
  | _ => false
def isComp : Expr → Bool
  | .ListComp .. => true
  | .SetComp .. => true
  | .DictComp .. => true
  | _ => false
def isLcE : Expr → Bool
  | .ListComp .. => true
  | _ => false
def isLc : E → Bool
  | .lc .. => true
  | _ => false
def isSet : Expr → Bool
  | .Set .. => true
  | _ => false
def isSlice : Expr → Bool
  | .Slice .. => true
  | _ => false
def isCall : Expr → Bool
  | .Call .. => true
  | _ => false
def isTupE : Expr → Bool
  | .Tuple .. => true
  | _ => false
def isName : Expr → Bool
  | .Name .. => true
  | _ => false
def noStars : List Expr → Bool
  | [] => true
  | e :: es => !isStar e && noStars es
theorem vis_of {sc : Scope} {x : Str} (h : visB sc x = true) : Vis sc x := by
  unfold visB at h
  split at h
  · exact .inl (by assumption)
  · exact .inr (.inl (by assumption))
  · exact .inr (.inr (by assumption))
  · cases h
theorem loc_of {sc : Scope} {x : Str} (h : locB sc x = true) : Loc sc x := by
  unfold locB at h
  split at h
  · exact .inl (by assumption)
  · exact .inr (by assumption)
  · cases h
theorem local_of {sc : Scope} {x : Str} (h : localB sc x = true) : sc.names.lookup x = some .local := by
  unfold localB at h
  split at h
  · assumption
  · cases h
theorem gl_of {X : Cx} {x : Str} (h : glB X.env.scope x = true) : Gl X x := by
  unfold glB at h
  show X.env.scope.names.lookup x = _
  split at h
  · assumption
  · cases h
theorem plain_of {x : Str} (h : plainNm x = true) : (x == ("__debug__" : Str)) = false ∧ (x == ("__classdict__" : Str)) = false := by
  unfold plainNm at h
  simp only [Bool.and_eq_true, Bool.not_eq_true'] at h
  exact h
theorem star_one {e : Expr} {es : List Expr} {env : PySem.Env} (h : isStar e = false) : starEach (e :: es) env = (false, eval e env) :: starEach es env := by
  cases e <;> first | rfl | (exact absurd h (by simp [isStar]))
theorem star_none {pos : Pos} {env : PySem.Env} : ∀ {es : List Expr}, noStars es = true → (backTo pos (starEach es env)).any (·.1) = false ∧ (backTo pos (starEach es env)).all (fun x => !x.1) = true
  | [], _ => ⟨rfl, rfl⟩
  | e :: es, h => by
    unfold noStars at h
    simp only [Bool.and_eq_true, Bool.not_eq_true'] at h
    obtain ⟨z1, z2⟩ := star_none (pos := pos) (env := env) h.2
    rw [star_one h.1]
    unfold backTo at z1 z2 ⊢
    rw [List.map_cons, List.any_cons, List.all_cons, z1, z2]
    exact ⟨rfl, rfl⟩
theorem swaps_none {e : Expr} {t : Option Expr} {l : Nat} {env : PySem.Env} (h : isComp e = false) : swapsWith e t l env = pure false := by
  cases e <;> first | rfl | (exact absurd h (by simp [isComp]))
theorem swaps_tg {e t : Expr} {l : Nat} {env : PySem.Env} (h : isName t = false) : swapsWith e (some t) l env = pure false := by
  cases e <;> first | rfl | (cases t <;> first | rfl | (exact absurd h (by simp [isName])))
theorem folded_ok {e : Expr} {env : PySem.Env} (h : isSet e = false) : ∀ x, foldedSetIterable e env x = pure x := by
  intro x
  cases e <;> first | rfl | (exact absurd h (by simp [isSet]))
theorem plainIx_ok {e : Expr} (h : isSlice e = false) : PlainIx e := by
  intro o i
  cases e <;> first | rfl | (exact absurd h (by simp [isSlice]))
theorem base_ok {o : Expr} {nm : Str} {env : PySem.Env} (h : isCall o = false) : attributeBase o nm env (eval o env) = eval o env := by
  cases o <;> first | rfl | (exact absurd h (by simp [isCall]))
theorem each_ok {tg : Expr} {es : List Expr} {env : PySem.Env} (h : isStar tg = false) : (assignEach (tg :: es) env).map (·.2) = assign tg env :: (assignEach es env).map (·.2) ∧ assignEach (tg :: es) env = (false, assign tg env) :: assignEach es env := by
  cases tg <;> first | exact ⟨rfl, rfl⟩ | (exact absurd h (by simp [isStar]))
/-- what the stores' order is -/
def swOf (tg e : Expr) (sc : Scope) : Option (Option (List Str)) := match tg, e with
  | .Tuple ts _ _, .Tuple vs _ _ =>
    if !(ts.length == 2 || ts.length == 3) || vs.length != ts.length then some none
    else if (vs.any fun | .Starred .. => true | _ => false) = true then some none
    else
      let line := (ts.head?.map (·.pos.line)).getD 0
      let names := ts.filterMap fun
        | .Name id pos => if sc.names.lookup id == some .local && pos.line == line then some id else none
        | _ => none
      if names.length != ts.length || names.eraseDups.length != names.length then some none
      else if vs.all (foldedForSure 8) then some none
      else if vs.all (constantsAlone 8) then none
      else some (some names)
  | .List .., _ => none
  | _, _ => some none
theorem blockKind_fn {env : PySem.Env} (hk : env.scope.kind = .function) : env.blockKind = .function := by
  unfold PySem.Env.blockKind
  rw [hk]
  rfl
theorem swOf_ok {tg e : Expr} {env : PySem.Env} {r : Option (List Str)} (hk : env.scope.kind = .function) (h : swOf tg e env.scope = some r) : swappedStores [tg] e env = pure r := by
  have hb := blockKind_fn hk
  unfold swOf at h
  unfold swappedStores
  cases tg with
  | List a b => cases h
  | Tuple ts a b =>
    cases e with
    | Tuple vs c d =>
      dsimp only at h ⊢
      rw [hb]
      have hbb : (ScopeKind.function != ScopeKind.function) = false := by decide
      rw [hbb, Bool.or_false]
      split at h
      · rename_i h1
        cases h
        rw [if_pos h1]
      · rename_i h1
        rw [if_neg h1]
        split at h
        · rename_i h2
          cases h
          exact if_pos h2
        · rename_i h2
          refine (if_neg h2).trans ?_
          split at h
          · rename_i h3
            cases h
            exact if_pos h3
          · rename_i h3
            refine (if_neg h3).trans ?_
            split at h
            · rename_i h4
              cases h
              exact if_pos h4
            · rename_i h4
              refine (if_neg h4).trans ?_
              split at h
              · cases h
              · rename_i h5
                cases h
                exact if_neg h5
    | _ => cases h; rfl
  | _ => cases h; rfl
/-- is the comprehension's own store used -/
def swB (e : Expr) (t : Str) (p : Pos) (sc : Scope) : Bool := match e with
  | .ListComp _ _ scope q => localB sc t && (p.line == q.line && !(scope.names.any fun (n, k) => n == t && (k == .local || k == .cell)))
  | .SetComp .. => true
  | .DictComp .. => true
  | _ => false
theorem swB_ok {e : Expr} {t : Str} {p : Pos} {l : Nat} {env : PySem.Env} (hk : env.scope.kind = .function) (h : swB e t p env.scope = false) : swapsWith e (some (.Name t p)) l env = pure false := by
  have hb := blockKind_fn hk
  cases e with
  | ListComp a b scope q =>
    unfold swapsWith
    simp only [hb]
    unfold swB localB at h
    have key : (env.kindOf t == some NameKind.local) = (match env.scope.names.lookup t with | some .local => true | _ => false) := by
      show (env.scope.names.lookup t == some NameKind.local) = _
      cases env.scope.names.lookup t with
      | none => rfl
      | some k => cases k <;> rfl
    show (pure (true && env.kindOf t == some NameKind.local && p.line == q.line && !(scope.names.any fun (n, k) => n == t && (k == .local || k == .cell))) : Sem Bool) = pure false
    rw [key, Bool.true_and]
    dsimp only at h
    rw [Bool.and_assoc, h]
  | SetComp a b c d => cases h
  | DictComp a b c d e => cases h
  | _ => rfl
theorem swB_true {elt : Expr} {gs : List Comprehension} {scope : Scope} {pos p : Pos} {t : Str} {l : Nat} {env : PySem.Env} (hk : env.scope.kind = .function) (h : swB (.ListComp elt gs scope pos) t p env.scope = true) : swapsWith (.ListComp elt gs scope pos) (some (.Name t p)) l env = pure true ∧ env.scope.names.lookup t = some .local := by
  unfold swB at h
  simp only [Bool.and_eq_true, Bool.not_eq_true'] at h
  exact ⟨sw_true hk (local_of h.1) h.2.1 h.2.2, local_of h.1⟩
def conOk : Const → PyData → Bool
  | .none, .none => true
  | .bool a, .bool b => a == b
  | .int i, .int j => i == j
  | .str x, .str y => x == y
  | _, _ => false
def keyE (k : Key) : Expr → Bool
  | .Constant c _ _ => conOk c (keyD k)
  | _ => false
def ownOf (N : List Str) (own : List Nat) : List (Str × Nat) := own.filterMap fun i => (N[i]?).map fun x => (x, i)
def noIte : E → Bool
  | .ite .. => false
  | .not a => noIte a
  | .and a b => noIte a && noIte b
  | .or a b => noIte a && noIte b
  | .one a => noIte a
  | _ => true
def cmpEq (a b : CmpOp) : Bool := decide (a = b)
def opEq (a b : Operator) : Bool := decide (a = b)
mutual
def ckT (N : List Str) (sc : Scope) (fnb : Str → Bool) : Tg → Expr → Bool
  | .nm i, e => (match e with
    | .Name x _ => decide (N[i]? = some x) && (locB sc x && (fnb x || localB sc x))
    | _ => false)
  | .tp ts, e => (match e with
    | .Tuple es _ _ => ckTs N sc fnb ts es
    | _ => false)
def ckTs (N : List Str) (sc : Scope) (fnb : Str → Bool) : Tgs → List Expr → Bool
  | .nil, es => (match es with
    | [] => true
    | _ => false)
  | .cons t ts, es => (match es with
    | e :: r => !isStar e && (ckT N sc fnb t e && ckTs N sc fnb ts r)
    | [] => false)
end
section
variable (T : Prog)
mutual
def ckE (N : List Str) (sc : Scope) (fnb : Str → Bool) : E → Expr → Bool
  | .con d, e => (match e with
    | .Constant c _ _ => conOk c d
    | _ => false)
  | .var i, e => (match e with
    | .Name x _ => decide (N[i]? = some x) && (visB sc x && plainNm x)
    | _ => false)
  | .frz i, e => (match e with
    | .Name x _ => decide (N[i]? = some x) && (visB sc x && plainNm x)
    | _ => false)
  | .glob x, e => (match e with
    | .Name y _ => decide (x = y) && (glB sc x && (plainNm x && (match T.G x with
      | some d => scal d
      | none => false)))
    | _ => false)
  | .bin op a b, e => (match e with
    | .BinOp l o r _ => opEq op o && (ckE N sc fnb a l && ckE N sc fnb b r)
    | _ => false)
  | .binL op a b, e => (match e with
    | .BinOp l o r _ => opEq op o && (ckE N sc fnb a l && ckE N sc fnb b r)
    | _ => false)
  | .neg a, e => (match e with
    | .UnaryOp .USub o _ => ckE N sc fnb a o
    | _ => false)
  | .not a, e => (match e with
    | .UnaryOp .Not o _ => ckE N sc fnb a o
    | _ => false)
  | .cmp op a b, e => (match e with
    | .Compare l [o] [r] _ => cmpEq op o && (ckE N sc fnb a l && (ckE N sc fnb b r && !behindInMarks op r))
    | _ => false)
  | .cmp2 op op2 a b c, e => (match e with
    | .Compare l [o, o2] [r, r2] _ => cmpEq op o && (cmpEq op2 o2 && (ckE N sc fnb a l && (ckE N sc fnb b r && (ckE N sc fnb c r2 && !behindInMarks op2 r2))))
    | _ => false)
  | .and a b, e => (match e with
    | .BoolOp .And (x :: y :: r) _ => ckE N sc fnb a x && ckL N sc fnb b .And (y :: r)
    | _ => false)
  | .or a b, e => (match e with
    | .BoolOp .Or (x :: y :: r) _ => ckE N sc fnb a x && ckL N sc fnb b .Or (y :: r)
    | _ => false)
  | .one _, _ => false
  | .ite c a b, e => (match e with
    | .IfExp t x y _ => ckE N sc fnb c t && (noIte c && (ckE N sc fnb a x && ckE N sc fnb b y))
    | _ => false)
  | .tup es, e => (match e with
    | .Tuple l _ _ => ckEs N sc fnb es l
    | _ => false)
  | .lst _ es, e => (match e with
    | .List l _ => ckEs N sc fnb es l
    | _ => false)
  | .dic _ ks es, e => (match e with
    | .Dict kes l _ => decide (ks.length ≤ 15) && ckD N sc fnb es ks kes l
    | _ => false)
  | .sub a i, e => (match e with
    | .Subscript o s _ => !isSlice s && (ckE N sc fnb a o && ckE N sc fnb i s)
    | _ => false)
  | .slc a lo hi, e => (match e with
    | .Subscript o (.Slice l h none _) _ => ckE N sc fnb a o && (ckP N sc fnb lo l && ckP N sc fnb hi h)
    | _ => false)
  | .rev a, e => (match e with
    | .Subscript o (.Slice none none (some (.UnaryOp .USub (.Constant (.int i) _ _) _)) _) _ => decide (i = 1) && ckE N sc fnb a o
    | _ => false)
  | .call f es, e => (match e with
    | .Call (.Name x _) l [] _ => decide (f = x) && (glB sc f && (plainNm f && ((T.fns.lookup f).isSome && (noStars l && ckEs N sc fnb es l))))
    | _ => false)
  | .bi b es, e => (match e with
    | .Call (.Name x _) (y :: l) [] _ => decide (biName b = x) && (glB sc x && (noStars (y :: l) && ckEs N sc fnb es (y :: l)))
    | _ => false)
  | .isi a ts, e => (match e with
    | .Call (.Name x _) [o, .Name t _] [] _ => decide (x = "isinstance") && (!isStar o && (ckE N sc fnb a o && (match ts with
      | [c] => decide (c ∈ isiNames) && (decide (tyStr c = t) && (glB sc x && glB sc t))
      | _ => false)))
    | _ => false)
  | .met m o es, e => (match e with
    | .Call (.Attribute b nm ap) l [] cp => decide (mtNm m = nm) && (!isCall b && ((ap.endLine == cp.line) && (decide (l.length < 20) && (noStars l && (ckE N sc fnb o b && ckEs N sc fnb es l)))))
    | _ => false)
  | .inT neg x a, e => (match e with
    | .Compare o [op] [.Name y _] _ => decide (x = y) && (cmpEq op (if neg then .NotIn else .In) && (glB sc x && (plainNm x && ((match T.G x with
      | some (.dict _) => true
      | _ => false) && ckE N sc fnb a o))))
    | _ => false)
  | .subT x a, e => (match e with
    | .Subscript (.Name y _) s _ => decide (x = y) && (!isSlice s && (glB sc x && (plainNm x && ((match T.G x with
      | some (.dict _) => true
      | _ => false) && ckE N sc fnb a s))))
    | _ => false)
  | .lc _ own tg it c elt, e => (match e with
    | .ListComp x [⟨t, i, ifs, a⟩] scope _ => decide (a = 0) && (blkC N sc scope (ownOf N own) && (decide ((ownOf N own).map (·.2) = own) && ((slotsT tg).all (fun j => decide (j ∈ own)) && (!isSet i && (ckI N sc fnb it i t &&
        (ckT N (relS scope sc) (fun x => scope.names.lookup x == some .cell) tg t && (ckC N (relS scope sc) (fun x => scope.names.lookup x == some .cell) c ifs && ckE N (relS scope sc) (fun x => scope.names.lookup x == some .cell) elt x)))))))
    | _ => false)
  | .lc2 .., _ => false
/-- the tail of a chain of and, or -/
def ckL (N : List Str) (sc : Scope) (fnb : Str → Bool) : E → BoolOp → List Expr → Bool
  | .one c, _, l => (match l with
    | [y] => ckE N sc fnb c y
    | _ => false)
  | .and a b, op, l => (match op, l with
    | .And, y :: z :: r => ckE N sc fnb a y && ckL N sc fnb b .And (z :: r)
    | _, _ => false)
  | .or a b, op, l => (match op, l with
    | .Or, y :: z :: r => ckE N sc fnb a y && ckL N sc fnb b .Or (z :: r)
    | _, _ => false)
  | _, _, _ => false
def ckP (N : List Str) (sc : Scope) (fnb : Str → Bool) : P → Option Expr → Bool
  | .no, e => (match e with
    | none => true
    | _ => false)
  | .so c, e => (match e with
    | some x => ckE N sc fnb c x
    | none => false)
def ckC (N : List Str) (sc : Scope) (fnb : Str → Bool) : P → List Expr → Bool
  | .no, l => (match l with
    | [] => true
    | _ => false)
  | .so c, l => (match l with
    | [x] => ckE N sc fnb c x && noIte c
    | _ => false)
def ckEs (N : List Str) (sc : Scope) (fnb : Str → Bool) : Es → List Expr → Bool
  | .nil, l => (match l with
    | [] => true
    | _ => false)
  | .cons c cs, l => (match l with
    | e :: r => !isStar e && (ckE N sc fnb c e && ckEs N sc fnb cs r)
    | [] => false)
  | .star c cs, l => (match l with
    | .Starred e _ :: r => ckE N sc fnb c e && ckEs N sc fnb cs r
    | _ => false)
def ckD (N : List Str) (sc : Scope) (fnb : Str → Bool) : Es → List Key → List (Option Expr) → List Expr → Bool
  | .nil, ks, kes, l => (match ks, kes, l with
    | [], [], [] => true
    | _, _, _ => false)
  | .cons c cs, ks, kes, l => (match ks, kes, l with
    | k :: kr, some ke :: ker, e :: r => keyE k ke && (ckE N sc fnb c e && ckD N sc fnb cs kr ker r)
    | _, _, _ => false)
  | .star _ _, _, _, _ => false
def ckI (N : List Str) (sc : Scope) (fnb : Str → Bool) : I → Expr → Expr → Bool
  | .of c, e, _ => ckE N sc fnb c e
  | .rng es, e, _ => (match e with
    | .Call (.Name x _) [a] [] _ => decide (x = "range") && (glB sc x && (!isStar a && ckEs N sc fnb es [a]))
    | .Call (.Name x _) [a, b] [] _ => decide (x = "range") && (glB sc x && (!isStar a && (!isStar b && ckEs N sc fnb es [a, b])))
    | _ => false)
  | .enum c, e, tg => isTupE tg && (match e with
    | .Call (.Name x _) [a] [] _ => decide (x = "enumerate") && (glB sc x && (!isStar a && ckE N sc fnb c a))
    | _ => false)
  | .zip c d, e, tg => isTupE tg && (match e with
    | .Call (.Name x _) [a, b] [] _ => decide (x = "zip") && (glB sc x && (!isStar a && (!isStar b && (ckE N sc fnb c a && ckE N sc fnb d b))))
    | _ => false)
  | _, _, _ => false
end
mutual
def ckS (N : List Str) (sc : Scope) (fnb : Str → Bool) : St → Stmt → Bool
  | .expr c, s => (match s with
    | .Expr e _ => !isComp e && ckE T N sc fnb c e
    | _ => false)
  | .asg t c, s => (match s with
    | .Assign ts e _ => (match ts with
      | [tg] => if isName tg && isComp e then isLc c && (isLcE e && (ckT N sc fnb t tg && ckE T N sc fnb c e)) else
          !isStar tg && (ckT N sc fnb t tg && (!isComp e && (ckE T N sc fnb c e && (match swOf tg e sc with
            | some none => true
            | _ => false))))
      | _ => false)
    | _ => false)
  | .par2 i j a b, s => (match s with
    | .Assign [.Tuple [.Name x px, .Name y py] kt pt] (.Tuple [e, f] k2 p2) _ => decide (N[i]? = some x) && (decide (N[j]? = some y) && (decide (i ≠ j) && (localB sc x && (localB sc y && (!isStar e && (!isStar f && (ckE T N sc fnb a e && (ckE T N sc fnb b f &&
        decide (swOf (.Tuple [.Name x px, .Name y py] kt pt) (.Tuple [e, f] k2 p2) sc = some (some [x, y]))))))))))
    | _ => false)
  | .par3 i j l a b c, s => (match s with
    | .Assign [.Tuple [.Name x px, .Name y py, .Name z pz] kt pt] (.Tuple [e, f, g] k2 p2) _ => decide (N[i]? = some x) && (decide (N[j]? = some y) && (decide (N[l]? = some z) && (decide (i ≠ j ∧ i ≠ l ∧ j ≠ l) && (localB sc x && (localB sc y && (localB sc z && (!isStar e && (!isStar f && (!isStar g && (ckE T N sc fnb a e && (ckE T N sc fnb b f && (ckE T N sc fnb c g &&
        decide (swOf (.Tuple [.Name x px, .Name y py, .Name z pz] kt pt) (.Tuple [e, f, g] k2 p2) sc = some (some [x, y, z]))))))))))))))
    | _ => false)
  | .put o i v, s => (match s with
    | .Assign [.Subscript a b _] e _ => !isSlice b && (!isComp e && (ckE T N sc fnb v e && (ckE T N sc fnb o a && ckE T N sc fnb i b)))
    | _ => false)
  | .aug i op c, s => (match s with
    | .AugAssign (.Name x _) o e _ => opEq op o && (decide (N[i]? = some x) && (locB sc x && ((fnb x || localB sc x) && ckE T N sc fnb c e)))
    | _ => false)
  | .ret c, s => (match s with
    | .Return (some e) _ => ckE T N sc fnb c e
    | _ => false)
  | .retN, s => (match s with
    | .Return none _ => true
    | _ => false)
  | .ifs c t u, s => (match s with
    | .If e a b _ => ckE T N sc fnb c e && (noIte c && (ckSs N sc fnb t a && ckSs N sc fnb u b))
    | _ => false)
  | .for_ t it body, s => (match s with
    | .For tg iter b [] _ => ckT N sc fnb t tg && (!isSet iter && (ckI T N sc fnb it iter tg && ckSs N sc fnb body b))
    | _ => false)
  | .whl c body, s => (match s with
    | .While e b [] _ => ckE T N sc fnb c e && (noIte c && ckSs N sc fnb body b)
    | _ => false)
  | .pass, s => (match s with
    | .Pass _ => true
    | _ => false)
  | .brk, s => (match s with
    | .Break _ => true
    | _ => false)
  | .cnt, s => (match s with
    | .Continue _ => true
    | _ => false)
def ckSs (N : List Str) (sc : Scope) (fnb : Str → Bool) : Ss → List Stmt → Bool
  | .nil, l => (match l with
    | [] => true
    | _ => false)
  | .cons s ss, l => (match l with
    | x :: r => ckS N sc fnb s x && ckSs N sc fnb ss r
    | [] => false)
end
end
end Tz

end
section
/-! Tz.Zip: zip of two of any iterators that are drawn (lists, tuples, in any mix). -/
namespace Tz
open PySem PySem.Spec PyProof.Rows L2 RZ
open PySem.Sem (wp)
section
variable {prog : Program} {w : World} {A : Around} {E : Value → Shared → Prop} {s : Shared}
/-- an iterator that nextOf draws from -/
structure Drw (prog : Program) (w : World) (A : Around) (it : Addr) (fp : List Addr) (n : Nat) (P : Nat → Value → Prop) (St : Nat → Heap → Prop) : Prop where
  frame : ∀ i h h', St i h → (∀ b ∈ fp, ∀ o, h.get? b = some o → h'.get? b = some o) → St i h'
  item : ∀ i (s : Shared) (Q : Value → Shared → Prop) (E : Value → Shared → Prop), i < n → St i s.heap →
    (∀ x h', P i x → St (i + 1) h' → Heap.SameBut it s.heap h' → Q x { s with heap := h' }) → wpAny (model prog w) A (Builtin.SmallTypes.nextOf (.ref it)) Q E s
  done : ∀ i (s : Shared) (Q : Value → Shared → Prop) (E : Value → Shared → Prop), n ≤ i → St i s.heap →
    (∀ h' e, Heap.ExtBut it s.heap h' → (∃ o, h'.get? e = some o ∧ o.cls = .type "StopIteration") → E (.ref e) { s with heap := h' }) → wpAny (model prog w) A (Builtin.SmallTypes.nextOf (.ref it)) Q E s
/-- a list (false) or a tuple (true) -/
def SeqB (t : Bool) (h : Heap) (l : Addr) (items : Array Value) : Prop := match t with
  | true => h.IsTuple l items
  | false => h.IsList l items
def IterB (t : Bool) (h : Heap) (it l : Addr) (i : Nat) : Prop := match t with
  | true => h.IsTupleIter it l i
  | false => h.IsListIter it l i
def itN (t : Bool) : String := match t with
  | true => "tuple_iterator"
  | false => "list_iterator"
theorem SeqB.at {t : Bool} {h h' : Heap} {l : Addr} {items : Array Value} (x : SeqB t h l items) (e : ∀ o, h.get? l = some o → h'.get? l = some o) : SeqB t h' l items := by
  cases t
  · obtain ⟨o, ho, r⟩ := x; exact ⟨o, e _ ho, r⟩
  · obtain ⟨o, ho, r⟩ := x; exact ⟨o, e _ ho, r⟩
theorem IterB.at {t : Bool} {h h' : Heap} {it l : Addr} {i : Nat} (x : IterB t h it l i) (e : ∀ o, h.get? it = some o → h'.get? it = some o) : IterB t h' it l i := by
  cases t
  · obtain ⟨o, ho, r⟩ := x; exact ⟨o, e _ ho, r⟩
  · obtain ⟨o, ho, r⟩ := x; exact ⟨o, e _ ho, r⟩
theorem IterB.obj {t : Bool} {h : Heap} {it l : Addr} {i : Nat} (x : IterB t h it l i) : ∃ o, h.get? it = some o ∧ ∀ v, o.data ≠ .cell v := by
  cases t
  · obtain ⟨o, ho, _, r⟩ := x; exact ⟨o, ho, fun v q => by rw [r] at q; cases q⟩
  · obtain ⟨o, ho, _, r⟩ := x; exact ⟨o, ho, fun v q => by rw [r] at q; cases q⟩
theorem drwB (hh : A.handled = none) (t : Bool) (it l : Addr) (hne : l ≠ it) (items : Array Value) : Drw prog w A it [it, l] items.size (fun i v => items[i]? = some v) (fun i h => IterB t h it l i ∧ SeqB t h l items) where
  frame := fun i h h' st k => ⟨st.1.at fun o e => k it (by simp) o e, st.2.at fun o e => k l (by simp) o e⟩
  item := fun i s Q E hi st hQ => by
    have hx : items[i]? = some items[i] := by simp [hi]
    cases t
    · exact wpAny_nextOf_list_item st.1 st.2 hx fun h' h1 sb => hQ _ h' hx ⟨h1, SeqB.at (t := false) st.2 fun o e => sb.extBut _ _ hne e⟩ sb
    · exact nextOf_tuple_item st.1 st.2 hx fun h' h1 sb => hQ _ h' hx ⟨h1, SeqB.at (t := true) st.2 fun o e => sb.extBut _ _ hne e⟩ sb
  done := fun i s Q E hi st hE => by
    have hx : items[i]? = none := by simp [hi]
    cases t
    · exact wpAny_nextOf_list_end hh st.1 st.2 hx hE
    · exact nextOf_tuple_end hh st.1 st.2 hx hE
/-- the parts of a zip stand apart -/
structure Apart (z TI TO i1 i2 : Addr) (f1 f2 : List Addr) : Prop where
  TIz : TI ≠ z
  TOz : TO ≠ z
  i1z : i1 ≠ z
  i2z : i2 ≠ z
  TITO : TI ≠ TO
  TIi1 : TI ≠ i1
  TIi2 : TI ≠ i2
  TOi1 : TO ≠ i1
  TOi2 : TO ≠ i2
  i12 : i1 ≠ i2
  a1 : ∀ b ∈ f1, b ≠ z ∧ b ≠ TO ∧ b ≠ i2
  a2 : ∀ b ∈ f2, b ≠ z ∧ b ≠ TO ∧ b ≠ i1
variable {z TI TO i1 i2 : Addr} {f1 f2 : List Addr} {n1 n2 : Nat} {P1 P2 : Nat → Value → Prop} {S1 S2 : Nat → Heap → Prop}
theorem zipD_item {i : Nat} {a b : Value} {Q : Value → Shared → Prop} (D : Apart z TI TO i1 i2 f1 f2) (D1 : Drw prog w A.in1 i1 f1 n1 P1 S1) (D2 : Drw prog w A.in1 i2 f2 n2 P2 S2)
    (hz : IsZip s.heap z TI TO .none) (hTI : IsPair s.heap TI (.ref i1) (.ref i2)) (hTO : IsPair s.heap TO a b) (h1 : S1 i s.heap) (h2 : S2 i s.heap) (l1 : i < n1) (l2 : i < n2)
    (hQ : ∀ x y h', P1 i x → P2 i y → IsZip h' z TI TO (rawInt s.heap.objs.size) → IsPair h' TO x y → S1 (i + 1) h' → S2 (i + 1) h' → IsPair h' s.heap.objs.size x y → h'.objs.size = s.heap.objs.size + 1 →
      (∀ c o, c ≠ z → c ≠ TO → c ≠ i1 → c ≠ i2 → s.heap.get? c = some o → h'.get? c = some o) → Q (.ref s.heap.objs.size) { s with heap := h' }) :
    wpAny (model prog w) A.in1 (Builtin.«zip.__next__» ⟨[.ref z], []⟩) (fun fin s' => ∃ v, fin = .done (.ret v) ∧ Q v s') E s := by
  show wpAny _ _ (field (.ref z) 2 >>= _) _ _ _
  refine wpAny_bind (wpAny_field hz rfl (x := .bool false) rfl ?_)
  show wpAny _ _ (field (.ref z) 3 >>= _) _ _ _
  refine wpAny_bind (wpAny_field hz rfl (x := .ref TI) rfl ?_)
  refine wpAny_bind (wpAny_seqItems hTI rfl ?_)
  show wpAny _ _ (Builtin.SmallTypes.ownedTupleIsFree (.ref z) >>= _) _ _ _
  refine wpAny_bind ?_
  unfold Builtin.SmallTypes.ownedTupleIsFree
  refine wpAny_bind (wpAny_field hz rfl (x := .none) rfl (wpAny_pure ?_))
  simp only [if_true]
  refine wpAny_bind (wpAny_rule ?_)
  refine wpAny_bind (wpAny_field hz rfl (x := .ref TO) rfl ?_)
  refine wpAny_bind (wpAny_setField_rec hz (by simp) fun h₁ hz₁ hs₁ => ?_)
  replace hz₁ : IsZip h₁ z TI TO .ellipsis := hz₁
  refine wpAny_bind ?_
  simp only [List.zipIdx_cons, List.zipIdx_nil, List.forIn_cons, List.forIn_nil]
  have c1 : ∀ c o, c ≠ z → s.heap.get? c = some o → h₁.get? c = some o := fun c o q e => hs₁.extBut _ _ q e
  refine wpAny_bind (wpAny_bind (wpAny_onRaise ?_))
  show wpAny _ _ (Builtin.SmallTypes.nextOf (.ref i1) >>= _) _ _ _
  refine wpAny_bind (D1.item i _ _ _ l1 (D1.frame _ _ _ h1 fun b hb o e => c1 b o (D.a1 b hb).1 e) fun x h₂ p1 s12 hs₂ => wpAny_pure ?_)
  have hTO₂ : IsPair h₂ TO a b := hs₂.extBut _ _ D.TOi1 (c1 _ _ D.TOz hTO)
  refine wpAny_bind (wpAny_seqItems hTO₂ rfl ?_)
  refine wpAny_bind (wpAny_updateSeq_pair hTO₂ fun h₃ hTO₃ hs₃ => ?_)
  replace hTO₃ : IsPair h₃ TO x b := hTO₃
  refine wpAny_bind (wpAny_letGo (wpAny_pure ?_))
  have c3 : ∀ c o, c ≠ z → c ≠ i1 → c ≠ TO → s.heap.get? c = some o → h₃.get? c = some o := fun c o q q1 q2 e => hs₃.extBut _ _ q2 (hs₂.extBut _ _ q1 (c1 c o q e))
  refine wpAny_bind (wpAny_bind (wpAny_onRaise ?_))
  show wpAny _ _ (Builtin.SmallTypes.nextOf (.ref i2) >>= _) _ _ _
  refine wpAny_bind (D2.item i _ _ _ l2 (D2.frame _ _ _ h2 fun b hb o e => c3 b o (D.a2 b hb).1 (D.a2 b hb).2.2 (D.a2 b hb).2.1 e) fun y h₄ p2 s24 hs₄ => wpAny_pure ?_)
  have hTO₄ : IsPair h₄ TO x b := hs₄.extBut _ _ D.TOi2 hTO₃
  refine wpAny_bind (wpAny_seqItems hTO₄ rfl ?_)
  refine wpAny_bind (wpAny_updateSeq_pair hTO₄ fun h₅ hTO₅ hs₅ => ?_)
  replace hTO₅ : IsPair h₅ TO x y := hTO₅
  refine wpAny_bind (wpAny_letGo (wpAny_pure (wpAny_pure ?_)))
  refine wpAny_bind (wpAny_seqItems hTO₅ rfl ?_)
  refine wpAny_bind (wpAny_newTuple ?_)
  have hsz : h₅.objs.size = s.heap.objs.size := by rw [hs₅.1, hs₄.1, hs₃.1, hs₂.1, hs₁.1]
  have hz₅ : IsZip h₅ z TI TO .ellipsis := hs₅.extBut _ _ D.TOz.symm (hs₄.extBut _ _ D.i2z.symm (hs₃.extBut _ _ D.TOz.symm (hs₂.extBut _ _ D.i1z.symm hz₁)))
  have hk₅ : ∀ c o, c ≠ z → c ≠ TO → c ≠ i1 → c ≠ i2 → s.heap.get? c = some o → h₅.get? c = some o := fun c o q1 q2 q3 q4 e => hs₅.extBut _ _ q2 (hs₄.extBut _ _ q4 (c3 c o q1 q3 q2 e))
  have s15 : S1 (i + 1) h₅ := D1.frame _ _ _ s12 fun b hb o e => hs₅.extBut _ _ (D.a1 b hb).2.1 (hs₄.extBut _ _ (D.a1 b hb).2.2 (hs₃.extBut _ _ (D.a1 b hb).2.1 e))
  have s25 : S2 (i + 1) h₅ := D2.frame _ _ _ s24 fun b hb o e => hs₅.extBut _ _ (D.a2 b hb).2.1 e
  have hzlt : z < h₅.objs.size := Heap.lt_size hz₅
  show wpAny _ _ (Builtin.SmallTypes.ownedTupleHandOut (.ref z) (.ref h₅.objs.size) >>= _) _ _ _
  refine wpAny_bind ?_
  unfold Builtin.SmallTypes.ownedTupleHandOut
  have hz₆ : IsZip (h₅.push { cls := .type "tuple", data := .seq #[x, y] }) z TI TO .ellipsis := Heap.get?_push_of_some _ hz₅
  refine wpAny_bind (wpAny_setField_rec hz₆ (by simp) fun h₇ hz₇ hs₇ => ?_)
  replace hz₇ : IsZip h₇ z TI TO (rawInt h₅.objs.size) := hz₇
  refine wpAny_setField_rec hz₇ (by simp) fun h₈ hz₈ hs₈ => ?_
  replace hz₈ : IsZip h₈ z TI TO (rawInt h₅.objs.size) := hz₈
  have up : ∀ c o, c ≠ z → h₅.get? c = some o → h₈.get? c = some o := fun c o q e => hs₈.extBut _ _ q (hs₇.extBut _ _ q (Heap.get?_push_of_some _ e))
  have hT₈ : IsPair h₈ h₅.objs.size x y := hs₈.extBut _ _ (Nat.ne_of_gt hzlt) (hs₇.extBut _ _ (Nat.ne_of_gt hzlt) (Heap.get?_push_size _ rfl))
  have hz8 : h₈.objs.size = h₅.objs.size + 1 := by rw [hs₈.1, hs₇.1, Heap.size_push]
  rw [hsz] at hz₈ hT₈ hz8
  refine wpAny_pure ⟨_, rfl, ?_⟩
  show Q (.ref h₅.objs.size) _
  rw [hsz]
  exact hQ x y h₈ p1 p2 hz₈ (up _ _ D.TOz hTO₅) (D1.frame _ _ _ s15 fun b hb o e => up _ o (D.a1 b hb).1 e) (D2.frame _ _ _ s25 fun b hb o e => up _ o (D.a2 b hb).1 e) hT₈ hz8 fun c o q1 q2 q3 q4 e => up c o q1 (hk₅ c o q1 q2 q3 q4 e)
theorem zipD_end {i : Nat} {a b : Value} {Q : Fin → Shared → Prop} (D : Apart z TI TO i1 i2 f1 f2) (D1 : Drw prog w A.in1 i1 f1 n1 P1 S1) (D2 : Drw prog w A.in1 i2 f2 n2 P2 S2)
    (hz : IsZip s.heap z TI TO .none) (hTI : IsPair s.heap TI (.ref i1) (.ref i2)) (hTO : IsPair s.heap TO a b) (h1 : S1 i s.heap) (h2 : S2 i s.heap) (he : n1 ≤ i ∨ n2 ≤ i)
    (hE : ∀ h' e, (∀ c o, c ≠ z → c ≠ TO → c ≠ i1 → c ≠ i2 → s.heap.get? c = some o → h'.get? c = some o) → (∃ o, h'.get? e = some o ∧ o.cls = .type "StopIteration") → E (.ref e) { s with heap := h' }) :
    wpAny (model prog w) A.in1 (Builtin.«zip.__next__» ⟨[.ref z], []⟩) Q E s := by
  show wpAny _ _ (field (.ref z) 2 >>= _) _ _ _
  refine wpAny_bind (wpAny_field hz rfl (x := .bool false) rfl ?_)
  show wpAny _ _ (field (.ref z) 3 >>= _) _ _ _
  refine wpAny_bind (wpAny_field hz rfl (x := .ref TI) rfl ?_)
  refine wpAny_bind (wpAny_seqItems hTI rfl ?_)
  show wpAny _ _ (Builtin.SmallTypes.ownedTupleIsFree (.ref z) >>= _) _ _ _
  refine wpAny_bind ?_
  unfold Builtin.SmallTypes.ownedTupleIsFree
  refine wpAny_bind (wpAny_field hz rfl (x := .none) rfl (wpAny_pure ?_))
  simp only [if_true]
  refine wpAny_bind (wpAny_rule ?_)
  refine wpAny_bind (wpAny_field hz rfl (x := .ref TO) rfl ?_)
  refine wpAny_bind (wpAny_setField_rec hz (by simp) fun h₁ hz₁ hs₁ => ?_)
  replace hz₁ : IsZip h₁ z TI TO .ellipsis := hz₁
  refine wpAny_bind ?_
  simp only [List.zipIdx_cons, List.zipIdx_nil, List.forIn_cons, List.forIn_nil]
  have c1 : ∀ c o, c ≠ z → s.heap.get? c = some o → h₁.get? c = some o := fun c o q e => hs₁.extBut _ _ q e
  have s11 := D1.frame _ _ _ h1 fun b hb o e => c1 b o (D.a1 b hb).1 e
  refine wpAny_bind (wpAny_bind (wpAny_onRaise ?_))
  show wpAny _ _ (Builtin.SmallTypes.nextOf (.ref i1) >>= _) _ _ _
  by_cases l1 : n1 ≤ i
  · refine wpAny_bind (D1.done _ _ _ _ l1 s11 fun h₂ e hs₂ he => ?_)
    obtain ⟨oe, hoe, hce⟩ := he
    have hz₂ : IsZip h₂ z TI TO .ellipsis := hs₂ _ _ D.i1z.symm hz₁
    have hez : e ≠ z := fun x => by subst x; rw [hz₂] at hoe; cases hoe; simp at hce
    refine wpAny_setField_rec hz₂ (by simp) fun h₃ _ hs₃ => hE h₃ e (fun c o q1 _ q3 _ x => hs₃.extBut _ _ q1 (hs₂ _ _ q3 (c1 _ _ q1 x))) ⟨oe, hs₃.extBut _ _ hez hoe, hce⟩
  · have l2 : n2 ≤ i := he.resolve_left l1
    refine wpAny_bind (D1.item i _ _ _ (by omega) s11 fun x h₂ p1 s12 hs₂ => wpAny_pure ?_)
    have hTO₂ : IsPair h₂ TO a b := hs₂.extBut _ _ D.TOi1 (c1 _ _ D.TOz hTO)
    refine wpAny_bind (wpAny_seqItems hTO₂ rfl ?_)
    refine wpAny_bind (wpAny_updateSeq_pair hTO₂ fun h₃ hTO₃ hs₃ => ?_)
    refine wpAny_bind (wpAny_letGo (wpAny_pure ?_))
    have c3 : ∀ c o, c ≠ z → c ≠ i1 → c ≠ TO → s.heap.get? c = some o → h₃.get? c = some o := fun c o q q1 q2 e => hs₃.extBut _ _ q2 (hs₂.extBut _ _ q1 (c1 c o q e))
    refine wpAny_bind (wpAny_bind (wpAny_onRaise ?_))
    show wpAny _ _ (Builtin.SmallTypes.nextOf (.ref i2) >>= _) _ _ _
    refine wpAny_bind (D2.done _ _ _ _ l2 (D2.frame _ _ _ h2 fun b hb o e => c3 b o (D.a2 b hb).1 (D.a2 b hb).2.2 (D.a2 b hb).2.1 e) fun h₄ e hs₄ he => ?_)
    obtain ⟨oe, hoe, hce⟩ := he
    have hz₄ : IsZip h₄ z TI TO .ellipsis := hs₄ _ _ D.i2z.symm (hs₃.extBut _ _ D.TOz.symm (hs₂.extBut _ _ D.i1z.symm hz₁))
    have hez : e ≠ z := fun x => by subst x; rw [hz₄] at hoe; cases hoe; simp at hce
    refine wpAny_setField_rec hz₄ (by simp) fun h₅ _ hs₅ => hE h₅ e (fun c o q1 q2 q3 q4 x => hs₅.extBut _ _ q1 (hs₄ _ _ q4 (c3 c o q1 q3 q2 x))) ⟨oe, hs₅.extBut _ _ hez hoe, hce⟩
theorem nextZ_item {i : Nat} {a b : Value} {Q : Option Value → Shared → Prop} (D : Apart z TI TO i1 i2 f1 f2) (D1 : Drw prog w A.in1 i1 f1 n1 P1 S1) (D2 : Drw prog w A.in1 i2 f2 n2 P2 S2)
    (hz : IsZip s.heap z TI TO .none) (hTI : IsPair s.heap TI (.ref i1) (.ref i2)) (hTO : IsPair s.heap TO a b) (h1 : S1 i s.heap) (h2 : S2 i s.heap) (l1 : i < n1) (l2 : i < n2)
    (hQ : ∀ x y h', P1 i x → P2 i y → IsZip h' z TI TO (rawInt s.heap.objs.size) → IsPair h' TO x y → S1 (i + 1) h' → S2 (i + 1) h' → IsPair h' s.heap.objs.size x y → h'.objs.size = s.heap.objs.size + 1 →
      (∀ c o, c ≠ z → c ≠ TO → c ≠ i1 → c ≠ i2 → s.heap.get? c = some o → h'.get? c = some o) → Q (some (.ref s.heap.objs.size)) { s with heap := h' }) :
    wpAny (model prog w) A (pyNext (.ref z)) Q E s := by
  have hT : s.TypeIs (.ref z) "zip" := ⟨_, hz, rfl⟩
  unfold pyNext
  exact wpAny_bind (wpAny_attempt (wpAny_callSpecial?_slot (name := Str.ofString "__next__") hT F.slot_zip_next
    (wpAny_call_entry F.slot_zip_next hT F.entry_zip_next
      (zipD_item D D1 D2 hz hTI hTO h1 h2 l1 l2 fun x y h' p1 p2 a1 a2 a3 a4 a5 a6 a7 => wpAny_pure (hQ x y h' p1 p2 a1 a2 a3 a4 a5 a6 a7)) (F.args_zip_next_1 _))))
theorem nextZ_end {i : Nat} {a b : Value} {Q : Option Value → Shared → Prop} (D : Apart z TI TO i1 i2 f1 f2) (D1 : Drw prog w A.in1 i1 f1 n1 P1 S1) (D2 : Drw prog w A.in1 i2 f2 n2 P2 S2)
    (hz : IsZip s.heap z TI TO .none) (hTI : IsPair s.heap TI (.ref i1) (.ref i2)) (hTO : IsPair s.heap TO a b) (h1 : S1 i s.heap) (h2 : S2 i s.heap) (he : n1 ≤ i ∨ n2 ≤ i)
    (hQ : ∀ h', (∀ c o, c ≠ z → c ≠ TO → c ≠ i1 → c ≠ i2 → s.heap.get? c = some o → h'.get? c = some o) → Q none { s with heap := h' }) : wpAny (model prog w) A (pyNext (.ref z)) Q E s := by
  have hT : s.TypeIs (.ref z) "zip" := ⟨_, hz, rfl⟩
  unfold pyNext
  refine wpAny_bind (wpAny_attempt (wpAny_callSpecial?_slot (name := Str.ofString "__next__") hT F.slot_zip_next
    (wpAny_call_entry F.slot_zip_next hT F.entry_zip_next (zipD_end D D1 D2 hz hTI hTO h1 h2 he fun h' e hk he => ?_) (F.args_zip_next_1 _))))
  obtain ⟨o, ho, hc⟩ := he
  refine wpAny_bind (wpAny_isInstance (T := "StopIteration") (b := true) ⟨o, ho, hc⟩ isSubtype_stop ?_)
  exact wpAny_pure (hQ _ hk)
end
/-- a list or a tuple of the law's world -/
def SqB (t : Bool) (K : PySem.W.Frag) (H : Hp) (a : Addr) (xs : List V) : Prop := match t with
  | true => SqT K H a xs
  | false => SqL K H a xs
section
variable {X : Cx} {pins : List (Addr × Obj)} {σ : L2.St} {H : Hp} {s : Shared} {t : Bool} {a : Addr} {xs ys : List V}
theorem SqB.inj (I : Inv X pins σ H s) (h : SqB t X.K H a xs) (h2 : SqB t X.K H a ys) : xs = ys := by
  cases t
  · exact I.list_inj h h2
  · exact I.tuple_inj h h2
theorem SqB.its (I : Inv X pins σ H s) (h : SqB t X.K H a xs) : ∃ its : List Value, Vals xs its ∧ SeqB t s.heap a its.toArray ∧ a < s.heap.objs.size := by
  cases t
  · obtain ⟨its, rv, p, _⟩ := I.list h
    exact ⟨its, rv, p.isList, p.lt⟩
  · obtain ⟨its, rv, p, _⟩ := I.tuple h
    have q : s.heap.IsTuple a its.toArray := p
    obtain ⟨o, ho, _⟩ := id q
    exact ⟨its, rv, q, Heap.lt_size ho⟩
end
def ItzB (K : PySem.W.Frag) (t1 t2 : Bool) (a b : Addr) : It :=
  ⟨fun i H => ∃ (xs ys : List V) (x y : V), SqB t1 K H a xs ∧ SqB t2 K H b ys ∧ xs[i]? = some x ∧ ys[i]? = some y,
    fun i H v H' => ∃ T x y, v = .ref T ∧ H T = none ∧ H' = upd H T (.tup [x, y]) ∧ (∀ xs, SqB t1 K H a xs → xs[i]? = some x) ∧ ∀ ys, SqB t2 K H b ys → ys[i]? = some y,
    fun i H => ∃ xs ys : List V, SqB t1 K H a xs ∧ SqB t2 K H b ys ∧ (xs.length ≤ i ∨ ys.length ≤ i)⟩
theorem apart_of {a b z TI TO i1 i2 : Addr} (D : ZipApart z TI TO i1 i2 a b) : Apart z TI TO i1 i2 [i1, a] [i2, b] := by
  refine ⟨D.TIz, D.TOz, D.i1z, D.i2z, D.TITO, D.TIi1, D.TIi2, D.TOi1, D.TOi2, D.i12, fun c hc => ?_, fun c hc => ?_⟩
  · have e : c = i1 ∨ c = a := by simpa using hc
    rcases e with q | q
    · rw [q]; exact ⟨D.i1z, D.TOi1.symm, D.i12⟩
    · rw [q]; exact ⟨D.l1z, D.l1TO, D.l1i2⟩
  · have e : c = i2 ∨ c = b := by simpa using hc
    rcases e with q | q
    · rw [q]; exact ⟨D.i2z, D.TOi2.symm, D.i12.symm⟩
    · rw [q]; exact ⟨D.l2z, D.l2TO, D.l2i1⟩
theorem turn_zipB {P : Program} {w : World} {K : PySem.W.Frag} {elts : List Expr} {kk : Nat} {tpos : Pos} {t1 t2 : Bool} {a b z TI TO i1 i2 : Addr} (D : ZipApart z TI TO i1 i2 a b) :
    Turn P w K (.Tuple elts kk tpos) (ItzB K t1 t2 a b) [z, TI, TO, i1, i2] z (fun i h => IsZip h z TI TO .none ∧ IsPair h TI (.ref i1) (.ref i2) ∧ (∃ x y, IsPair h TO x y) ∧ IterB t1 h i1 a i ∧ IterB t2 h i2 b i) where
  mem := by simp
  obj := fun i h st c hc => by
    obtain ⟨hz, hTI, ⟨x, y, hTO⟩, h1, h2⟩ := st
    have e' : c = z ∨ c = TI ∨ c = TO ∨ c = i1 ∨ c = i2 := by simpa using hc
    rcases e' with q | q | q | q | q
    · rw [q]; exact ⟨_, hz, fun v q => nomatch q⟩
    · rw [q]; exact ⟨_, hTI, fun v q => nomatch q⟩
    · rw [q]; exact ⟨_, hTO, fun v q => nomatch q⟩
    · rw [q]; exact h1.obj
    · rw [q]; exact h2.obj
  keep := fun i h h' st k => by
    obtain ⟨hz, hTI, ⟨x, y, hTO⟩, h1, h2⟩ := st
    exact ⟨k z (by simp) _ hz, k TI (by simp) _ hTI, ⟨x, y, k TO (by simp) _ hTO⟩, h1.at fun o q => k i1 (by simp) o q, h2.at fun o q => k i2 (by simp) o q⟩
  item := by
    intro X hP hw hK hc i pins s σ H E I hf st hg
    subst hP hw hK
    obtain ⟨hz, hTI, ⟨x0, y0, hTO⟩, h1, h2⟩ := st
    obtain ⟨xs, ys, x, y, hqx, hqy, hx, hy⟩ := hg
    obtain ⟨its, rv, p, _⟩ := hqx.its I
    obtain ⟨its2, rv2, p2, _⟩ := hqy.its I
    obtain ⟨u, hu, ru⟩ := rv.get hx
    obtain ⟨u2, hu2, ru2⟩ := rv2.get hy
    have hzl : z < s.heap.objs.size := Heap.lt_size hz
    have AP := apart_of D
    have len1 := (List.getElem?_eq_some_iff.mp hu).1
    have len2 := (List.getElem?_eq_some_iff.mp hu2).1
    have hh := I.ok.hd hc
    refine nextZ_item AP (drwB (A := X.A.in1) hh t1 i1 a D.l1i1 its.toArray) (drwB (A := X.A.in1) hh t2 i2 b D.l2i2 its2.toArray) hz hTI hTO ⟨h1, p⟩ ⟨h2, p2⟩ (by simpa using len1) (by simpa using len2) fun u' u2' h' e1 e2 z' TO' h1' h2' hT hsz hk => ?_
    have eu : u' = u := by
      have q : its.toArray[i]? = some u := by simpa using hu
      rw [q] at e1
      exact (Option.some.inj e1).symm
    have eu2 : u2' = u2 := by
      have q : its2.toArray[i]? = some u2 := by simpa using hu2
      rw [q] at e2
      exact (Option.some.inj e2).symm
    subst eu eu2
    refine ⟨_, rfl, wpAny_letOwnedTupleGo_zip (s := { s with heap := h' }) z' fun h'' z'' sb => ?_⟩
    have hT2 : h''.get? s.heap.objs.size = some { cls := .type "tuple", data := .seq #[u', u2'] } := (sb.2 _ (Nat.ne_of_gt hzl)).trans hT
    have new : ObjOk X.prog X.w (upd H s.heap.objs.size (.tup [x, y])) h'' s.heap.objs.size (.tup [x, y]) :=
      ⟨by show 2 ≤ sizeLine; decide, [u', u2'], .cons ru (.cons ru2 .nil), ⟨_, hT2, rfl, _, rfl⟩⟩
    have I1 : Inv X pins σ (upd H s.heap.objs.size (.tup [x, y])) { s with heap := h'' } :=
      I.turnedNew (t' := s.toks) (ch := [z, TI, TO, i1, i2]) (fun c o hb q => (sb.2 c (fun q' => hb (by simp [q']))).trans (hk c o (fun q' => hb (by simp [q'])) (fun q' => hb (by simp [q'])) (fun q' => hb (by simp [q'])) (fun q' => hb (by simp [q'])) q)) hf (Nat.le_refl _) new
    refine ⟨.ref s.heap.objs.size, _, I1, rfl, ⟨_, x, y, rfl, I.hok.fresh (Nat.le_refl _), rfl, fun l hl => by rw [SqB.inj I hl hqx]; exact hx, fun l hl => by rw [SqB.inj I hl hqy]; exact hy⟩, ⟨z'', ?_, ⟨u', u2', ?_⟩, ?_, ?_⟩, fun c hcm => ?_⟩
    · exact (sb.2 _ D.TIz).trans (hk _ _ D.TIz D.TITO D.TIi1 D.TIi2 hTI)
    · exact (sb.2 _ D.TOz).trans TO'
    · exact h1'.1.at fun o q => (sb.2 _ D.i1z).trans q
    · exact h2'.1.at fun o q => (sb.2 _ D.i2z).trans q
    · have hlt : c < s.heap.objs.size := by
        have e' : c = z ∨ c = TI ∨ c = TO ∨ c = i1 ∨ c = i2 := by simpa using hcm
        rcases e' with q | q | q | q | q
        · rw [q]; exact hzl
        · rw [q]; exact Heap.lt_size hTI
        · rw [q]; exact Heap.lt_size hTO
        · rw [q]; obtain ⟨_, e1, _⟩ := h1.obj; exact Heap.lt_size e1
        · rw [q]; obtain ⟨_, e2, _⟩ := h2.obj; exact Heap.lt_size e2
      rw [upd_ne (Nat.ne_of_lt hlt)]
      exact (hf c hcm).1
  done := by
    intro X hP hw hK hc i pins s σ H E I hf st hg
    subst hP hw hK
    obtain ⟨hz, hTI, ⟨x0, y0, hTO⟩, h1, h2⟩ := st
    obtain ⟨xs, ys, hqx, hqy, hend⟩ := hg
    obtain ⟨its, rv, p, _⟩ := hqx.its I
    obtain ⟨its2, rv2, p2, _⟩ := hqy.its I
    have l1 := rv.length
    have l2 := rv2.length
    have AP := apart_of D
    have hh := I.ok.hd hc
    exact nextZ_end AP (drwB (A := X.A.in1) hh t1 i1 a D.l1i1 its.toArray) (drwB (A := X.A.in1) hh t2 i2 b D.l2i2 its2.toArray) hz hTI hTO ⟨h1, p⟩ ⟨h2, p2⟩ (by simp; omega) fun h' hk => ⟨rfl, I.turnedL (t' := s.toks) (ch := [z, TI, TO, i1, i2]) (fun c o hb q =>
      hk c o (fun q' => hb (by simp [q'])) (fun q' => hb (by simp [q'])) (fun q' => hb (by simp [q'])) (fun q' => hb (by simp [q'])) q) hf⟩
  self := fun A i s Q E st h => wpAny_pyIter_zip st.1 h
theorem iterB_new {t : Bool} {prog : Program} {w : World} {A : Around} {E : Value → Shared → Prop} {s : Shared} {l : Addr} {items : Array Value} {Q : Value → Shared → Prop} (hl : SeqB t s.heap l items)
    (hQ : Q (.ref s.heap.objs.size) { s with heap := s.heap.push { cls := .type (itN t), data := .fields #[.ref l, .int 0 0] } }) : wpAny (model prog w) A (pyIter (.ref l)) Q E s := by
  cases t
  · exact wpAny_pyIter_list hl hQ
  · exact wpAny_pyIter_tuple hl hQ
abbrev zbH1 (t1 : Bool) (h : Heap) (l1 : Addr) : Heap := h.push { cls := .type (itN t1), data := .fields #[.ref l1, .int 0 0] }
abbrev zbH2 (t1 t2 : Bool) (h : Heap) (l1 l2 : Addr) : Heap := (zbH1 t1 h l1).push { cls := .type (itN t2), data := .fields #[.ref l2, .int 0 0] }
abbrev zbH3 (t1 t2 : Bool) (h : Heap) (l1 l2 : Addr) : Heap := (zbH2 t1 t2 h l1 l2).push { cls := .type "tuple", data := .seq #[.ref h.objs.size, .ref (zbH1 t1 h l1).objs.size] }
abbrev zbH4 (t1 t2 : Bool) (h : Heap) (l1 l2 : Addr) : Heap := (zbH3 t1 t2 h l1 l2).push { cls := .type "tuple", data := .seq #[.none, .none] }
abbrev zbH5 (t1 t2 : Bool) (h : Heap) (l1 l2 : Addr) : Heap := (zbH4 t1 t2 h l1 l2).push { cls := .type "zip", data := .fields #[.none, .bool false, .bool false, .ref (zbH2 t1 t2 h l1 l2).objs.size, .ref (zbH3 t1 t2 h l1 l2).objs.size] }
theorem meets_zipB (t1 t2 : Bool) (l1 l2 : Addr) (xs ys : Array Value) :
    Meets (Builtin.«zip.__new__» ⟨[.type "zip", .ref l1, .ref l2], []⟩) (fun _ R s => SeqB t1 s.heap l1 xs ∧ SeqB t2 s.heap l2 ys ∧
      R (.ok (.ret (.ref (zbH4 t1 t2 s.heap l1 l2).objs.size))) { s with heap := zbH5 t1 t2 s.heap l1 l2 }) :=
  .of_wp fun prog w A R s h => by
    obtain ⟨hp, g, d, tk, os⟩ := s; obtain ⟨hl1, hl2, h⟩ := h
    have hsub := sub_zip
    have hL1 : SeqB t1 (Shared.heap ⟨hp, g, d, tk, os⟩) l1 xs := hl1
    have hL2 : SeqB t2 (Shared.heap ⟨hp.push { cls := .type (itN t1), data := .fields #[.ref l1, .int 0 0] }, g, d, tk, os⟩) l2 ys := hl2.at fun o e => Heap.get?_push_of_some _ e
    wp_walk using iterB_new hL1, iterB_new hL2
    exact ⟨_, rfl, h⟩
theorem call_zipB {t1 t2 : Bool} {prog : Program} {w : World} {A : Around} {E : Value → Shared → Prop} {s : Shared} {l1 l2 : Addr} {xs ys : Array Value} {Q : Value → Shared → Prop} (hl1 : SeqB t1 s.heap l1 xs) (hl2 : SeqB t2 s.heap l2 ys)
    (h : ∀ h', IsZip h' (s.heap.objs.size + 4) (s.heap.objs.size + 2) (s.heap.objs.size + 3) .none → IsPair h' (s.heap.objs.size + 2) (.ref s.heap.objs.size) (.ref (s.heap.objs.size + 1)) →
      IsPair h' (s.heap.objs.size + 3) .none .none → IterB t1 h' s.heap.objs.size l1 0 → IterB t2 h' (s.heap.objs.size + 1) l2 0 → h'.objs.size = s.heap.objs.size + 5 →
      (∀ c o, s.heap.get? c = some o → h'.get? c = some o) → Q (.ref (s.heap.objs.size + 4)) { s with heap := h' }) :
    wpAny (model prog w) A (call (.type "zip") [.ref l1, .ref l2]) Q E s := by
  refine callType_new F.called_zip (by decide) (F.typeCall_zip_2 _ _) (F.newCall_zip_2 _ _) (fun obj => F.args_object_init_3 obj _ _) F.entry_zip_new
    (meets_zipB t1 t2 l1 l2 xs ys) ⟨hl1, hl2, ?_⟩
  have z1 : (zbH1 t1 s.heap l1).objs.size = s.heap.objs.size + 1 := Heap.size_push ..
  have z2 : (zbH2 t1 t2 s.heap l1 l2).objs.size = s.heap.objs.size + 2 := by rw [Heap.size_push, z1]
  have z3 : (zbH3 t1 t2 s.heap l1 l2).objs.size = s.heap.objs.size + 3 := by rw [Heap.size_push, z2]
  have z4 : (zbH4 t1 t2 s.heap l1 l2).objs.size = s.heap.objs.size + 4 := by rw [Heap.size_push, z3]
  have z5 : (zbH5 t1 t2 s.heap l1 l2).objs.size = s.heap.objs.size + 5 := by rw [Heap.size_push, z4]
  have g5 : (zbH5 t1 t2 s.heap l1 l2).get? (zbH4 t1 t2 s.heap l1 l2).objs.size = some _ := Heap.get?_push_size _ rfl
  have g4 : (zbH5 t1 t2 s.heap l1 l2).get? (zbH3 t1 t2 s.heap l1 l2).objs.size = some _ := Heap.get?_push_of_some _ (Heap.get?_push_size _ rfl)
  have g3 : (zbH5 t1 t2 s.heap l1 l2).get? (zbH2 t1 t2 s.heap l1 l2).objs.size = some _ := Heap.get?_push_of_some _ (Heap.get?_push_of_some _ (Heap.get?_push_size _ rfl))
  have g2 : (zbH5 t1 t2 s.heap l1 l2).get? (zbH1 t1 s.heap l1).objs.size = some _ := Heap.get?_push_of_some _ (Heap.get?_push_of_some _ (Heap.get?_push_of_some _ (Heap.get?_push_size _ rfl)))
  have g1 : (zbH5 t1 t2 s.heap l1 l2).get? s.heap.objs.size = some _ := Heap.get?_push_of_some _ (Heap.get?_push_of_some _ (Heap.get?_push_of_some _ (Heap.get?_push_of_some _ (Heap.get?_push_size _ rfl))))
  show _ ∧ _
  rw [z2, z3, z4] at g5
  rw [z1, z2] at g3
  rw [z3] at g4
  rw [z1] at g2
  rw [z4]
  refine ⟨⟨_, g5, rfl⟩, h _ g5 g3 g4 ?_ ?_ z5 fun c o x =>
    Heap.get?_push_of_some _ (Heap.get?_push_of_some _ (Heap.get?_push_of_some _ (Heap.get?_push_of_some _ (Heap.get?_push_of_some _ x))))⟩
  · cases t1
    · exact ⟨_, g1, rfl, rfl⟩
    · exact ⟨_, g1, rfl, rfl⟩
  · cases t2
    · exact ⟨_, g2, rfl, rfl⟩
    · exact ⟨_, g2, rfl, rfl⟩
def iZipB (K : PySem.W.Frag) (ta : TA) : TI := fun σ H R => ta σ H fun vs H1 => ∃ t1 t2 a b xs ys, vs = [.ref a, .ref b] ∧ SqB t1 K H1 a xs ∧ SqB t2 K H1 b ys ∧ R (ItzB K t1 t2 a b) H1
theorem pi_zipB {X : Cx} {e e2 : Expr} {ta : TA} {p pos tpos : Pos} {elts : List Expr} {kk : Nat} (hg : Gl X "zip") (hm : X.mg "zip" = none) (ha : PA X [e, e2] ta)
    (hs : starEach [e, e2] X.env = (false, eval e X.env) :: starEach [e2] X.env := by rfl) (hpl : (backTo pos (starEach [e2] X.env)).any (·.1) = false := by rfl) :
    PI X (.Tuple elts kk tpos) (.Call (.Name "zip" p) [e, e2] [] pos) (iZipB X.K ta) := by
  refine ⟨fun pins s σ H R I h => ?_⟩
  refine Call_ (ld_blt I hg hm PyProof.Rows.boot_zip (PyProof.Rows.callWith_type1 (thn (ha.run pos pins s σ H _ I h) fun us s1 ⟨vs, H1, I1, r1, q1⟩ => ?_) hs hpl))
  obtain ⟨t1, t2, a, b, xs, ys, ex, hqx, hqy, q⟩ := q1
  subst ex
  cases r1 with
  | cons r rr =>
    cases rr with
    | cons r' rr =>
      cases rr
      cases r
      cases r'
      have fresh5 : ∀ c, c ∈ [s1.heap.objs.size + 4, s1.heap.objs.size + 2, s1.heap.objs.size + 3, s1.heap.objs.size, s1.heap.objs.size + 1] → FpOk X pins H1 c := fun c hcm => by
        have hle : s1.heap.objs.size ≤ c := by
          simp only [List.mem_cons, List.not_mem_nil, or_false] at hcm
          rcases hcm with z | z | z | z | z <;> rw [z] <;> first | exact Nat.le_refl _ | exact Nat.le_add_right _ _
        exact I1.fpOk hle (I1.hok.fresh hle)
      obtain ⟨its, rv, p1, lt1⟩ := hqx.its I1
      obtain ⟨its2, rv2, p2, lt2⟩ := hqy.its I1
      refine call_zipB p1 p2 fun h' hz hTI hTO h1 h2 hsz hk => wpAny_pyIter_zip hz ?_
      have I2 : Inv X pins σ H1 { s1 with heap := h' } := I1.kept (t' := s1.toks) hk
      exact ⟨s1.heap.objs.size + 4, [s1.heap.objs.size + 4, s1.heap.objs.size + 2, s1.heap.objs.size + 3, s1.heap.objs.size, s1.heap.objs.size + 1], _, _, H1, rfl, I2, turn_zipB (PySem.W.ktu_apart s1.heap.objs.size a b lt1 lt2), ⟨hz, hTI, ⟨_, _, hTO⟩, h1, h2⟩, fresh5, q⟩
end Tz

end
section
/-! Tz.Enum: enumerate over a list or a tuple, zip. -/
namespace Tz
open PySem PySem.Spec PyProof.Rows L2 StX RZ
theorem meets_enumerate_newT (l : Addr) (items : Array Value) (n : Nat) (dct : Option Addr) (sl : Array (Option Value)) :
    Meets (Builtin.«enumerate.__new__» ⟨[.type "enumerate", .ref l], []⟩) (fun _ R s => s.heap.get? l = some { cls := .type "tuple", dict := dct, data := .seq items n, slots := sl } ∧
      R (.ok (.ret (.ref (s.heap.push { cls := .type "tuple_iterator", data := .fields #[.ref l, .int 0 0] }).objs.size)))
        { s with heap := (s.heap.push { cls := .type "tuple_iterator", data := .fields #[.ref l, .int 0 0] }).push { cls := .type "enumerate", data := .fields #[.none, .bool false, .ref s.heap.objs.size, rawInt 0, .none, .none] } }) :=
  .of_wp fun prog w A R s h => by
    obtain ⟨hp, g, d, tk, os⟩ := s; obtain ⟨hl, h⟩ := h
    have hsub := sub_enumerate
    have hL : Heap.IsTuple (Shared.heap ⟨hp, g, d, tk, os⟩) l items := ⟨_, hl, rfl, n, rfl⟩
    wp_walk using AutoSeq1.wpAny_loadPart' hl
    refine wpAny_stack_any fun st => wpAny_pure ?_
    split
    · rename_i c _ _ _ _ _
      cases (c == Value.type "enumerate")
      · wp_walk using AutoSeq1.wpAny_loadPart' hl, wpAny_pyIter_tuple hL
        exact ⟨_, rfl, h⟩
      · wp_walk using AutoSeq1.wpAny_loadPart' hl, wpAny_pyIter_tuple hL
        exact ⟨_, rfl, h⟩
    · wp_walk using AutoSeq1.wpAny_loadPart' hl, wpAny_pyIter_tuple hL
      exact ⟨_, rfl, h⟩
section
variable {prog : Program} {w : World} {A : Around} {E : Value → Shared → Prop} {s : Shared}
theorem call_enumerate_tuple {l : Addr} {items : Array Value} {Q : Value → Shared → Prop} (hL : s.heap.IsTuple l items)
    (h : ∀ h', IsEnum h' (s.heap.objs.size + 1) s.heap.objs.size 0 .none → h'.IsTupleIter s.heap.objs.size l 0 → h'.objs.size = s.heap.objs.size + 2 →
      (∀ b o, s.heap.get? b = some o → h'.get? b = some o) → Q (.ref (s.heap.objs.size + 1)) { s with heap := h' }) :
    wpAny (model prog w) A (call (.type "enumerate") [.ref l]) Q E s := by
  obtain ⟨⟨c, dct, dt, sl⟩, hl, hc, n, hd⟩ := hL
  replace hc : c = .type "tuple" := hc
  replace hd : dt = .seq items n := hd
  subst hc hd
  refine callType_new F.called_enumerate (by decide) (F.typeCall_enumerate_1 _) (F.newCall_enumerate_1 _) (fun obj => F.args_object_init_2 obj _) F.entry_enumerate_new
    (meets_enumerate_newT l items n dct sl) ⟨hl, ?_⟩
  have hz : (s.heap.push { cls := .type "tuple_iterator", data := .fields #[.ref l, .int 0 0] }).objs.size = s.heap.objs.size + 1 := Heap.size_push ..
  show _ ∧ _
  rw [hz]
  have he : IsEnum ((s.heap.push { cls := .type "tuple_iterator", data := .fields #[.ref l, .int 0 0] }).push
      { cls := .type "enumerate", data := .fields #[.none, .bool false, .ref s.heap.objs.size, rawInt 0, .none, .none] }) (s.heap.objs.size + 1) s.heap.objs.size 0 .none := by
    have := Heap.get?_push_size (s.heap.push { cls := .type "tuple_iterator", data := .fields #[.ref l, .int 0 0] })
      (o := { cls := .type "enumerate", data := .fields #[.none, .bool false, .ref s.heap.objs.size, rawInt 0, .none, .none] }) rfl
    rw [hz] at this; exact this
  refine ⟨⟨_, he, rfl⟩, h _ he ⟨_, Heap.get?_push_of_some _ (Heap.get?_push_size _ rfl), rfl, rfl⟩ (by rw [Heap.size_push, hz]) fun b o x => Heap.get?_push_of_some _ (Heap.get?_push_of_some _ x)⟩
theorem next_enumT_end {e it l : Addr} {i : Nat} {items : Array Value} {old : Value} {Q : Option Value → Shared → Prop} (hh : A.handled = none)
    (he : IsEnum s.heap e it i old) (hit : s.heap.IsTupleIter it l i) (hl : s.heap.IsTuple l items) (hx : items[i]? = none)
    (hQ : ∀ h', Heap.ExtBut it s.heap h' → Q none { s with heap := h' }) : wpAny (model prog w) A (pyNext (.ref e)) Q E s := by
  have hT : s.TypeIs (.ref e) "enumerate" := ⟨_, he, rfl⟩
  unfold pyNext
  refine wpAny_bind (wpAny_attempt (wpAny_callSpecial?_slot (name := Str.ofString "__next__") hT F.slot_enumerate_next
    (wpAny_call_entry F.slot_enumerate_next hT F.entry_enumerate_next ?_ (F.args_enumerate_next_1 _))))
  show wpAny _ _ (field (.ref e) 2 >>= _) _ _ _
  refine wpAny_bind (wpAny_field he rfl (x := .ref it) rfl ?_)
  refine wpAny_bind (wpAny_nextOf_tuple_end hh hit hl hx fun h' x he' hx' => ?_)
  obtain ⟨o, ho, hc⟩ := hx'
  refine wpAny_bind (wpAny_isInstance (T := "StopIteration") (b := true) ⟨o, ho, hc⟩ isSubtype_stop ?_)
  exact wpAny_pure (hQ _ he')
end
/-- the tuple at a, each item in a new pair -/
def IteT (K : PySem.W.Frag) (a : Addr) : It :=
  ⟨fun i H => ∃ (xs : List V) (x : V), SqT K H a xs ∧ xs[i]? = some x, fun i H v H' => ∃ T x, v = .ref T ∧ H T = none ∧ H' = upd H T (.tup [.int (i : Nat), x]) ∧ ∀ xs, SqT K H a xs → xs[i]? = some x, fun i H => ∃ xs : List V, SqT K H a xs ∧ xs.length ≤ i⟩
theorem turn_enumT {P : Program} {w : World} {K : PySem.W.Frag} {elts : List Expr} {kk : Nat} {tpos : Pos} (a e it : Addr) (hai : a ≠ it) (hea : e ≠ a) :
    Turn P w K (.Tuple elts kk tpos) (IteT K a) [e, it] e (fun i h => (∃ old, IsEnum h e it ((i : Nat) : Int) old) ∧ h.IsTupleIter it a i ∧ e ≠ it) where
  mem := by simp
  obj := fun i h st b hb => by
    obtain ⟨⟨old, he⟩, ⟨o, ho, hc, hd⟩, _⟩ := st
    have e' : b = e ∨ b = it := by simpa using hb
    rcases e' with z | z
    · rw [z]; exact ⟨_, he, fun v q => nomatch q⟩
    · rw [z]; exact ⟨o, ho, fun v q => by rw [hd] at q; cases q⟩
  keep := fun i h h' st k => let ⟨⟨old, he⟩, hi, hne⟩ := st; ⟨⟨old, k e (by simp) _ he⟩, hi.at fun o q => k it (by simp) o q, hne⟩
  item := by
    intro X hP hw hK hc i pins s σ H E I hf st hg
    subst hP hw hK
    obtain ⟨⟨old, he⟩, hit, hne⟩ := st
    obtain ⟨xs, x, hq, hx⟩ := hg
    obtain ⟨its, rv, p, hz⟩ := I.tuple hq
    obtain ⟨u, hu, ru⟩ := rv.get hx
    have hel : e < s.heap.objs.size := Heap.lt_size he
    have hil : it < s.heap.objs.size := by obtain ⟨_, q, _⟩ := hit; exact Heap.lt_size q
    have D := Draws.tuple (prog := X.prog) (w := X.w) (A := X.A.in1) (I.ok.hd hc) it a hai its.toArray
    have hlt : i < its.toArray.size := by
      have := (List.getElem?_eq_some_iff.mp hu).1
      simpa using this
    refine wpAny_pyNext_enum_itemD D he ⟨hit, p⟩ hlt hne (by simp; exact ⟨hne, hea⟩) fun u' h' tk hu' ho hst' hT hsz hk => ?_
    obtain ⟨hit', _⟩ := hst'
    have eu : u' = u := by
      have : its.toArray[i]? = some u := by simpa using hu
      rw [this] at hu'
      exact (Option.some.inj hu').symm
    subst eu
    refine ⟨_, rfl, wpAny_letOwnedTupleGo_enum (s := { s with heap := h', toks := tk + 1 }) ho fun h'' he' sb => ?_⟩
    have hT2 : h''.get? s.heap.objs.size = some { cls := .type "tuple", data := .seq #[.int i tk, u'] } := (sb.2 _ (Nat.ne_of_gt hel)).trans hT
    have new : ObjOk X.prog X.w (upd H s.heap.objs.size (.tup [.int (i : Nat), x])) h'' s.heap.objs.size (.tup [.int (i : Nat), x]) :=
      ⟨by show 2 ≤ sizeLine; decide, [.int i tk, u'], .cons ⟨_, rfl⟩ (.cons ru .nil), ⟨_, hT2, rfl, _, rfl⟩⟩
    have I1 : Inv X pins σ (upd H s.heap.objs.size (.tup [.int (i : Nat), x])) { s with heap := h'', toks := tk + 1 } :=
      I.turnedNew (ch := [e, it]) (fun b ob hb q => (sb.2 b (fun z => hb (by simp [z]))).trans (hk b ob (fun z => hb (by simp [z])) (fun z => hb (by simp [z])) q)) hf (Nat.le_refl _) new
    refine ⟨.ref s.heap.objs.size, _, I1, rfl, ⟨_, x, rfl, I.hok.fresh (Nat.le_refl _), rfl, fun ys hy => by rw [I.tuple_inj hy hq]; exact hx⟩, ⟨⟨u', ?_⟩, hit'.at fun o q => (sb.2 it (Ne.symm hne)).trans q, hne⟩, fun b hb => ?_⟩
    · have e1 : ((i + 1 : Nat) : Int) = (i : Int) + 1 := by omega
      rw [e1]; exact he'
    · have hb' : b < s.heap.objs.size := by
        have e' : b = e ∨ b = it := by simpa using hb
        rcases e' with z | z
        · rw [z]; exact hel
        · rw [z]; exact hil
      rw [upd_ne (Nat.ne_of_lt hb')]
      exact (hf b hb).1
  done := by
    intro X hP hw hK hc i pins s σ H E I hf st hg
    subst hP hw hK
    obtain ⟨⟨old, he⟩, hit, hne⟩ := st
    obtain ⟨xs, hq, hx⟩ := hg
    obtain ⟨its, rv, p, hz⟩ := I.tuple hq
    obtain ⟨f0, f1, f2, f3, f4, f5⟩ := hf it (by simp)
    have hl := rv.length
    exact next_enumT_end (I.ok.hd hc) he hit (show s.heap.IsTuple a its.toArray from p) (by simp; omega) fun h' eb => ⟨rfl, I.turned (t' := s.toks) (fun b o hb q => eb b o hb q) f0 f1 f3 f4 f5⟩
  self := fun A i s Q E st h => let ⟨⟨_, he⟩, _⟩ := st; wpAny_pyIter_enum he h
def iEnumT (K : PySem.W.Frag) (ta : TA) : TI := fun σ H R => ta σ H fun vs H1 => ∃ a xs, vs = [.ref a] ∧ ((SqL K H1 a xs ∧ R (Ite K a) H1) ∨ (SqT K H1 a xs ∧ R (IteT K a) H1))
theorem pi_enumT {X : Cx} {e : Expr} {ta : TA} {p pos tpos : Pos} {elts : List Expr} {kk : Nat} (hg : Gl X "enumerate") (hm : X.mg "enumerate" = none) (ha : PA X [e] ta) (hs : starEach [e] X.env = [(false, eval e X.env)] := by rfl) :
    PI X (.Tuple elts kk tpos) (.Call (.Name "enumerate" p) [e] [] pos) (iEnumT X.K ta) := by
  refine ⟨fun pins s σ H R I h => ?_⟩
  refine Call_ (ld_blt I hg hm boot_enumerate (PyProof.Rows.callWith_type1 (thn (ha.run pos pins s σ H _ I h) fun us s1 ⟨vs, H1, I1, r1, q1⟩ => ?_) hs rfl))
  obtain ⟨a, xs, ex, hq⟩ := q1
  subst ex
  cases r1 with
  | cons r rr =>
    cases rr
    cases r
    have fp : ∀ b ∈ [s1.heap.objs.size + 1, s1.heap.objs.size], FpOk X pins H1 b := fun b hb => by
      have e' : b = s1.heap.objs.size + 1 ∨ b = s1.heap.objs.size := by simpa using hb
      have hle : s1.heap.objs.size ≤ b := by
        rcases e' with z | z
        · rw [z]; exact Nat.le_add_right _ _
        · rw [z]; exact Nat.le_refl _
      exact I1.fpOk hle (I1.hok.fresh hle)
    rcases hq with ⟨hq, q⟩ | ⟨hq, q⟩
    · obtain ⟨its, rv, p', hz⟩ := I1.list hq
      refine call_enumerate_list p'.isList fun h' he hit hsz hk => wpAny_pyIter_enum he ?_
      have I2 : Inv X pins σ H1 { s1 with heap := h' } := I1.kept (t' := s1.toks) hk
      exact ⟨s1.heap.objs.size + 1, [s1.heap.objs.size + 1, s1.heap.objs.size], _, _, H1, rfl, I2, turn_enum a (s1.heap.objs.size + 1) s1.heap.objs.size, ⟨⟨.none, he⟩, hit, Nat.succ_ne_self _⟩, fp, q⟩
    · obtain ⟨its, rv, p', hz⟩ := I1.tuple hq
      have hal : a < s1.heap.objs.size := by
        obtain ⟨o, ho, _⟩ := id p'
        exact Heap.lt_size ho
      refine call_enumerate_tuple (show s1.heap.IsTuple a its.toArray from p') fun h' he hit hsz hk => wpAny_pyIter_enum he ?_
      have I2 : Inv X pins σ H1 { s1 with heap := h' } := I1.kept (t' := s1.toks) hk
      exact ⟨s1.heap.objs.size + 1, [s1.heap.objs.size + 1, s1.heap.objs.size], _, _, H1, rfl, I2, turn_enumT a (s1.heap.objs.size + 1) s1.heap.objs.size (Nat.ne_of_lt hal) (Nat.ne_of_gt (Nat.lt_succ_of_lt hal)), ⟨⟨.none, he⟩, hit, Nat.succ_ne_self _⟩, fp, q⟩
/-! ### what is walked -/
section
variable {K : PySem.W.Frag} {S : Store} {μ : Mu} {H : Hp}
theorem enumF_get : ∀ (k : Nat) (xs : List PyData) (i : Nat) (v : Vl), (enumF k xs)[i]? = some v → ∃ x, xs[i]? = some x ∧ v = .d (.tuple [.int ((k + i : Nat) : Int), x])
  | k, [], i, v, h => by simp [enumF] at h
  | k, x :: r, 0, v, h => by
    simp [enumF] at h
    exact ⟨x, rfl, by rw [← h]; rfl⟩
  | k, x :: r, i + 1, v, h => by
    obtain ⟨y, h1, h2⟩ := enumF_get (k + 1) r i v (by simpa [enumF] using h)
    exact ⟨y, by simpa using h1, by rw [h2, show k + 1 + i = k + (i + 1) by omega]⟩
theorem enumF_len : ∀ (k : Nat) (xs : List PyData), (enumF k xs).length = xs.length
  | _, [] => rfl
  | k, x :: r => by simp [enumF, enumF_len (k + 1) r]
theorem pair_laid {S2 : Store} {μ2 : Mu} {H2 H3 : Hp} {p : Addr} {x y : PyData} {v w : V} (ok : SOk K S2 μ2 H2) (hp : H2 p = none) (e : H3 = upd H2 p (.tup [v, w])) (rx : RepD K (Live S2 μ2) H2 x v) (ry : RepD K (Live S2 μ2) H2 y w) :
    Ext S2 μ2 H2 S2 μ2 H3 ∧ SOk K S2 μ2 H3 ∧ RepV K S2 μ2 H3 (.d (.tuple [x, y])) (.ref p) := by
  subst e
  have ext := Ext.laid (μ := μ2) (S := S2) (o := .tup [v, w]) hp ok
  exact ⟨ext, ok.laid hp, .tup (.inl ⟨upd_same, ok.newL hp⟩) (.cons (rx.mono ext.keep) (.cons (ry.mono ext.keep) .nil))⟩
theorem walk_enumL {a : Addr} {vs : List V} {ds : List PyData} (h : H a = some (.lst vs)) (l : ¬ Live S μ a) (r : RepDs K (Live S μ) H ds vs) : WalkOk K (Ite K a) (enumF 0 ds) S μ H := by
  intro S2 μ2 H2 kp ok i
  obtain ⟨h2, l2⟩ := kp a _ h l
  have hq : SqL K H2 a vs := .inl (.inl h2)
  refine ⟨fun hi => ⟨vs, hq, by rw [← r.length]; simpa [enumF_len] using hi⟩, fun x hx => ?_⟩
  obtain ⟨d, hd, rfl⟩ := enumF_get 0 ds i x hx
  obtain ⟨v, hv, rd⟩ := r.get hd
  refine ⟨⟨vs, v, hq, hv⟩, fun u H3 ⟨p, w, e1, e2, e3, hu⟩ => ?_⟩
  have e := hu vs hq
  rw [hv] at e
  cases e
  subst e1
  rw [Nat.zero_add]
  exact pair_laid ok e2 e3 (.int _) (RepD.mono kp rd)
theorem walk_enumT {a : Addr} {vs : List V} {ds : List PyData} (t : TupAt K (Live S μ) H a vs) (r : RepDs K (Live S μ) H ds vs) : WalkOk K (IteT K a) (enumF 0 ds) S μ H := by
  intro S2 μ2 H2 kp ok i
  have hq : SqT K H2 a vs := (t.mono kp).sq
  refine ⟨fun hi => ⟨vs, hq, by rw [← r.length]; simpa [enumF_len] using hi⟩, fun x hx => ?_⟩
  obtain ⟨d, hd, rfl⟩ := enumF_get 0 ds i x hx
  obtain ⟨v, hv, rd⟩ := r.get hd
  refine ⟨⟨vs, v, hq, hv⟩, fun u H3 ⟨p, w, e1, e2, e3, hu⟩ => ?_⟩
  have e := hu vs hq
  rw [hv] at e
  cases e
  subst e1
  rw [Nat.zero_add]
  exact pair_laid ok e2 e3 (.int _) (RepD.mono kp rd)
theorem zipF_get : ∀ (xs ys : List PyData) (i : Nat) (v : Vl), (zipF xs ys)[i]? = some v → ∃ x y, xs[i]? = some x ∧ ys[i]? = some y ∧ v = .d (.tuple [x, y])
  | [], _, i, v, h => by simp [zipF] at h
  | _ :: _, [], i, v, h => by simp [zipF] at h
  | x :: r, y :: q, 0, v, h => by
    simp [zipF] at h
    exact ⟨x, y, rfl, rfl, h.symm⟩
  | x :: r, y :: q, i + 1, v, h => by
    obtain ⟨a, b, h1, h2, h3⟩ := zipF_get r q i v (by simpa [zipF] using h)
    exact ⟨a, b, by simpa using h1, by simpa using h2, h3⟩
theorem zipF_len : ∀ (xs ys : List PyData), (zipF xs ys).length = min xs.length ys.length
  | [], _ => by simp [zipF]
  | _ :: _, [] => by simp [zipF]
  | x :: r, y :: q => by simp [zipF, zipF_len r q]
theorem walk_zipB {t1 t2 : Bool} {a b : Addr} {vs ws : List V} {ds es : List PyData} (h : ∀ S2 μ2 H2, Keep (Live S μ) H (Live S2 μ2) H2 → SqB t1 K H2 a vs) (r : RepDs K (Live S μ) H ds vs) (h2 : ∀ S2 μ2 H2, Keep (Live S μ) H (Live S2 μ2) H2 → SqB t2 K H2 b ws) (r2 : RepDs K (Live S μ) H es ws) : WalkOk K (ItzB K t1 t2 a b) (zipF ds es) S μ H := by
  intro S2 μ2 H2 kp ok i
  have hq : SqB t1 K H2 a vs := h S2 μ2 H2 kp
  have hq2 : SqB t2 K H2 b ws := h2 S2 μ2 H2 kp
  refine ⟨fun hi => ⟨vs, ws, hq, hq2, ?_⟩, fun x hx => ?_⟩
  · rw [zipF_len, r.length, r2.length] at hi
    omega
  obtain ⟨d, e, hd, he, rfl⟩ := zipF_get ds es i x hx
  obtain ⟨v, hv, rd⟩ := r.get hd
  obtain ⟨w, hw, re⟩ := r2.get he
  refine ⟨⟨vs, ws, v, w, hq, hq2, hv, hw⟩, fun u H3 ⟨p, x, y, e1, e2, e3, hu, hu2⟩ => ?_⟩
  have e4 := hu vs hq
  have e5 := hu2 ws hq2
  rw [hv] at e4
  rw [hw] at e5
  cases e4
  cases e5
  subst e1
  exact pair_laid ok e2 e3 (RepD.mono kp rd) (RepD.mono kp re)
theorem seqB_of {x : Vl} {ds : List PyData} {u : V} (h : RepV K S μ H x u) (e : plainD x = some ds) : ∃ t a vs, u = .ref a ∧ RepDs K (Live S μ) H ds vs ∧ SqB t K H a vs ∧ ∀ S2 μ2 H2, Keep (Live S μ) H (Live S2 μ2) H2 → SqB t K H2 a vs := by
  unfold plainD at e
  split at e
  · cases e
    cases h with
    | lst hh l r => exact ⟨false, _, _, rfl, r, .inl (.inl hh), fun S2 μ2 H2 kp => .inl (.inl (kp _ _ hh l).1)⟩
  · cases e
    cases h with
    | tup t r => exact ⟨true, _, _, rfl, r, t.sq, fun S2 μ2 H2 kp => (t.mono kp).sq⟩
  · cases e
end
section
variable {X : Cx} {T : Prog} {XR : XRep} {Wx : WX} {k : Nat}
theorem si_enum (c : Cxt X T XR k) {e : Expr} {m : Env → Store → R Vl} {p pos tpos : Pos} {elts : List Expr} {kk : Nat} (hg : Gl X "enumerate") (he : SE X XR Wx e m) (hs : starEach [e] X.env = [(false, eval e X.env)]) :
    PI X (.Tuple elts kk tpos) (.Call (.Name "enumerate" p) [e] [] pos) (iM X.K XR Wx fun ρ S => (m ρ S).bind fun x S1 => ofO ((plainSeq x).map (enumF 0)) S1) := by
  refine (pi_enumT hg (c.blt _ (by decide +kernel)) (pa_cons he pa_nil hs) hs).imp fun σ H R h => ?_
  obtain ⟨ρ, S, μ, at_, h⟩ := h
  refine ⟨ρ, S, μ, at_, h.bind.imp fun x S1 μ1 H1 e1 o1 h1 u ru => ?_⟩
  unfold plainSeq at h1
  split at h1
  · cases ru with
    | lst hh l r => exact ⟨_, _, rfl, .inl ⟨.inl (.inl hh), h1.here o1 _ (walk_enumL hh l r)⟩⟩
  · cases ru with
    | tup t r => exact ⟨_, _, rfl, .inr ⟨t.sq, h1.here o1 _ (walk_enumT t r)⟩⟩
  · exact h1.elim
theorem si_zip (c : Cxt X T XR k) {e e2 : Expr} {m m2 : Env → Store → R Vl} {p pos tpos : Pos} {elts : List Expr} {kk : Nat} (hg : Gl X "zip") (he : SE X XR Wx e m) (he2 : SE X XR Wx e2 m2) (hs : starEach [e, e2] X.env = (false, eval e X.env) :: starEach [e2] X.env) (hs2 : starEach [e2] X.env = [(false, eval e2 X.env)]) (hpl : (backTo pos (starEach [e2] X.env)).any (·.1) = false) :
    PI X (.Tuple elts kk tpos) (.Call (.Name "zip" p) [e, e2] [] pos) (iM X.K XR Wx fun ρ S => (m ρ S).bind fun x S1 => (m2 ρ S1).bind fun y S2 => (match plainD x, plainD y with
      | some xs, some ys => .ok (zipF xs ys) S2
      | _, _ => .fail)) := by
  refine (pi_zipB hg (c.blt _ (by decide +kernel)) (pa_cons he (pa_cons he2 pa_nil hs2) hs) hs hpl).imp fun σ H R h => ?_
  obtain ⟨ρ, S, μ, at_, h⟩ := h
  refine ⟨ρ, S, μ, at_, h.bind.imp fun x S1 μ1 H1 e1 o1 h1 u ru => ⟨ρ, S1, μ1, at_.mono e1 o1, h1.bind.imp fun y S2 μ2 H2 e2 o2 h2 w rw' => ?_⟩⟩
  have ru := ru.mono e2
  split at h2
  · rename_i xs ys ex ey
    obtain ⟨t1, a, vs, rfl, r1, q1, k1⟩ := seqB_of ru ex
    obtain ⟨t2, b, ws, rfl, r2, q2, k2⟩ := seqB_of rw' ey
    exact ⟨t1, t2, a, b, vs, ws, rfl, q1, q2, h2.here o2 _ (walk_zipB k1 r1 k2 r2)⟩
  · exact h2.elim
end
end Tz

end
section
/-! Tz.Chk2: the checker is sound. -/
namespace Tz
open PySem PySem.Spec PyProof.Rows L2 StX
structure Ck (X : Cx) (T : Prog) (XR : XRep) (k : Nat) (N : List Str) (sc : Scope) (fnb : Str → Bool) : Prop where
  cxt : Cxt X T XR k
  n : X.N = N
  scq : X.env.scope = sc
  fn : ∀ x, fnb x = true → X.fn x = true
  kind : sc.kind = .function
section
variable {X : Cx} {T : Prog} {XR : XRep} {k : Nat} {N : List Str} {sc : Scope} {fnb : Str → Bool}
theorem Ck.blk (c : Ck X T XR k N sc fnb) {scope : Scope} (hs : scope.kind = .function) (s : Shared) (H : Hp) (C : Addr) (cl : List (Str × Addr)) (fp : List Addr) :
    Ck (X.blk s H scope (compEnvC scope cl C X.env) fp) T XR k N (relS scope sc) (fun x => scope.names.lookup x == some .cell) :=
  ⟨c.cxt.blk _ _ _ _ _, c.n, by rw [← c.scq]; rfl, fun x h => h, hs⟩
theorem Ck.gl (c : Ck X T XR k N sc fnb) {x : Str} (h : glB sc x = true) : Gl X x := gl_of (by rw [c.scq]; exact h)
theorem Ck.vis (c : Ck X T XR k N sc fnb) {x : Str} (h : visB sc x = true) : Vis X.env.scope x := vis_of (by rw [c.scq]; exact h)
theorem Ck.loc (c : Ck X T XR k N sc fnb) {x : Str} (h : locB sc x = true) : Loc X.env.scope x := loc_of (by rw [c.scq]; exact h)
theorem Ck.local (c : Ck X T XR k N sc fnb) {x : Str} (h : localB sc x = true) : X.env.scope.names.lookup x = some .local := local_of (by rw [c.scq]; exact h)
theorem Ck.fnl (c : Ck X T XR k N sc fnb) {x : Str} (h : (fnb x || localB sc x) = true) : X.fn x = true ∨ X.env.scope.names.lookup x = some .local := by
  rcases Bool.or_eq_true_iff.mp h with z | z
  · exact .inl (c.fn x z)
  · exact .inr (c.local z)
theorem Ck.at (c : Ck X T XR k N sc fnb) {i : Nat} {x : Str} (h : N[i]? = some x) : X.N[i]? = some x := by rw [c.n]; exact h
theorem Ck.nd (c : Ck X T XR k N sc fnb) : X.N.Nodup := c.cxt.nd
theorem Ck.fkind (c : Ck X T XR k N sc fnb) : X.env.scope.kind = .function := by rw [c.scq]; exact c.kind
/-! ### targets -/
mutual
theorem ckT_ok (c : Ck X T XR k N sc fnb) : ∀ (t : Tg) (e : Expr), ckT N sc fnb t e = true → PG X e (gM X.K t) ∧ isStar e = false
  | .nm i, e, h => by
    unfold ckT at h
    split at h
    · simp only [Bool.and_eq_true, decide_eq_true_eq] at h
      exact ⟨tg_nm c.nd (c.at h.1) (c.loc h.2.1) (c.fnl h.2.2), rfl⟩
    · cases h
  | .tp ts, e, h => by
    unfold ckT at h
    split at h
    · obtain ⟨h1, h2, h3⟩ := ckTs_ok c ts _ h
      exact ⟨tg_tp c.cxt.calm h1 h2 h3, rfl⟩
    · cases h
theorem ckTs_ok (c : Ck X T XR k N sc fnb) : ∀ (ts : Tgs) (es : List Expr), ckTs N sc fnb ts es = true → PGs X es (gMs X.K ts) ∧ (assignEach es X.env).length = tgsLen ts ∧ (assignEach es X.env).findIdx? (·.1) = none
  | .nil, es, h => by
    unfold ckTs at h
    split at h
    · exact ⟨tgs_nil, rfl, rfl⟩
    · cases h
  | .cons t ts, es, h => by
    unfold ckTs at h
    split at h
    · simp only [Bool.and_eq_true, Bool.not_eq_true'] at h
      obtain ⟨h1, _⟩ := ckT_ok c t _ h.2.1
      obtain ⟨h2, h3, h4⟩ := ckTs_ok c ts _ h.2.2
      obtain ⟨e1, e2⟩ := each_ok (env := X.env) (es := (by assumption)) h.1
      refine ⟨tgs_cons h1 h2 e1, ?_, ?_⟩
      · rw [e2, List.length_cons, h3]
        rfl
      · rw [e2, List.findIdx?_cons, h4]
        rfl
    · cases h
end
theorem mem_isi {c : String} (h : c ∈ isiNames) : tyStr c ∈ bltNames ∧ tyStr c ≠ "__name__" ∧ (tyStr c == ("__debug__" : Str)) = false := by
  have z : (isiNames.all fun c => decide (tyStr c ∈ bltNames) && (decide (tyStr c ≠ "__name__") && decide ((tyStr c == ("__debug__" : Str)) = false))) = true := by decide +kernel
  have := List.all_eq_true.mp z c h
  simp only [Bool.and_eq_true, decide_eq_true_eq] at this
  exact ⟨this.1, this.2.1, this.2.2⟩
theorem key_con {key : Key} {ke : Expr} (h : keyE key ke = true) : PE X ke (tC (kV key)) := by
  unfold keyE at h
  split at h
  · rename_i cc kk pos
    cases key with
    | inl i =>
      cases cc <;> first | (simp [conOk, keyD] at h; done) | skip
      simp only [conOk, keyD, beq_iff_eq] at h
      subst h
      exact pe_int
    | inr x =>
      cases cc <;> first | (simp [conOk, keyD] at h; done) | skip
      simp only [conOk, keyD, beq_iff_eq] at h
      subst h
      exact pe_str
  · cases h
theorem se_dic0 {m : Bool} {pos : Pos} {Wx : WX} : SE X XR Wx (.Dict [] [] pos) (fun ρ S => dicV m [] [] S) := by
  refine pe_dnewK.imp fun σ H Q h p hp => ?_
  obtain ⟨ρ, S, μ, at_, h⟩ := h
  obtain ⟨v, S', e', q⟩ := post_ok (fun _ _ => dicV_noex) h
  obtain ⟨z1, z2, z3⟩ := dic_end (K := X.K) (us := []) at_.ok hp (at_.ok.rsv hp) .nil Ext.refl e' q
  rw [upd_upd] at z3
  exact z3
theorem plain_test {Wx : WX} {a : Expr} {ma : Env → Store → R Vl} (ha : SE X XR Wx a ma) (he : ∀ whole, isTrue a X.env whole = (do let v ← whole; standAt a.pos; holding [v] (truthy v))) {c : E} : SE X XR Wx a ma ∧ (noIte c = true → SB X XR Wx a (tstM ma)) := ⟨ha, fun _ => sb_plain ha he⟩
theorem rng1_eq {ma : Env → Store → R Vl} : (fun (ρ : Env) (S : Store) => ((ma ρ S).bind fun x S1 => (R.ok [] S1 : R (List Vl)).bind fun xs S2 => .ok (x :: xs) S2).bind fun xs S1 => ofO (rangeV xs) S1)
    = fun ρ S => ((ma ρ S).bind fun x S1 => (R.ok [] S1 : R (List Vl)).bind fun xs S2 => .ok (x :: xs) S2).bind fun xs S1 => ofO (match xs with | [.d (.int j)] => rangeV [.d (.int j)] | _ => none) S1 := by
  funext ρ S
  cases ma ρ S with
  | fail => rfl
  | ex x S1 => rfl
  | ok x S1 =>
    cases x with
    | r n => rfl
    | d d => cases d <;> rfl
theorem rng2_eq {ma mb : Env → Store → R Vl} : (fun (ρ : Env) (S : Store) => ((ma ρ S).bind fun x S1 => ((mb ρ S1).bind fun x S1 => (R.ok [] S1 : R (List Vl)).bind fun xs S2 => .ok (x :: xs) S2).bind fun xs S2 => .ok (x :: xs) S2).bind fun xs S1 => ofO (rangeV xs) S1)
    = fun ρ S => ((ma ρ S).bind fun x S1 => ((mb ρ S1).bind fun x S1 => (R.ok [] S1 : R (List Vl)).bind fun xs S2 => .ok (x :: xs) S2).bind fun xs S2 => .ok (x :: xs) S2).bind fun xs S1 => ofO (match xs with | [.d (.int i), .d (.int j)] => rangeV [.d (.int i), .d (.int j)] | _ => none) S1 := by
  funext ρ S
  cases ma ρ S with
  | fail => rfl
  | ex x S1 => rfl
  | ok x S1 =>
    simp only [R.bind]
    cases mb ρ S1 with
    | fail => rfl
    | ex x S1 => rfl
    | ok y S2 =>
      cases x with
      | r n => rfl
      | d d =>
        cases d with
        | int i =>
          cases y with
          | r n => rfl
          | d d2 => cases d2 <;> rfl
        | _ => rfl
end
section
variable {X : Cx} {T : Prog} {XR : XRep} {Wx : WX} {k : Nat}
theorem si_rngA (c : Cxt X T XR k) {tg a : Expr} {p pos : Pos} {ma : Env → Store → R Vl} (hg : Gl X "range") (ha : SE X XR Wx a ma) (hs : starEach [a] X.env = [(false, eval a X.env)]) :
    PI X tg (.Call (.Name "range" p) [a] [] pos) (iM X.K XR Wx fun ρ S => ((ma ρ S).bind fun x S1 => (R.ok [] S1 : R (List Vl)).bind fun xs S2 => .ok (x :: xs) S2).bind fun xs S1 => ofO (rangeV xs) S1) := by
  rw [rng1_eq]
  exact si_rng1 hg (c.blt _ (by decide +kernel)) (sa_cons ha sa_nil hs) hs
theorem si_rngB (c : Cxt X T XR k) {tg a b : Expr} {p pos : Pos} {ma mb : Env → Store → R Vl} (hg : Gl X "range") (ha : SE X XR Wx a ma) (hb : SE X XR Wx b mb) (h1 : isStar a = false) (h2 : isStar b = false) :
    PI X tg (.Call (.Name "range" p) [a, b] [] pos) (iM X.K XR Wx fun ρ S => ((ma ρ S).bind fun x S1 => ((mb ρ S1).bind fun x S1 => (R.ok [] S1 : R (List Vl)).bind fun xs S2 => .ok (x :: xs) S2).bind fun xs S2 => .ok (x :: xs) S2).bind fun xs S1 => ofO (rangeV xs) S1) := by
  rw [rng2_eq]
  exact si_rng2 hg (c.blt _ (by decide +kernel)) (sa_cons ha (sa_cons hb sa_nil (star_one h2)) (star_one h1)) ((star_one h1).trans (by rw [star_one h2]; rfl)) (star_one h2)
end
/-! ### expressions -/
section
variable {T : Prog} {XR : XRep} {k : Nat}
abbrev EvE (T : Prog) (k : Nat) : E → Env → Store → R Vl := ev (run T k) T.G
mutual
theorem ckE_ok : ∀ (c : E) {X : Cx} {Wx : WX} {N : List Str} {sc : Scope} {fnb : Str → Bool} (e : Expr), Ck X T XR k N sc fnb → Takes X Wx → ckE T N sc fnb c e = true → SE X XR Wx e (ev (run T k) T.G c) ∧ (noIte c = true → SB X XR Wx e (tstM (ev (run T k) T.G c)))
  | .con d, X, Wx, N, sc, fnb, e, ck, tk, h => by
    unfold ckE at h
    split at h
    · rename_i cc kk pos
      have z : SE X XR Wx (.Constant cc kk pos) (fun _ S => .ok (.d d) S) := by
        cases cc <;> cases d <;> first | (simp [conOk] at h; done) | skip
        · exact se_con pe_non fun _ _ => .non
        · simp only [conOk, beq_iff_eq] at h
          subst h
          exact se_con pe_bl fun _ _ => .bl _
        · simp only [conOk, beq_iff_eq] at h
          subst h
          exact se_con pe_int fun _ _ => .int _
        · simp only [conOk, beq_iff_eq] at h
          subst h
          exact se_con pe_str fun _ _ => .str _
      exact plain_test z fun _ => rfl
    · cases h
  | .var i, X, Wx, N, sc, fnb, e, ck, tk, h => by
    unfold ckE at h
    split at h
    · simp only [Bool.and_eq_true, decide_eq_true_eq] at h
      exact plain_test (se_var (pe_var (ck.at h.1) (ck.vis h.2.1) (plain_of h.2.2).1 (plain_of h.2.2).2)) fun _ => rfl
    · cases h
  | .frz i, X, Wx, N, sc, fnb, e, ck, tk, h => by
    unfold ckE at h
    split at h
    · simp only [Bool.and_eq_true, decide_eq_true_eq] at h
      exact plain_test (se_frz (pe_var (ck.at h.1) (ck.vis h.2.1) (plain_of h.2.2).1 (plain_of h.2.2).2)) fun _ => rfl
    · cases h
  | .glob x, X, Wx, N, sc, fnb, e, ck, tk, h => by
    unfold ckE at h
    split at h
    · simp only [Bool.and_eq_true, decide_eq_true_eq] at h
      obtain ⟨rfl, h1, h2, h3⟩ := h
      obtain ⟨d, hd, h4⟩ : ∃ d, T.G x = some d ∧ scal d = true := by
        cases e : T.G x with
        | none => rw [e] at h3; cases h3
        | some d => rw [e] at h3; exact ⟨d, rfl, h3⟩
      obtain ⟨u, v, g1, g2, g3⟩ := ck.cxt.con x d hd h4
      have z : ev (run T k) T.G (.glob x) = fun _ S => .ok (.d d) S := by
        funext ρ S
        show (match T.G x with | some v => _ | none => _) = _
        rw [hd]
      rw [z]
      exact plain_test (se_con (pe_glob (ck.gl h1) g1 g2 (plain_of h2).1) g3) fun _ => rfl
    · cases h
  | .bin op a b, X, Wx, N, sc, fnb, e, ck, tk, h => by
    unfold ckE at h
    split at h
    · simp only [Bool.and_eq_true, opEq, decide_eq_true_eq] at h
      obtain ⟨rfl, h1, h2⟩ := h
      exact plain_test (se_bin (ckE_ok a _ ck tk h1).1 (ckE_ok b _ ck tk h2).1) fun _ => rfl
    · cases h
  | .binL op a b, X, Wx, N, sc, fnb, e, ck, tk, h => by
    unfold ckE at h
    split at h
    · simp only [Bool.and_eq_true, opEq, decide_eq_true_eq] at h
      obtain ⟨rfl, h1, h2⟩ := h
      exact plain_test (se_binL (ckE_ok a _ ck tk h1).1 (ckE_ok b _ ck tk h2).1) fun _ => rfl
    · cases h
  | .neg a, X, Wx, N, sc, fnb, e, ck, tk, h => by
    unfold ckE at h
    split at h
    · exact plain_test (se_neg (ckE_ok a _ ck tk h).1) fun _ => rfl
    · cases h
  | .not a, X, Wx, N, sc, fnb, e, ck, tk, h => by
    unfold ckE at h
    split at h
    · obtain ⟨z1, z2⟩ := ckE_ok a _ ck tk h
      exact ⟨se_not z1, fun hn => sb_not (z2 hn)⟩
    · cases h
  | .cmp op a b, X, Wx, N, sc, fnb, e, ck, tk, h => by
    unfold ckE at h
    split at h
    · simp only [Bool.and_eq_true, cmpEq, decide_eq_true_eq, Bool.not_eq_true'] at h
      obtain ⟨rfl, h1, h2, h3⟩ := h
      exact ⟨se_cmp ck.cxt (ckE_ok a _ ck tk h1).1 (ckE_ok b _ ck tk h2).1 h3, fun _ => sb_cmp ck.cxt (ckE_ok a _ ck tk h1).1 (ckE_ok b _ ck tk h2).1 h3⟩
    · cases h
  | .cmp2 op op2 a b c, X, Wx, N, sc, fnb, e, ck, tk, h => by
    unfold ckE at h
    split at h
    · simp only [Bool.and_eq_true, cmpEq, decide_eq_true_eq, Bool.not_eq_true'] at h
      obtain ⟨rfl, rfl, h1, h2, h3, h4⟩ := h
      exact ⟨se_cmp2 ck.cxt (ckE_ok a _ ck tk h1).1 (ckE_ok b _ ck tk h2).1 (ckE_ok c _ ck tk h3).1 h4, fun _ => sb_cmp2 ck.cxt (ckE_ok a _ ck tk h1).1 (ckE_ok b _ ck tk h2).1 (ckE_ok c _ ck tk h3).1 h4⟩
    · cases h
  | .and a b, X, Wx, N, sc, fnb, e, ck, tk, h => by
    unfold ckE at h
    split at h
    · rename_i pos
      simp only [Bool.and_eq_true] at h
      obtain ⟨z1, z2⟩ := ckE_ok a _ ck tk h.1
      obtain ⟨z3, z4⟩ := ckL_ok b (pos := pos) .And _ ck tk h.2
      refine ⟨se_and z1 z3, fun hn => ?_⟩
      unfold noIte at hn
      rw [Bool.and_eq_true] at hn
      exact (sb_and (z2 hn.1) (z4 hn.2)).pt
    · cases h
  | .or a b, X, Wx, N, sc, fnb, e, ck, tk, h => by
    unfold ckE at h
    split at h
    · rename_i pos
      simp only [Bool.and_eq_true] at h
      obtain ⟨z1, z2⟩ := ckE_ok a _ ck tk h.1
      obtain ⟨z3, z4⟩ := ckL_ok b (pos := pos) .Or _ ck tk h.2
      refine ⟨se_or z1 z3, fun hn => ?_⟩
      unfold noIte at hn
      rw [Bool.and_eq_true] at hn
      exact (sb_or (z2 hn.1) (z4 hn.2)).pt
    · cases h
  | .one a, X, Wx, N, sc, fnb, e, ck, tk, h => by
    unfold ckE at h
    cases h
  | .ite c a b, X, Wx, N, sc, fnb, e, ck, tk, h => by
    unfold ckE at h
    split at h
    · simp only [Bool.and_eq_true] at h
      obtain ⟨h1, h2, h3, h4⟩ := h
      exact ⟨se_ite ((ckE_ok c _ ck tk h1).2 h2) (ckE_ok a _ ck tk h3).1 (ckE_ok b _ ck tk h4).1, fun hn => absurd hn (by simp [noIte])⟩
    · cases h
  | .tup es, X, Wx, N, sc, fnb, e, ck, tk, h => by
    unfold ckE at h
    split at h
    · exact plain_test (se_tup (ckEs_ok es _ ck tk h)) fun _ => rfl
    · cases h
  | .lst m es, X, Wx, N, sc, fnb, e, ck, tk, h => by
    unfold ckE at h
    split at h
    · exact plain_test (se_lst (ckEs_ok es _ ck tk h)) fun _ => rfl
    · cases h
  | .dic m ks es, X, Wx, N, sc, fnb, e, ck, tk, h => by
    unfold ckE at h
    split at h
    · rename_i kes l pos
      simp only [Bool.and_eq_true, decide_eq_true_eq] at h
      have z := ckD_ok es ks _ _ ck tk h.2
      by_cases h0 : ks = []
      · subst h0
        obtain ⟨l1, l2, _⟩ := z.lens
        have e1 : kes = [] := List.eq_nil_of_length_eq_zero l2
        subst e1
        have e2 : l = [] := List.eq_nil_of_length_eq_zero l1.symm
        subst e2
        have e3 : es = .nil := by
          cases es with
          | nil => rfl
          | cons a b => exact absurd h.2 (by simp [ckD])
          | star a b => exact absurd h.2 (by simp [ckD])
        subst e3
        exact plain_test (se_dic0 (m := m)) fun _ => rfl
      · exact plain_test (se_dic (m := m) z h0 h.1) fun _ => rfl
    · cases h
  | .sub a i, X, Wx, N, sc, fnb, e, ck, tk, h => by
    unfold ckE at h
    split at h
    · simp only [Bool.and_eq_true, Bool.not_eq_true'] at h
      exact plain_test (se_sub ck.cxt (ckE_ok a _ ck tk h.2.1).1 (ckE_ok i _ ck tk h.2.2).1 (plainIx_ok h.1)) fun _ => rfl
    · cases h
  | .slc a lo hi, X, Wx, N, sc, fnb, e, ck, tk, h => by
    unfold ckE at h
    split at h
    · simp only [Bool.and_eq_true] at h
      exact plain_test (se_slc (ckE_ok a _ ck tk h.1).1 (ckP_ok lo _ ck tk h.2.1) (ckP_ok hi _ ck tk h.2.2)) fun _ => rfl
    · cases h
  | .rev a, X, Wx, N, sc, fnb, e, ck, tk, h => by
    unfold ckE at h
    split at h
    · simp only [Bool.and_eq_true, decide_eq_true_eq] at h
      obtain ⟨rfl, h⟩ := h
      exact plain_test (se_rev (ckE_ok a _ ck tk h).1) fun _ => rfl
    · cases h
  | .call f es, X, Wx, N, sc, fnb, e, ck, tk, h => by
    unfold ckE at h
    split at h
    · simp only [Bool.and_eq_true, decide_eq_true_eq] at h
      obtain ⟨rfl, h1, h2, h3, h4, h5⟩ := h
      obtain ⟨fn, hf⟩ := Option.isSome_iff_exists.mp h3
      rename_i p l pos
      cases l with
      | nil =>
        have e3 : es = .nil := by
          cases es with
          | nil => rfl
          | cons a b => exact absurd h5 (by simp [ckEs])
          | star a b => exact absurd h5 (by simp [ckEs])
        subst e3
        exact plain_test (se_call0 ck.cxt tk hf (ck.gl h1) (plain_of h2).1) fun _ => rfl
      | cons y l =>
        have h4' := h4
        unfold noStars at h4'
        simp only [Bool.and_eq_true, Bool.not_eq_true'] at h4'
        exact plain_test (se_call ck.cxt tk hf (ckEs_ok es _ ck tk h5) (ck.gl h1) (plain_of h2).1 (star_one h4'.1) (star_none h4'.2).1) fun _ => rfl
    · cases h
  | .bi b es, X, Wx, N, sc, fnb, e, ck, tk, h => by
    unfold ckE at h
    split at h
    · simp only [Bool.and_eq_true, decide_eq_true_eq] at h
      obtain ⟨rfl, h1, h4, h5⟩ := h
      have h4' := h4
      unfold noStars at h4'
      simp only [Bool.and_eq_true, Bool.not_eq_true'] at h4'
      exact plain_test (se_bi ck.cxt (ckEs_ok es _ ck tk h5) (ck.gl h1) (star_one h4'.1) (star_none h4'.2).1) fun _ => rfl
    · cases h
  | .isi a ts, X, Wx, N, sc, fnb, e, ck, tk, h => by
    unfold ckE at h
    split at h
    · simp only [Bool.and_eq_true, decide_eq_true_eq, Bool.not_eq_true'] at h
      obtain ⟨rfl, h1, h2, h3⟩ := h
      split at h3
      · rename_i cc
        simp only [Bool.and_eq_true, decide_eq_true_eq] at h3
        obtain ⟨g1, rfl, g2, g3⟩ := h3
        obtain ⟨m1, m2, m3⟩ := mem_isi g1
        exact plain_test (se_isi ck.cxt (ckE_ok a _ ck tk h2).1 g1 (ck.gl g2) (ck.gl g3) (ck.cxt.blt _ m1) m2 m3 (star_one h1)) fun _ => rfl
      · cases h3
    · cases h
  | .met m o es, X, Wx, N, sc, fnb, e, ck, tk, h => by
    unfold ckE at h
    split at h
    · simp only [Bool.and_eq_true, decide_eq_true_eq, Bool.not_eq_true'] at h
      obtain ⟨rfl, h1, h2, h3, h4, h5, h6⟩ := h
      rename_i b ap l cp
      cases l with
      | nil =>
        have e3 : es = .nil := by
          cases es with
          | nil => rfl
          | cons a b => exact absurd h6 (by simp [ckEs])
          | star a b => exact absurd h6 (by simp [ckEs])
        subst e3
        exact plain_test (se_met0 ck.cxt.hu (ckE_ok o _ ck tk h5).1 (base_ok h1) h2) fun _ => rfl
      | cons y l =>
        have h4' := h4
        unfold noStars at h4'
        simp only [Bool.and_eq_true, Bool.not_eq_true'] at h4'
        refine plain_test (se_met ck.cxt.hu (ckE_ok o _ ck tk h5).1 (ckEs_ok es _ ck tk h6) (base_ok h1) ?_ h2 (star_one h4'.1) (star_none h4'.2).1) fun _ => rfl
        rw [(star_none h4).2, Bool.true_and]
        have : (backToKw cp (keywordEach [] X.env)).all (fun x => x.1.isSome) = true := rfl
        rw [this, Bool.true_and]
        refine decide_eq_true ?_
        show (y :: l).length + 0 + 0 < 30
        omega
    · cases h
  | .inT neg x a, X, Wx, N, sc, fnb, e, ck, tk, h => by
    unfold ckE at h
    split at h
    · simp only [Bool.and_eq_true, decide_eq_true_eq, cmpEq] at h
      obtain ⟨rfl, rfl, h1, h2, h3, h4⟩ := h
      obtain ⟨kvs, hk⟩ : ∃ kvs, T.G x = some (.dict kvs) := by
        split at h3
        · exact ⟨_, by assumption⟩
        · cases h3
      obtain ⟨z1, z2⟩ := se_inT ck.cxt hk (neg := neg) (ckE_ok a _ ck tk h4).1 (ck.gl h1) (plain_of h2).1
      exact ⟨z1, fun _ => z2⟩
    · cases h
  | .subT x a, X, Wx, N, sc, fnb, e, ck, tk, h => by
    unfold ckE at h
    split at h
    · simp only [Bool.and_eq_true, decide_eq_true_eq, Bool.not_eq_true'] at h
      obtain ⟨rfl, h0, h1, h2, h3, h4⟩ := h
      obtain ⟨kvs, hk⟩ : ∃ kvs, T.G x = some (.dict kvs) := by
        split at h3
        · exact ⟨_, by assumption⟩
        · cases h3
      exact plain_test (se_subT ck.cxt hk (ckE_ok a _ ck tk h4).1 (ck.gl h1) (plain_of h2).1 (plainIx_ok h0)) fun _ => rfl
    · cases h
  | .lc m own tg it c elt, X, Wx, N, sc, fnb, e, ck, tk, h => by
    unfold ckE at h
    split at h
    · rename_i x t i ifs a scope pos
      simp only [Bool.and_eq_true, decide_eq_true_eq, Bool.not_eq_true', List.all_eq_true] at h
      obtain ⟨rfl, h1, h2, h3, h4, h5, h6, h7, h8⟩ := h
      have bk : BlkOk N sc scope (ownOf N own) := blkOk_by h1
      have bk2 : BlkOk X.N X.env.scope scope (ownOf N own) := by rw [ck.n, ck.scq]; exact bk
      have z := se_lc (m := m) (Wx := Wx) (pos := pos) ck.cxt (own := ownOf N own) (t := tg) (by rw [h2]; exact h3) (ckI_ok it _ t ck tk h5) bk2 (fun s H C cl fp => (ckT_ok (ck.blk bk.kind s H C cl fp) tg t h6).1)
        (fun s H C cl fp => ckC_ok c _ (ck.blk bk.kind s H C cl fp) takes_no h7) (fun s H C cl fp => (ckE_ok elt _ (ck.blk bk.kind s H C cl fp) takes_no h8).1) (folded_ok h4)
      rw [h2] at z
      exact plain_test z fun _ => rfl
    · cases h
  | .lc2 m own own2 tg it c tg2 it2 c2 elt, X, Wx, N, sc, fnb, e, ck, tk, h => by
    unfold ckE at h
    cases h
theorem ckL_ok : ∀ (c : E) {X : Cx} {Wx : WX} {N : List Str} {sc : Scope} {fnb : Str → Bool} {pos : Pos} (op : BoolOp) (l : List Expr), Ck X T XR k N sc fnb → Takes X Wx → ckL T N sc fnb c op l = true → SE X XR Wx (.BoolOp op l pos) (ev (run T k) T.G c) ∧ (noIte c = true → PW X (.BoolOp op l pos) (tMB X.K XR Wx (tstM (ev (run T k) T.G c))))
  | .one c, X, Wx, N, sc, fnb, pos, op, l, ck, tk, h => by
    unfold ckL at h
    split at h
    · obtain ⟨z1, z2⟩ := ckE_ok c _ ck tk h
      exact ⟨se_boolOne z1, fun hn => sb_boolOne (z2 hn)⟩
    · cases h
  | .and a b, X, Wx, N, sc, fnb, pos, op, l, ck, tk, h => by
    unfold ckL at h
    split at h
    · simp only [Bool.and_eq_true] at h
      obtain ⟨z1, z2⟩ := ckE_ok a _ ck tk h.1
      obtain ⟨z3, z4⟩ := ckL_ok b (pos := pos) .And _ ck tk h.2
      refine ⟨se_and z1 z3, fun hn => ?_⟩
      unfold noIte at hn
      rw [Bool.and_eq_true] at hn
      exact sb_and (z2 hn.1) (z4 hn.2)
    · cases h
  | .or a b, X, Wx, N, sc, fnb, pos, op, l, ck, tk, h => by
    unfold ckL at h
    split at h
    · simp only [Bool.and_eq_true] at h
      obtain ⟨z1, z2⟩ := ckE_ok a _ ck tk h.1
      obtain ⟨z3, z4⟩ := ckL_ok b (pos := pos) .Or _ ck tk h.2
      refine ⟨se_or z1 z3, fun hn => ?_⟩
      unfold noIte at hn
      rw [Bool.and_eq_true] at hn
      exact sb_or (z2 hn.1) (z4 hn.2)
    · cases h
  | .con _, X, Wx, N, sc, fnb, pos, op, l, ck, tk, h => by unfold ckL at h; cases h
  | .var _, X, Wx, N, sc, fnb, pos, op, l, ck, tk, h => by unfold ckL at h; cases h
  | .frz _, X, Wx, N, sc, fnb, pos, op, l, ck, tk, h => by unfold ckL at h; cases h
  | .glob _, X, Wx, N, sc, fnb, pos, op, l, ck, tk, h => by unfold ckL at h; cases h
  | .bin _ _ _, X, Wx, N, sc, fnb, pos, op, l, ck, tk, h => by unfold ckL at h; cases h
  | .binL _ _ _, X, Wx, N, sc, fnb, pos, op, l, ck, tk, h => by unfold ckL at h; cases h
  | .neg _, X, Wx, N, sc, fnb, pos, op, l, ck, tk, h => by unfold ckL at h; cases h
  | .not _, X, Wx, N, sc, fnb, pos, op, l, ck, tk, h => by unfold ckL at h; cases h
  | .cmp _ _ _, X, Wx, N, sc, fnb, pos, op, l, ck, tk, h => by unfold ckL at h; cases h
  | .cmp2 _ _ _ _ _, X, Wx, N, sc, fnb, pos, op, l, ck, tk, h => by unfold ckL at h; cases h
  | .ite _ _ _, X, Wx, N, sc, fnb, pos, op, l, ck, tk, h => by unfold ckL at h; cases h
  | .tup _, X, Wx, N, sc, fnb, pos, op, l, ck, tk, h => by unfold ckL at h; cases h
  | .lst _ _, X, Wx, N, sc, fnb, pos, op, l, ck, tk, h => by unfold ckL at h; cases h
  | .dic _ _ _, X, Wx, N, sc, fnb, pos, op, l, ck, tk, h => by unfold ckL at h; cases h
  | .sub _ _, X, Wx, N, sc, fnb, pos, op, l, ck, tk, h => by unfold ckL at h; cases h
  | .slc _ _ _, X, Wx, N, sc, fnb, pos, op, l, ck, tk, h => by unfold ckL at h; cases h
  | .rev _, X, Wx, N, sc, fnb, pos, op, l, ck, tk, h => by unfold ckL at h; cases h
  | .call _ _, X, Wx, N, sc, fnb, pos, op, l, ck, tk, h => by unfold ckL at h; cases h
  | .bi _ _, X, Wx, N, sc, fnb, pos, op, l, ck, tk, h => by unfold ckL at h; cases h
  | .isi _ _, X, Wx, N, sc, fnb, pos, op, l, ck, tk, h => by unfold ckL at h; cases h
  | .met _ _ _, X, Wx, N, sc, fnb, pos, op, l, ck, tk, h => by unfold ckL at h; cases h
  | .inT _ _ _, X, Wx, N, sc, fnb, pos, op, l, ck, tk, h => by unfold ckL at h; cases h
  | .subT _ _, X, Wx, N, sc, fnb, pos, op, l, ck, tk, h => by unfold ckL at h; cases h
  | .lc _ _ _ _ _ _, X, Wx, N, sc, fnb, pos, op, l, ck, tk, h => by unfold ckL at h; cases h
  | .lc2 _ _ _ _ _ _ _ _ _ _, X, Wx, N, sc, fnb, pos, op, l, ck, tk, h => by unfold ckL at h; cases h
theorem ckP_ok : ∀ (c : P) {X : Cx} {Wx : WX} {N : List Str} {sc : Scope} {fnb : Str → Bool} (e : Option Expr), Ck X T XR k N sc fnb → Takes X Wx → ckP T N sc fnb c e = true → PO X e (tMO X.K XR Wx (evP (run T k) T.G c))
  | .no, X, Wx, N, sc, fnb, e, ck, tk, h => by
    unfold ckP at h
    split at h
    · exact so_none
    · cases h
  | .so c, X, Wx, N, sc, fnb, e, ck, tk, h => by
    unfold ckP at h
    split at h
    · exact so_some (ckE_ok c _ ck tk h).1
    · cases h
theorem ckC_ok : ∀ (c : P) {X : Cx} {Wx : WX} {N : List Str} {sc : Scope} {fnb : Str → Bool} (l : List Expr), Ck X T XR k N sc fnb → Takes X Wx → ckC T N sc fnb c l = true → PTs X l (tMB X.K XR Wx (evC (run T k) T.G c))
  | .no, X, Wx, N, sc, fnb, l, ck, tk, h => by
    unfold ckC at h
    split at h
    · exact ⟨fun pins s σ H Q I ⟨ρ, S, μ, at_, q⟩ => pts_nil.run pins s σ H Q I (q.here at_.ok)⟩
    · cases h
  | .so c, X, Wx, N, sc, fnb, l, ck, tk, h => by
    unfold ckC at h
    split at h
    · rw [Bool.and_eq_true] at h
      exact pts_one ((ckE_ok c _ ck tk h.1).2 h.2)
    · cases h
theorem ckEs_ok : ∀ (c : Es) {X : Cx} {Wx : WX} {N : List Str} {sc : Scope} {fnb : Str → Bool} (l : List Expr), Ck X T XR k N sc fnb → Takes X Wx → ckEs T N sc fnb c l = true → SA X XR Wx l (evs (run T k) T.G c)
  | .nil, X, Wx, N, sc, fnb, l, ck, tk, h => by
    unfold ckEs at h
    split at h
    · exact sa_nil
    · cases h
  | .cons c cs, X, Wx, N, sc, fnb, l, ck, tk, h => by
    unfold ckEs at h
    split at h
    · simp only [Bool.and_eq_true, Bool.not_eq_true'] at h
      exact sa_cons (ckE_ok c _ ck tk h.2.1).1 (ckEs_ok cs _ ck tk h.2.2) (star_one h.1)
    · cases h
  | .star c cs, X, Wx, N, sc, fnb, l, ck, tk, h => by
    unfold ckEs at h
    split at h
    · rw [Bool.and_eq_true] at h
      exact sa_star (ckE_ok c _ ck tk h.1).1 (ckEs_ok cs _ ck tk h.2)
    · cases h
theorem ckD_ok : ∀ (c : Es) {X : Cx} {Wx : WX} {N : List Str} {sc : Scope} {fnb : Str → Bool} (ks : List Key) (kes : List (Option Expr)) (l : List Expr), Ck X T XR k N sc fnb → Takes X Wx → ckD T N sc fnb c ks kes l = true → DicOk X XR Wx kes l ks (evs (run T k) T.G c)
  | .nil, X, Wx, N, sc, fnb, ks, kes, l, ck, tk, h => by
    unfold ckD at h
    split at h
    · exact .nil
    · cases h
  | .cons c cs, X, Wx, N, sc, fnb, ks, kes, l, ck, tk, h => by
    unfold ckD at h
    split at h
    · simp only [Bool.and_eq_true] at h
      exact .cons (key_con h.1) (ckE_ok c _ ck tk h.2.1).1 (ckD_ok cs _ _ _ ck tk h.2.2)
    · cases h
  | .star c cs, X, Wx, N, sc, fnb, ks, kes, l, ck, tk, h => by
    unfold ckD at h
    cases h
theorem ckI_ok : ∀ (c : I) {X : Cx} {Wx : WX} {N : List Str} {sc : Scope} {fnb : Str → Bool} (e tg : Expr), Ck X T XR k N sc fnb → Takes X Wx → ckI T N sc fnb c e tg = true → PI X tg e (iM X.K XR Wx (evI (run T k) T.G c))
  | .of c, X, Wx, N, sc, fnb, e, tg, ck, tk, h => by
    unfold ckI at h
    exact si_of (ckE_ok c _ ck tk h).1
  | .rng es, X, Wx, N, sc, fnb, e, tg, ck, tk, h => by
    unfold ckI at h
    split at h
    · simp only [Bool.and_eq_true, decide_eq_true_eq, Bool.not_eq_true'] at h
      obtain ⟨rfl, h1, h2, h3⟩ := h
      have z := ckEs_ok es _ ck tk h3
      cases es with
      | nil => exact absurd h3 (by simp [ckEs])
      | star a b =>
        rename_i p a2 pos
        cases a2 <;> first | (simp [isStar] at h2; done) | (simp [ckEs] at h3; done)
      | cons a b =>
        cases b with
        | nil =>
          unfold ckEs at h3
          simp only [Bool.and_eq_true] at h3
          exact si_rngA ck.cxt (ck.gl h1) (ckE_ok a _ ck tk h3.2.1).1 (star_one h2)
        | cons a b => exact absurd h3 (by simp [ckEs])
        | star a b => exact absurd h3 (by simp [ckEs])
    · simp only [Bool.and_eq_true, decide_eq_true_eq, Bool.not_eq_true'] at h
      obtain ⟨rfl, h1, h2, h2b, h3⟩ := h
      have z := ckEs_ok es _ ck tk h3
      rename_i p a2 b2 pos
      cases es with
      | nil => exact absurd h3 (by simp [ckEs])
      | star a b =>
        cases a2 <;> first | (simp [isStar] at h2; done) | (simp [ckEs] at h3; done)
      | cons a b =>
        cases b with
        | nil => exact absurd h3 (by simp [ckEs])
        | star c d =>
          cases b2 <;> first | (simp [isStar] at h2b; done) | (simp [ckEs] at h3; done)
        | cons c d =>
          cases d with
          | nil =>
            unfold ckEs at h3
            simp only [Bool.and_eq_true] at h3
            have h4 := h3.2.2
            unfold ckEs at h4
            simp only [Bool.and_eq_true] at h4
            exact si_rngB ck.cxt (ck.gl h1) (ckE_ok a _ ck tk h3.2.1).1 (ckE_ok c _ ck tk h4.2.1).1 h2 h2b
          | cons a b => exact absurd h3 (by simp [ckEs])
          | star a b => exact absurd h3 (by simp [ckEs])
    · cases h
  | .enum a, X, Wx, N, sc, fnb, e, tg, ck, tk, h => by
    unfold ckI at h
    rw [Bool.and_eq_true] at h
    obtain ⟨ht, h⟩ := h
    obtain ⟨elts, kk, tpos, rfl⟩ : ∃ elts kk tpos, tg = .Tuple elts kk tpos := by
      cases tg <;> first | exact ⟨_, _, _, rfl⟩ | (exact absurd ht (by simp [isTupE]))
    split at h
    · simp only [Bool.and_eq_true, decide_eq_true_eq, Bool.not_eq_true'] at h
      obtain ⟨rfl, h1, h2, h3⟩ := h
      exact si_enum ck.cxt (ck.gl h1) (ckE_ok a _ ck tk h3).1 (star_one h2)
    · cases h
  | .zip a b, X, Wx, N, sc, fnb, e, tg, ck, tk, h => by
    unfold ckI at h
    rw [Bool.and_eq_true] at h
    obtain ⟨ht, h⟩ := h
    obtain ⟨elts, kk, tpos, rfl⟩ : ∃ elts kk tpos, tg = .Tuple elts kk tpos := by
      cases tg <;> first | exact ⟨_, _, _, rfl⟩ | (exact absurd ht (by simp [isTupE]))
    split at h
    · simp only [Bool.and_eq_true, decide_eq_true_eq, Bool.not_eq_true'] at h
      obtain ⟨rfl, h1, h2, h2b, h3, h4⟩ := h
      exact si_zip ck.cxt (ck.gl h1) (ckE_ok a _ ck tk h3).1 (ckE_ok b _ ck tk h4).1 (star_one h2) (star_one h2b) (star_none (by simp [noStars, h2b])).1
    · cases h
  | .rvd _, X, Wx, N, sc, fnb, e, tg, ck, tk, h => by unfold ckI at h; cases h
  | .rvr _, X, Wx, N, sc, fnb, e, tg, ck, tk, h => by unfold ckI at h; cases h
end
end
end Tz

end
section
/-! Tz.Chk3: statements; defs. -/
namespace Tz
open PySem PySem.Spec PyProof.Rows L2 StX
section
variable {T : Prog} {XR : XRep} {k : Nat}
mutual
theorem ckS_ok {X : Cx} {Wx : WX} {N : List Str} {sc : Scope} {fnb : Str → Bool} (ck : Ck X T XR k N sc fnb) (tk : Takes X Wx) (hp : PassesOwn (model X.prog X.w) X.A X.env X.xe) : ∀ (c : St) (s : Stmt), ckS T N sc fnb c s = true → SS X XR Wx s (exS (run T k) T.G T.W c)
  | .expr c, s, h => by
    unfold ckS at h
    split at h
    · simp only [Bool.and_eq_true, Bool.not_eq_true'] at h
      exact ss_expr (ckE_ok c _ ck tk h.2).1 (swaps_none h.1)
    · cases h
  | .asg t c, s, h => by
    unfold ckS at h
    split at h
    · rename_i ts e spos
      split at h
      · rename_i tg
        split at h
        · rename_i hne
          rw [Bool.and_eq_true] at hne
          simp only [Bool.and_eq_true] at h
          obtain ⟨hc, hE, h1, h2⟩ := h
          obtain ⟨x, p, rfl⟩ : ∃ x p, tg = .Name x p := by
            cases tg <;> first | exact ⟨_, _, rfl⟩ | (exact absurd hne.1 (by simp [isName]))
          obtain ⟨elt, gs, scope, q, rfl⟩ : ∃ elt gs scope q, e = .ListComp elt gs scope q := by
            cases e <;> first | exact ⟨_, _, _, _, rfl⟩ | (exact absurd hE (by simp [isLcE]))
          obtain ⟨m, own, tg, it, cc, ce, rfl⟩ : ∃ m own tg it cc ce, c = .lc m own tg it cc ce := by
            cases c <;> first | exact ⟨_, _, _, _, _, _, rfl⟩ | (exact absurd hc (by simp [isLc]))
          obtain ⟨i, rfl⟩ : ∃ i, t = .nm i := by
            cases t with
            | nm i => exact ⟨i, rfl⟩
            | tp ts => exact absurd h1 (by simp [ckT])
          by_cases hw : swB (.ListComp elt gs scope q) x p sc = true
          · have h1' := h1
            unfold ckT at h1'
            simp only [Bool.and_eq_true, decide_eq_true_eq] at h1'
            unfold ckE at h2
            split at h2
            · rename_i x2 t2 i2 ifs a scope2 pos e
              cases e
              simp only [Bool.and_eq_true, decide_eq_true_eq, Bool.not_eq_true', List.all_eq_true] at h2
              obtain ⟨rfl, g1, g2, g3, g4, g5, g6, g7, g8⟩ := h2
              have bk : BlkOk N sc scope (ownOf N own) := blkOk_by g1
              have bk2 : BlkOk X.N X.env.scope scope (ownOf N own) := by rw [ck.n, ck.scq]; exact bk
              obtain ⟨w1, w2⟩ := swB_true (l := spos.line) ck.fkind (by rw [ck.scq]; exact hw)
              have z := ss_setLc (m := m) (Wx := Wx) ck.cxt (own := ownOf N own) (t := tg) (ck.at h1'.1) w2 w1 (by rw [g2]; exact g3) (ckI_ok it _ t2 ck tk g5) bk2 (fun s H C cl fp => (ckT_ok (ck.blk bk.kind s H C cl fp) tg t2 g6).1)
                (fun s H C cl fp => ckC_ok cc _ (ck.blk bk.kind s H C cl fp) takes_no g7) (fun s H C cl fp => (ckE_ok ce _ (ck.blk bk.kind s H C cl fp) takes_no g8).1) (folded_ok g4)
              rw [g2] at z
              exact z
            · cases h2
          · have hw' : swB (.ListComp elt gs scope q) x p sc = false := by simpa using hw
            exact ss_asg (ckE_ok _ _ ck tk h2).1 (ckT_ok ck _ _ h1).1 (by unfold swapsWithSole; exact swB_ok ck.fkind (by rw [ck.scq]; exact hw')) rfl rfl
        · simp only [Bool.and_eq_true, Bool.not_eq_true'] at h
          obtain ⟨h1, h2, h3, h4, h5⟩ := h
          refine ss_asg (ckE_ok c _ ck tk h4).1 (ckT_ok ck t _ h2).1 (by unfold swapsWithSole; exact swaps_none h3) ?_ (each_ok h1).1
          split at h5
          · rename_i e5
            exact swOf_ok ck.fkind (by rw [ck.scq]; exact e5)
          · cases h5
      · cases h
    · cases h
  | .par2 i j a b, s, h => by
    unfold ckS at h
    split at h
    · simp only [Bool.and_eq_true, decide_eq_true_eq, Bool.not_eq_true'] at h
      obtain ⟨h1, h2, h3, h4, h5, h6, h7, h8, h9, h10⟩ := h
      exact ss_par2 ck.cxt (ck.at h1) (ck.at h2) h3 (ck.local h4) (ck.local h5) (sa_cons (ckE_ok a _ ck tk h8).1 (sa_cons (ckE_ok b _ ck tk h9).1 sa_nil (star_one h7)) (star_one h6)) (swOf_ok ck.fkind (by rw [ck.scq]; exact h10)) rfl
    · cases h
  | .par3 i j l a b c, s, h => by
    unfold ckS at h
    split at h
    · simp only [Bool.and_eq_true, decide_eq_true_eq, Bool.not_eq_true'] at h
      obtain ⟨h1, h2, h2b, ⟨h3, h3b, h3c⟩, h4, h5, h5b, h6, h7, h7b, h8, h9, h9b, h10⟩ := h
      exact ss_par3 ck.cxt (ck.at h1) (ck.at h2) (ck.at h2b) h3 h3b h3c (ck.local h4) (ck.local h5) (ck.local h5b) (sa_cons (ckE_ok a _ ck tk h8).1 (sa_cons (ckE_ok b _ ck tk h9).1 (sa_cons (ckE_ok c _ ck tk h9b).1 sa_nil (star_one h7b)) (star_one h7)) (star_one h6)) (swOf_ok ck.fkind (by rw [ck.scq]; exact h10)) rfl
    · cases h
  | .put o i v, s, h => by
    unfold ckS at h
    split at h
    · rename_i a b tpos e pos
      simp only [Bool.and_eq_true, Bool.not_eq_true'] at h
      obtain ⟨h1, h2, h3, h4, h5⟩ := h
      refine ss_put ck.cxt (ckE_ok v _ ck tk h3).1 (ckE_ok o _ ck tk h4).1 (ckE_ok i _ ck tk h5).1 (by unfold swapsWithSole; exact swaps_none h2) ?_ rfl (fun v => ?_)
      · cases e <;> rfl
      · cases b <;> first | rfl | (simp [isSlice] at h1; done)
    · cases h
  | .aug i op c, s, h => by
    unfold ckS at h
    split at h
    · simp only [Bool.and_eq_true, opEq, decide_eq_true_eq] at h
      obtain ⟨rfl, h1, h2, h3, h4⟩ := h
      exact ss_aug ck.nd (ck.at h1) (ck.loc h2) (ckE_ok c _ ck tk h4).1 (ck.fnl h3)
    · cases h
  | .ret c, s, h => by
    unfold ckS at h
    split at h
    · exact ss_ret (ckE_ok c _ ck tk h).1
    · cases h
  | .retN, s, h => by
    unfold ckS at h
    split at h
    · exact ss_retN
    · cases h
  | .ifs c t u, s, h => by
    unfold ckS at h
    split at h
    · simp only [Bool.and_eq_true] at h
      obtain ⟨h1, h2, h3, h4⟩ := h
      exact ss_if ((ckE_ok c _ ck tk h1).2 h2) (ckSs_ok ck tk hp t _ h3) (ckSs_ok ck tk hp u _ h4)
    · cases h
  | .for_ t it body, s, h => by
    unfold ckS at h
    split at h
    · simp only [Bool.and_eq_true, Bool.not_eq_true'] at h
      obtain ⟨h1, h2, h3, h4⟩ := h
      exact ss_for ck.cxt hp (ckI_ok it _ _ ck tk h3) (ckT_ok ck t _ h1).1 (ckSs_ok ck tk hp body _ h4) (folded_ok h2)
    · cases h
  | .whl c body, s, h => by
    unfold ckS at h
    split at h
    · simp only [Bool.and_eq_true] at h
      obtain ⟨h1, h2, h3⟩ := h
      exact ss_whl hp ((ckE_ok c _ ck tk h1).2 h2) (ckSs_ok ck tk hp body _ h3)
    · cases h
  | .pass, s, h => by
    unfold ckS at h
    split at h
    · exact ss_pass
    · cases h
  | .brk, s, h => by
    unfold ckS at h
    split at h
    · exact ss_break
    · cases h
  | .cnt, s, h => by
    unfold ckS at h
    split at h
    · exact ss_continue
    · cases h
theorem ckSs_ok {X : Cx} {Wx : WX} {N : List Str} {sc : Scope} {fnb : Str → Bool} (ck : Ck X T XR k N sc fnb) (tk : Takes X Wx) (hp : PassesOwn (model X.prog X.w) X.A X.env X.xe) : ∀ (c : Ss) (s : List Stmt), ckSs T N sc fnb c s = true → SSs X XR Wx s (exs (run T k) T.G T.W c)
  | .nil, l, h => by
    unfold ckSs at h
    split at h
    · exact ss_nil
    · cases h
  | .cons s ss, l, h => by
    unfold ckSs at h
    split at h
    · rw [Bool.and_eq_true] at h
      exact ss_cons (ckS_ok ck tk hp s _ h.1) (ckSs_ok ck tk hp ss _ h.2)
    · cases h
end
end
end Tz

end
section
/-! Tz.End: defs keep their promises; a law's end. -/
namespace Tz
open PySem PySem.Spec PyProof.Rows L2 StX
/-! ### a def's promise by its body -/
section
variable {P : Program} {w : World} {K : PySem.W.Frag} {mg : Str → Option Value} {base : Heap} {k : Nat} {f : Addr} {fd : FuncData} {x qual : Str} {params : Arguments} {body : List Stmt} {scope : Scope} {N ps : List Str} {sp : Sp} {dvs : List V} {kws : List (Str × V)}
theorem fnG_of (F : FunD K x qual params body scope dvs kws f fd) (S : FnScope N ps scope) (len : ∀ vs H Q E, sp vs H Q E → vs.length = ps.length)
    (hbody : ∀ (cdv : Value) (A : Around) (outer : List PySem.Env) (s : Shared) (H : Hp) (vs : List V) (Q : VK) (E : XK), Room k (A.deeper (envOfC qual scope s.heap.objs.size f cdv)) → A.guards = some [] → sp vs H Q E →
      ∃ t, PSs (cxOf (L2.CX P w) P w K mg base N qual scope f cdv A outer s H E) body t ∧ t { nx := fun _ H' => Q .non H', rt := Q } (L2.start N vs) H) : FnG P w K mg base (k + 1) f fd ps sp := by
  obtain ⟨oc, od, dV, kV, doc, pm, an, cdv, ct, osl, rfl, lk, hcd, _, _⟩ := F.ex
  refine ⟨len, fun A outer s H args us vs Q E hr hg e0 hb r hsp => ?_⟩
  have old : ∀ b o, base.get? b = some o → s.heap.get? b = some o := fun b o e => (e0.bs b o e).1
  have KX : K.In s.heap := e0.mod.kin.keeps old
  refine codeAny_call_function hr.depth (KX _ _ lk) rfl S.co S.gen rfl (PySem.W.codeRec_of KX hcd) (hb _ _ _ _ (wpAny_newFunctionEnv_cells S.kind (fun ⟨n, v⟩ hy => ?_) fun env he s1 ic => ?_))
  · exact (S.par n (List.of_mem_zip hy).1).imp id fun q => ⟨q, PySem.W.cellsFrom_some _ _ _ (.inl q)⟩
  · subst he
    obtain ⟨t, ht, hq⟩ := hbody cdv A outer s H vs Q E (hr.deeper _) hg hsp
    refine ⟨(e0.mod.nolimit.keeps old).keeps ic.toInCall.keep, codeAny_func (wpAny_mono (ht.run [] s1 (L2.start N vs) H _ (inv_start S hr.hd e0 (len _ _ _ _ hsp) r ic) hq) (fun fl s' hs => ?_) fun e s' hs => hs)⟩
    cases fl with
    | ret u =>
      obtain ⟨v, σ', H', J, rv, q⟩ := hs
      exact ⟨v, H', J.os, J.bare, J.base, J.hok, rv, q⟩
    | next =>
      obtain ⟨σ', H', J, q⟩ := hs
      exact ⟨V.non, H', J.os, J.bare, J.base, J.hok, rfl, q⟩
    | brk => exact hs.elim fun _ z => z.elim fun _ z => z.2.elim
    | cont => exact hs.elim fun _ z => z.elim fun _ z => z.2.elim
end
/-! ### a call's end -/
section
variable {K : PySem.W.Frag} {S S1 : Store} {μ μ1 : Mu} {H H1 : Hp}
theorem Ext.cut (ok : SOk K S μ H) (e : Ext S μ H S1 μ1 H1) : Ext S μ H (S1.take S.length) (μ1.cut S.length) H1 := by
  refine ⟨?_, e.g, e.keep.trans Keep.cut, e.res⟩
  show μ.l <+: μ1.l.take S.length
  rw [List.prefix_take_iff]
  exact ⟨e.pre, Nat.le_of_eq ok.len⟩
theorem env_start {fn : Fn} {ds : List Vl} {vs : List V} (r : RepVs K S μ H ds vs) : EnvOk K S μ H (start fn ds) (L2.start fn.names vs) := by
  have hl := r.length
  refine ⟨by unfold start L2.start; simp [hl], fun i v q => ?_⟩
  unfold start at q
  unfold L2.start
  by_cases hi : i < ds.length
  · rw [List.getElem?_append_left (by simpa using hi), List.getElem?_map] at q
    cases e : ds[i]? with
    | none => rw [e] at q; cases q
    | some d =>
      rw [e] at q
      cases q
      obtain ⟨u, h1, h2⟩ := r.get e
      exact ⟨u, by rw [List.getElem?_append_left (by rw [List.length_map, ← hl]; exact hi), List.getElem?_map, h1]; rfl, h2⟩
  · rw [List.getElem?_append_right (by simpa using hi), List.getElem?_replicate] at q
    split at q <;> cases q
end
def XROk (XR : XRep) : Prop := ∀ x c d S μ H n, refsBelow n (x.fs.map (·.2)) = true → XR x c d S μ H → XR x c d (S.take n) (μ.cut n) H
section
variable {K : PySem.W.Frag} {XR : XRep} {E : XK} {Q : VK} {T : Prog} {k : Nat} {fn : Fn} {ds : List Vl} {S : Store} {μ : Mu} {H : Hp}
theorem call_end (hx : XROk XR) (ok : SOk K S μ H) (h : Post K XR (fun c d _ H' => E c d H') [] S μ H (fun v S' μ' H' => ∀ u, RepV K S' μ' H' v u → Q u H') (call1 T (run T k) fn ds S)) :
    ds.length = fn.pars ∧ PostF K XR (fun c d _ H' => E c d H') { nx := fun _ H' => Q .non H', rt := Q } S μ H (exs (run T k) T.G T.W fn.body (start fn ds) S) := by
  unfold call1 at h
  split at h
  · rename_i hl
    refine ⟨hl, ?_⟩
    cases e : exs (run T k) T.G T.W fn.body (start fn ds) S with
    | fail => rw [e] at h; exact h.elim
    | ex x S1 => rw [e] at h; exact h.elim
    | ok fl S1 =>
      rw [e] at h
      intro μ1 H1 e1 o1
      cases fl with
      | nx ρ' => exact fun σ' ev => h (μ1.cut S.length) H1 (Ext.cut ok e1) (o1.cut _) _ .non
      | rt v =>
        intro u ru
        have h : Post K XR (fun c d _ H' => E c d H') [] S μ H (fun v S' μ' H' => ∀ u, RepV K S' μ' H' v u → Q u H') (fin S.length v S1) := h
        unfold fin at h
        cases v with
        | d x => exact h (μ1.cut S.length) H1 (Ext.cut ok e1) (o1.cut _) u (RepV.cut ru fun m z => nomatch z)
        | r m =>
          dsimp only at h
          split at h
          · rename_i hm
            exact h (μ1.cut S.length) H1 (Ext.cut ok e1) (o1.cut _) u (RepV.cut ru fun m' z => by cases z; exact hm)
          · exact h μ1 H1 e1 o1 u ru
      | bk ρ' => exact h.elim
      | ct ρ' => exact h.elim
      | xc x ρ' =>
        intro σ' c d ev xr
        have h : Post K XR (fun c d _ H' => E c d H') [] S μ H (fun v S' μ' H' => ∀ u, RepV K S' μ' H' v u → Q u H') (if refsBelow S.length (x.fs.map (·.2)) then .ex x (S1.take S.length) else .fail) := h
        split at h
        · rename_i hb
          exact h (μ1.cut S.length) H1 c d (Ext.cut ok e1) (o1.cut _) (hx x c d S1 μ1 H1 _ hb xr)
        · exact h.elim
  · exact h.elim
end
/-! ### all defs of a text -/
/-- what is known of a def: where it stands, what the checker says -/
def DefOk (T : Prog) (K : PySem.W.Frag) (mg : Str → Option Value) (f : Str) (fn : Fn) (a : Addr) (fd : FuncData) : Prop :=
  ∃ params body scope, mg f = some (.ref a) ∧ FunD K f f params body scope [] [] a fd ∧ FnScope fn.names (fn.names.take fn.pars) scope ∧ Binds K fd (fn.names.take fn.pars) [] ∧ ckSs T fn.names scope (fun _ => true) fn.body body = true ∧ fn.pars ≤ fn.names.length
structure TextOk (T : Prog) (K : PySem.W.Frag) (w : World) (mg : Str → Option Value) : Prop where
  blt : ∀ x ∈ bltNames, mg x = none
  con : ∀ x d, T.G x = some d → scal d = true → ∃ u v, mg x = some u ∧ RelV v u ∧ ∀ L H, RepD K L H d v
  tab : ∀ x kvs, T.G x = some (.dict kvs) → TabOk K w mg x kvs
  fns : ∀ f fn, T.fns.lookup f = some fn → ∃ a fd, DefOk T K mg f fn a fd
section
variable {P : Program} {w : World} {K : PySem.W.Frag} {mg : Str → Option Value} {base : Heap} {T : Prog} {XR : XRep}
theorem takes_cx {N : List Str} {qual : Str} {scope : Scope} {f : Addr} {cd : Value} {A : Around} {outer : List PySem.Env} {s : Shared} {H : Hp} {E : XK} : Takes (cxOf (L2.CX P w) P w K mg base N qual scope f cd A outer s H E) (fun c d _ H' => E c d H') := fun u s' x => XE.leave (X := cxOf (L2.CX P w) P w K mg base N qual scope f cd A outer s H E) (W := fun c d _ H' => E c d H') (E := E) rfl rfl rfl (fun _ _ _ _ z => z) x
theorem all_ok (hx : XROk XR) (t : TextOk T K w mg) (sysB : ∃ o, base.get? sysModules = some o) : ∀ (k : Nat) (f : Str) (fn : Fn) (a : Addr) (fd : FuncData), T.fns.lookup f = some fn → DefOk T K mg f fn a fd →
    FnG P w K mg base k a fd (fn.names.take fn.pars) (spM K XR T k f fn.pars)
  | 0, f, fn, a, fd, hf, hd => by
    obtain ⟨params, body, scope, _, _, _, _, _, hp⟩ := hd
    exact ⟨fun vs H Q E h => by rw [h.1, List.length_take]; omega, fun A outer s H args us vs Q E hr hg e0 hb r ⟨_, ds, S, μ, ok, rd, h⟩ => h.elim⟩
  | k + 1, f, fn, a, fd, hf, hd => by
    obtain ⟨params, body, scope, hm, F, sc, hb, ck, hp⟩ := hd
    refine fnG_of F sc (fun vs H Q E h => by rw [h.1, List.length_take]; omega) fun cdv A outer s H vs Q E hr hg ⟨_, ds, S, μ, ok, rd, h⟩ => ?_
    have h : Post K XR (fun c d _ H' => E c d H') [] S μ H (fun v S' μ' H' => ∀ u, RepV K S' μ' H' v u → Q u H') (call1 T (run T k) fn ds S) := by
      unfold run at h
      rw [hf] at h
      exact h
    obtain ⟨hl, h⟩ := call_end hx ok h
    have cx : Cxt (cxOf (L2.CX P w) P w K mg base fn.names f scope a cdv A outer s H E) T XR k := ⟨hr, hg, rfl, sc.nd, sysB, t.blt, t.con, t.tab, fun g gn hgn => by
      obtain ⟨b, gd, hgd⟩ := t.fns g gn hgn
      have z := all_ok hx t sysB k g gn b gd hgn hgd
      obtain ⟨_, _, _, m1, m2, _, m4, _⟩ := hgd
      exact ⟨b, gd, m1, m2.kp, m4, z⟩⟩
    exact ⟨_, ckSs_ok ⟨cx, rfl, rfl, fun _ _ => rfl, sc.kind⟩ takes_cx (passes_of rfl) fn.body body ck, start fn ds, S, μ, ⟨ok, env_start rd⟩, h⟩
end
end Tz

end
section
/-! Tz.Law: the head, a law's end. -/
namespace Tz
open PySem PySem.Spec PyProof.Rows L2 StX
/-! ### the Hook: no lists in the written part, and sys.modules stands -/
def noList (g : Addr → Option Obj) : Addr → Option Obj := fun a => match g a with
  | some o => (match o.cls with
    | .type "list" => none
    | _ => some o)
  | none => none
def sysAt (g : Addr → Option Obj) : Bool := match g sysModules with
  | some o => (match o.data with
    | .dict _ _ => true
    | _ => false)
  | none => false
/-- a table of the module: its name, its keys and values -/
abbrev TabD := Str × List (Str × He.Dv)
def tabT (ts : List TabD) : List He.Tab := ts.map fun t => (fun K => He.ga K t.1, t.2.map (·.1))
def valsS (ts : List TabD) (K : PySem.W.Frag) : Bool := ts.all fun t => He.valsB K (He.ga K t.1) t.2
def frS (n : Nat) (g : Addr → Option Obj) : PySem.W.Frag := He.frG (noList g) (He.asD (noList g) n)
def obsS (n : Nat) (fa : List He.Fa) (fn : List He.DefD) (ts : List TabD) (g : Addr → Option Obj) : He.AlT × Bool := (He.obsT fa fn (tabT ts) (frS n g), sysAt g && valsS ts (frS n g))
theorem noList_at {g : Addr → Option Obj} {a : Addr} {o : Obj} (h : noList g a = some o) : g a = some o ∧ o.cls ≠ .type "list" := by
  unfold noList at h
  split at h
  · rename_i o' e
    split at h
    · cases h
    · rename_i hc
      cases h
      exact ⟨e, hc⟩
  · cases h
structure SaysK (fa : List He.Fa) (fn : List He.DefD) (ts : List TabD) (w : World) (K : PySem.W.Frag) : Prop where
  says : He.SaysT fa fn (tabT ts) w K
  vals : valsS ts K = true
  nol : ∀ a o, K.lookup a = some o → o.cls ≠ .type "list"
def SaysS (fa : List He.Fa) (fn : List He.DefD) (ts : List TabD) (w : World) (h : Heap) : Prop := (∃ K : PySem.W.Frag, K.In h ∧ SaysK fa fn ts w K) ∧ ∃ o es ep, h.get? sysModules = some o ∧ o.data = .dict es ep
def hookS (n : Nat) (fa : List He.Fa) (fn : List He.DefD) (ts : List TabD) : PySem.W.Hook where
  α := He.AlT × Bool
  obs := fun s => obsS n fa fn ts s.heap.get?
  val := fun w => (He.valT fn (tabT ts) w, true)
  says := fun w h => SaysS fa fn ts w h
  of := fun w s e => by
    have e1 : He.obsT fa fn (tabT ts) (frS n s.heap.get?) = He.valT fn (tabT ts) w := congrArg Prod.fst e
    have e2 : (sysAt s.heap.get? && valsS ts (frS n s.heap.get?)) = true := congrArg Prod.snd e
    rw [Bool.and_eq_true] at e2
    refine ⟨⟨frS n s.heap.get?, fun a o h => (noList_at (He.frG_at _ h)).1, e1, e2.2, fun a o h => (noList_at (He.frG_at _ h)).2⟩, ?_⟩
    have e3 := e2.1
    unfold sysAt at e3
    split at e3
    · rename_i o ho
      split at e3
      · rename_i es ep hd
        exact ⟨o, es, ep, ho, hd⟩
      · cases e3
    · cases e3
  keeps := fun _ _ _ ⟨⟨K, hK, c⟩, o, es, ep, ho, hd⟩ k => ⟨⟨K, PySem.W.Frag.In.keeps hK k, c⟩, o, es, ep, k _ _ ho, hd⟩
theorem obsS_eq {n : Nat} {fa : List He.Fa} {fn : List He.DefD} {ts : List TabD} {g : Addr → Option Obj} {s : Shared} (h : ∀ a, g a = s.heap.get? a) : obsS n fa fn ts g = (hookS n fa fn ts).obs s := by
  have e : g = s.heap.get? := funext h
  rw [e]
  rfl
/-! ### the end -/
def NoXR : XRep := fun _ _ _ _ _ _ => False
theorem noXR_ok : XROk NoXR := fun _ _ _ _ _ _ _ _ h => h
theorem room_caller : Room 200 callerA := ⟨rfl, by decide, by decide⟩
theorem guards_caller : callerA.guards = some [] := rfl
/-- the law's promise at the heap behind the top -/
theorem law_go {P : Program} {w : World} {K : PySem.W.Frag} {mg mb : Str → Option Value} {T : Prog} {fn : Fn} {k : Nat} {fa a : Addr} {fd : FuncData} {s₁ : Shared} {vs : List Value} {ns : List Int} (f : Str)
    (KX : K.In s₁.heap) (nl : ∀ a o, K.lookup a = some o → o.cls ≠ .type "list") (hS : ∃ o es ep, s₁.heap.get? sysModules = some o ∧ o.data = .dict es ep) (hns : s₁.heap.Ns mainGlobals mg) (hb : s₁.heap.Ns builtinsNs mb) (hbb : ∀ x : Str, x ≠ "__name__" → mb x = bootBuiltins x) (hlim : s₁.heap.NoLimit) (hg : s₁.gens = #[])
    (ha : s₁.heap.get? a = some { cls := .type "list", data := .seq vs.toArray }) (hi : IntsAre vs ns) (hl : ns.length ≤ sizeLine) (hr : Room k callerA) (t : TextOk T K w mg) (hf : T.fns.lookup f = some fn) (hd : DefOk T K mg f fn fa fd) (h1 : fn.pars = 1)
    (run : ∃ S', run T k f [.r 0] [some (.scr ns)] = .ok (.d (.bool true)) S') :
    codeAny (model P w) callerA (.call (.ref fa) ⟨[.ref a], []⟩) (fun r s' => r = .ok (.ret (.bool true)) ∧ OldK s₁.heap s'.heap ∧ s'.os = s₁.os ∧ AllBare s'.gens) s₁ := by
  have rv := vals_ints hi
  have ka : K.lookup a = none := by
    cases e : K.lookup a with
    | none => rfl
    | some o =>
      have z := KX a o e
      rw [ha] at z
      cases z
      exact absurd rfl (nl a _ e)
  -- the script alone is tracked
  generalize hob : ({ cls := .type "list", data := .seq vs.toArray } : Obj) = ob at ha
  have hc : ob.data = .seq vs.toArray := by rw [← hob]
  let H : Hp := fun b => if b = a then some (.frz ob (.lst (ns.map V.int))) else none
  have Ha : H a = some (.frz ob (.lst (ns.map V.int))) := if_pos rfl
  have Hn : ∀ {b}, b ≠ a → H b = none := fun h => if_neg h
  have at_ : ∀ {b u}, H b = some u → b = a ∧ u = .frz ob (.lst (ns.map V.int)) := fun {b u} e => by
    by_cases hba : b = a
    · rw [hba, Ha] at e
      exact ⟨hba, (Option.some.inj e).symm⟩
    · rw [Hn hba] at e
      cases e
  have hok : HOk P w H s₁.heap := fun b u e => by
    obtain ⟨rfl, rfl⟩ := at_ e
    refine ⟨ha, by rw [List.length_map]; exact hl, vs, 0, rv, ?_⟩
    rw [ha, ← hob]
  have dict : ∀ {b : Addr} {o : Obj} {es : Array DictEntry} {ep : Nat}, s₁.heap.get? b = some o → o.data = .dict es ep → (hidT s₁.heap H).get? b = some o := fun {b o es ep} e d => hidT_get e (Hn fun z => by
    rw [z, ha] at e
    cases e
    rw [hc] at d
    cases d)
  have ns_ : ∀ {b : Addr} {m : Str → Option Value}, s₁.heap.Ns b m → (hidT s₁.heap H).Ns b m := fun {b m} ⟨o, es, ep, e, d, r⟩ => ⟨o, es, ep, dict e d, d, r⟩
  have kin : K.In (hidT s₁.heap H) := fun b o e => hidT_get (KX b o e) (Hn fun z => by
    rw [z, ka] at e
    cases e)
  have e0 : Env0 P w K mg (hidT s₁.heap H) callerA [] s₁ H := ⟨rfl, ⟨kin, ns_ hns, ⟨mb, ns_ hb, hbb⟩, hlim.elim fun mc z => ⟨mc, ns_ z.1, z.2⟩⟩, fun b o e => of_hidT e, Nat.le_of_eq (hidT_size _ _), trivial, fun b z => absurd z List.not_mem_nil, hok, .of_eq hg⟩
  have sysB : ∃ o, (hidT s₁.heap H).get? sysModules = some o := by
    obtain ⟨o, es, ep, z1, z2⟩ := hS
    exact ⟨o, dict z1 z2⟩
  have G := all_ok (P := P) (w := w) noXR_ok t sysB k f fn fa fd hf hd
  obtain ⟨params, body, scope, _, _, _, bn, _, hp⟩ := hd
  have hpl : (fn.names.take fn.pars).length = 1 := by rw [List.length_take]; omega
  have bt : BindsTo s₁ fd ⟨[.ref a], []⟩ ((fn.names.take fn.pars).zip [.ref a]) := by
    have z := bn s₁ [.ref a] KX (by rw [hpl]; rfl)
    rw [List.append_nil] at z
    exact z
  obtain ⟨S', hrun⟩ := run
  have sok : SOk K [some (.scr ns)] ⟨[a], fun _ => False⟩ H := by
    have one : ∀ {n : Nat} {b : Addr}, [a][n]? = some b → n = 0 ∧ b = a := fun {n b} e => by
      cases n with
      | zero => exact ⟨rfl, (Option.some.inj e).symm⟩
      | succ n => simp at e
    refine ⟨rfl, fun i j b e1 e2 => (one e1).1.trans (one e2).1.symm, fun n b e => ?_, fun n b o e1 e2 => ?_, fun _ z => z.elim, fun _ _ _ z => z⟩
    · obtain ⟨_, rfl⟩ := one e
      exact ⟨_, Ha⟩
    · obtain ⟨rfl, rfl⟩ := one e1
      cases e2
      exact ⟨_, Ha, ob, rfl⟩
  have sp : spM K NoXR T k f fn.pars [.ref a] H (fun v _ => v = .bl true) fun _ _ _ => False := by
    refine ⟨h1.symm, [.r 0], [some (.scr ns)], ⟨[a], fun _ => False⟩, sok, .cons ⟨a, rfl, rfl⟩ .nil, ?_⟩
    rw [hrun]
    intro μ' H' _ _ u ru
    cases ru
    rfl
  refine codeAny_mono (G.run callerA [] s₁ H ⟨[.ref a], []⟩ [.ref a] [.ref a] _ _ hr guards_caller e0 bt (.cons rfl .nil) sp) fun r s' h => ?_
  cases r with
  | error e =>
    obtain ⟨_, _, _, _, _, _, _, _, _, _, _, _, z⟩ := h
    exact z.elim
  | ok fl =>
    cases fl with
    | next => exact h.elim
    | brk => exact h.elim
    | cont => exact h.elim
    | ret u =>
      obtain ⟨v, H', os, bare, un, hok', r', q⟩ := h
      obtain rfl : v = .bl true := q
      obtain rfl : u = Value.bool true := r'
      refine ⟨rfl, OldK.of_keep fun b o e => ?_, os, bare⟩
      by_cases hba : b = a
      · subst hba
        have z := (hok' b _ (un.frzs b ob _ Ha)).1
        rw [ha] at e
        cases e
        exact z
      · exact un.keep b o e (Hn hba) List.not_mem_nil List.not_mem_nil
/-- a law of the shape law(script) -/
theorem law_walk {l : PySem.W.OpenLaw} {n k : Nat} {q : Program} {loose : List Str} {XP : (Str → Option Value) → Heap → Prop} {d : DefRec} {fa : List He.Fa} {fds : List He.DefD} {ts : List TabD} {T : Prog} {fn : Fn} (hn : l.most = some n) (hn2 : n ≤ sizeLine) (hdf : d.params.defaults = []) (hr : Room k callerA) (f : Str) (hf : T.fns.lookup f = some fn) (h1 : fn.pars = 1) (hdn : d.name = f)
    (text : ∀ (w : World) (K : PySem.W.Frag) (h : Heap) (mg : Str → Option Value), K.In h → h.Ns mainGlobals mg → SaysK fa fds ts w K → TextOk T K w mg)
    (run : ∀ ns : List Int, ns.length ≤ n → ∃ S', run T k f [.r 0] [some (.scr ns)] = .ok (.d (.bool true)) S') :
    PySem.W.WalkO q loose XP (hookS 4 fa fds ts).says l.row.toRowW d [] (fun f vs => PySem.call f vs) := by
  refine Att.attach_call hn hdf fun w s₀ s₁ mg mb fad o pm cd doc a vs ns G Y ho hd hcd hmg hobj hints hlen hg => ?_
  obtain ⟨⟨K, KX, c⟩, hS⟩ := Y
  have t := text w K _ mg KX G.T.g c
  obtain ⟨b, fd, dk⟩ := t.fns f fn hf
  have e : b = fad := by
    obtain ⟨_, _, _, z, _⟩ := id dk
    rw [hdn, z] at hmg
    cases hmg
    rfl
  subst e
  exact law_go f KX c.nol hS G.T.g G.T.b G.T.builtins G.T.nolimit hg hobj hints (Nat.le_trans hlen hn2) hr t hf dk h1 (run ns hlen)
end Tz

end
section
namespace Tz
open PySem PySem.Spec PyProof.Rows L2 StX
theorem look_zip {α : Type} {x : Str} : ∀ {ps : List Str} {us : List α}, us.length = ps.length → x ∈ ps → ((ps.zip us).lookup x).isSome = true
  | p :: ps, u :: us, hl, h => by
    rw [List.zip_cons_cons, List.lookup_cons]
    cases e : x == p with
    | true => rfl
    | false =>
      refine look_zip (by simpa using hl) ((List.mem_cons.mp h).resolve_left fun z => ?_)
      rw [z] at e
      simp at e
theorem zip_back {α : Type} : ∀ {ps : List Str} {us : List α}, us.length = ps.length → ps.Nodup → (ps.filterMap fun n => ((ps.zip us).lookup n).map (n, ·)) = ps.zip us := by
  intro ps
  have key : ∀ {qs : List Str} {us : List α} {g : Str → Option α}, us.length = qs.length → qs.Nodup → (∀ n ∈ qs, g n = (qs.zip us).lookup n) → (qs.filterMap fun n => (g n).map (n, ·)) = qs.zip us := by
    intro qs
    induction qs with
    | nil => intro us g hl _ _; rfl
    | cons q qs ih =>
      intro us g hl nd hg
      cases us with
      | nil => simp at hl
      | cons u us =>
        obtain ⟨n1, n2⟩ := List.nodup_cons.mp nd
        rw [List.filterMap_cons, hg q (List.mem_cons_self ..), List.zip_cons_cons, List.lookup_cons]
        simp only [beq_self_eq_true, Option.map_some]
        congr 1
        refine ih (by simpa using hl) n2 fun n hn => ?_
        rw [hg n (List.mem_cons_of_mem _ hn), List.zip_cons_cons, List.lookup_cons]
        have : (n == q) = false := by
          refine beq_eq_false_iff_ne.mpr fun z => n1 (by rw [← z]; exact hn)
        rw [this]
  intro us hl nd
  exact key hl nd fun _ _ => rfl
def plainPars (p : Arguments) (ps : List Str) : Bool := p.posonlyargs.isEmpty && (decide (p.args.map (·.arg) = ps) && (p.vararg.isNone && (p.kwonlyargs.isEmpty && (p.kwarg.isNone && decide ps.Nodup))))
theorem bind_plain {p : Arguments} {ps : List Str} (h : plainPars p ps = true) {x qual : Str} {body : List Stmt} {scope : Scope} {kV doc pm : Value} {an : Option Addr} {cdv ct : Value} {us : List Value} (hl : us.length = ps.length) :
    bindArgs (PySem.W.fnOf x qual p body scope .none kV doc pm an cdv ct) ⟨us, []⟩ = pure (ps.zip us) := by
  unfold plainPars at h
  simp only [Bool.and_eq_true, decide_eq_true_eq, List.isEmpty_iff, Option.isNone_iff_eq_none] at h
  obtain ⟨h1, h2, h3, h4, h5, h6⟩ := h
  obtain ⟨a, b, c, d, e, f, g⟩ := p
  dsimp only at h1 h2 h3 h4 h5
  subst h1 h3 h4 h5
  unfold bindArgs
  have hz : (ps.take (ps.length - 0)).filter (fun n => ((ps.zip us).lookup n).isNone) = [] := by
    rw [List.filter_eq_nil_iff]
    intro n hn
    have := look_zip hl (List.mem_of_mem_take hn)
    simp only [Option.isNone_iff_eq_none]
    intro z
    rw [z] at this
    cases this
  have hb := zip_back hl h6
  show _ = pure (ps.zip us)
  dsimp only [PySem.W.fnOf]
  rw [List.map_nil, List.nil_append, h2]
  change (if (decide (us.length > ps.length) && true) = true then _ else _) = _
  rw [if_neg (by simp [hl])]
  have hdd : List.drop (((none : Option (Array Value)).getD #[]).toList.length - ps.length) ((none : Option (Array Value)).getD #[]).toList = [] := by simp
  rw [hdd]
  change (if (!((ps.take (ps.length - 0)).filter fun n => ((ps.zip us).lookup n).isNone).isEmpty) = true then _ else _) = _
  rw [hz, if_neg (by simp)]
  have hd : List.drop (ps.length - ([] : List Value).length) ps = [] := by simp
  rw [hd, List.zip_nil_left, List.forIn_nil]
  change (pure ((ps ++ []).filterMap fun n => ((ps.zip us).lookup n).map (n, ·)) : Sem (List (Str × Value))) = _
  rw [List.append_nil, hb]
end Tz

end
section
/-! Tz.Text: a whole text, checked. -/
namespace Tz
open PySem PySem.Spec PyProof.Rows L2 StX
abbrev Def := Str × Fn × Stmt
def Def.ps (x : Def) : List Str := x.2.1.names.take x.2.1.pars
def scopeB (N ps : List Str) (sc : Scope) : Bool := (match sc.kind with | .function => true | _ => false) && (!sc.isCoroutine && (!sc.isGenerator && (decide N.Nodup && (ps.all (fun x => locB sc x) && sc.names.all fun y => match y.2 with | .free => false | _ => true))))
theorem scopeB_ok {N : List Str} {n : Nat} {sc : Scope} (hn : n ≤ N.length) (h : scopeB N (N.take n) sc = true) : FnScope N (N.take n) sc := by
  unfold scopeB at h
  simp only [Bool.and_eq_true, Bool.not_eq_true', decide_eq_true_eq, List.all_eq_true] at h
  obtain ⟨h1, h2, h3, h4, h5, h6⟩ := h
  refine ⟨?_, h2, h3, h4, ?_, fun x hx => loc_of (h5 x hx), fun y hy z => ?_⟩
  · split at h1
    · assumption
    · cases h1
  · rw [List.length_take, Nat.min_eq_left hn]
  · have := h6 y hy
    rw [z] at this
    cases this
def ckDef (T : Prog) (x : Def) : Bool := decide (x.2.1.pars ≤ x.2.1.names.length) && (plainPars (defArgs x.2.2) x.ps && (scopeB x.2.1.names x.ps (defScope x.2.2) && ckSs T x.2.1.names (defScope x.2.2) (fun _ => true) x.2.1.body (defBody x.2.2)))
def mkD (x : Def) : He.DefD := ⟨(x.1, none), x.1, x.1, defArgs x.2.2, defBody x.2.2, defScope x.2.2, [], []⟩
def conFa (p : Str × PyData) : Option He.Fa := match p.2 with
  | .int i => some (.int p.1 i)
  | .str z => some (.str p.1 z)
  | _ => none
/-- a dict of texts and ints -/
def tabOf : List (PyData × PyData) → Option (List (Str × He.Dv))
  | [] => some []
  | (.str k, .int i) :: r => (tabOf r).map ((k, .int i) :: ·)
  | _ => none
def conTab (p : Str × PyData) : Option TabD := match p.2 with
  | .dict kvs => (tabOf kvs).map fun q => (p.1, q)
  | _ => none
def tabsOf (con : List (Str × PyData)) : List TabD := con.filterMap conTab
def faOf (L : List Def) (con : List (Str × PyData)) : List He.Fa := (L.map fun x => He.Fa.glo x.1) ++ (bltNames.map He.Fa.free ++ (con.filterMap conFa ++ (tabsOf con).map fun t => He.Fa.glo t.1))
theorem tabOf_look : ∀ {kvs : List (PyData × PyData)} {q : List (Str × He.Dv)} (z : Str), tabOf kvs = some q → (match lookD (.inr z) kvs with
    | some dd => ∃ i, dd = .int i ∧ (z, He.Dv.int i) ∈ q
    | none => z ∉ q.map (·.1))
  | [], q, z, h => by
    cases h
    exact List.not_mem_nil
  | (.str k, .int i) :: r, q, z, h => by
    unfold tabOf at h
    obtain ⟨q', h1, rfl⟩ := Option.map_eq_some_iff.mp h
    have ih := tabOf_look z h1
    unfold lookD
    by_cases hk : keyOf (.str k) = some (.inr z)
    · rw [if_pos hk]
      have e : k = z := by
        cases hk
        rfl
      subst e
      exact ⟨i, rfl, List.mem_cons_self ..⟩
    · rw [if_neg hk]
      split
      · rename_i dd e
        rw [e] at ih
        obtain ⟨j, h2, h3⟩ := ih
        exact ⟨j, h2, List.mem_cons_of_mem _ h3⟩
      · rename_i e
        rw [e] at ih
        intro hm
        rcases List.mem_cons.mp hm with y | y
        · exact hk (by rw [y]; rfl)
        · exact ih y
theorem nsIn_none {K : PySem.W.Frag} {P : Params} {a : Addr} {es : Array DictEntry} {n : Nat} {ks : List Str} {z : Str} (h : K.lookup a = some ⟨.type "dict", none, .dict es n, #[]⟩) (hk : es.toList.map He.keyOf = He.keysIn P ks) (hz : z ∉ ks) : PySem.W.nsIn K a z = some none := by
  have key : ∀ (l : List DictEntry) (ks : List Str), l.map He.keyOf = He.keysIn P ks → z ∉ ks → l.find? (·.key.isStr z) = none ∧ l.any (·.refKey) = false := by
    intro l
    induction l with
    | nil => intro ks _ _; exact ⟨rfl, rfl⟩
    | cons e r ih =>
      intro ks h hz
      cases ks with
      | nil => cases h
      | cons k ks =>
        have h1 : He.keyOf e :: r.map He.keyOf = some (k, PyData.keyHash P k) :: He.keysIn P ks := h
        injection h1 with h2 h3
        obtain ⟨i1, i2⟩ := ih ks h3 fun m => hz (List.mem_cons_of_mem _ m)
        obtain ⟨x, t, q⟩ : ∃ x t, e.key = .str x t := by
          unfold He.keyOf at h2
          split at h2
          · exact ⟨_, _, by assumption⟩
          · cases h2
        have ek : x = k := by
          unfold He.keyOf at h2
          rw [q] at h2
          exact (Prod.mk.inj (Option.some.inj h2)).1
        have n1 : e.key.isStr z = false := by
          rw [q]
          show (x == z) = false
          refine beq_eq_false_iff_ne.mpr fun y => hz ?_
          rw [← y, ek]
          exact List.mem_cons_self ..
        have n2 : e.refKey = false := by
          unfold DictEntry.refKey
          rw [q]
        rw [List.find?_cons, n1, List.any_cons, n2]
        exact ⟨i1, i2⟩
  obtain ⟨k1, k2⟩ := key es.toList ks hk hz
  unfold PySem.W.nsIn
  rw [h]
  show (match es.toList.find? (·.key.isStr z) with | some e => some (some e.val) | none => if es.toList.any (·.refKey) then none else some none) = _
  rw [k1, k2]
  rfl
theorem tab_ok {K : PySem.W.Frag} {w : World} {mg : Str → Option Value} {x : Str} {kvs : List (PyData × PyData)} {q : List (Str × He.Dv)} (hq : tabOf kvs = some q) (hm : mg x = some (.ref (He.ga K x))) (hd : He.dicW K (He.ga K x) = some (He.keysIn w.params (q.map (·.1)))) (hv : He.valsB K (He.ga K x) q = true) : TabOk K w mg x kvs := by
  obtain ⟨es, n, D⟩ := He.dicW_ok hd
  have hk : es.toList.map He.keyOf = He.keysIn w.params (q.map (·.1)) := by
    unfold He.dicW at hd
    rw [D.at_] at hd
    have hd' : (match (decide ("dict" = "dict") && ((#[] : Array (Option Value)).isEmpty && !(He.ga K x == sysModules))) with
      | true => some (es.toList.map He.keyOf)
      | false => none) = some (He.keysIn w.params (q.map (·.1))) := hd
    rw [D.low] at hd'
    exact Option.some.inj hd'
  refine ⟨_, es, n, hm, D, fun z => ?_⟩
  have lk := tabOf_look z hq
  cases e : lookD (.inr z) kvs with
  | some dd =>
    rw [e] at lk
    obtain ⟨i, rfl, hi⟩ := lk
    obtain ⟨u, h1, h2⟩ := He.valsB_ok hv hi
    exact ⟨u, .int i, h1, h2, fun _ _ => .int i⟩
  | none =>
    rw [e] at lk
    exact nsIn_none D.at_ hk lk
theorem lookup_mem {α β : Type} [BEq α] [LawfulBEq α] {x : α} {y : β} : ∀ {l : List (α × β)}, l.lookup x = some y → (x, y) ∈ l
  | (a, b) :: r, h => by
    rw [List.lookup_cons] at h
    cases e : x == a with
    | true =>
      rw [e] at h
      cases h
      rw [eq_of_beq e]
      exact List.mem_cons_self ..
    | false =>
      rw [e] at h
      exact List.mem_cons_of_mem _ (lookup_mem h)
theorem text_ok {T : Prog} {L : List Def} (hT : T.fns = L.map fun x => (x.1, x.2.1)) (hc : L.all (ckDef T) = true) (hcon : T.con.all (fun p => (conFa p).isSome || (conTab p).isSome) = true) {K : PySem.W.Frag} {w : World} {h : Heap} {mg : Str → Option Value} (X : K.In h) (G : h.Ns mainGlobals mg) (cc : SaysK (faOf L T.con) (L.map mkD) (tabsOf T.con) w K) : TextOk T K w mg := by
  have c := cc.says.d
  refine ⟨fun x hx => He.free_ok X G (c.facts (List.mem_append_right _ (List.mem_append_left _ (List.mem_map.mpr ⟨x, hx, rfl⟩)))), fun x d e sd => ?_, fun x kvs e => ?_, fun f fn e => ?_⟩
  · have hm : (x, d) ∈ T.con := lookup_mem e
    cases d with
    | int i =>
      have cf := c.facts (f := .int x i) (List.mem_append_right _ (List.mem_append_right _ (List.mem_append_left _ (List.mem_filterMap.mpr ⟨_, hm, rfl⟩))))
      obtain ⟨t, ht⟩ := He.int_ok X G cf
      exact ⟨_, .int i, ht, ⟨t, rfl⟩, fun _ _ => .int i⟩
    | str z =>
      have cf := c.facts (f := .str x z) (List.mem_append_right _ (List.mem_append_right _ (List.mem_append_left _ (List.mem_filterMap.mpr ⟨_, hm, rfl⟩))))
      obtain ⟨t, ht⟩ := He.str_ok X G cf
      exact ⟨_, .str z, ht, ⟨t, rfl⟩, fun _ _ => .str z⟩
    | _ => cases sd
  · have hm : (x, PyData.dict kvs) ∈ T.con := lookup_mem e
    have hs := List.all_eq_true.mp hcon _ hm
    obtain ⟨q, hq⟩ : ∃ q, tabOf kvs = some q := by
      cases eq : tabOf kvs with
      | some q => exact ⟨q, rfl⟩
      | none =>
        have hs' : ((none : Option He.Fa).isSome || ((tabOf kvs).map fun q => (x, q)).isSome) = true := hs
        rw [eq] at hs'
        cases hs'
    have ht : (x, q) ∈ tabsOf T.con := List.mem_filterMap.mpr ⟨_, hm, by show (tabOf kvs).map _ = _; rw [hq]; rfl⟩
    have g := He.glo_ok X G (c.facts (f := .glo x) (List.mem_append_right _ (List.mem_append_right _ (List.mem_append_right _ (List.mem_map.mpr ⟨_, ht, rfl⟩)))))
    have e1 : (tabT (tabsOf T.con)).map (fun t => He.dicW K (t.1 K)) = (tabT (tabsOf T.con)).map fun t => some (He.keysIn w.params t.2) := congrArg (fun z : He.AlT => z.2) cc.says
    have e2 := List.map_inj_left.mp e1 (fun K => He.ga K x, q.map (·.1)) (List.mem_map.mpr ⟨_, ht, rfl⟩)
    exact tab_ok hq g e2 (List.all_eq_true.mp cc.vals _ ht)
  · rw [hT] at e
    obtain ⟨x, hx, ex⟩ := List.mem_map.mp (lookup_mem e)
    cases ex
    have g := He.glo_ok X G (c.facts (List.mem_append_left _ (List.mem_map.mpr ⟨x, hx, rfl⟩)))
    obtain ⟨fd, F⟩ := c.defs (List.mem_map.mpr ⟨x, hx, rfl⟩)
    have k := List.all_eq_true.mp hc x hx
    unfold ckDef at k
    simp only [Bool.and_eq_true, decide_eq_true_eq] at k
    obtain ⟨k1, k2, k3, k4⟩ := k
    have F' : FunD K x.1 x.1 (defArgs x.2.2) (defBody x.2.2) (defScope x.2.2) [] [] (He.ga K x.1) fd := F
    exact ⟨He.ga K x.1, fd, _, _, _, g, F', scopeB_ok k1 k3, F'.bindsN fun _ _ _ _ _ _ us hl => bind_plain k2 hl, k4, k1⟩
end Tz

end
section
/-! Tz.Box: plain facts; the drawing box. -/
namespace Tz
open PySem
theorem run_at {T : Prog} {k : Nat} {f : Str} {fn : Fn} {vs : List Vl} {S : Store} (h : T.fns.lookup f = some fn) : run T (k + 1) f vs S = call1 T (run T k) fn vs S := by
  show (match T.fns.lookup f with | some fn => call1 T (run T k) fn vs S | none => .fail) = _
  rw [h]
theorem ok_bind {α β : Type} {a : α} {S : Store} {f : α → Store → R β} : (R.ok a S).bind f = f a S := rfl
theorem ok_bindS {α : Type} {a : α} {S : Store} {ρ : Env} {f : α → Store → R Fl} : (R.ok a S).bindS ρ f = f a S := rfl
theorem ok_noEx {α : Type} {a : α} {S : Store} : noEx (R.ok a S) = .ok a S := rfl
theorem ofO_some {α : Type} {a : α} {S : Store} : ofO (some a) S = .ok a S := rfl
theorem exs_nx {cf : Str → List Vl → Store → R Vl} {G : Str → Option PyData} {W : Nat} {st : St} {ss : Ss} {ρ ρ1 : Env} {S S1 : Store} (h : exS cf G W st ρ S = .ok (.nx ρ1) S1) : exs cf G W (.cons st ss) ρ S = exs cf G W ss ρ1 S1 := by
  rw [exs, h]
  rfl
theorem exs_rt {cf : Str → List Vl → Store → R Vl} {G : Str → Option PyData} {W : Nat} {st : St} {ss : Ss} {ρ : Env} {v : Vl} {S S1 : Store} (h : exS cf G W st ρ S = .ok (.rt v) S1) : exs cf G W (.cons st ss) ρ S = .ok (.rt v) S1 := by
  rw [exs, h]
  rfl
theorem exs_nil {cf : Str → List Vl → Store → R Vl} {G : Str → Option PyData} {W : Nat} {ρ : Env} {S : Store} : exs cf G W .nil ρ S = .ok (.nx ρ) S := rfl
def dI (l : List Int) : List PyData := l.map .int
def vI (l : List Int) : List Vl := l.map fun i => .d (.int i)
theorem allD_dI : ∀ l : List Int, allD (vI l) = some (dI l)
  | [] => rfl
  | i :: r => by
    show (allD (vI r)).map (PyData.int i :: ·) = _
    rw [allD_dI r]
    rfl
theorem allD_map : ∀ l : List PyData, allD (l.map Vl.d) = some l
  | [] => rfl
  | i :: r => by
    show (allD (r.map Vl.d)).map (i :: ·) = _
    rw [allD_map r]
    rfl
/-- the store of a law that draws: the script, the great cells, the box -/
def bx (ns g s : List Int) (t : Int) (Rr : Store) : Store := some (.scr ns) :: some (.lst (vI g)) :: some (.dic [(.inr "great", .r 1), (.inr "small", .d (.list (dI s))), (.inr "turn", .d (.int t))]) :: Rr
theorem bx_1 {ns g s : List Int} {t : Int} {Rr : Store} : (bx ns g s t Rr)[1]? = some (some (.lst (vI g))) := rfl
theorem bx_2 {ns g s : List Int} {t : Int} {Rr : Store} : (bx ns g s t Rr)[2]? = some (some (.dic [(.inr "great", .r 1), (.inr "small", .d (.list (dI s))), (.inr "turn", .d (.int t))])) := rfl
theorem bx_set1 {ns g g' s : List Int} {t : Int} {Rr : Store} : setO (bx ns g s t Rr) 1 (.lst (vI g')) = bx ns g' s t Rr := rfl
structure Bx (b : Int) (Rr : Store) (S : Store) : Prop where
  ex : ∃ ns g s t, S = bx ns g s t Rr ∧ s ≠ [] ∧ (∀ c ∈ s, 0 ≤ c ∧ c < 10 ^ 18) ∧ (∀ c ∈ g, 0 ≤ c) ∧ 0 ≤ t ∧ t ≤ b ∧ g.length ≤ 100
theorem Bx.mono {b b' : Int} {Rr S : Store} (h : Bx b Rr S) (q : b ≤ b') : Bx b' Rr S := by
  obtain ⟨ns, g, s, t, e, h1, h2, h3, h4, h5, h6⟩ := h
  exact ⟨ns, g, s, t, e, h1, h2, h3, h4, by omega, h6⟩
/-! ### indexes -/
theorem atI_last {α : Type} {xs : List α} {x : α} : L2.atI (xs ++ [x]) (-1) = some x := by
  unfold L2.atI L2.ixN
  rw [if_neg (by decide), if_pos (by simp; omega)]
  have : ((-1 : Int) + ((xs ++ [x]).length : Nat)).toNat = xs.length := by
    rw [List.length_append, List.length_singleton]
    omega
  rw [this]
  simp
theorem ixN_last {n : Nat} : L2.ixN (n + 1) (-1) = some n := by
  unfold L2.ixN
  rw [if_neg (by decide), if_pos (by omega)]
  congr 1
  omega
theorem atI_ok {α : Type} {xs : List α} {i : Int} (h0 : 0 ≤ i) (h1 : i < xs.length) : ∃ x ∈ xs, L2.atI xs i = some x ∧ xs[i.toNat]? = some x := by
  unfold L2.atI L2.ixN
  rw [if_pos h0, if_pos h1]
  have hl : i.toNat < xs.length := by omega
  exact ⟨xs[i.toNat], List.getElem_mem hl, List.getElem?_eq_getElem hl, List.getElem?_eq_getElem hl⟩
/-! ### the draw -/
def whB : Ss := (.cons (.ifs (.cmp .Gt (.sub (.var 2) (.neg (.con (.int 1)))) (.con (.int 0))) (.cons (.asg (.nm 3) (.bin .Mod (.sub (.var 2) (.neg (.con (.int 1)))) (.var 1)))
      (.cons (.put (.var 2) (.neg (.con (.int 1))) (.bin .FloorDiv (.sub (.var 2) (.neg (.con (.int 1)))) (.var 1)))
      (.cons (.ret (.var 3))
      .nil))) .nil)
    (.cons (.expr (.met .pop (.var 2) .nil))
    .nil))
def drB : Ss := (.cons (.asg (.nm 2) (.sub (.var 0) (.con (.str "great"))))
  (.cons (.whl (.cmp .NotEq (.var 2) (.lst false .nil)) whB)
  (.cons (.put (.var 0) (.con (.str "turn")) (.bin .Add (.sub (.var 0) (.con (.str "turn"))) (.con (.int 1))))
  (.cons (.asg (.nm 4) (.sub (.sub (.var 0) (.con (.str "small"))) (.bin .Mod (.sub (.var 0) (.con (.str "turn"))) (.bi .len (.cons (.sub (.var 0) (.con (.str "small"))) .nil)))))
  (.cons (.asg (.nm 5) (.bin .Mod (.bin .Add (.bin .Mult (.var 4) (.con (.int 6364136223846793005))) (.bin .Mult (.sub (.var 0) (.con (.str "turn"))) (.con (.int 1442695040888963407)))) (.con (.int 18446744073709551557))))
  (.cons (.asg (.nm 5) (.bin .Mod (.bin .Mult (.var 5) (.bin .Add (.bin .FloorDiv (.var 5) (.con (.int 4294967296))) (.con (.int 17)))) (.con (.int 18446744073709551557))))
  (.cons (.ret (.bin .Mod (.bin .FloorDiv (.var 5) (.con (.int 65536))) (.var 1)))
  .nil)))))))
section
variable {T : Prog} {k : Nat} {ns g s : List Int} {t many : Int} {Rr : Store}
theorem great_sub {c : Int} : subV (.r 1) (.d (.int (-1))) (bx ns (g ++ [c]) s t Rr) = some (.d (.int c)) := by
  show L2.atI (vI (g ++ [c])) (-1) = _
  unfold vI
  rw [List.map_append]
  exact atI_last
theorem great_put {c c' : Int} : putV (.r 1) (.d (.int (-1))) (.d (.int c')) (bx ns (g ++ [c]) s t Rr) = .ok () (bx ns (g ++ [c']) s t Rr) := by
  show (match L2.ixN (vI (g ++ [c])).length (-1) with | some j => _ | none => _) = _
  have e : (vI (g ++ [c])).length = g.length + 1 := by simp [vI]
  rw [e, ixN_last]
  show R.ok () (setO (bx ns (g ++ [c]) s t Rr) 1 (.lst ((vI (g ++ [c])).set g.length (.d (.int c'))))) = _
  have e2 : (vI (g ++ [c])).set g.length (.d (.int c')) = vI (g ++ [c']) := by simp [vI]
  rw [e2, bx_set1]
theorem great_pop {c : Int} : metV .pop (.r 1) [] (bx ns (g ++ [c]) s t Rr) = .ok (.d (.int c)) (bx ns g s t Rr) := by
  show (match (vI (g ++ [c]))[(vI (g ++ [c])).length - 1]? with | some y => _ | none => _) = _
  have e : (vI (g ++ [c]))[(vI (g ++ [c])).length - 1]? = some (.d (.int c)) := by simp [vI]
  rw [e]
  show R.ok _ (setO (bx ns (g ++ [c]) s t Rr) 1 (.lst (vI (g ++ [c])).dropLast)) = _
  have e2 : (vI (g ++ [c])).dropLast = vI g := by simp [vI]
  rw [e2, bx_set1]
theorem great_ne {v : Vl} (hv : v = .r 1) : cmpV .NotEq v (.d (.list [])) (bx ns g s t Rr) = some (!g.isEmpty) := by
  subst hv
  show (match (allD (vI g)).map PyData.list, some (PyData.list []) with | some a, some b => (eqD a b).map (!·) | _, _ => none) = _
  rw [allD_dI]
  show some (!(dI g).isEmpty) = _
  unfold dI
  cases g <;> rfl
theorem whl_no {c : Env → Store → R Bool} {f : Env → Store → R Fl} {n : Nat} {ρ : Env} {S S1 : Store} (h : c ρ S = .ok false S1) : whlL c f (n + 1) ρ S = .ok (.nx ρ) S1 := by
  rw [whlL, h]
  rfl
theorem whl_nx {c : Env → Store → R Bool} {f : Env → Store → R Fl} {n : Nat} {ρ ρ1 : Env} {S S1 S2 : Store} (h : c ρ S = .ok true S1) (h2 : f ρ S1 = .ok (.nx ρ1) S2) : whlL c f (n + 1) ρ S = whlL c f n ρ1 S2 := by
  rw [whlL, h]
  show (f ρ S1).bind _ = _
  rw [h2]
  rfl
theorem whl_rt {c : Env → Store → R Bool} {f : Env → Store → R Fl} {n : Nat} {ρ : Env} {v : Vl} {S S1 S2 : Store} (h : c ρ S = .ok true S1) (h2 : f ρ S1 = .ok (.rt v) S2) : whlL c f (n + 1) ρ S = .ok (.rt v) S2 := by
  rw [whlL, h]
  show (f ρ S1).bind _ = _
  rw [h2]
  rfl
theorem whl_cond {cf : Str → List Vl → Store → R Vl} {G : Str → Option PyData} {ρ : Env} (r2 : ρ[2]? = some (some (.r 1))) : (fun ρ1 Sa => (ev cf G (.cmp .NotEq (.var 2) (.lst false .nil)) ρ1 Sa).bind fun x Sb => ofO (truth x Sb) Sb) ρ (bx ns g s t Rr) = .ok (!g.isEmpty) (bx ns g s t Rr) := by
  have e : newL false [] (bx ns g s t Rr) = .ok (.d (.list [])) (bx ns g s t Rr) := rfl
  simp only [ev, evs, r2, ok_bind, e, great_ne rfl, ofO_some, truth]
theorem whl_step (hm : 0 < many) (hd : divOk many = true) {W : Nat} {cf : Str → List Vl → Store → R Vl} {G : Str → Option PyData} : ∀ (n : Nat) (g : List Int) (w : Nat), g.length = n → n < w → (∀ c ∈ g, 0 ≤ c) → ∀ ρ : Env, ρ[0]? = some (some (.r 2)) → ρ[1]? = some (some (.d (.int many))) → ρ[2]? = some (some (.r 1)) → ρ.length = 6 →
    (whlL (fun ρ1 Sa => (ev cf G (.cmp .NotEq (.var 2) (.lst false .nil)) ρ1 Sa).bind fun x Sb => ofO (truth x Sb) Sb) (fun ρ1 Sa => exs cf G W whB ρ1 Sa) w ρ (bx ns g s t Rr) = .ok (.nx ρ) (bx ns [] s t Rr)) ∨
    ∃ d g', whlL (fun ρ1 Sa => (ev cf G (.cmp .NotEq (.var 2) (.lst false .nil)) ρ1 Sa).bind fun x Sb => ofO (truth x Sb) Sb) (fun ρ1 Sa => exs cf G W whB ρ1 Sa) w ρ (bx ns g s t Rr) = .ok (.rt (.d (.int d))) (bx ns g' s t Rr) ∧ 0 ≤ d ∧ d < many ∧ (∀ c ∈ g', 0 ≤ c) ∧ g'.length ≤ g.length := by
  intro n
  induction n with
  | zero =>
    intro g w hg hw hp ρ r0 r1 r2 rl
    obtain ⟨w, rfl⟩ : ∃ w', w = w' + 1 := ⟨w - 1, by omega⟩
    have : g = [] := List.eq_nil_of_length_eq_zero hg
    subst this
    exact .inl (whl_no (whl_cond r2))
  | succ n ih =>
    intro g w hg hw hp ρ r0 r1 r2 rl
    obtain ⟨w, rfl⟩ : ∃ w', w = w' + 1 := ⟨w - 1, by omega⟩
    obtain ⟨g0, c, rfl⟩ : ∃ g0 c, g = g0 ++ [c] := ⟨g.dropLast, g.getLast (by intro z; rw [z] at hg; cases hg), (List.dropLast_concat_getLast _).symm⟩
    have hc : 0 ≤ c := hp c (by simp)
    have cond := whl_cond (cf := cf) (G := G) (ns := ns) (g := g0 ++ [c]) (s := s) (t := t) (Rr := Rr) r2
    rw [show (!(g0 ++ [c]).isEmpty) = true by simp] at cond
    by_cases hpos : 0 < c
    · right
      refine ⟨c % many, g0 ++ [c / many], whl_rt cond ?_, Int.emod_nonneg _ (by omega), Int.emod_lt_of_pos _ hm, ?_, by simp⟩
      · have s3 : (ρ.set 3 (some (Vl.d (.int (c % many)))))[2]? = some (some (.r 1)) := by rw [List.getElem?_set_ne (by decide)]; exact r2
        have s4 : (ρ.set 3 (some (Vl.d (.int (c % many)))))[1]? = some (some (.d (.int many))) := by rw [List.getElem?_set_ne (by decide)]; exact r1
        have s5 : (ρ.set 3 (some (Vl.d (.int (c % many)))))[3]? = some (some (.d (.int (c % many)))) := List.getElem?_set_self (by omega)
        simp only [whB, exs, exS, ev, r2, r1, ok_bind, ok_bindS, great_sub, ofO_some, cmpV, ltV, Option.map_some, hpos, decide_true, truth, if_true, binV, hm, setTg, s3, s4, s5, hd, great_put]
      · intro x hx
        rcases List.mem_append.mp hx with z | z
        · exact hp x (by simp [z])
        · rw [List.mem_singleton.mp z]
          exact Int.ediv_nonneg hc (by omega)
    · have hf : decide (0 < c) = false := decide_eq_false hpos
      have st : exs cf G W whB ρ (bx ns (g0 ++ [c]) s t Rr) = .ok (.nx ρ) (bx ns g0 s t Rr) := by
        simp only [whB, exs, exS, ev, evs, r2, r1, ok_bind, ok_bindS, great_sub, ofO_some, cmpV, ltV, Option.map_some, hf, truth, Bool.false_eq_true, if_false, tyOf, bx_1, mtTy, if_true, great_pop]
      rw [whl_nx cond st]
      rcases ih g0 w (by simpa using hg) (by omega) (fun x hx => hp x (by simp [hx])) ρ r0 r1 r2 rl with z | ⟨d, g', z1, z2, z3, z4, z5⟩
      · exact .inl z
      · exact .inr ⟨d, g', z1, z2, z3, z4, by simp; omega⟩
theorem lg {i : Int} {n : Nat} (h0 : 0 ≤ i) (h : i < 2 ^ n) (hn : 0 < n) : i.natAbs.log2 < n := by
  by_cases hz : i.natAbs = 0
  · rw [hz]
    simpa using hn
  · rw [Nat.log2_lt hz]
    have e : (i.natAbs : Int) = i := Int.natAbs_of_nonneg h0
    have : (i.natAbs : Int) < ((2 ^ n : Nat) : Int) := by rw [e]; simpa using h
    exact_mod_cast this
theorem mul_small {i j : Int} {n m : Nat} (h0 : 0 ≤ i) (h : i < 2 ^ n) (hn : 0 < n) (g0 : 0 ≤ j) (g : j < 2 ^ m) (hm : 0 < m) (hs : n + m < 1000000) : mulOk i j = true := by
  have a := lg h0 h hn
  have b := lg g0 g hm
  unfold mulOk
  exact decide_eq_true (by omega)
theorem div_small {j : Int} (h0 : 0 < j) (h : j < 2 ^ 100) : divOk j = true := by
  have a := lg (Int.le_of_lt h0) h (by decide)
  unfold divOk
  simp only [Bool.and_eq_true, decide_eq_true_eq]
  omega
theorem box_great : subV (.r 2) (.d (.str "great")) (bx ns g s t Rr) = some (.r 1) := rfl
theorem box_small : subV (.r 2) (.d (.str "small")) (bx ns g s t Rr) = some (.d (.list (dI s))) := rfl
theorem box_turn : subV (.r 2) (.d (.str "turn")) (bx ns g s t Rr) = some (.d (.int t)) := rfl
theorem box_put {t' : Int} (hl : 2 < Rr.length + 3) : putV (.r 2) (.d (.str "turn")) (.d (.int t')) (bx ns g s t Rr) = .ok () (bx ns g s t' Rr) := rfl
theorem small_at {i : Int} (h0 : 0 ≤ i) (h1 : i < s.length) : ∃ c ∈ s, ∀ S, subV (.d (.list (dI s))) (.d (.int i)) S = some (.d (.int c)) := by
  obtain ⟨x, _, e, e2⟩ := atI_ok (xs := dI s) h0 (by simpa [dI] using h1)
  unfold dI at e2
  rw [List.getElem?_map] at e2
  cases hc : s[i.toNat]? with
  | none => rw [hc] at e2; cases e2
  | some c =>
    rw [hc] at e2
    cases e2
    exact ⟨c, List.mem_of_getElem? hc, fun S => by show (L2.atI (dI s) i).map Vl.d = _; rw [e]; rfl⟩
theorem draw_ok {f : Fn} {b : Int} {S : Store} (hf : T.fns.lookup ("_law_draw" : Str) = some f) (hb : f.body = drB) (hp : f.pars = 2) (hl : f.names.length = 6) (hW : 100 < T.W) (h : Bx b Rr S) (hb2 : b < 2 ^ 64) (hm : 0 < many) (hm2 : many < 2 ^ 100) :
    ∃ d S', run T (k + 1) "_law_draw" [.r 2, .d (.int many)] S = .ok (.d (.int d)) S' ∧ 0 ≤ d ∧ d < many ∧ Bx (b + 1) Rr S' := by
  obtain ⟨ns, g, s, t, rfl, h1, h2, h3, h4, h5, h6⟩ := h
  have hd := div_small hm hm2
  have he : Tz.start f [.r 2, .d (.int many)] = [some (.r 2), some (.d (.int many)), none, none, none, none] := by
    unfold Tz.start
    rw [hl]
    rfl
  have hlen : 0 < s.length := List.length_pos_iff.mpr h1
  have tk : ∀ g' t', (bx ns g' s t' Rr).take (bx ns g s t Rr).length = bx ns g' s t' Rr := fun g' t' => by
    have e : (bx ns g s t Rr).length = (bx ns g' s t' Rr).length := rfl
    rw [e, List.take_length]
  rw [run_at hf]
  unfold call1
  rw [hp, hb, he]
  rcases whl_step (cf := run T k) (G := T.G) (W := T.W) (ns := ns) (s := s) (t := t) (Rr := Rr) hm hd g.length g T.W rfl (by omega) h3 [some (.r 2), some (.d (.int many)), some (.r 1), none, none, none] rfl rfl rfl rfl with z | ⟨d, g', z, d0, d1, z3, z4⟩
  · obtain ⟨c, hc, hcs⟩ := small_at (s := s) (i := (t + 1) % (s.length : Int)) (Int.emod_nonneg _ (by omega)) (Int.emod_lt_of_pos _ (by omega))
    obtain ⟨c0, c1⟩ := h2 c hc
    have m1 : mulOk c 6364136223846793005 = true := mul_small (n := 64) (m := 64) c0 (by omega) (by decide) (by decide) (by decide) (by decide) (by decide)
    have m2 : mulOk (t + 1) 1442695040888963407 = true := mul_small (n := 65) (m := 64) (by omega) (by omega) (by decide) (by decide) (by decide) (by decide) (by decide)
    generalize hx : (c * 6364136223846793005 + (t + 1) * 1442695040888963407) % 18446744073709551557 = x
    have x0 : 0 ≤ x := by rw [← hx]; exact Int.emod_nonneg _ (by decide)
    have x1 : x < 18446744073709551557 := by rw [← hx]; exact Int.emod_lt_of_pos _ (by decide)
    have m3 : mulOk x (x / 4294967296 + 17) = true := mul_small (n := 64) (m := 64) x0 (by omega) (by decide) (by omega) (by omega) (by decide) (by decide)
    have dv : divOk 4294967296 = true := by decide
    have dv2 : divOk 65536 = true := by decide
    have p1 : (0 : Int) < 18446744073709551557 := by decide
    have p2 : (0 : Int) < (s.length : Int) := by omega
    refine ⟨x * (x / 4294967296 + 17) % 18446744073709551557 / 65536 % many, bx ns [] s (t + 1) Rr, ?_, Int.emod_nonneg _ (by omega), Int.emod_lt_of_pos _ hm, ⟨ns, [], s, t + 1, rfl, h1, h2, (fun _ z => by cases z), by omega, by omega, by simp⟩⟩
    have hlenD : biV .len [.d (.list (dI s))] (bx ns [] s (t + 1) Rr) = .ok (.d (.int (s.length : Int))) (bx ns [] s (t + 1) Rr) := by
      show R.ok (Vl.d (.int ((dI s).length : Int))) _ = _
      simp [dI]
    unfold drB
    rw [exs_nx (ρ1 := [some (.r 2), some (.d (.int many)), some (.r 1), none, none, none]) (S1 := bx ns g s t Rr) rfl, exs_nx (show exS _ _ _ (.whl _ whB) _ _ = _ from z)]
    simp only [exs, exS, ev, evs, List.getElem?_cons_zero, List.getElem?_cons_succ, List.set_cons_zero, List.set_cons_succ, List.length_cons, List.length_nil, if_true, ok_bind, ok_bindS, box_great, box_small, box_turn, ofO_some, setTg, binV, box_put (Nat.lt_add_left _ (by decide)), hlenD, hcs, m1, m2, hx, m3, dv, dv2, p1, p2, hm, ok_noEx, endC, fin, tk]
  · refine ⟨d, bx ns g' s t Rr, ?_, d0, d1, ns, g', s, t, rfl, h1, h2, z3, h4, by omega, by omega⟩
    unfold drB
    rw [exs_nx (ρ1 := [some (.r 2), some (.d (.int many)), some (.r 1), none, none, none]) (S1 := bx ns g s t Rr) rfl, exs_rt (show exS _ _ _ (.whl _ whB) _ _ = _ from z)]
    simp only [List.length_cons, List.length_nil, if_true, ok_bind, ok_noEx, endC, fin, tk]
end
end Tz

end
section
/-! Tz.Box2: opening the box, one of a list. -/
namespace Tz
open PySem
/-! ### comprehensions -/
theorem lcL_pure {f : Vl → Store → R (List Vl)} {g : Vl → List Vl} {S : Store} : ∀ {xs : List Vl}, (∀ x ∈ xs, f x S = .ok (g x) S) → lcL f xs S = .ok (xs.flatMap g) S
  | [], _ => rfl
  | x :: xs, h => by
    rw [lcL, h x (List.mem_cons_self ..), ok_bind, lcL_pure fun y hy => h y (List.mem_cons_of_mem _ hy), ok_bind, List.flatMap_cons]
/-- with a state: I by the turns made -/
theorem lcL_inv {f : Vl → Store → R (List Vl)} {I : Nat → Store → Prop} {P : Vl → Prop} : ∀ {xs : List Vl} {i : Nat} {S : Store}, (∀ j, ∀ x ∈ xs, ∀ S, i ≤ j → j < i + xs.length → I j S → ∃ ys S', f x S = .ok ys S' ∧ ys.length ≤ 1 ∧ (∀ y ∈ ys, P y) ∧ I (j + 1) S') → I i S →
    ∃ ys S', lcL f xs S = .ok ys S' ∧ ys.length ≤ xs.length ∧ (∀ y ∈ ys, P y) ∧ I (i + xs.length) S'
  | [], i, S, _, h => ⟨[], S, rfl, Nat.le_refl _, (fun _ z => by cases z), h⟩
  | x :: xs, i, S, h, hi => by
    obtain ⟨y1, S1, e1, l1, p1, i1⟩ := h i x (List.mem_cons_self ..) S (Nat.le_refl _) (by simp) hi
    obtain ⟨y2, S2, e2, l2, p2, i2⟩ := lcL_inv (xs := xs) (i := i + 1) (S := S1) (fun j z hz S' a b => h j z (List.mem_cons_of_mem _ hz) S' (by omega) (by rw [List.length_cons]; omega)) i1
    refine ⟨y1 ++ y2, S2, by rw [lcL, e1, ok_bind, e2, ok_bind], by rw [List.length_append, List.length_cons]; omega, fun y hy => (List.mem_append.mp hy).elim (p1 y) (p2 y), ?_⟩
    rw [List.length_cons]
    have : i + (xs.length + 1) = i + 1 + xs.length := by omega
    rw [this]
    exact i2
/-- exactly one item a turn -/
theorem lcL_inv1 {f : Vl → Store → R (List Vl)} {I : Nat → Store → Prop} {P : Vl → Prop} : ∀ {xs : List Vl} {i : Nat} {S : Store}, (∀ j, ∀ x ∈ xs, ∀ S, i ≤ j → j < i + xs.length → I j S → ∃ y S', f x S = .ok [y] S' ∧ P y ∧ I (j + 1) S') → I i S →
    ∃ ys S', lcL f xs S = .ok ys S' ∧ ys.length = xs.length ∧ (∀ y ∈ ys, P y) ∧ I (i + xs.length) S'
  | [], i, S, _, h => ⟨[], S, rfl, rfl, (fun _ z => by cases z), h⟩
  | x :: xs, i, S, h, hi => by
    obtain ⟨y1, S1, e1, p1, i1⟩ := h i x (List.mem_cons_self ..) S (Nat.le_refl _) (by simp) hi
    obtain ⟨y2, S2, e2, l2, p2, i2⟩ := lcL_inv1 (xs := xs) (i := i + 1) (S := S1) (fun j z hz S' a b => h j z (List.mem_cons_of_mem _ hz) S' (by omega) (by rw [List.length_cons]; omega)) i1
    refine ⟨y1 :: y2, S2, by rw [lcL, e1, ok_bind, e2, ok_bind]; rfl, by rw [List.length_cons, List.length_cons, l2], fun y hy => ?_, ?_⟩
    · rcases List.mem_cons.mp hy with z | z
      · rw [z]
        exact p1
      · exact p2 y z
    · rw [List.length_cons]
      have : i + (xs.length + 1) = i + 1 + xs.length := by omega
      rw [this]
      exact i2
theorem forL_inv {f : Vl → Env → Store → R Fl} {I : Nat → Env → Store → Prop} : ∀ {xs : List Vl} {i : Nat} {ρ : Env} {S : Store}, (∀ j, ∀ x ∈ xs, ∀ ρ S, i ≤ j → j < i + xs.length → I j ρ S → ∃ ρ' S', (f x ρ S = .ok (.nx ρ') S' ∨ f x ρ S = .ok (.ct ρ') S') ∧ I (j + 1) ρ' S') → I i ρ S →
    ∃ ρ' S', forL f xs ρ S = .ok (.nx ρ') S' ∧ I (i + xs.length) ρ' S'
  | [], i, ρ, S, _, h => ⟨ρ, S, rfl, h⟩
  | x :: xs, i, ρ, S, h, hi => by
    obtain ⟨ρ1, S1, e1, i1⟩ := h i x (List.mem_cons_self ..) ρ S (Nat.le_refl _) (by simp) hi
    obtain ⟨ρ2, S2, e2, i2⟩ := forL_inv (xs := xs) (i := i + 1) (ρ := ρ1) (S := S1) (fun j z hz ρ' S' a b => h j z (List.mem_cons_of_mem _ hz) ρ' S' (by omega) (by rw [List.length_cons]; omega)) i1
    refine ⟨ρ2, S2, ?_, ?_⟩
    · rcases e1 with e1 | e1 <;> (rw [forL, e1]; exact e2)
    · rw [List.length_cons]
      have : i + (xs.length + 1) = i + 1 + xs.length := by omega
      rw [this]
      exact i2
/-! ### lists -/
theorem flatMap_one {α : Type} (l : List Int) (p : Int → Bool) (g : Int → Int) : ((l.map fun i => Vl.d (.int i)).flatMap fun x => match x with | .d (.int i) => if p i then [Vl.d (.int (g i))] else [] | _ => []) = ((l.filter p).map g).map fun i => Vl.d (.int i) := by
  induction l with
  | nil => rfl
  | cons a r ih =>
    rw [List.map_cons, List.flatMap_cons, ih, List.filter_cons]
    by_cases h : p a = true
    · simp [h]
    · simp [h]
theorem map_dI (l : List Int) : (dI l).map Vl.d = vI l := by simp [dI, vI]
def opB (q : Int) : Ss := (.cons (.asg (.nm 1) (.lc false [4] (.nm 4) (.of (.slc (.var 0) .no (.so (.con (.int 61))))) .no (.bi .abs (.cons (.var 4) .nil))))
  (.cons (.asg (.nm 2) (.lc false [4] (.nm 4) (.of (.var 1)) (.so (.cmp .Lt (.var 4) (.bin .Pow (.con (.int 10)) (.con (.int 18))))) (.var 4)))
  (.cons (.asg (.nm 3) (.lc true [4] (.nm 4) (.of (.var 1)) (.so (.cmp .GtE (.var 4) (.bin .Pow (.con (.int 10)) (.con (.int 18))))) (.var 4)))
  (.cons (.ret (.dic true [.inr "great", .inr "small", .inr "turn"] (.cons (.var 3) (.cons (.bin .Add (.var 2) (.bin .Mult (.lst false (.cons (.con (.int q)) .nil)) (.bi .int (.cons (.cmp .Eq (.var 2) (.lst false .nil)) .nil)))) (.cons (.con (.int 0)) .nil)))))
  .nil))))
section
variable {T : Prog} {k : Nat}
theorem newL_d {l : List PyData} {S : Store} (h : l.length ≤ sizeLine) : newL false (l.map Vl.d) S = .ok (.d (.list l)) S := by
  unfold newL
  rw [if_pos (by simpa using h), if_neg Bool.false_ne_true, allD_map]
theorem lcL_ints {f : Vl → Store → R (List Vl)} {l : List Int} {p : Int → Bool} {g : Int → Int} {S : Store} (h : ∀ i ∈ l, f (.d (.int i)) S = .ok (if p i then [.d (.int (g i))] else []) S) : lcL f (vI l) S = .ok (vI ((l.filter p).map g)) S := by
  rw [lcL_pure (g := fun x => match x with | .d (.int i) => if p i then [Vl.d (.int (g i))] else [] | _ => [])]
  · unfold vI
    rw [flatMap_one (α := Unit)]
  · intro x hx
    obtain ⟨i, hi, rfl⟩ := List.mem_map.mp hx
    exact h i hi
section
variable {cf : Str → List Vl → Store → R Vl} {G : Str → Option PyData} {W : Nat} {ρ ρ1 : Env} {S S1 S2 : Store}
theorem ev_lc {m : Bool} {own : List Nat} {t : Tg} {it : I} {c : P} {e : E} {xs ys : List Vl} (h1 : evI cf G it ρ S = .ok xs S1) (h2 : lcL (lcF t ρ own (evC cf G c) (ev cf G e)) xs S1 = .ok ys S2) : ev cf G (.lc m own t it c e) ρ S = newL m ys S2 := by
  show (evI cf G it ρ S).bind _ = _
  rw [h1]
  show (noEx (lcL (lcF t ρ own (evC cf G c) (ev cf G e)) xs S1)).bind _ = _
  rw [h2]
  rfl
theorem exS_asg {t : Tg} {e : E} {x : Vl} (h : ev cf G e ρ S = .ok x S1) (h2 : setTg t x ρ = some ρ1) : exS cf G W (.asg t e) ρ S = .ok (.nx ρ1) S1 := by
  show (ev cf G e ρ S).bindS ρ _ = _
  rw [h]
  show (match setTg t x ρ with | some ρ1 => _ | none => _) = _
  rw [h2]
theorem exS_ret {e : E} {x : Vl} (h : ev cf G e ρ S = .ok x S1) : exS cf G W (.ret e) ρ S = .ok (.rt x) S1 := by
  show (ev cf G e ρ S).bindS ρ _ = _
  rw [h]
  rfl
theorem exS_if {c : E} {x : Vl} {b : Bool} {t u : Ss} (h : ev cf G c ρ S = .ok x S1) (hb : truth x S1 = some b) : exS cf G W (.ifs c t u) ρ S = if b then exs cf G W t ρ S1 else exs cf G W u ρ S1 := by
  show ((ev cf G c ρ S).bind fun x S1 => ofO (truth x S1) S1).bindS ρ _ = _
  rw [h]
  show (ofO (truth x S1) S1).bindS ρ _ = _
  rw [hb]
  rfl
theorem exS_for {t : Tg} {it : I} {b : Ss} {xs : List Vl} (h : evI cf G it ρ S = .ok xs S1) : exS cf G W (.for_ t it b) ρ S = forL (fun x ρ1 Sa => match setTg t x ρ1 with | some ρ2 => exs cf G W b ρ2 Sa | none => .fail) xs ρ S1 := by
  show (evI cf G it ρ S).bindS ρ _ = _
  rw [h]
  rfl
end
theorem run_rt {f : Str} {fn : Fn} {vs : List Vl} {v : Vl} {S S1 : Store} (hf : T.fns.lookup f = some fn) (hl : vs.length = fn.pars) (h : exs (run T k) T.G T.W fn.body (Tz.start fn vs) S = .ok (.rt v) S1) : run T (k + 1) f vs S = fin S.length v S1 := by
  rw [run_at hf]
  unfold call1
  rw [if_pos hl, h]
  rfl
theorem fin_d {x : PyData} {S : Store} : fin S.length (.d x) S = .ok (.d x) S := by
  unfold fin
  rw [List.take_length]
/-- an expression that is a plain call's whole body -/
theorem opened_ok {f : Fn} {q : Int} {ns : List Int} (hf : T.fns.lookup ("_law_opened" : Str) = some f) (hb : f.body = opB q) (hp : f.pars = 1) (hl : f.names.length = 5) (hq : 0 ≤ q ∧ q < 10 ^ 18) :
    ∃ S', run T (k + 1) "_law_opened" [.r 0] [some (.scr ns)] = .ok (.r 2) S' ∧ Bx 0 [] S' := by
  have he : Tz.start f [.r 0] = [some (.r 0), none, none, none, none] := by
    unfold Tz.start
    rw [hl]
    rfl
  have hcut : (cutD ns none (some 61)).length ≤ 61 := by
    unfold cutD
    rw [List.length_take]
    have : HT.sIx ns.length ns.length (some 61) ≤ 61 := by
      rw [show (some (61 : Int)) = some ((61 : Nat) : Int) from rfl, HT.sIx_nat]
      exact Nat.min_le_left _ _
    omega
  generalize hc : cutD ns none (some 61) = cs at hcut
  have sz : 62 ≤ sizeLine := by decide
  generalize hA : (cs.map fun i => if i < 0 then -i else i) = as
  have hA0 : ∀ i ∈ as, 0 ≤ i := fun i hi => by
    rw [← hA] at hi
    obtain ⟨j, _, rfl⟩ := List.mem_map.mp hi
    split <;> omega
  have hAl : as.length ≤ 61 := by rw [← hA, List.length_map]; exact hcut
  have e1 : exS (run T k) T.G T.W (.asg (.nm 1) (.lc false [4] (.nm 4) (.of (.slc (.var 0) .no (.so (.con (.int 61))))) .no (.bi .abs (.cons (.var 4) .nil)))) [some (.r 0), none, none, none, none] [some (.scr ns)] =
      .ok (.nx [some (.r 0), some (.d (.list (dI as))), none, none, none]) [some (.scr ns)] := by
    refine exS_asg (x := .d (.list (dI as))) ?_ rfl
    rw [ev_lc (xs := vI cs) (S1 := [some (.scr ns)]) (ys := (dI as).map Vl.d) (S2 := [some (.scr ns)]), newL_d (by simp [dI]; omega)]
    · have : slcV (.r 0) none (some 61) [some (.scr ns)] = .ok (.d (.list (dI cs))) [some (.scr ns)] := by
        show R.ok (Vl.d (.list ((cutD ns none (some 61)).map .int))) _ = _
        rw [hc]
        rfl
      simp only [evI, ev, evP, partV, List.getElem?_cons_zero, ok_bind, this, plainSeq, Option.map_some, ofO_some, map_dI]
    · rw [lcL_ints (p := fun _ => true) (g := fun i => if i < 0 then -i else i) (fun i _ => rfl), map_dI, ← hA, List.filter_eq_self.mpr fun _ _ => rfl]
  have flt : ∀ (op : CmpOp) (p : Int → Bool), (∀ i S, cmpV op (.d (.int i)) (.d (.int (10 ^ 18))) S = some (p i)) → ∀ (a2 a3 : Option Vl) S, lcL (lcF (.nm 4) [some (.r 0), some (.d (.list (dI as))), a2, a3, none] [4] (evC (run T k) T.G (.so (.cmp op (.var 4) (.bin .Pow (.con (.int 10)) (.con (.int 18)))))) (ev (run T k) T.G (.var 4))) (vI as) S = .ok (vI (as.filter p)) S := by
    intro op p hp' a2 a3 S
    rw [lcL_ints (p := p) (g := fun i => i)]
    · simp
    · intro i _
      have hpw : binV .Pow (.d (.int 10)) (.d (.int 18)) S = .ok (.d (.int (10 ^ 18))) S := rfl
      show ((evC (run T k) T.G (.so (.cmp op (.var 4) (.bin .Pow (.con (.int 10)) (.con (.int 18))))) [some (.r 0), some (.d (.list (dI as))), a2, a3, some (.d (.int i))] S).bind fun kk Sb => if kk then ((ev (run T k) T.G (.var 4) [some (.r 0), some (.d (.list (dI as))), a2, a3, some (.d (.int i))] Sb).bind fun y Sc => .ok [y] Sc) else .ok [] Sb) = _
      simp only [evC, ev, List.getElem?_cons_zero, List.getElem?_cons_succ, ok_bind, hpw, hp', ofO_some, truth]
      cases p i <;> rfl
  have itv : ∀ (a2 a3 : Option Vl) (S : Store), evI (run T k) T.G (.of (.var 1)) [some (.r 0), some (.d (.list (dI as))), a2, a3, none] S = .ok (vI as) S := by
    intro a2 a3 S
    simp only [evI, ev, List.getElem?_cons_zero, List.getElem?_cons_succ, ok_bind, plainSeq, Option.map_some, ofO_some, map_dI]
  generalize hs : as.filter (fun i => decide (i < 10 ^ 18)) = sm
  generalize hg : as.filter (fun i => decide (10 ^ 18 ≤ i)) = gr
  have smP : ∀ c ∈ sm, 0 ≤ c ∧ c < 10 ^ 18 := fun c hc => by
    rw [← hs, List.mem_filter] at hc
    exact ⟨hA0 c hc.1, of_decide_eq_true hc.2⟩
  have grP : ∀ c ∈ gr, 0 ≤ c := fun c hc => by
    rw [← hg, List.mem_filter] at hc
    exact hA0 c hc.1
  have sml : sm.length ≤ 61 := by rw [← hs]; exact Nat.le_trans (List.length_filter_le _ _) hAl
  have grl : gr.length ≤ 61 := by rw [← hg]; exact Nat.le_trans (List.length_filter_le _ _) hAl
  have e2 : exS (run T k) T.G T.W (.asg (.nm 2) (.lc false [4] (.nm 4) (.of (.var 1)) (.so (.cmp .Lt (.var 4) (.bin .Pow (.con (.int 10)) (.con (.int 18))))) (.var 4))) [some (.r 0), some (.d (.list (dI as))), none, none, none] [some (.scr ns)] =
      .ok (.nx [some (.r 0), some (.d (.list (dI as))), some (.d (.list (dI sm))), none, none]) [some (.scr ns)] := by
    refine exS_asg (x := .d (.list (dI sm))) ?_ rfl
    rw [ev_lc (itv none none _) (flt .Lt (fun i => decide (i < 10 ^ 18)) (fun _ _ => rfl) none none _), hs, ← map_dI, newL_d (by simp [dI]; omega)]
  have e3 : exS (run T k) T.G T.W (.asg (.nm 3) (.lc true [4] (.nm 4) (.of (.var 1)) (.so (.cmp .GtE (.var 4) (.bin .Pow (.con (.int 10)) (.con (.int 18))))) (.var 4))) [some (.r 0), some (.d (.list (dI as))), some (.d (.list (dI sm))), none, none] [some (.scr ns)] =
      .ok (.nx [some (.r 0), some (.d (.list (dI as))), some (.d (.list (dI sm))), some (.r 1), none]) [some (.scr ns), some (.lst (vI gr))] := by
    refine exS_asg (x := .r 1) ?_ rfl
    rw [ev_lc (itv _ none _) (flt .GtE (fun i => decide (10 ^ 18 ≤ i)) (fun _ _ => rfl) _ none _), hg]
    unfold newL
    rw [if_pos (by simp [vI]; omega)]
    rfl
  generalize hz : (if sm.isEmpty then [q] else []) = ex
  have exl : ex.length ≤ 1 := by rw [← hz]; split <;> simp
  have e4 : exS (run T k) T.G T.W (.ret (.dic true [.inr "great", .inr "small", .inr "turn"] (.cons (.var 3) (.cons (.bin .Add (.var 2) (.bin .Mult (.lst false (.cons (.con (.int q)) .nil)) (.bi .int (.cons (.cmp .Eq (.var 2) (.lst false .nil)) .nil)))) (.cons (.con (.int 0)) .nil))))) [some (.r 0), some (.d (.list (dI as))), some (.d (.list (dI sm))), some (.r 1), none] [some (.scr ns), some (.lst (vI gr))] =
      .ok (.rt (.r 2)) (bx ns gr (sm ++ ex) 0 []) := by
    refine exS_ret ?_
    have n1 : ∀ S, newL false [.d (.int q)] S = .ok (.d (.list [.int q])) S := fun S => newL_d (l := [.int q]) (by simp [sizeLine])
    have n0 : ∀ S, newL false [] S = .ok (.d (.list [])) S := fun S => newL_d (l := []) (by simp)
    have cm : ∀ S, cmpV .Eq (.d (.list (dI sm))) (.d (.list [])) S = some sm.isEmpty := fun S => by
      show some (dI sm).isEmpty = _
      unfold dI
      cases sm <;> rfl
    have ml : ∀ S, binV .Mult (.d (.list [.int q])) (.d (.int (if sm.isEmpty then 1 else 0))) S = .ok (.d (.list (dI ex))) S := fun S => by
      rw [← hz]
      cases sm.isEmpty <;> rfl
    have ad : ∀ S, binV .Add (.d (.list (dI sm))) (.d (.list (dI ex))) S = .ok (.d (.list (dI (sm ++ ex)))) S := fun S => by
      show (if (dI sm).length + (dI ex).length ≤ sizeLine then R.ok (Vl.d (.list (dI sm ++ dI ex))) S else .fail) = _
      rw [if_pos (by simp [dI]; omega)]
      simp [dI]
    have bi1 : ∀ S, biV .int [.d (.bool sm.isEmpty)] S = .ok (.d (.int (if sm.isEmpty then 1 else 0))) S := fun _ => rfl
    have dd : decide ([(Sum.inr "great" : L2.Key), .inr "small", .inr "turn"].Nodup) = true := by decide +kernel
    simp only [ev, evs, List.getElem?_cons_zero, List.getElem?_cons_succ, ok_bind, n1, n0, cm, ofO_some, bi1, ml, ad, ok_noEx, dd, Bool.true_and, List.length_cons, List.length_nil, decide_true, if_true]
    rfl
  refine ⟨bx ns gr (sm ++ ex) 0 [], ?_, ns, gr, sm ++ ex, 0, rfl, ?_, ?_, grP, Int.le_refl _, Int.le_refl _, by omega⟩
  · rw [run_rt hf (by rw [hp]; rfl) (v := .r 2) (S1 := bx ns gr (sm ++ ex) 0 [])]
    · rfl
    · rw [hb, he]
      unfold opB
      rw [exs_nx e1, exs_nx e2, exs_nx e3, exs_rt e4]
  · intro z
    rw [List.append_eq_nil_iff] at z
    rw [← hz, z.1] at z
    simp at z
  · intro c hc
    rcases List.mem_append.mp hc with z | z
    · exact smP c z
    · rw [← hz] at z
      split at z
      · rw [List.mem_singleton.mp z]
        exact hq
      · cases z
def oneB : Ss := (.cons (.ret (.sub (.var 1) (.call "_law_draw" (.cons (.var 0) (.cons (.bi .len (.cons (.var 1) .nil)) .nil)))))
  .nil)
/-- the draw is there -/
structure DrawIs (T : Prog) : Prop where
  ex : ∃ f, T.fns.lookup ("_law_draw" : Str) = some f ∧ f.body = drB ∧ f.pars = 2 ∧ f.names.length = 6
  w : 100 < T.W
theorem DrawIs.ok (h : DrawIs T) {b many : Int} {Rr S : Store} (hB : Bx b Rr S) (hb : b < 2 ^ 64) (hm : 0 < many) (hm2 : many < 2 ^ 100) : ∃ d S', run T (k + 1) "_law_draw" [.r 2, .d (.int many)] S = .ok (.d (.int d)) S' ∧ 0 ≤ d ∧ d < many ∧ Bx (b + 1) Rr S' := by
  obtain ⟨f, h1, h2, h3, h4⟩ := h.ex
  exact draw_ok h1 h2 h3 h4 h.w hB hb hm hm2
theorem Bx.len {b : Int} {Rr S : Store} (h : Bx b Rr S) : S.length = Rr.length + 3 := by
  obtain ⟨ns, g, s, t, rfl, _⟩ := h
  rfl
theorem Bx.take {b b' : Int} {Rr S S' : Store} (h : Bx b Rr S) (h' : Bx b' Rr S') : S'.take S.length = S' := by
  rw [h.len, ← h'.len, List.take_length]
theorem one_ok {f : Fn} {b : Int} {Rr S : Store} {xs : List PyData} (D : DrawIs T) (hf : T.fns.lookup ("_law_one" : Str) = some f) (hb : f.body = oneB) (hp : f.pars = 2) (hl : f.names.length = 2) (hB : Bx b Rr S) (hb2 : b < 2 ^ 64) (h0 : xs ≠ []) (h1 : xs.length < 2 ^ 60) :
    ∃ v S', run T (k + 2) "_law_one" [.r 2, .d (.list xs)] S = .ok (.d v) S' ∧ v ∈ xs ∧ Bx (b + 1) Rr S' := by
  have hpos : 0 < xs.length := List.length_pos_iff.mpr h0
  obtain ⟨d, S', e, d0, d1, B'⟩ := D.ok (k := k) (many := (xs.length : Int)) hB hb2 (by omega) (by omega)
  obtain ⟨x, hx, ex, _⟩ := atI_ok (xs := xs) d0 d1
  refine ⟨x, S', ?_, hx, B'⟩
  have he : Tz.start f [.r 2, .d (.list xs)] = [some (.r 2), some (.d (.list xs))] := by
    unfold Tz.start
    rw [hl]
    rfl
  have ln : biV .len [.d (.list xs)] S = .ok (.d (.int (xs.length : Int))) S := rfl
  have sb : subV (.d (.list xs)) (.d (.int d)) S' = some (.d x) := by
    show (L2.atI xs d).map Vl.d = _
    rw [ex]
    rfl
  rw [run_rt hf (by rw [hp]; rfl) (v := .d x) (S1 := S')]
  · unfold fin
    rw [hB.take B']
  · rw [hb, he]
    refine exs_rt (exS_ret ?_)
    simp only [ev, evs, List.getElem?_cons_zero, List.getElem?_cons_succ, ok_bind, ln, e, sb, ofO_some]
end
end Tz

end
section
/-! Tz.Wp: what must hold ahead of a text so that it ends well: data alone, no store; a draw gives any number. -/
namespace Tz
open PySem

/-- a value of a frame: data, an own list or dict, a lent one, the box -/
inductive Wv where
  | d (x : PyData)
  | o (x : PyData)
  | b (x : PyData)
  | box
abbrev We := List (Option Wv)
structure Wx where
  cls : Str
  fs : List (Str × PyData)

/-! ### operations -/
def addW (x y : PyData) (Q : PyData → Prop) : Prop := match x, y with
  | .int i, .int j => Q (.int (i + j))
  | .str a, .str b => a.length + b.length ≤ sizeLine ∧ Q (.str (a ++ b))
  | .tuple a, .tuple b => a.length + b.length ≤ sizeLine ∧ Q (.tuple (a ++ b))
  | .list a, .list b => a.length + b.length ≤ sizeLine ∧ Q (.list (a ++ b))
  | _, _ => False
def mulW (x y : PyData) (Q : PyData → Prop) : Prop := match x, y with
  | .int i, .int j => mulOk i j = true ∧ Q (.int (i * j))
  | .list a, .int k => (k ≤ 1000000 ∧ -1000000 ≤ k ∧ a.length * k.toNat ≤ sizeLine) ∧ Q (.list (List.replicate k.toNat a).flatten)
  | .tuple a, .int k => (2 ≤ k ∧ k ≤ 1000 ∧ a.length ≤ 1000) ∧ Q (.tuple (List.replicate k.toNat a).flatten)
  | _, _ => False
def subIW (x y : PyData) (Q : PyData → Prop) : Prop := match x, y with
  | .int i, .int j => Q (.int (i - j))
  | _, _ => False
def divW (x y : PyData) (Q : PyData → Prop) : Prop := match x, y with
  | .int i, .int j => divOk j = true ∧ Q (.int (i / j))
  | _, _ => False
def modW (x y : PyData) (Q : PyData → Prop) : Prop := match x, y with
  | .int i, .int j => 0 < j ∧ Q (.int (i % j))
  | _, _ => False
def powW (x y : PyData) (Q : PyData → Prop) : Prop := match x, y with
  | .int i, .int j => powOk i j = true ∧ Q (.int (i ^ j.toNat))
  | _, _ => False
def binW (op : Operator) (x y : PyData) (Q : PyData → Prop) : Prop := match op with
  | .Add => addW x y Q
  | .Sub => subIW x y Q
  | .Mult => mulW x y Q
  | .FloorDiv => divW x y Q
  | .Mod => modW x y Q
  | .Pow => powW x y Q
  | _ => False
def augW (op : Operator) (x y : PyData) (Q : PyData → Prop) : Prop := match op, x, y with
  | .Add, .int i, .int j => Q (.int (i + j))
  | .Sub, .int i, .int j => Q (.int (i - j))
  | _, _, _ => False
def negW (x : PyData) (Q : PyData → Prop) : Prop := match x with
  | .int i => Q (.int (-i))
  | _ => False
def truthW (x : PyData) (Q : Bool → Prop) : Prop := match x with
  | .none => Q false
  | .bool b => Q b
  | .int i => Q (i != 0)
  | .str x => x.length ≤ sizeLine ∧ Q ((x.length : Int) != 0)
  | .list xs => Q (!xs.isEmpty)
  | .tuple xs => Q (!xs.isEmpty)
  | .dict kvs => Q (!kvs.isEmpty)
def eqW (a b : PyData) (Q : Bool → Prop) : Prop := match a, b with
  | .int i, .int j => Q (decide (i = j))
  | .tuple xs, .tuple [] => Q xs.isEmpty
  | .list xs, .list [] => Q xs.isEmpty
  | .str x, .str y => Q (x == y)
  | .dict _, _ => False
  | _, .dict _ => False
  | a, b => eqOk a = true ∧ eqOk b = true ∧ Q (PyData.eqv a b)
def ltW (f : Int → Int → Bool) (x y : PyData) (Q : Bool → Prop) : Prop := match x, y with
  | .int i, .int j => Q (f i j)
  | _, _ => False
def seqInW (x : PyData) (ys : List PyData) (Q : Bool → Prop) : Prop := eqOk x = true ∧ PyData.canLayAll0 ys = true ∧ Q (ys.any fun y => PyData.eqv y x)
def keyW (j : PyData) (Q : L2.Key → Prop) : Prop := match j with
  | .int i => Q (.inl i)
  | .str x => Q (.inr x)
  | _ => False
def inW (x y : PyData) (Q : Bool → Prop) : Prop := match y with
  | .dict kvs => keyW x fun k => Q (lookD k kvs).isSome
  | .str t => (match x with
    | .str a => Q (!(Builtin.Str.occurrences t a 0 t.length 1).isEmpty)
    | _ => False)
  | .tuple ys => seqInW x ys Q
  | .list ys => seqInW x ys Q
  | _ => False
def isNoneD : PyData → Bool
  | .none => true
  | _ => false
def isW (x y : PyData) (Q : Bool → Prop) : Prop := match y with
  | .none => Q (isNoneD x)
  | _ => False
def cmpW (op : CmpOp) (x y : PyData) (Q : Bool → Prop) : Prop := match op with
  | .Eq => eqW x y Q
  | .NotEq => eqW x y fun b => Q (!b)
  | .Lt => ltW (fun i j => decide (i < j)) x y Q
  | .LtE => ltW (fun i j => decide (i ≤ j)) x y Q
  | .Gt => ltW (fun i j => decide (j < i)) x y Q
  | .GtE => ltW (fun i j => decide (j ≤ i)) x y Q
  | .Is => isW x y Q
  | .IsNot => isW x y fun b => Q (!b)
  | .In => inW x y Q
  | .NotIn => inW x y fun b => Q (!b)
/-- a way on that simp leaves alone (a later argument hangs on it) -/
structure Dep {α : Type} (a : α) : Type where
/-- xs[k] -/
def getW (xs : List PyData) (k : Int) (Q : PyData → Prop) (_ : Dep Q := ⟨⟩) : Prop := ∃ y, L2.atI xs k = some y ∧ Q y
def subW (x i : PyData) (Q : PyData → Prop) : Prop := match x with
  | .tuple xs => (match i with
    | .int k => getW xs k Q
    | _ => False)
  | .list xs => (match i with
    | .int k => getW xs k Q
    | _ => False)
  | .str t => (match i with
    | .int k => t.length ≤ sizeLine ∧ ∃ c, L2.atI t.cps.toList k = some c ∧ Q (.str ⟨#[c]⟩)
    | _ => False)
  | .dict kvs => keyW i fun k => ∃ y, lookD k kvs = some y ∧ Q y
  | _ => False
def cutW (x : PyData) (lo hi : Option Int) (Q : PyData → Prop) : Prop := match x with
  | .tuple xs => Q (.tuple (cutD xs lo hi))
  | .list xs => Q (.list (cutD xs lo hi))
  | _ => False
def revW (x : PyData) (Q : PyData → Prop) : Prop := match x with
  | .tuple xs => Q (.tuple xs.reverse)
  | .list xs => Q (.list xs.reverse)
  | _ => False
def tyD : PyData → String
  | .none => "NoneType"
  | .bool _ => "bool"
  | .int _ => "int"
  | .str _ => "str"
  | .list _ => "list"
  | .tuple _ => "tuple"
  | .dict _ => "dict"
def isiD (x : PyData) (ts : List String) : Bool := ts.any (isTy (tyD x))
/-- the ints of a list -/
def intsD : List PyData → Option (List Int)
  | [] => some []
  | .int i :: r => (intsD r).map (i :: ·)
  | _ => none
def boolsD : List PyData → Option (List Bool)
  | [] => some []
  | .bool b :: r => (boolsD r).map (b :: ·)
  | _ => none
def intsW (x : PyData) (Q : List Int → Prop) : Prop := match x with
  | .list xs => ∃ ns, intsD xs = some ns ∧ Q ns
  | _ => False
def boolsW (x : PyData) (Q : List Bool → Prop) : Prop := match x with
  | .list xs => ∃ bs, boolsD xs = some bs ∧ Q bs
  | _ => False
def lenW (x : PyData) (Q : PyData → Prop) : Prop := match x with
  | .str t => t.length ≤ sizeLine ∧ Q (.int t.length)
  | .list xs => Q (.int xs.length)
  | .tuple xs => Q (.int xs.length)
  | _ => False
def bi1W (b : Bi) (x : PyData) (Q : PyData → Prop) : Prop := match b with
  | .len => lenW x Q
  | .abs => (match x with
    | .int i => Q (.int (if i < 0 then -i else i))
    | _ => False)
  | .int => (match x with
    | .int i => Q (.int i)
    | .bool c => Q (.int (if c then 1 else 0))
    | _ => False)
  | .bool => (match x with
    | .int i => Q (.bool (i != 0))
    | .bool c => Q (.bool c)
    | _ => False)
  | .str => (match x with
    | .int i => i.natAbs.log2 < 1920 ∧ Q (.str (toString i))
    | .str t => Q (.str t)
    | _ => False)
  | .repr => showOk x = true ∧ Q (.str x.shown)
  | .tuple => (match x with
    | .tuple a => Q (.tuple a)
    | .list a => a.length ≤ sizeLine ∧ Q (.tuple a)
    | _ => False)
  | .list m => m = false ∧ (match x with
    | .tuple a => a.length ≤ sizeLine ∧ Q (.list a)
    | .list a => a.length ≤ sizeLine ∧ Q (.list a)
    | _ => False)
  | .sum => intsW x fun ns => Q (.int ns.sum)
  | .min => intsW x fun ns => ∃ n r, ns = n :: r ∧ Q (.int (minI n r))
  | .max => intsW x fun ns => ∃ n r, ns = n :: r ∧ Q (.int (maxI n r))
  | .sorted => intsW x fun ns => Q (.list ((sortI ns).map .int))
  | .all => boolsW x fun bs => Q (.bool (bs.all id))
  | .any => boolsW x fun bs => Q (.bool (bs.any id))
def bi2W (b : Bi) (x y : PyData) (Q : PyData → Prop) : Prop := match b, x, y with
  | .min, .int i, .int j => Q (.int (if j < i then j else i))
  | .max, .int i, .int j => Q (.int (if j > i then j else i))
  | _, _, _ => False
def bisW (b : Bi) (xs : List PyData) (Q : PyData → Prop) : Prop := match xs with
  | [x, y] => bi2W b x y Q
  | _ => False
def plainW (x : PyData) (Q : List PyData → Prop) : Prop := match x with
  | .list xs => xs.length ≤ sizeLine ∧ Q xs
  | .tuple xs => xs.length ≤ sizeLine ∧ Q xs
  | _ => False
def rangeW (xs : List PyData) (Q : List PyData → Prop) : Prop := match xs with
  | [.int j] => j ≤ sizeLine ∧ -(2 ^ 62) ≤ j ∧ Q ((List.range j.toNat).map fun (k : Nat) => .int k)
  | [.int i, .int j] => (j - i ≤ sizeLine ∧ -(2 ^ 62) ≤ i ∧ i < 2 ^ 62 ∧ -(2 ^ 62) ≤ j ∧ j < 2 ^ 62) ∧ Q ((List.range (j - i).toNat).map fun (k : Nat) => .int (i + k))
  | _ => False
def enumD : Nat → List PyData → List PyData
  | _, [] => []
  | k, x :: r => .tuple [.int k, x] :: enumD (k + 1) r
def zipD : List PyData → List PyData → List PyData
  | x :: r, y :: q => .tuple [x, y] :: zipD r q
  | _, _ => []
def zipW (x y : PyData) (Q : List PyData → Prop) : Prop := match x, y with
  | .list xs, .list ys => xs.length ≤ sizeLine ∧ Q (zipD xs ys)
  | .tuple xs, .tuple ys => xs.length ≤ sizeLine ∧ Q (zipD xs ys)
  | .list xs, .tuple ys => xs.length ≤ sizeLine ∧ Q (zipD xs ys)
  | .tuple xs, .list ys => xs.length ≤ sizeLine ∧ Q (zipD xs ys)
  | _, _ => False
/-! ### the frame -/
def rdW (ρ : We) (i : Nat) (Q : PyData → Prop) : Prop := match ρ[i]? with
  | some (some (.d x)) => Q x
  | some (some (.o x)) => Q x
  | some (some (.b x)) => Q x
  | _ => False
/-- an own list -/
def ownL (ρ : We) (i : Nat) (Q : List PyData → Prop) : Prop := match ρ[i]? with
  | some (some (.o (.list xs))) => Q xs
  | _ => False
def argW (ρ : We) (i : Nat) (Q : Wv → Prop) : Prop := match ρ[i]? with
  | some (some (.d x)) => Q (.d x)
  | some (some (.o x)) => Q (.b x)
  | some (some (.b x)) => Q (.b x)
  | some (some .box) => Q .box
  | _ => False
mutual
def setTgW : Tg → Wv → We → Option We
  | .nm i, v, ρ => some (ρ.set i (some v))
  | .tp ts, v, ρ => (match v with
    | .d (.tuple xs) => setTgsW ts xs ρ
    | .d (.list xs) => setTgsW ts xs ρ
    | _ => none)
def setTgsW : Tgs → List PyData → We → Option We
  | .nil, vs, ρ => (match vs with
    | [] => some ρ
    | _ => none)
  | .cons t ts, vs, ρ => (match vs with
    | v :: r => (match setTgW t (.d v) ρ with
      | some ρ' => setTgsW ts r ρ'
      | none => none)
    | [] => none)
end
def wipeW (ρ : We) : List Nat → We
  | [] => ρ
  | v :: vs => (wipeW ρ vs).set v none
def varOf : E → Option Nat
  | .var i => some i
  | _ => none
def varC : CmpOp → E → Option Nat
  | .In, _ => none
  | .NotIn, _ => none
  | _, e => varOf e
def varB : Bi → E → Option Nat
  | .repr, _ => none
  | _, e => varOf e
/-- a value that is read where it stands -/
def rdE (v : Option Nat) (ρ : We) (m : (PyData → We → Prop) → Prop) (Q : PyData → We → Prop) : Prop := match v with
  | some i => rdW ρ i fun x => Q x ρ
  | none => m Q
/-- two values, the first one read behind the second one -/
def rd2 (v : Option Nat) (ρ : We) (m : (PyData → We → Prop) → Prop) (m2 : We → (PyData → We → Prop) → Prop) (Q : PyData → PyData → We → Prop) : Prop := match v with
  | some i => rdW ρ i fun _ => m2 ρ fun y ρ2 => rdW ρ2 i fun x => Q x y ρ2
  | none => m fun x ρ1 => m2 ρ1 fun y ρ2 => Q x y ρ2
def lcW (f : PyData → (List PyData → Prop) → Prop) : List PyData → (List PyData → Prop) → Prop
  | [], Q => Q []
  | x :: xs, Q => f x fun ys => lcW f xs fun zs => Q (ys ++ zs)
def forW (f : PyData → We → (We → Prop) → Prop) (nx : We → Prop) : List PyData → We → Prop
  | [], ρ => nx ρ
  | x :: xs, ρ => f x ρ (forW f nx xs)
def whlW (c : We → (Bool → We → Prop) → Prop) (f : We → (We → Prop) → Prop) (nx : We → Prop) : Nat → We → Prop
  | 0, _ => False
  | n + 1, ρ => c ρ fun b ρ1 => (b = true → f ρ1 (whlW c f nx n)) ∧ (b = false → nx ρ1)
def lcX (f : PyData → (List PyData → Prop) → Prop) (xs : List PyData) (Q : List PyData → Prop) (_ : Dep (f, Q) := ⟨⟩) : Prop := lcW f xs Q
def forX (f : PyData → We → (We → Prop) → Prop) (nx : We → Prop) (xs : List PyData) (ρ : We) (_ : Dep (f, nx) := ⟨⟩) : Prop := forW f nx xs ρ
def whlX (c : We → (Bool → We → Prop) → Prop) (f : We → (We → Prop) → Prop) (nx : We → Prop) (n : Nat) (ρ : We) (_ : Dep (c, f, nx) := ⟨⟩) : Prop := whlW c f nx n ρ
def putD (k : L2.Key) (v : PyData) : List (PyData × PyData) → List (PyData × PyData)
  | [] => [(keyD k, v)]
  | (j, w) :: r => if keyOf j = some k then (j, v) :: r else (j, w) :: putD k v r
/-- a method that changes an own list, or reads -/
def putW (c k v : PyData) (Q : PyData → Prop) : Prop := match c with
  | .list xs => (match k with
    | .int i => ∃ j, L2.ixN xs.length i = some j ∧ Q (.list (xs.set j v))
    | _ => False)
  | .dict kvs => keyW k fun key => kvs.length < sizeLine ∧ Q (.dict (putD key v kvs))
  | _ => False
def partD : Option Int → PyData
  | none => .none
  | some k => .int k
def dPart : PyData → Option Int
  | .int k => some k
  | _ => none
def getDefW : List PyData → Option PyData
  | [] => some .none
  | [z] => some z
  | _ => none
/-- methods that only read -/
def metR (m : Mt) (x : PyData) (xs : List PyData) (Q : PyData → Prop) : Prop := match m, x, xs with
  | .get, .dict kvs, j :: r => keyW j fun k => ∃ z, getDefW r = some z ∧ Q ((lookD k kvs).getD z)
  | .index, .list ys, [j] => (eqOk j = true ∧ eqOk (.list ys) = true ∧ noDic j = true ∧ noDics ys = true) ∧ ∃ i, idxD j ys = some i ∧ Q (.int (i : Nat))
  | .upper, .str t, [] => t.length ≤ 5592405 ∧ Q (.str (Txt.upper t))
  | _, _, _ => False
def metO (m : Mt) (xs : List PyData) (ys : List PyData) (Q : PyData → List PyData → Prop) : Prop := match m, ys with
  | .append, [y] => xs.length < sizeLine ∧ Q .none (xs ++ [y])
  | .pop, [] => ∃ y, xs[xs.length - 1]? = some y ∧ Q y xs.dropLast
  | .extend, [.list b] => xs.length + b.length ≤ sizeLine ∧ Q .none (xs ++ b)
  | _, _ => False
def changes : Mt → Bool
  | .append | .pop | .extend => true
  | _ => false
abbrev Cf := Str → List Wv → (PyData → Prop) → (Wx → Prop) → Prop
def callW (cf : Cf) (f : Str) (vs : List Wv) (Q : PyData → Prop) (X : Wx → Prop) (_ : Dep (Q, X) := ⟨⟩) : Prop := cf f vs Q X

section
variable (cf : Cf) (G : Str → Option PyData) (W : Nat)
mutual
def wpE : E → We → (PyData → We → Prop) → (Wx → We → Prop) → Prop
  | .con x, ρ, Q, _ => Q x ρ
  | .var i, ρ, Q, _ => (match ρ[i]? with
    | some (some (.d x)) => Q x ρ
    | _ => False)
  | .frz i, ρ, Q, _ => (match ρ[i]? with
    | some (some (.d x)) => Q x ρ
    | some (some (.o (.list xs))) => Q (.list xs) (ρ.set i none)
    | _ => False)
  | .glob x, ρ, Q, _ => (match G x with
    | some v => Q v ρ
    | none => False)
  | .bin op a b, ρ, Q, X => wpE a ρ (fun x ρ1 => wpE b ρ1 (fun y ρ2 => binW op x y fun z => Q z ρ2) X) X
  | .neg a, ρ, Q, X => wpE a ρ (fun x ρ1 => negW x fun z => Q z ρ1) X
  | .not a, ρ, Q, X => rdE (varOf a) ρ (fun K => wpE a ρ K X) fun x ρ1 => truthW x fun b => Q (.bool (!b)) ρ1
  | .cmp op a b, ρ, Q, X => rd2 (varC op a) ρ (fun K => wpE a ρ K X) (fun ρ1 K => rdE (varOf b) ρ1 (fun K1 => wpE b ρ1 K1 X) K) fun x y ρ2 => cmpW op x y fun c => Q (.bool c) ρ2
  | .cmp2 op op2 a b c, ρ, Q, X => wpE a ρ (fun x ρ1 => wpE b ρ1 (fun y ρ2 => cmpW op x y fun k => (k = true → wpE c ρ2 (fun z ρ3 => cmpW op2 y z fun k2 => Q (.bool k2) ρ3) X) ∧ (k = false → Q (.bool false) ρ2)) X) X
  | .and a b, ρ, Q, X => wpE a ρ (fun x ρ1 => truthW x fun c => (c = true → wpE b ρ1 Q X) ∧ (c = false → Q x ρ1)) X
  | .or a b, ρ, Q, X => wpE a ρ (fun x ρ1 => truthW x fun c => (c = true → Q x ρ1) ∧ (c = false → wpE b ρ1 Q X)) X
  | .ite c a b, ρ, Q, X => rdE (varOf c) ρ (fun K => wpE c ρ K X) fun x ρ1 => truthW x fun k => (k = true → wpE a ρ1 Q X) ∧ (k = false → wpE b ρ1 Q X)
  | .one a, ρ, Q, X => wpE a ρ Q X
  | .tup es, ρ, Q, X => wpEs es ρ (fun xs ρ1 => xs.length ≤ sizeLine ∧ Q (.tuple xs) ρ1) X
  | .lst m es, ρ, Q, X => m = false ∧ wpEs es ρ (fun xs ρ1 => xs.length ≤ sizeLine ∧ Q (.list xs) ρ1) X
  | .dic m ks es, ρ, Q, X => m = false ∧ (ks.Nodup ∧ ks.length ≤ 1000) ∧ wpEs es ρ (fun xs ρ1 => xs.length = ks.length ∧ Q (.dict ((ks.map keyD).zip xs)) ρ1) (fun _ _ => False)
  | .sub a i, ρ, Q, X => rd2 (varOf a) ρ (fun K => wpE a ρ K X) (fun ρ1 K => wpE i ρ1 K X) fun x y ρ2 => subW x y fun z => Q z ρ2
  | .slc a lo hi, ρ, Q, X => rd2 (varOf a) ρ (fun K => wpE a ρ K X) (fun ρ1 K => wpP lo ρ1 (fun l ρ2 => wpP hi ρ2 (fun h ρ3 => K (.tuple [partD l, partD h]) ρ3) X) X) fun x y ρ2 => (match y with
      | .tuple [l, h] => cutW x (dPart l) (dPart h) fun z => Q z ρ2
      | _ => False)
  | .rev a, ρ, Q, X => rdE (varOf a) ρ (fun K => wpE a ρ K X) fun x ρ1 => revW x fun z => Q z ρ1
  | .call f es, ρ, Q, X => wpAs es ρ (fun vs ρ1 => callW cf f vs (fun r => Q r ρ1) (fun x => X x ρ1)) X
  | .bi b es, ρ, Q, X => (match es with
    | .cons a .nil => rdE (varB b a) ρ (fun K => wpE a ρ K X) fun x ρ1 => bi1W b x fun z => Q z ρ1
    | es => wpEs es ρ (fun xs ρ1 => bisW b xs fun z => Q z ρ1) X)
  | .isi a ts, ρ, Q, X => rdE (varOf a) ρ (fun K => wpE a ρ K X) fun x ρ1 => Q (.bool (isiD x ts)) ρ1
  | .met m o es, ρ, Q, X => (match varOf o with
    | some i => rdW ρ i fun x0 => tyD x0 = mtTy m ∧ wpEs es ρ (fun ys ρ1 => if changes m then ownL ρ1 i fun xs => metO m xs ys fun z xs' => Q z (ρ1.set i (some (.o (.list xs')))) else rdW ρ1 i fun x => metR m x ys fun z => Q z ρ1) X
    | none => wpE o ρ (fun x ρ1 => tyD x = mtTy m ∧ wpEs es ρ1 (fun ys ρ2 => metR m x ys fun z => Q z ρ2) X) X)
  | .lc m own tg it c elt, ρ, Q, X => m = false ∧ wpI it ρ (fun xs ρ1 => lcX (fun x K => match setTgW tg (.d x) (wipeW ρ1 own) with
      | some ρ2 => wpC c ρ2 (fun k ρ3 => (k = true → wpE elt ρ3 (fun y ρ4 => ρ4 = ρ2 ∧ K [y]) fun _ _ => False) ∧ (k = false → ρ3 = ρ2 ∧ K [])) fun _ _ => False
      | none => False) xs fun ys => Q (.list ys) ρ1) X
  | .lc2 .., _, _, _ => False
  | .binL .., _, _, _ => False
  | .inT neg x e, ρ, Q, X => wpE e ρ (fun v ρ1 => match v, G x with
    | .str z, some (.dict kvs) => Q (.bool ((lookD (.inr z) kvs).isSome != neg)) ρ1
    | _, _ => False) X
  | .subT x e, ρ, Q, X => wpE e ρ (fun v ρ1 => match v, G x with
    | .str z, some (.dict kvs) => ∃ d, lookD (.inr z) kvs = some d ∧ Q d ρ1
    | _, _ => False) X
def wpP : P → We → (Option Int → We → Prop) → (Wx → We → Prop) → Prop
  | .no, ρ, Q, _ => Q none ρ
  | .so e, ρ, Q, X => wpE e ρ (fun x ρ1 => match x with
    | .int k => Q (some k) ρ1
    | _ => False) X
def wpC : P → We → (Bool → We → Prop) → (Wx → We → Prop) → Prop
  | .no, ρ, Q, _ => Q true ρ
  | .so e, ρ, Q, X => wpE e ρ (fun x ρ1 => truthW x fun b => Q b ρ1) X
def wpEs : Es → We → (List PyData → We → Prop) → (Wx → We → Prop) → Prop
  | .nil, ρ, Q, _ => Q [] ρ
  | .cons e es, ρ, Q, X => wpE e ρ (fun x ρ1 => wpEs es ρ1 (fun xs ρ2 => Q (x :: xs) ρ2) X) X
  | .star e es, ρ, Q, X => wpE e ρ (fun x ρ1 => plainW x fun ys => wpEs es ρ1 (fun xs ρ2 => Q (ys ++ xs) ρ2) X) X
def wpAs : Es → We → (List Wv → We → Prop) → (Wx → We → Prop) → Prop
  | .nil, ρ, Q, _ => Q [] ρ
  | .cons e es, ρ, Q, X => (match varOf e with
    | some i => argW ρ i fun _ => wpAs es ρ (fun vs ρ1 => argW ρ1 i fun v => Q (v :: vs) ρ1) X
    | none => wpE e ρ (fun x ρ1 => wpAs es ρ1 (fun vs ρ2 => Q (.d x :: vs) ρ2) X) X)
  | .star e es, ρ, Q, X => wpE e ρ (fun x ρ1 => plainW x fun ys => wpAs es ρ1 (fun vs ρ2 => Q (ys.map .d ++ vs) ρ2) X) X
def wpI : I → We → (List PyData → We → Prop) → (Wx → We → Prop) → Prop
  | .of e, ρ, Q, X => wpE e ρ (fun x ρ1 => plainW x fun xs => Q xs ρ1) X
  | .rng es, ρ, Q, X => wpEs es ρ (fun xs ρ1 => rangeW xs fun ys => Q ys ρ1) X
  | .enum a, ρ, Q, X => wpE a ρ (fun x ρ1 => plainW x fun xs => Q (enumD 0 xs) ρ1) X
  | .zip a b, ρ, Q, X => wpE a ρ (fun x ρ1 => wpE b ρ1 (fun y ρ2 => zipW x y fun xs => Q xs ρ2) X) X
  | .rvd a, ρ, Q, X => wpE a ρ (fun x ρ1 => plainW x fun xs => Q xs.reverse ρ1) X
  | .rvr es, ρ, Q, X => wpEs es ρ (fun xs ρ1 => rangeW xs fun ys => Q ys.reverse ρ1) X
end
def binLW (op : Operator) (x y : PyData) (Q : List PyData → Prop) : Prop := match op, x, y with
  | .Add, .list a, .list b => a.length + b.length ≤ sizeLine ∧ Q (a ++ b)
  | .Mult, .list a, .int k => (k ≤ 1000000 ∧ -1000000 ≤ k ∧ a.length * k.toNat ≤ sizeLine) ∧ Q (List.replicate k.toNat a).flatten
  | _, _, _ => False
/-- a value that is stored: an own list or dict is made -/
def wpV (e : E) (ρ : We) (Q : Wv → We → Prop) (X : Wx → We → Prop) : Prop := match e with
  | .lst true es => wpEs cf G es ρ (fun xs ρ1 => xs.length ≤ sizeLine ∧ Q (.o (.list xs)) ρ1) X
  | .binL op a b => wpE cf G a ρ (fun x ρ1 => wpE cf G b ρ1 (fun y ρ2 => binLW op x y fun xs => Q (.o (.list xs)) ρ2) X) X
  | .dic true ks es => (ks.Nodup ∧ ks.length ≤ 1000) ∧ wpEs cf G es ρ (fun xs ρ1 => xs.length = ks.length ∧ Q (.o (.dict ((ks.map keyD).zip xs))) ρ1) (fun _ _ => False)
  | .bi (.list true) (.cons a .nil) => rdE (varOf a) ρ (fun K => wpE cf G a ρ K X) fun x ρ1 => plainW x fun xs => Q (.o (.list xs)) ρ1
  | .lc true own tg it c elt => wpI cf G it ρ (fun xs ρ1 => lcX (fun x K => match setTgW tg (.d x) (wipeW ρ1 own) with
      | some ρ2 => wpC cf G c ρ2 (fun k ρ3 => (k = true → wpE cf G elt ρ3 (fun y ρ4 => ρ4 = ρ2 ∧ K [y]) fun _ _ => False) ∧ (k = false → ρ3 = ρ2 ∧ K [])) fun _ _ => False
      | none => False) xs fun ys => Q (.o (.list ys)) ρ1) X
  | e => wpE cf G e ρ (fun x ρ1 => Q (.d x) ρ1) X
/-- where a statement may go on -/
structure Ko where
  rt : PyData → Prop
  bk : We → Prop
  ct : We → Prop
  xc : Wx → We → Prop
mutual
def wpS : St → We → (We → Prop) → Ko → Prop
  | .expr e, ρ, nx, K => wpE cf G e ρ (fun _ ρ1 => nx ρ1) K.xc
  | .asg t e, ρ, nx, K => wpV cf G e ρ (fun v ρ1 => match setTgW t v ρ1 with
    | some ρ2 => nx ρ2
    | none => False) K.xc
  | .par2 i j a b, ρ, nx, K => wpV cf G a ρ (fun x ρ1 => wpV cf G b ρ1 (fun y ρ2 => nx ((ρ2.set i (some x)).set j (some y))) K.xc) K.xc
  | .par3 i j k a b c, ρ, nx, K => wpV cf G a ρ (fun x ρ1 => wpV cf G b ρ1 (fun y ρ2 => wpV cf G c ρ2 (fun z ρ3 => nx (((ρ3.set i (some x)).set j (some y)).set k (some z))) K.xc) K.xc) K.xc
  | .put o i v, ρ, nx, K => (match varOf o with
    | some n => wpE cf G v ρ (fun x ρ1 => rdW ρ1 n fun _ => wpE cf G i ρ1 (fun k ρ2 => (match ρ2[n]? with
      | some (some (.o c)) => putW c k x fun c' => nx (ρ2.set n (some (.o c')))
      | _ => False)) K.xc) K.xc
    | none => False)
  | .aug i op e, ρ, nx, K => (match ρ[i]? with
    | some (some (.d x)) => wpE cf G e ρ (fun y ρ1 => augW op x y fun z => nx (ρ1.set i (some (.d z)))) K.xc
    | _ => False)
  | .ret e, ρ, _, K => wpE cf G e ρ (fun x _ => K.rt x) K.xc
  | .retN, _, _, K => K.rt .none
  | .ifs c t u, ρ, nx, K => rdE (varOf c) ρ (fun Q => wpE cf G c ρ Q K.xc) fun x ρ1 => truthW x fun b => (b = true → wpSs t ρ1 nx K) ∧ (b = false → wpSs u ρ1 nx K)
  | .for_ t it body, ρ, nx, K => wpI cf G it ρ (fun xs ρ1 => forX (fun x ρ2 k => match setTgW t (.d x) ρ2 with
    | some ρ3 => wpSs body ρ3 k ⟨K.rt, nx, k, K.xc⟩
    | none => False) nx xs ρ1) K.xc
  | .whl c body, ρ, nx, K => whlX (fun ρ1 Q => rdE (varOf c) ρ1 (fun Q1 => wpE cf G c ρ1 Q1 K.xc) fun x ρ2 => truthW x fun b => Q b ρ2) (fun ρ1 k => wpSs body ρ1 k ⟨K.rt, nx, k, K.xc⟩) nx W ρ
  | .pass, ρ, nx, _ => nx ρ
  | .brk, ρ, _, K => K.bk ρ
  | .cnt, ρ, _, K => K.ct ρ
def wpSs : Ss → We → (We → Prop) → Ko → Prop
  | .nil, ρ, nx, _ => nx ρ
  | .cons s ss, ρ, nx, K => wpS s ρ (fun ρ1 => wpSs ss ρ1 nx K) K
end
end
/-- functions that are told, not walked -/
abbrev Prims := Nat → Str → Option (List Wv → (PyData → Prop) → Prop)
def startW (fn : Fn) (vs : List Wv) : We := vs.map some ++ List.replicate (fn.names.length - vs.length) none
def wpF (T : Prog) (pr : Prims) : Nat → Cf
  | 0, _, _, _, _ => False
  | n + 1, f, vs, Q, X => (match pr n f with
    | some p => p vs Q
    | none => (match T.fns.lookup f with
      | some fn => vs.length = fn.pars ∧ wpSs (wpF T pr n) T.G T.W fn.body (startW fn vs) (fun _ => Q .none) ⟨Q, fun _ => False, fun _ => False, fun x _ => X x⟩
      | none => False))
/-! ### how often is drawn -/
section
variable (c : Nat) (W : Nat)
mutual
def coE : E → Nat
  | .con _ => 0
  | .var _ => 0
  | .frz _ => 0
  | .glob _ => 0
  | .bin _ a b => coE a + coE b
  | .neg a => coE a
  | .not a => coE a
  | .cmp _ a b => coE a + coE b
  | .cmp2 _ _ a b c => coE a + coE b + coE c
  | .and a b => coE a + coE b
  | .or a b => coE a + coE b
  | .ite c a b => coE c + (coE a + coE b)
  | .one a => coE a
  | .tup es => coEs es
  | .lst _ es => coEs es
  | .dic _ _ es => coEs es
  | .sub a i => coE a + coE i
  | .slc a lo hi => coE a + (coP lo + coP hi)
  | .rev a => coE a
  | .call _ es => coEs es + c
  | .bi _ es => coEs es
  | .isi a _ => coE a
  | .met _ o es => coE o + coEs es
  | .lc _ _ _ it cc elt => coI it + sizeLine * (coP cc + coE elt)
  | .lc2 .. => 0
  | .binL _ a b => coE a + coE b
  | .inT _ _ e => coE e
  | .subT _ e => coE e
def coP : P → Nat
  | .no => 0
  | .so e => coE e
def coEs : Es → Nat
  | .nil => 0
  | .cons e es => coE e + coEs es
  | .star e es => coE e + coEs es
def coI : I → Nat
  | .of e => coE e
  | .rng es => coEs es
  | .enum a => coE a
  | .zip a b => coE a + coE b
  | .rvd a => coE a
  | .rvr es => coEs es
end
mutual
def coS : St → Nat
  | .expr e => coE c e
  | .asg _ e => coE c e
  | .par2 _ _ a b => coE c a + coE c b
  | .par3 _ _ _ a b d => coE c a + (coE c b + coE c d)
  | .put _ i v => coE c v + coE c i
  | .aug _ _ e => coE c e
  | .ret e => coE c e
  | .retN => 0
  | .ifs e t u => coE c e + (coSs t + coSs u)
  | .for_ _ it body => coI c it + sizeLine * coSs body
  | .whl e body => (W + 1) * (coE c e + coSs body)
  | .pass => 0
  | .brk => 0
  | .cnt => 0
def coSs : Ss → Nat
  | .nil => 0
  | .cons s ss => coS s + coSs ss
end
end
/-- of a call so deep -/
def coF (T : Prog) : Nat → Nat
  | 0 => 0
  | n + 1 => (T.fns.map fun p => coSs (coF T n) T.W p.2.body).foldr max 1
end Tz

end
section
/-! Tz.Snd: what wp says is what the interpreter does. -/
namespace Tz
open PySem
/-- the box: so many places ahead of all others, its own place, what holds of them behind so many draws -/
structure BxS where
  hd : Nat
  pl : Nat
  ok : Nat → Store → Prop
  lt : pl < hd
  mono : ∀ {t t' : Nat} {A : Store}, t ≤ t' → ok t A → ok t' A
def kvD (l : List (L2.Key × PyData)) : List (PyData × PyData) := l.map fun p => (keyD p.1, p.2)
def kvV (l : List (L2.Key × PyData)) : List (L2.Key × Vl) := l.map fun p => (p.1, .d p.2)
def holds (S : Store) (n : Nat) : PyData → Prop
  | .list xs => S[n]? = some (some (.lst (xs.map .d)))
  | .dict kvs => ∃ l, kvs = kvD l ∧ S[n]? = some (some (.dic (kvV l)))
  | _ => False
theorem holds_at {S S' : Store} {n : Nat} {x : PyData} (h : holds S n x) (e : S'[n]? = S[n]?) : holds S' n x := by
  cases x with
  | list xs => exact e.trans h
  | dict kvs =>
    obtain ⟨l, h1, h2⟩ := h
    exact ⟨l, h1, e.trans h2⟩
  | _ => exact h
theorem holds_lt {S : Store} {n : Nat} {x : PyData} (h : holds S n x) : n < S.length := by
  cases x with
  | list xs => exact (List.getElem?_eq_some_iff.mp h).1
  | dict kvs =>
    obtain ⟨l, h1, h2⟩ := h
    exact (List.getElem?_eq_some_iff.mp h2).1
  | _ => exact h.elim
def Rd (S : Store) (u : Vl) (x : PyData) : Prop := u = .d x ∨ ∃ n, u = .r n ∧ holds S n x
/-! ### operations -/
section
variable {S : Store}
theorem bin_w {op : Operator} {x y : PyData} {Q : PyData → Prop} (h : binW op x y Q) : ∃ z, binV op (.d x) (.d y) S = .ok (.d z) S ∧ Q z := by
  cases op <;> simp only [binW] at h
  case Add =>
    unfold addW at h
    split at h
    · exact ⟨_, rfl, h⟩
    · exact ⟨_, if_pos h.1, h.2⟩
    · exact ⟨_, if_pos h.1, h.2⟩
    · exact ⟨_, if_pos h.1, h.2⟩
    · exact h.elim
  case Sub =>
    unfold subIW at h
    split at h
    · exact ⟨_, rfl, h⟩
    · exact h.elim
  case Mult =>
    unfold mulW at h
    split at h
    · exact ⟨_, if_pos h.1, h.2⟩
    · exact ⟨_, if_pos (by simp only [Bool.and_eq_true, decide_eq_true_eq]; exact ⟨⟨h.1.1, h.1.2.1⟩, h.1.2.2⟩), h.2⟩
    · exact ⟨_, if_pos (by simp only [Bool.and_eq_true, decide_eq_true_eq]; exact ⟨h.1.1, h.1.2.1, h.1.2.2⟩), h.2⟩
    · exact h.elim
  case Mod =>
    unfold modW at h
    split at h
    · exact ⟨_, if_pos h.1, h.2⟩
    · exact h.elim
  case Pow =>
    unfold powW at h
    split at h
    · exact ⟨_, if_pos h.1, h.2⟩
    · exact h.elim
  case FloorDiv =>
    unfold divW at h
    split at h
    · exact ⟨_, if_pos h.1, h.2⟩
    · exact h.elim
theorem aug_w {op : Operator} {x y : PyData} {Q : PyData → Prop} (h : augW op x y Q) : ∃ z, augV op (.d x) (.d y) S = .ok (.d z) S ∧ Q z := by
  unfold augW at h
  split at h
  · exact ⟨_, rfl, h⟩
  · exact ⟨_, rfl, h⟩
  · exact h.elim
theorem map_emp {α β : Type} (f : α → β) (l : List α) : (l.map f).isEmpty = l.isEmpty := by cases l <;> rfl
theorem truth_w {x : PyData} {u : Vl} {Q : Bool → Prop} (r : Rd S u x) (h : truthW x Q) : ∃ b, truth u S = some b ∧ Q b := by
  rcases r with rfl | ⟨n, rfl, hn⟩
  · unfold truthW at h
    split at h
    · exact ⟨_, rfl, h⟩
    · exact ⟨_, rfl, h⟩
    · exact ⟨_, rfl, h⟩
    · exact ⟨_, if_pos h.1, h.2⟩
    · exact ⟨_, rfl, h⟩
    · exact ⟨_, rfl, h⟩
    · exact ⟨_, rfl, h⟩
  · cases x with
    | list xs =>
      refine ⟨_, ?_, h⟩
      have hn : S[n]? = _ := hn
      simp only [truth, hn, map_emp]
    | dict kvs =>
      obtain ⟨l, rfl, hn⟩ := hn
      refine ⟨_, ?_, h⟩
      simp only [truth, hn, kvV, kvD, map_emp]
    | _ => exact hn.elim
theorem allD_d : ∀ l : List PyData, allD (l.map Vl.d) = some l
  | [] => rfl
  | i :: r => by
    show (allD (r.map Vl.d)).map (i :: ·) = _
    rw [allD_d r]
    rfl
theorem dat_w {x : PyData} {u : Vl} (r : Rd S u x) (h : ∀ kvs, x ≠ .dict kvs) : datOf u S = some x := by
  rcases r with rfl | ⟨n, rfl, hn⟩
  · rfl
  · cases x with
    | list xs =>
      have hn : S[n]? = _ := hn
      simp only [datOf, hn, allD_d, Option.map_some]
    | dict kvs => exact absurd rfl (h kvs)
    | _ => exact hn.elim
theorem eqD_gen {a b : PyData} (h1 : eqOk a = true) (h2 : eqOk b = true) (n1 : ∀ xs, a = .tuple xs → b ≠ .tuple []) (n2 : ∀ xs, a = .list xs → b ≠ .list []) (n3 : ∀ x y, a = .str x → b ≠ .str y) : eqD a b = some (PyData.eqv a b) := by
  unfold eqD
  split
  · exact absurd rfl (n1 _ rfl)
  · exact absurd rfl (n2 _ rfl)
  · exact absurd rfl (n3 _ _ rfl)
  · rw [h1, h2]
    rfl
theorem eq_w {a b : PyData} {Q : Bool → Prop} (h : eqW a b Q) : (∀ kvs, a ≠ .dict kvs) ∧ (∀ kvs, b ≠ .dict kvs) ∧ ∃ k, eqD a b = some k ∧ Q k := by
  unfold eqW at h
  split at h
  · rename_i i j
    refine ⟨fun _ z => (by cases z), fun _ z => (by cases z), _, ?_, h⟩
    show some (i == j) = _
    congr 1
  · exact ⟨fun _ z => (by cases z), fun _ z => (by cases z), _, rfl, h⟩
  · exact ⟨fun _ z => (by cases z), fun _ z => (by cases z), _, rfl, h⟩
  · exact ⟨fun _ z => (by cases z), fun _ z => (by cases z), _, rfl, h⟩
  · exact h.elim
  · exact h.elim
  · rename_i n1 n2 n3 n4 n5 n6
    refine ⟨fun kvs z => n1 kvs z, fun kvs z => n2 kvs z, _, eqD_gen h.1 h.2.1 (fun xs e z => n4 xs e z) (fun xs e z => n5 xs e z) (fun x y e z => n6 x y e z), h.2.2⟩
theorem lt_w {f : Int → Int → Bool} {x y : PyData} {u w : Vl} {Q : Bool → Prop} (r : Rd S u x) (r2 : Rd S w y) (h : ltW f x y Q) : ∃ i j, ltV u w = some (i, j) ∧ Q (f i j) := by
  unfold ltW at h
  split at h
  · rcases r with rfl | ⟨n, rfl, hn⟩
    · rcases r2 with rfl | ⟨n, rfl, hn⟩
      · exact ⟨_, _, rfl, h⟩
      · exact hn.elim
    · exact hn.elim
  · exact h.elim
theorem key_w {j : PyData} {Q : L2.Key → Prop} (h : keyW j Q) : ∃ k, keyOf j = some k ∧ Q k := by
  unfold keyW at h
  split at h
  · exact ⟨_, rfl, h⟩
  · exact ⟨_, rfl, h⟩
  · exact h.elim
theorem keyOf_Dw (k : L2.Key) : keyOf (keyD k) = some k := by cases k <;> rfl
theorem look_kv (k : L2.Key) : ∀ l : List (L2.Key × PyData), lookK k (kvV l) = (lookD k (kvD l)).map .d
  | [] => rfl
  | (j, v) :: r => by
    show (if j = k then some (Vl.d v) else lookK k (kvV r)) = (if keyOf (keyD j) = some k then some v else lookD k (kvD r)).map _
    rw [keyOf_Dw, look_kv k r]
    by_cases h : j = k
    · rw [if_pos h, if_pos (by rw [h])]
      rfl
    · rw [if_neg h, if_neg (fun z => h (Option.some.inj z))]
theorem in_w {x y : PyData} {w : Vl} {Q : Bool → Prop} (r2 : Rd S w y) (h : inW x y Q) : ∃ b, isIn (.d x) w S = some b ∧ Q b := by
  have seq : ∀ ys, seqInW x ys Q → ∃ b, inD x ys = some b ∧ Q b := fun ys h => by
    obtain ⟨h1, h2, h3⟩ := h
    exact ⟨_, by unfold inD; rw [h1, h2]; rfl, h3⟩
  rcases r2 with rfl | ⟨n, rfl, hn⟩
  · unfold inW at h
    split at h
    · obtain ⟨k, e, q⟩ := key_w h
      exact ⟨_, by simp only [isIn, e, Option.map_some], q⟩
    · split at h
      · exact ⟨_, rfl, h⟩
      · exact h.elim
    · obtain ⟨b, e, q⟩ := seq _ h
      exact ⟨b, e, q⟩
    · obtain ⟨b, e, q⟩ := seq _ h
      exact ⟨b, e, q⟩
    · exact h.elim
  · cases y with
    | list ys =>
      have hn : S[n]? = _ := hn
      obtain ⟨b, e, q⟩ := seq _ h
      exact ⟨b, by simp only [isIn, hn, allD_d, e], q⟩
    | dict kvs =>
      obtain ⟨l, rfl, hn⟩ := hn
      obtain ⟨k, e, q⟩ := key_w (Q := fun k => Q (lookD k (kvD l)).isSome) h
      refine ⟨_, ?_, q⟩
      simp only [isIn, hn, e, Option.map_some, look_kv, Option.isSome_map]
    | _ => exact hn.elim
theorem isNone_w {x : PyData} {u : Vl} (r : Rd S u x) : isNone u = isNoneD x := by
  rcases r with rfl | ⟨n, rfl, hn⟩
  · cases x <;> rfl
  · cases x <;> first | exact hn.elim | rfl
theorem cmp_w {op : CmpOp} {x y : PyData} {u w : Vl} {Q : Bool → Prop} (r : Rd S u x) (r2 : Rd S w y) (hi : op = .In ∨ op = .NotIn → u = .d x) (h : cmpW op x y Q) : ∃ b, cmpV op u w S = some b ∧ Q b := by
  cases op <;> simp only [cmpW] at h
  case Eq =>
    obtain ⟨h1, h2, k, e, q⟩ := eq_w h
    exact ⟨k, by simp only [cmpV, dat_w r h1, dat_w r2 h2, e], q⟩
  case NotEq =>
    obtain ⟨h1, h2, k, e, q⟩ := eq_w h
    exact ⟨_, by simp only [cmpV, dat_w r h1, dat_w r2 h2, e, Option.map_some], q⟩
  case Lt =>
    obtain ⟨i, j, e, q⟩ := lt_w r r2 h
    exact ⟨_, by simp only [cmpV, e, Option.map_some], q⟩
  case LtE =>
    obtain ⟨i, j, e, q⟩ := lt_w r r2 h
    exact ⟨_, by simp only [cmpV, e, Option.map_some], q⟩
  case Gt =>
    obtain ⟨i, j, e, q⟩ := lt_w r r2 h
    exact ⟨_, by simp only [cmpV, e, Option.map_some], q⟩
  case GtE =>
    obtain ⟨i, j, e, q⟩ := lt_w r r2 h
    exact ⟨_, by simp only [cmpV, e, Option.map_some], q⟩
  case Is =>
    unfold isW at h
    split at h
    · rcases r2 with rfl | ⟨n, rfl, hn⟩
      · exact ⟨_, by simp only [cmpV, isNone_w r], h⟩
      · exact hn.elim
    · exact h.elim
  case IsNot =>
    unfold isW at h
    split at h
    · rcases r2 with rfl | ⟨n, rfl, hn⟩
      · exact ⟨_, by simp only [cmpV, isNone_w r], h⟩
      · exact hn.elim
    · exact h.elim
  case In =>
    cases hi (.inl rfl)
    exact in_w r2 h
  case NotIn =>
    cases hi (.inr rfl)
    obtain ⟨b, e, q⟩ := in_w r2 h
    exact ⟨_, by simp only [cmpV, e, Option.map_some], q⟩
theorem atI_map {α β : Type} (f : α → β) (xs : List α) (k : Int) : L2.atI (xs.map f) k = (L2.atI xs k).map f := by
  unfold L2.atI
  rw [List.length_map]
  cases L2.ixN xs.length k with
  | none => rfl
  | some j => exact List.getElem?_map ..
theorem sub_w {x i : PyData} {u : Vl} {Q : PyData → Prop} (r : Rd S u x) (h : subW x i Q) : ∃ z, subV u (.d i) S = some (.d z) ∧ Q z := by
  rcases r with rfl | ⟨n, rfl, hn⟩
  · unfold subW at h
    split at h
    · split at h
      · obtain ⟨y, e, q⟩ := h
        exact ⟨y, by simp only [subV, e, Option.map_some], q⟩
      · exact h.elim
    · split at h
      · obtain ⟨y, e, q⟩ := h
        exact ⟨y, by simp only [subV, e, Option.map_some], q⟩
      · exact h.elim
    · split at h
      · obtain ⟨h0, c, e, q⟩ := h
        exact ⟨_, by simp only [subV, if_pos h0, e, Option.map_some], q⟩
      · exact h.elim
    · obtain ⟨k, e, y, e2, q⟩ := key_w h
      exact ⟨y, by simp only [subV, e, e2, Option.map_some], q⟩
    · exact h.elim
  · cases x with
    | list xs =>
      have hn : S[n]? = _ := hn
      unfold subW at h
      dsimp only at h
      split at h
      · obtain ⟨y, e, q⟩ := h
        exact ⟨y, by simp only [subV, hn, atI_map, e, Option.map_some], q⟩
      · exact h.elim
    | dict kvs =>
      obtain ⟨l, rfl, hn⟩ := hn
      obtain ⟨k, e, y, e2, q⟩ := key_w (Q := fun k => ∃ y, lookD k (kvD l) = some y ∧ Q y) h
      exact ⟨y, by simp only [subV, hn, e, look_kv, e2, Option.map_some], q⟩
    | _ => exact hn.elim
theorem cut_w {x : PyData} {u : Vl} {lo hi : Option Int} {Q : PyData → Prop} (r : Rd S u x) (h : cutW x lo hi Q) : ∃ z, slcV u lo hi S = .ok (.d z) S ∧ Q z := by
  rcases r with rfl | ⟨n, rfl, hn⟩
  · unfold cutW at h
    split at h
    · exact ⟨_, rfl, h⟩
    · exact ⟨_, rfl, h⟩
    · exact h.elim
  · cases x with
    | list xs =>
      have hn : S[n]? = _ := hn
      exact ⟨_, by simp only [slcV, hn, allD_d], h⟩
    | dict kvs => exact h.elim
    | _ => exact hn.elim
theorem rev_w {x : PyData} {u : Vl} {Q : PyData → Prop} (r : Rd S u x) (h : revW x Q) : ∃ z, revV u S = .ok (.d z) S ∧ Q z := by
  rcases r with rfl | ⟨n, rfl, hn⟩
  · unfold revW at h
    split at h
    · exact ⟨_, rfl, h⟩
    · exact ⟨_, rfl, h⟩
    · exact h.elim
  · cases x with
    | list xs =>
      have hn : S[n]? = _ := hn
      exact ⟨_, by simp only [revV, hn, allD_d], h⟩
    | dict kvs => exact h.elim
    | _ => exact hn.elim
theorem ty_w {x : PyData} {u : Vl} (r : Rd S u x) : tyOf u S = some (tyD x) := by
  rcases r with rfl | ⟨n, rfl, hn⟩
  · cases x <;> rfl
  · cases x with
    | list xs =>
      have hn : S[n]? = _ := hn
      simp only [tyOf, hn, tyD]
    | dict kvs =>
      obtain ⟨l, rfl, hn⟩ := hn
      simp only [tyOf, hn, tyD]
    | _ => exact hn.elim
theorem ints_w : ∀ {xs : List PyData} {ns : List Int}, intsD xs = some ns → intsOf (xs.map .d) = some ns
  | [], ns, h => h
  | .int i :: r, ns, h => by
    unfold intsD at h
    obtain ⟨q, e, rfl⟩ := Option.map_eq_some_iff.mp h
    show (intsOf (r.map .d)).map _ = _
    rw [ints_w e]
    rfl
  | .none :: r, ns, h => by cases h
  | .bool _ :: r, ns, h => by cases h
  | .str _ :: r, ns, h => by cases h
  | .list _ :: r, ns, h => by cases h
  | .tuple _ :: r, ns, h => by cases h
  | .dict _ :: r, ns, h => by cases h
theorem bools_w : ∀ {xs : List PyData} {ns : List Bool}, boolsD xs = some ns → boolsOf (xs.map .d) = some ns
  | [], ns, h => h
  | .bool i :: r, ns, h => by
    unfold boolsD at h
    obtain ⟨q, e, rfl⟩ := Option.map_eq_some_iff.mp h
    show (boolsOf (r.map .d)).map _ = _
    rw [bools_w e]
    rfl
  | .none :: r, ns, h => by cases h
  | .int _ :: r, ns, h => by cases h
  | .str _ :: r, ns, h => by cases h
  | .list _ :: r, ns, h => by cases h
  | .tuple _ :: r, ns, h => by cases h
  | .dict _ :: r, ns, h => by cases h
theorem seqL_w {xs : List PyData} {u : Vl} (r : Rd S u (.list xs)) : seqL u S = some (xs.map .d) := by
  rcases r with rfl | ⟨n, rfl, hn⟩
  · rfl
  · have hn : S[n]? = _ := hn
    simp only [seqL, hn]
theorem intsW_w {x : PyData} {u : Vl} {Q : List Int → Prop} (r : Rd S u x) (h : intsW x Q) : ∃ ys ns, seqL u S = some ys ∧ intsOf ys = some ns ∧ Q ns := by
  unfold intsW at h
  split at h
  · obtain ⟨ns, e, q⟩ := h
    exact ⟨_, ns, seqL_w r, ints_w e, q⟩
  · exact h.elim
theorem boolsW_w {x : PyData} {u : Vl} {Q : List Bool → Prop} (r : Rd S u x) (h : boolsW x Q) : ∃ ys ns, seqL u S = some ys ∧ boolsOf ys = some ns ∧ Q ns := by
  unfold boolsW at h
  split at h
  · obtain ⟨ns, e, q⟩ := h
    exact ⟨_, ns, seqL_w r, bools_w e, q⟩
  · exact h.elim
theorem newT_w {l : List PyData} (h : l.length ≤ sizeLine) : newT (l.map Vl.d) S = .ok (.d (.tuple l)) S := by
  unfold newT
  rw [if_pos (by simpa using h), allD_d]
theorem newL_w {l : List PyData} (h : l.length ≤ sizeLine) : newL false (l.map Vl.d) S = .ok (.d (.list l)) S := by
  unfold newL
  rw [if_pos (by simpa using h), if_neg (by decide), allD_d]
theorem newLt_w {l : List PyData} (h : l.length ≤ sizeLine) : newL true (l.map Vl.d) S = .ok (.r S.length) (S ++ [some (.lst (l.map .d))]) := by
  unfold newL
  rw [if_pos (by simpa using h), if_pos rfl]
theorem bi1_w {b : Bi} {x : PyData} {u : Vl} {Q : PyData → Prop} (r : Rd S u x) (hr : b = .repr → u = .d x) (h : bi1W b x Q) : ∃ z, biV b [u] S = .ok (.d z) S ∧ Q z := by
  cases b <;> simp only [bi1W] at h
  case len =>
    unfold lenW at h
    split at h
    · rcases r with rfl | ⟨n, rfl, hn⟩
      · exact ⟨_, if_pos h.1, h.2⟩
      · exact hn.elim
    · rcases r with rfl | ⟨n, rfl, hn⟩
      · exact ⟨_, rfl, h⟩
      · have hn : S[n]? = _ := hn
        exact ⟨_, by simp only [biV, hn, List.length_map], h⟩
    · rcases r with rfl | ⟨n, rfl, hn⟩
      · exact ⟨_, rfl, h⟩
      · exact hn.elim
    · exact h.elim
  case abs =>
    split at h
    · rcases r with rfl | ⟨n, rfl, hn⟩
      · exact ⟨_, rfl, h⟩
      · exact hn.elim
    · exact h.elim
  case int =>
    split at h
    · rcases r with rfl | ⟨n, rfl, hn⟩
      · exact ⟨_, rfl, h⟩
      · exact hn.elim
    · rcases r with rfl | ⟨n, rfl, hn⟩
      · exact ⟨_, rfl, h⟩
      · exact hn.elim
    · exact h.elim
  case str =>
    split at h
    · rcases r with rfl | ⟨n, rfl, hn⟩
      · exact ⟨_, if_pos h.1, h.2⟩
      · exact hn.elim
    · rcases r with rfl | ⟨n, rfl, hn⟩
      · exact ⟨_, rfl, h⟩
      · exact hn.elim
    · exact h.elim
  case repr =>
    cases hr rfl
    exact ⟨_, if_pos h.1, h.2⟩
  case tuple =>
    split at h
    · rcases r with rfl | ⟨n, rfl, hn⟩
      · exact ⟨_, rfl, h⟩
      · exact hn.elim
    · rcases r with rfl | ⟨n, rfl, hn⟩
      · exact ⟨_, rfl, h.2⟩
      · have hn : S[n]? = _ := hn
        exact ⟨_, by simp only [biV, seqL, hn, newT_w h.1], h.2⟩
    · exact h.elim
  case list m =>
    obtain ⟨rfl, h⟩ := h
    split at h
    · rcases r with rfl | ⟨n, rfl, hn⟩
      · exact ⟨_, newL_w h.1, h.2⟩
      · exact hn.elim
    · rcases r with rfl | ⟨n, rfl, hn⟩
      · exact ⟨_, newL_w h.1, h.2⟩
      · have hn : S[n]? = _ := hn
        exact ⟨_, by simp only [biV, seqL, hn, newL_w h.1], h.2⟩
    · exact h.elim
  case sum =>
    obtain ⟨ys, ns, e1, e2, q⟩ := intsW_w r h
    exact ⟨_, by simp only [biV, e1, e2], q⟩
  case min =>
    obtain ⟨ys, ns, e1, e2, n, rr, rfl, q⟩ := intsW_w r h
    exact ⟨_, by simp only [biV, e1, e2], q⟩
  case max =>
    obtain ⟨ys, ns, e1, e2, n, rr, rfl, q⟩ := intsW_w r h
    exact ⟨_, by simp only [biV, e1, e2], q⟩
  case all =>
    obtain ⟨ys, ns, e1, e2, q⟩ := boolsW_w r h
    exact ⟨_, by simp only [biV, e1, e2], q⟩
  case any =>
    obtain ⟨ys, ns, e1, e2, q⟩ := boolsW_w r h
    exact ⟨_, by simp only [biV, e1, e2], q⟩
  case sorted =>
    obtain ⟨ys, ns, e1, e2, q⟩ := intsW_w r h
    exact ⟨_, by simp only [biV, e1, e2], q⟩
  case bool =>
    split at h
    · rcases r with rfl | ⟨n, rfl, hn⟩
      · exact ⟨_, rfl, h⟩
      · exact hn.elim
    · rcases r with rfl | ⟨n, rfl, hn⟩
      · exact ⟨_, rfl, h⟩
      · exact hn.elim
    · exact h.elim
theorem bis_w {b : Bi} {xs : List PyData} {Q : PyData → Prop} (h : bisW b xs Q) : ∃ z, biV b (xs.map .d) S = .ok (.d z) S ∧ Q z := by
  unfold bisW at h
  split at h
  · unfold bi2W at h
    split at h
    · exact ⟨_, rfl, h⟩
    · exact ⟨_, rfl, h⟩
    · exact h.elim
  · exact h.elim
theorem plain_w {x : PyData} {Q : List PyData → Prop} (h : plainW x Q) : ∃ xs, plainSeq (.d x) = some xs ∧ ((seqT (.d x)).or (seqL (.d x) S) = some (xs.map .d)) ∧ xs.length ≤ sizeLine ∧ Q xs := by
  unfold plainW at h
  split at h
  · exact ⟨_, rfl, rfl, h⟩
  · exact ⟨_, rfl, rfl, h⟩
  · exact h.elim
theorem range_w {xs : List PyData} {Q : List PyData → Prop} (h : rangeW xs Q) : ∃ ys, rangeV (xs.map .d) = some (ys.map .d) ∧ ys.length ≤ sizeLine ∧ Q ys := by
  unfold rangeW at h
  split at h
  · refine ⟨_, ?_, ?_, h.2.2⟩
    · show (if _ then some _ else none) = _
      have z : ((sizeLine : Nat) : Int) < 2 ^ 62 := by unfold sizeLine; decide
      rw [if_pos (by simp only [Bool.and_eq_true, decide_eq_true_eq]; omega), List.map_map]
      rfl
    · rw [List.length_map, List.length_range]
      omega
  · refine ⟨_, ?_, ?_, h.2⟩
    · show (if _ then some _ else none) = _
      rw [if_pos (by simp only [Bool.and_eq_true, decide_eq_true_eq]; omega), List.map_map]
      rfl
    · rw [List.length_map, List.length_range]
      omega
  · exact h.elim
theorem enum_w : ∀ (k : Nat) (xs : List PyData), enumF k xs = (enumD k xs).map .d
  | _, [] => rfl
  | k, x :: r => by
    show Vl.d _ :: enumF (k + 1) r = _
    rw [enum_w (k + 1) r]
    rfl
theorem enum_len : ∀ (k : Nat) (xs : List PyData), (enumD k xs).length = xs.length
  | _, [] => rfl
  | k, x :: r => by
    show (enumD (k + 1) r).length + 1 = _
    rw [enum_len (k + 1) r]
    rfl
theorem zip_w : ∀ (xs ys : List PyData), zipF xs ys = (zipD xs ys).map .d
  | x :: r, y :: q => by
    show Vl.d _ :: zipF r q = _
    rw [zip_w r q]
    rfl
  | [], _ => rfl
  | _ :: _, [] => rfl
theorem zip_len : ∀ (xs ys : List PyData), (zipD xs ys).length ≤ xs.length
  | x :: r, y :: q => by
    show (zipD r q).length + 1 ≤ r.length + 1
    have := zip_len r q
    omega
  | [], _ => Nat.le_refl 0
  | _ :: _, [] => Nat.zero_le _
theorem met_r {m : Mt} {x : PyData} {u : Vl} {ys : List PyData} {Q : PyData → Prop} (r : Rd S u x) (h : metR m x ys Q) : ∃ z, metV m u (ys.map .d) S = .ok (.d z) S ∧ Q z := by
  have gd : ∀ (l : List PyData), getDef (l.map .d) = getDefW l := fun l => by
    match l with
    | [] => rfl
    | [_] => rfl
    | _ :: _ :: _ => rfl
  unfold metR at h
  split at h
  · obtain ⟨k, e, z, e2, q⟩ := key_w h
    rcases r with rfl | ⟨n, rfl, hn⟩
    · exact ⟨_, by simp only [List.map_cons, metV, e, gd, e2], q⟩
    · obtain ⟨l, rfl, hn⟩ := hn
      refine ⟨(lookD k (kvD l)).getD z, ?_, q⟩
      simp only [List.map_cons, metV, e, gd, e2, hn, look_kv]
      cases lookD k (kvD l) <;> rfl
  · obtain ⟨⟨h1, h2, h3, h4⟩, i, e, q⟩ := h
    exact ⟨_, by simp only [List.map_cons, List.map_nil, metV, dat_w r (fun _ z => by cases z), h1, h2, h3, h4, Bool.and_self, if_true, e], q⟩
  · rcases r with rfl | ⟨n, rfl, hn⟩
    · exact ⟨_, if_pos h.1, h.2⟩
    · exact hn.elim
  · exact h.elim
theorem met_o {m : Mt} {xs ys : List PyData} {n : Nat} {Q : PyData → List PyData → Prop} (hn : S[n]? = some (some (.lst (xs.map .d)))) (h : metO m xs ys Q) : ∃ z xs', metV m (.r n) (ys.map .d) S = .ok (.d z) (S.set n (some (.lst (xs'.map .d)))) ∧ Q z xs' := by
  unfold metO at h
  split at h
  · rename_i y
    refine ⟨_, _, ?_, h.2⟩
    simp only [List.map_cons, List.map_nil, metV, hn, List.length_map, h.1, decide_true, refsBelow, Bool.and_self, if_true, setO, List.map_append]
  · obtain ⟨y, e, q⟩ := h
    refine ⟨_, _, ?_, q⟩
    simp only [List.map_nil, metV, hn, List.length_map, List.getElem?_map, e, Option.map_some, setO, List.map_dropLast]
  · refine ⟨_, _, ?_, h.2⟩
    simp only [List.map_cons, List.map_nil, metV, hn, List.length_map, h.1, if_true, setO, List.map_append]
  · exact h.elim
end
end Tz

end
section
/-! Tz.Snd2: frames and stores. -/
namespace Tz
open PySem
section
variable (B : BxS) (n0 : Nat)
def RV (S : Store) : Wv → Vl → Prop
  | .d x, u => u = .d x
  | .o x, u => ∃ n, u = .r n ∧ n0 ≤ n ∧ holds S n x
  | .b x, u => ∃ n, u = .r n ∧ B.hd ≤ n ∧ n < n0 ∧ holds S n x
  | .box, u => u = .r B.pl
def Owns (ρw : We) (ρ : Env) (n : Nat) : Prop := ∃ (i : Nat) (x : PyData), ρw[i]? = some (some (Wv.o x)) ∧ ρ[i]? = some (some (Vl.r n))
structure Fr (t : Nat) (ρw : We) (ρ : Env) (S : Store) : Prop where
  len : ρw.length = ρ.length
  val : ∀ (i : Nat) (v : Wv), ρw[i]? = some (some v) → ∃ u, ρ[i]? = some (some u) ∧ RV B n0 S v u
  sep : ∀ (i j : Nat) (x y : PyData) (n : Nat), i ≠ j → ρw[i]? = some (some (.o x)) → ρ[i]? = some (some (.r n)) → ρw[j]? = some (some (.o y)) → ρ[j]? ≠ some (some (.r n))
  lo : B.hd ≤ n0
  hi : n0 ≤ S.length
  box : B.ok t (S.take B.hd)
structure Go (ρw : We) (ρ : Env) (S : Store) (ρw' : We) (ρ' : Env) (S' : Store) : Prop where
  len : S.length ≤ S'.length
  fr : ∀ n : Nat, B.hd ≤ n → n < S.length → ¬ Owns ρw ρ n → S'[n]? = S[n]? ∧ ¬ Owns ρw' ρ' n
/-- places behind the box stay -/
structure Same2 (S S' : Store) : Prop where
  len : S'.length = S.length
  at_ : ∀ n : Nat, B.hd ≤ n → S'[n]? = S[n]?
end
def ExR (e : Ex) (x : Wx) : Prop := e = ⟨x.cls, x.fs.map fun p => (p.1, .d p.2)⟩
def Out (B : BxS) (n0 t : Nat) {α β : Type} (ρw : We) (ρ : Env) (S : Store) (rel : Store → α → β → Prop) (Q : β → We → Prop) (X : Wx → We → Prop) (m : R α) : Prop :=
  (∃ a b S' ρw', m = .ok a S' ∧ rel S' a b ∧ Fr B n0 t ρw' ρ S' ∧ Go B ρw ρ S ρw' ρ S' ∧ Q b ρw') ∨
  (∃ e x S' ρw', m = .ex e S' ∧ ExR e x ∧ Fr B n0 t ρw' ρ S' ∧ Go B ρw ρ S ρw' ρ S' ∧ X x ρw')
def relD (_ : Store) (v : Vl) (x : PyData) : Prop := v = .d x
def relDs (_ : Store) (vs : List Vl) (xs : List PyData) : Prop := vs = xs.map .d
def relE {α : Type} (_ : Store) (a b : α) : Prop := a = b
section
variable {B : BxS} {n0 t t' : Nat} {ρw ρw1 ρw2 : We} {ρ ρ1 ρ2 : Env} {S S1 S2 : Store}
theorem Go.refl : Go B ρw ρ S ρw ρ S := ⟨Nat.le_refl _, fun n _ _ h => ⟨rfl, h⟩⟩
theorem Go.trans (a : Go B ρw ρ S ρw1 ρ1 S1) (b : Go B ρw1 ρ1 S1 ρw2 ρ2 S2) : Go B ρw ρ S ρw2 ρ2 S2 := ⟨Nat.le_trans a.len b.len, fun n h1 h2 h3 => by
  obtain ⟨e1, o1⟩ := a.fr n h1 h2 h3
  obtain ⟨e2, o2⟩ := b.fr n h1 (Nat.lt_of_lt_of_le h2 a.len) o1
  exact ⟨e2.trans e1, o2⟩⟩
theorem Fr.mono (h : Fr B n0 t ρw ρ S) (q : t ≤ t') : Fr B n0 t' ρw ρ S := ⟨h.len, h.val, h.sep, h.lo, h.hi, B.mono q h.box⟩
theorem Fr.own_lo (h : Fr B n0 t ρw ρ S) {n : Nat} (o : Owns ρw ρ n) : n0 ≤ n := by
  obtain ⟨i, x, h1, h2⟩ := o
  obtain ⟨u, e, r⟩ := h.val i _ h1
  rw [h2] at e
  cases e
  obtain ⟨m, e, l, _⟩ := r
  cases e
  exact l
theorem Fr.own_lt (h : Fr B n0 t ρw ρ S) {n : Nat} (o : Owns ρw ρ n) : n < S.length := by
  obtain ⟨i, x, h1, h2⟩ := o
  obtain ⟨u, e, r⟩ := h.val i _ h1
  rw [h2] at e
  cases e
  obtain ⟨m, e, l, q⟩ := r
  cases e
  exact holds_lt q
theorem RV.at {v : Wv} {u : Vl} (r : RV B n0 S v u) (lo : B.hd ≤ n0) (h : ∀ n : Nat, u = .r n → B.hd ≤ n → S1[n]? = S[n]?) : RV B n0 S1 v u := by
  cases v with
  | d x => exact r
  | o x =>
    obtain ⟨n, e, l, q⟩ := r
    exact ⟨n, e, l, holds_at q (h n e (Nat.le_trans lo l))⟩
  | b x =>
    obtain ⟨n, e, l, l2, q⟩ := r
    exact ⟨n, e, l, l2, holds_at q (h n e l)⟩
  | box => exact r
theorem Fr.same (h : Fr B n0 t ρw ρ S) (s : Same2 B S S1) (b : B.ok t' (S1.take B.hd)) : Fr B n0 t' ρw ρ S1 ∧ Go B ρw ρ S ρw ρ S1 := by
  refine ⟨⟨h.len, fun i v e => ?_, h.sep, h.lo, by rw [s.len]; exact h.hi, b⟩, by rw [s.len]; exact Nat.le_refl _, fun n h1 h2 h3 => ⟨s.at_ n h1, h3⟩⟩
  obtain ⟨u, e1, r⟩ := h.val i v e
  exact ⟨u, e1, r.at h.lo fun n _ l => s.at_ n l⟩
theorem take_set {α : Type} {l : List α} {n k : Nat} {a : α} (h : k ≤ n) : (l.set n a).take k = l.take k := by
  apply List.ext_getElem?
  intro i
  rw [List.getElem?_take, List.getElem?_take]
  split
  · rw [List.getElem?_set_ne (by omega)]
  · rfl
/-- an own object gets another content, or is given away -/
theorem Fr.put (h : Fr B n0 t ρw ρ S) {i n : Nat} {x : PyData} {c : Option Ob} {v : Option Wv} (h1 : ρw[i]? = some (some (.o x))) (h2 : ρ[i]? = some (some (.r n))) (hv : v = none ∨ ∃ y, v = some (.o y) ∧ holds (S.set n c) n y) :
    Fr B n0 t (ρw.set i v) ρ (S.set n c) ∧ Go B ρw ρ S (ρw.set i v) ρ (S.set n c) := by
  have hn0 : n0 ≤ n := h.own_lo ⟨i, x, h1, h2⟩
  have own : ∀ j y, (ρw.set i v)[j]? = some (some (.o y)) → j = i ∨ (ρw[j]? = some (some (.o y)) ∧ j ≠ i) := fun j y e => by
    by_cases hj : i = j
    · exact .inl hj.symm
    · rw [List.getElem?_set_ne hj] at e
      exact .inr ⟨e, fun z => hj z.symm⟩
  refine ⟨⟨by simp [h.len], fun j w e => ?_, fun j k y z m hjk e1 e2 e3 => ?_, h.lo, by simpa using h.hi, ?_⟩, by simp, fun m m1 m2 m3 => ⟨?_, ?_⟩⟩
  · by_cases hj : i = j
    · subst hj
      have hl : i < ρw.length := (List.getElem?_eq_some_iff.mp h1).1
      rw [List.getElem?_set_self hl] at e
      rcases hv with rfl | ⟨y, rfl, hy⟩
      · cases e
      · cases e
        exact ⟨_, h2, n, rfl, hn0, hy⟩
    · rw [List.getElem?_set_ne hj] at e
      obtain ⟨u, e1, r⟩ := h.val j w e
      refine ⟨u, e1, ?_⟩
      cases w with
      | d y => exact r
      | o y =>
        obtain ⟨m, rfl, l, q⟩ := r
        refine ⟨m, rfl, l, holds_at q (List.getElem?_set_ne fun z => ?_)⟩
        subst z
        exact h.sep i j x y n hj h1 h2 e e1
      | b y =>
        obtain ⟨m, rfl, l, l2, q⟩ := r
        exact ⟨m, rfl, l, l2, holds_at q (List.getElem?_set_ne (by omega))⟩
      | box => exact r
  · intro e4
    rcases own j y e1 with rfl | ⟨q1, q2⟩
    · rw [h2] at e2
      cases e2
      rcases own k z e3 with rfl | ⟨q3, q4⟩
      · exact hjk rfl
      · exact h.sep j k x z n hjk h1 h2 q3 e4
    · rcases own k z e3 with rfl | ⟨q3, q4⟩
      · rw [h2] at e4
        cases e4
        exact h.sep k j x y n (Ne.symm hjk) h1 h2 q1 e2
      · exact h.sep j k y z m hjk q1 e2 q3 e4
  · rw [take_set (Nat.le_trans h.lo hn0)]
    exact h.box
  · refine List.getElem?_set_ne fun z => m3 ?_
    subst z
    exact ⟨i, x, h1, h2⟩
  · rintro ⟨j, y, e1, e2⟩
    rcases own j y e1 with rfl | ⟨q1, _⟩
    · exact m3 ⟨j, x, h1, e2⟩
    · exact m3 ⟨j, y, q1, e2⟩
/-- a new object -/
theorem Fr.new (h : Fr B n0 t ρw ρ S) {o : Option Ob} : Fr B n0 t ρw ρ (S ++ [o]) ∧ Go B ρw ρ S ρw ρ (S ++ [o]) := by
  have hd : B.hd ≤ S.length := Nat.le_trans h.lo h.hi
  refine ⟨⟨h.len, fun i v e => ?_, h.sep, h.lo, by simp; exact Nat.le_succ_of_le h.hi, ?_⟩, by simp, fun n h1 h2 h3 => ⟨List.getElem?_append_left h2, h3⟩⟩
  · obtain ⟨u, e1, r⟩ := h.val i v e
    refine ⟨u, e1, ?_⟩
    cases v with
    | d y => exact r
    | o y =>
      obtain ⟨m, rfl, l, q⟩ := r
      exact ⟨m, rfl, l, holds_at q (List.getElem?_append_left (holds_lt q))⟩
    | b y =>
      obtain ⟨m, rfl, l, l2, q⟩ := r
      exact ⟨m, rfl, l, l2, holds_at q (List.getElem?_append_left (holds_lt q))⟩
    | box => exact r
  · rw [List.take_append_of_le_length hd]
    exact h.box
/-- a slot is set -/
theorem Fr.set (h : Fr B n0 t ρw ρ S) {i : Nat} {v : Wv} {u : Vl} (r : RV B n0 S v u) (p : ∀ x n, v = .o x → u = .r n → ¬ Owns ρw ρ n) : Fr B n0 t (ρw.set i (some v)) (ρ.set i (some u)) S := by
  have old : ∀ j w, (ρw.set i (some v))[j]? = some (some w) → (j = i ∧ w = v ∧ (ρ.set i (some u))[j]? = some (some u)) ∨ (j ≠ i ∧ ρw[j]? = some (some w) ∧ (ρ.set i (some u))[j]? = ρ[j]?) := fun j w e => by
    by_cases hj : i = j
    · subst hj
      have hl : i < ρw.length := by simpa using (List.getElem?_eq_some_iff.mp e).1
      rw [List.getElem?_set_self hl] at e
      cases e
      exact .inl ⟨rfl, rfl, List.getElem?_set_self (by rw [← h.len]; exact hl)⟩
    · rw [List.getElem?_set_ne hj] at e
      exact .inr ⟨fun z => hj z.symm, e, List.getElem?_set_ne hj⟩
  refine ⟨by simp [h.len], fun j w e => ?_, fun j k y z m hjk e1 e2 e3 e4 => ?_, h.lo, h.hi, h.box⟩
  · rcases old j w e with ⟨rfl, rfl, e1⟩ | ⟨_, e1, e2⟩
    · exact ⟨u, e1, r⟩
    · obtain ⟨u', e3, r'⟩ := h.val j w e1
      exact ⟨u', e2.trans e3, r'⟩
  · rcases old j _ e1 with ⟨rfl, rfl, q1⟩ | ⟨_, q1, q2⟩
    · rw [q1] at e2
      cases e2
      rcases old k _ e3 with ⟨rfl, _, _⟩ | ⟨_, z1, z2⟩
      · exact hjk rfl
      · rw [z2] at e4
        exact p y m rfl rfl ⟨k, z, z1, e4⟩
    · rw [q2] at e2
      rcases old k _ e3 with ⟨rfl, rfl, z1⟩ | ⟨_, z1, z2⟩
      · rw [z1] at e4
        cases e4
        exact p z m rfl rfl ⟨j, y, q1, e2⟩
      · rw [z2] at e4
        exact h.sep j k y z m hjk q1 e2 z1 e4
theorem owns_set {i n : Nat} {v : Wv} {u : Vl} (hl : ρw.length = ρ.length) (o : Owns (ρw.set i (some v)) (ρ.set i (some u)) n) : Owns ρw ρ n ∨ ∃ x, v = .o x ∧ u = .r n := by
  obtain ⟨j, x, e1, e2⟩ := o
  by_cases hj : i = j
  · subst hj
    have h1 : i < ρw.length := by simpa using (List.getElem?_eq_some_iff.mp e1).1
    rw [List.getElem?_set_self h1] at e1
    rw [List.getElem?_set_self (by rw [← hl]; exact h1)] at e2
    cases e1
    cases e2
    exact .inr ⟨x, rfl, rfl⟩
  · rw [List.getElem?_set_ne hj] at e1 e2
    exact .inl ⟨j, x, e1, e2⟩
/-- a slot is set to something that is none of the old places -/
theorem Go.set (g : Go B ρw ρ S ρw1 ρ1 S1) (hl : ρw1.length = ρ1.length) {i : Nat} {v : Wv} {u : Vl} (p : ∀ x n, v = .o x → u = .r n → S.length ≤ n) : Go B ρw ρ S (ρw1.set i (some v)) (ρ1.set i (some u)) S1 := ⟨g.len, fun n h1 h2 h3 => by
  obtain ⟨e, o⟩ := g.fr n h1 h2 h3
  refine ⟨e, fun z => ?_⟩
  rcases owns_set hl z with z | ⟨x, z1, z2⟩
  · exact o z
  · have := p x n z1 z2
    omega⟩
/-! ### targets of data -/
/-- own slots are the same ones -/
def Sub (ρw2 : We) (ρ2 : Env) (ρw1 : We) (ρ1 : Env) : Prop := ∀ (j : Nat) (x : PyData), ρw2[j]? = some (some (.o x)) → ρw1[j]? = some (some (.o x)) ∧ ρ2[j]? = ρ1[j]?
theorem Sub.refl : Sub ρw ρ ρw ρ := fun _ _ h => ⟨h, rfl⟩
theorem Sub.trans {ρw3 : We} {ρ3 : Env} (a : Sub ρw2 ρ2 ρw1 ρ1) (b : Sub ρw1 ρ1 ρw3 ρ3) : Sub ρw2 ρ2 ρw3 ρ3 := fun j x h => by
  obtain ⟨h1, h2⟩ := a j x h
  obtain ⟨h3, h4⟩ := b j x h1
  exact ⟨h3, h2.trans h4⟩
theorem Sub.set (hl : ρw.length = ρ.length) {i : Nat} {x : PyData} : Sub (ρw.set i (some (.d x))) (ρ.set i (some (.d x))) ρw ρ := fun j y h => by
  by_cases hj : i = j
  · subst hj
    have h1 : i < ρw.length := by simpa using (List.getElem?_eq_some_iff.mp h).1
    rw [List.getElem?_set_self h1] at h
    cases h
  · rw [List.getElem?_set_ne hj] at h
    exact ⟨h, List.getElem?_set_ne hj⟩
theorem Sub.owns (s : Sub ρw2 ρ2 ρw1 ρ1) {n : Nat} (o : Owns ρw2 ρ2 n) : Owns ρw1 ρ1 n := by
  obtain ⟨j, x, h1, h2⟩ := o
  obtain ⟨h3, h4⟩ := s j x h1
  exact ⟨j, x, h3, h4 ▸ h2⟩
theorem Sub.go (s : Sub ρw2 ρ2 ρw1 ρ1) : Go B ρw1 ρ1 S ρw2 ρ2 S := ⟨Nat.le_refl _, fun n _ _ h => ⟨rfl, fun o => h (s.owns o)⟩⟩
mutual
theorem setTg_d : ∀ {tg : Tg} {x : PyData} {ρw ρw' : We} {ρ : Env}, setTgW tg (.d x) ρw = some ρw' → Fr B n0 t ρw ρ S → ∃ ρ', setTg tg (.d x) ρ = some ρ' ∧ Fr B n0 t ρw' ρ' S ∧ Sub ρw' ρ' ρw ρ
  | .nm i, x, ρw, ρw', ρ, e, h => by
    unfold setTgW at e
    cases e
    exact ⟨_, rfl, h.set rfl (fun _ _ z => by cases z), Sub.set h.len⟩
  | .tp ts, x, ρw, ρw', ρ, e, h => by
    unfold setTgW at e
    split at e
    · rename_i xs ex
      cases ex
      exact setTgs_d (ts := ts) e h
    · rename_i xs ex
      cases ex
      exact setTgs_d (ts := ts) e h
    · cases e
theorem setTgs_d : ∀ {ts : Tgs} {xs : List PyData} {ρw ρw' : We} {ρ : Env}, setTgsW ts xs ρw = some ρw' → Fr B n0 t ρw ρ S → ∃ ρ', setTgs ts (xs.map .d) ρ = some ρ' ∧ Fr B n0 t ρw' ρ' S ∧ Sub ρw' ρ' ρw ρ
  | .nil, xs, ρw, ρw', ρ, e, h => by
    unfold setTgsW at e
    split at e
    · cases e
      exact ⟨ρ, rfl, h, Sub.refl⟩
    · cases e
  | .cons tg ts, xs, ρw, ρw', ρ, e, h => by
    unfold setTgsW at e
    split at e
    · rename_i v r
      split at e
      · rename_i ρ1 e1
        obtain ⟨ρ2, z1, z2, z3⟩ := setTg_d (tg := tg) e1 h
        obtain ⟨ρ3, y1, y2, y3⟩ := setTgs_d (ts := ts) e z2
        refine ⟨ρ3, ?_, y2, y3.trans z3⟩
        unfold setTgs
        simp only [List.map_cons, z1, y1]
      · cases e
    · cases e
end
theorem wipe_fr (h : Fr B n0 t ρw ρ S) : ∀ vs : List Nat, Fr B n0 t (wipeW ρw vs) (wipeE ρ vs) S ∧ Sub (wipeW ρw vs) (wipeE ρ vs) ρw ρ
  | [] => ⟨h, Sub.refl⟩
  | i :: vs => by
    obtain ⟨f, s⟩ := wipe_fr h vs
    have key : ∀ j w, ((wipeW ρw vs).set i none)[j]? = some (some w) → (wipeW ρw vs)[j]? = some (some w) ∧ ((wipeE ρ vs).set i none)[j]? = (wipeE ρ vs)[j]? := fun j w e => by
      by_cases hj : i = j
      · subst hj
        by_cases hl : i < (wipeW ρw vs).length
        · rw [List.getElem?_set_self hl] at e
          cases e
        · rw [List.getElem?_eq_none (by simp; omega)] at e
          cases e
      · rw [List.getElem?_set_ne hj] at e
        exact ⟨e, List.getElem?_set_ne hj⟩
    refine ⟨⟨by simp [wipeW, wipeE, f.len], fun j w e => ?_, fun j k y z m hjk e1 e2 e3 e4 => ?_, f.lo, f.hi, f.box⟩, Sub.trans (fun j x e => key j _ e) s⟩
    · obtain ⟨q1, q2⟩ := key j w e
      obtain ⟨u, q3, q4⟩ := f.val j w q1
      exact ⟨u, q2.trans q3, q4⟩
    · obtain ⟨a1, a2⟩ := key j _ e1
      obtain ⟨b1, b2⟩ := key k _ e3
      exact f.sep j k y z m hjk a1 (a2 ▸ e2) b1 (b2 ▸ e4)
/-- behind an inner frame the outer one stands -/
theorem Fr.back (h : Fr B n0 t ρw1 ρ1 S) (h2 : Fr B n0 t' ρw2 ρ2 S2) (g : Go B ρw2 ρ2 S ρw2 ρ2 S2) (s : Sub ρw2 ρ2 ρw1 ρ1) : Fr B n0 t' ρw1 ρ1 S2 ∧ Go B ρw1 ρ1 S ρw1 ρ1 S2 := by
  refine ⟨⟨h.len, fun i v e => ?_, h.sep, h.lo, h2.hi, h2.box⟩, g.len, fun n q1 q2 q3 => ⟨(g.fr n q1 q2 fun o => q3 (s.owns o)).1, q3⟩⟩
  obtain ⟨u, e1, r⟩ := h.val i v e
  refine ⟨u, e1, ?_⟩
  cases v with
  | d x => exact r
  | box => exact r
  | b x =>
    obtain ⟨n, rfl, l, l2, q⟩ := r
    refine ⟨n, rfl, l, l2, holds_at q (g.fr n l (holds_lt q) fun o => ?_).1⟩
    have := h2.own_lo o
    omega
  | o x =>
    obtain ⟨n, rfl, l, q⟩ := r
    by_cases o : Owns ρw2 ρ2 n
    · obtain ⟨j, y, z1, z2⟩ := o
      obtain ⟨w1, w2⟩ := s j y z1
      rw [w2] at z2
      have : i = j := Classical.byContradiction fun ne => h.sep i j x y n ne e e1 w1 z2
      subst this
      rw [w1] at e
      cases e
      obtain ⟨u, z3, z4⟩ := h2.val i _ z1
      rw [w2, e1] at z3
      cases z3
      obtain ⟨m, e5, l5, q5⟩ := z4
      cases e5
      exact ⟨n, rfl, l, q5⟩
    · exact ⟨n, rfl, l, holds_at q (g.fr n (Nat.le_trans h.lo l) (holds_lt q) o).1⟩
/-! ### ends -/
variable {α β γ δ : Type} {rel : Store → α → β → Prop} {rel2 : Store → γ → δ → Prop} {X : Wx → We → Prop}
theorem Out.ret {a : α} {b : β} {Q : β → We → Prop} (h : Fr B n0 t ρw ρ S) (r : rel S a b) (q : Q b ρw) : Out B n0 t ρw ρ S rel Q X (.ok a S) := .inl ⟨a, b, S, ρw, rfl, r, h, Go.refl, q⟩
theorem Out.bind {Q1 : β → We → Prop} {Q : δ → We → Prop} {m : R α} {f : α → Store → R γ} (h : Out B n0 t ρw ρ S rel Q1 X m) (ht : t ≤ t')
    (g : ∀ a b S1 ρw1, rel S1 a b → Fr B n0 t ρw1 ρ S1 → Q1 b ρw1 → Out B n0 t' ρw1 ρ S1 rel2 Q X (f a S1)) : Out B n0 t' ρw ρ S rel2 Q X (m.bind f) := by
  rcases h with ⟨a, b, S1, ρw1, rfl, r, fr, go, q⟩ | ⟨e, x, S1, ρw1, rfl, r, fr, go, q⟩
  · rcases g a b S1 ρw1 r fr q with ⟨a2, b2, S2, ρw2, e2, r2, fr2, go2, q2⟩ | ⟨e2, x2, S2, ρw2, e3, r2, fr2, go2, q2⟩
    · exact .inl ⟨a2, b2, S2, ρw2, e2, r2, fr2, go.trans go2, q2⟩
    · exact .inr ⟨e2, x2, S2, ρw2, e3, r2, fr2, go.trans go2, q2⟩
  · exact .inr ⟨e, x, S1, ρw1, rfl, r, fr.mono ht, go, q⟩
theorem Out.mono {Q : β → We → Prop} {m : R α} (h : Out B n0 t ρw ρ S rel Q X m) (ht : t ≤ t') : Out B n0 t' ρw ρ S rel Q X m := by
  rcases h with ⟨a, b, S1, ρw1, rfl, r, fr, go, q⟩ | ⟨e, x, S1, ρw1, rfl, r, fr, go, q⟩
  · exact .inl ⟨a, b, S1, ρw1, rfl, r, fr.mono ht, go, q⟩
  · exact .inr ⟨e, x, S1, ρw1, rfl, r, fr.mono ht, go, q⟩
/-- no exception -/
theorem Out.noX {Q : β → We → Prop} {m : R α} (h : Out B n0 t ρw ρ S rel Q (fun _ _ => False) m) : Out B n0 t ρw ρ S rel Q X (noEx m) := by
  rcases h with ⟨a, b, S1, ρw1, rfl, r, fr, go, q⟩ | ⟨e, x, S1, ρw1, rfl, r, fr, go, q⟩
  · exact .inl ⟨a, b, S1, ρw1, rfl, r, fr, go, q⟩
  · exact q.elim
end
end Tz

end
section
/-! Tz.Snd3: expressions. -/
namespace Tz
open PySem
/-- an argument -/
def RA (B : BxS) (S : Store) : Wv → Vl → Prop
  | .d x, u => u = .d x
  | .o _, _ => False
  | .b x, u => ∃ n, u = .r n ∧ B.hd ≤ n ∧ holds S n x
  | .box, u => u = .r B.pl
def RAs (B : BxS) (S : Store) : List Wv → List Vl → Prop
  | [], [] => True
  | w :: ws, u :: us => RA B S w u ∧ RAs B S ws us
  | _, _ => False
def relA (B : BxS) (S : Store) (us : List Vl) (ws : List Wv) : Prop := RAs B S ws us
def relR (S : Store) (u : Vl) (x : PyData) : Prop := Rd S u x
/-- what is known of calls -/
def CallOk (B : BxS) (L c : Nat) (cw : Cf) (cf : Str → List Vl → Store → R Vl) : Prop := ∀ f ws Q X, cw f ws Q X → ∀ us S t, RAs B S ws us → B.hd ≤ S.length → B.ok t (S.take B.hd) → t + c ≤ L →
  (∃ r S', cf f us S = .ok (.d r) S' ∧ Same2 B S S' ∧ B.ok (t + c) (S'.take B.hd) ∧ Q r) ∨ (∃ e x S', cf f us S = .ex e S' ∧ ExR e x ∧ Same2 B S S' ∧ B.ok (t + c) (S'.take B.hd) ∧ X x)
section
variable {B : BxS} {n0 L c : Nat} {cw : Cf} {cf : Str → List Vl → Store → R Vl} {G : Str → Option PyData}
theorem RAs.app {S : Store} : ∀ {ws ws2 : List Wv} {us us2 : List Vl}, RAs B S ws us → RAs B S ws2 us2 → RAs B S (ws ++ ws2) (us ++ us2)
  | [], _, [], _, _, h => h
  | w :: ws, _, u :: us, _, h, q => ⟨h.1, RAs.app h.2 q⟩
  | [], _, _ :: _, _, h, _ => h.elim
  | _ :: _, _, [], _, h, _ => h.elim
theorem RAs.data {S : Store} : ∀ xs : List PyData, RAs B S (xs.map .d) (xs.map .d)
  | [] => trivial
  | x :: r => ⟨rfl, RAs.data r⟩
theorem RAs.len {S : Store} : ∀ {ws : List Wv} {us : List Vl}, RAs B S ws us → ws.length = us.length
  | [], [], _ => rfl
  | w :: ws, u :: us, h => by simp [RAs.len h.2]
  | [], _ :: _, h => h.elim
  | _ :: _, [], h => h.elim
/-! ### reading -/
theorem rdW_ok {ρw : We} {ρ : Env} {S : Store} {t i : Nat} {Q : PyData → Prop} (h : rdW ρw i Q) (f : Fr B n0 t ρw ρ S) : ∃ u x, ρ[i]? = some (some u) ∧ Rd S u x ∧ Q x := by
  unfold rdW at h
  split at h
  · rename_i x e
    obtain ⟨u, e1, r⟩ := f.val i _ e
    exact ⟨u, x, e1, .inl r, h⟩
  · rename_i x e
    obtain ⟨u, e1, n, e2, _, r⟩ := f.val i _ e
    exact ⟨u, x, e1, .inr ⟨n, e2, r⟩, h⟩
  · rename_i x e
    obtain ⟨u, e1, n, e2, _, _, r⟩ := f.val i _ e
    exact ⟨u, x, e1, .inr ⟨n, e2, r⟩, h⟩
  · exact h.elim
theorem varOf_eq {e : E} {i : Nat} (h : varOf e = some i) : e = .var i := by
  cases e <;> first | (cases h; rfl) | cases h
theorem ev_at {ρ : Env} {S : Store} {i : Nat} {u : Vl} (h : ρ[i]? = some (some u)) : ev cf G (.var i) ρ S = .ok u S := by
  simp only [ev, h]
/-- what is known of an expression -/
abbrev OkE (B : BxS) (n0 L c : Nat) (cw : Cf) (cf : Str → List Vl → Store → R Vl) (G : Str → Option PyData) (e : E) : Prop := ∀ {ρw : We} {Q : PyData → We → Prop} {X : Wx → We → Prop} {ρ : Env} {S : Store} {t : Nat} (T : Nat), wpE cw G e ρw Q X → Fr B n0 t ρw ρ S → t + coE c e ≤ T → T ≤ L → Out B n0 T ρw ρ S relD Q X (ev cf G e ρ S)
theorem sRdv {v : Option Nat} {e : E} (hv : ∀ i, v = some i → e = .var i) (ih : OkE B n0 L c cw cf G e) {ρw : We} {Q : PyData → We → Prop} {X : Wx → We → Prop} {ρ : Env} {S : Store} {t : Nat} (T : Nat) (h : rdE v ρw (fun K => wpE cw G e ρw K X) Q) (f : Fr B n0 t ρw ρ S) (ht : t + coE c e ≤ T) (hT : T ≤ L) :
    Out B n0 T ρw ρ S (fun S u x => Rd S u x ∧ (v = none → u = .d x)) Q X (ev cf G e ρ S) := by
  unfold rdE at h
  split at h
  · rename_i i
    cases hv i rfl
    obtain ⟨u, x, e1, r, q⟩ := rdW_ok h f
    rw [ev_at e1]
    exact Out.ret (f.mono (by omega)) ⟨r, fun z => by cases z⟩ q
  · rcases ih T h f ht hT with ⟨a, b, S', ρw', e1, r, fr, go, q⟩ | ⟨ex, x, S', ρw', e1, r, fr, go, q⟩
    · exact .inl ⟨a, b, S', ρw', e1, ⟨.inl r, fun _ => r⟩, fr, go, q⟩
    · exact .inr ⟨ex, x, S', ρw', e1, r, fr, go, q⟩
theorem sRd {e : E} (ih : OkE B n0 L c cw cf G e) {ρw : We} {Q : PyData → We → Prop} {X : Wx → We → Prop} {ρ : Env} {S : Store} {t : Nat} (T : Nat) (h : rdE (varOf e) ρw (fun K => wpE cw G e ρw K X) Q) (f : Fr B n0 t ρw ρ S) (ht : t + coE c e ≤ T) (hT : T ≤ L) :
    Out B n0 T ρw ρ S relR Q X (ev cf G e ρ S) := by
  rcases sRdv (fun i => varOf_eq) ih T h f ht hT with ⟨a, b, S', ρw', e1, r, fr, go, q⟩ | ⟨ex, x, S', ρw', e1, r, fr, go, q⟩
  · exact .inl ⟨a, b, S', ρw', e1, r.1, fr, go, q⟩
  · exact .inr ⟨ex, x, S', ρw', e1, r, fr, go, q⟩
/-- a value, then another one; the first one is read behind the second one -/
theorem sRd2 {v : Option Nat} {e : E} (hv : ∀ i, v = some i → e = .var i) (ih : OkE B n0 L c cw cf G e) {ρw : We} {X : Wx → We → Prop} {ρ : Env} {S : Store} {t cb : Nat} {γ δ ε : Type} {relB : Store → γ → PyData → Prop} {rel2 : Store → δ → ε → Prop} {Q : ε → We → Prop} {Q' : PyData → PyData → We → Prop}
    {m2 : We → (PyData → We → Prop) → Prop} {eb : Store → R γ} {g : Vl → γ → Store → R δ} (T : Nat)
    (hb : ∀ {ρw1 : We} {S1 : Store} {t1 : Nat} {K : PyData → We → Prop} (T1 : Nat), m2 ρw1 K → Fr B n0 t1 ρw1 ρ S1 → t1 + cb ≤ T1 → T1 ≤ L → Out B n0 T1 ρw1 ρ S1 relB K X (eb S1))
    (hg : ∀ {u : Vl} {w : γ} {x y : PyData} {S2 : Store} {ρw2 : We}, Rd S2 u x → (v = none → u = .d x) → relB S2 w y → Fr B n0 T ρw2 ρ S2 → Q' x y ρw2 → Out B n0 T ρw2 ρ S2 rel2 Q X (g u w S2))
    (h : rd2 v ρw (fun K => wpE cw G e ρw K X) m2 Q') (f : Fr B n0 t ρw ρ S) (ht : t + (coE c e + cb) ≤ T) (hT : T ≤ L) : Out B n0 T ρw ρ S rel2 Q X ((ev cf G e ρ S).bind fun x S1 => (eb S1).bind fun y S2 => g x y S2) := by
  unfold rd2 at h
  split at h
  · rename_i i
    cases hv i rfl
    obtain ⟨u, _, e2, _, h⟩ := rdW_ok h f
    rw [ev_at e2]
    show Out _ _ _ _ _ _ _ _ _ ((eb S).bind _)
    refine Out.bind (hb T h f (by omega) hT) (Nat.le_refl _) fun a2 b2 S2 ρw2 r2 fr2 q2 => ?_
    obtain ⟨u', x, e3, r3, q⟩ := rdW_ok q2 fr2
    rw [e2] at e3
    cases e3
    exact hg r3 (fun z => by cases z) r2 fr2 q
  · refine Out.bind (ih (t + coE c e) h f (Nat.le_refl _) (by omega)) (by omega) fun a b S1 ρw1 r fr q => ?_
    refine Out.bind (hb T q fr (by omega) hT) (Nat.le_refl _) fun a2 b2 S2 ρw2 r2 fr2 q2 => ?_
    cases r
    exact hg (.inl rfl) (fun _ => rfl) r2 fr2 q2
theorem argW_ok {ρw : We} {ρ : Env} {S : Store} {t i : Nat} {Q : Wv → Prop} (h : argW ρw i Q) (f : Fr B n0 t ρw ρ S) : ∃ u v, ρ[i]? = some (some u) ∧ RA B S v u ∧ Q v := by
  unfold argW at h
  split at h
  · rename_i x e
    obtain ⟨u, e1, r⟩ := f.val i _ e
    exact ⟨u, .d x, e1, r, h⟩
  · rename_i x e
    obtain ⟨u, e1, n, e2, l, r⟩ := f.val i _ e
    exact ⟨u, .b x, e1, ⟨n, e2, Nat.le_trans f.lo l, r⟩, h⟩
  · rename_i x e
    obtain ⟨u, e1, n, e2, l, _, r⟩ := f.val i _ e
    exact ⟨u, .b x, e1, ⟨n, e2, l, r⟩, h⟩
  · rename_i e
    obtain ⟨u, e1, r⟩ := f.val i _ e
    exact ⟨u, .box, e1, r, h⟩
  · exact h.elim
/-- a comprehension's loop -/
theorem lc_ok {fw : PyData → (List PyData → Prop) → Prop} {ff : Vl → Store → R (List Vl)} {ρw : We} {ρ : Env} {k : Nat}
    (step : ∀ {x : PyData} {K : List PyData → Prop} {S : Store} {t : Nat}, fw x K → Fr B n0 t ρw ρ S → t + k ≤ L → ∃ ys S', ff (.d x) S = .ok (ys.map .d) S' ∧ ys.length ≤ 1 ∧ Fr B n0 (t + k) ρw ρ S' ∧ Go B ρw ρ S ρw ρ S' ∧ K ys) :
    ∀ {xs : List PyData} {Q : List PyData → Prop} {S : Store} {t : Nat}, lcW fw xs Q → Fr B n0 t ρw ρ S → t + xs.length * k ≤ L → ∃ ys S', lcL ff (xs.map .d) S = .ok (ys.map .d) S' ∧ ys.length ≤ xs.length ∧ Fr B n0 (t + xs.length * k) ρw ρ S' ∧ Go B ρw ρ S ρw ρ S' ∧ Q ys
  | [], Q, S, t, h, f, hl => ⟨[], S, rfl, Nat.le_refl _, f.mono (by omega), Go.refl, h⟩
  | x :: r, Q, S, t, h, f, hl => by
    have e : (x :: r).length * k = r.length * k + k := by rw [List.length_cons, Nat.succ_mul]
    rw [e] at hl ⊢
    obtain ⟨ys, S1, e1, l1, f1, g1, q1⟩ := step (x := x) h f (by omega)
    obtain ⟨zs, S2, e2, l2, f2, g2, q2⟩ := lc_ok step (xs := r) q1 f1 (by omega)
    refine ⟨ys ++ zs, S2, ?_, by simp; omega, f2.mono (by omega), g1.trans g2, q2⟩
    show (ff (.d x) S).bind _ = _
    rw [e1]
    show (lcL ff (r.map .d) S1).bind _ = _
    rw [e2]
    show R.ok (ys.map Vl.d ++ zs.map .d) S2 = _
    rw [List.map_append]
theorem go_back {ρw ρw' : We} {ρ : Env} {S S' : Store} (h : ρw' = ρw) (g : Go B ρw ρ S ρw' ρ S') : Go B ρw ρ S ρw ρ S' := by rw [h] at g; exact g
abbrev OkC (B : BxS) (n0 L c : Nat) (cw : Cf) (cf : Str → List Vl → Store → R Vl) (G : Str → Option PyData) (p : P) : Prop := ∀ {ρw : We} {Q : Bool → We → Prop} {X : Wx → We → Prop} {ρ : Env} {S : Store} {t : Nat} (T : Nat), wpC cw G p ρw Q X → Fr B n0 t ρw ρ S → t + coP c p ≤ T → T ≤ L → Out B n0 T ρw ρ S relE Q X (evC cf G p ρ S)
theorem sLc {own : List Nat} {tg : Tg} {d : P} {elt : E} (ihC : OkC B n0 L c cw cf G d) (ih : OkE B n0 L c cw cf G elt) {ρw : We} {ρ : Env} {x : PyData} {K : List PyData → Prop} {S : Store} {t : Nat}
    (h : match setTgW tg (.d x) (wipeW ρw own) with
      | some ρ2 => wpC cw G d ρ2 (fun k ρ3 => (k = true → wpE cw G elt ρ3 (fun y ρ4 => ρ4 = ρ2 ∧ K [y]) fun _ _ => False) ∧ (k = false → ρ3 = ρ2 ∧ K [])) fun _ _ => False
      | none => False) (f : Fr B n0 t ρw ρ S) (hl : t + (coP c d + coE c elt) ≤ L) :
    ∃ ys S', (match setTg tg (.d x) (wipeE ρ own) with
      | some ρ1 => (evC cf G d ρ1 S).bind fun k Sb => if k then (ev cf G elt ρ1 Sb).bind fun y Sc => .ok [y] Sc else .ok [] Sb
      | none => .fail) = .ok (ys.map .d) S' ∧ ys.length ≤ 1 ∧ Fr B n0 (t + (coP c d + coE c elt)) ρw ρ S' ∧ Go B ρw ρ S ρw ρ S' ∧ K ys := by
  obtain ⟨fw, sw⟩ := wipe_fr f own
  split at h
  · rename_i ρw2 e2
    obtain ⟨ρ2, e3, f3, s3⟩ := setTg_d e2 fw
    rw [e3]
    have sub := s3.trans sw
    dsimp only
    rcases ihC (t + coP c d) h f3 (Nat.le_refl _) (by omega) with ⟨k, k2, S1, ρw3, e4, r4, f4, g4, q4⟩ | ⟨_, _, _, _, _, _, _, _, q⟩
    · cases r4
      rw [e4]
      show ∃ ys S', (if k then _ else _) = _ ∧ _
      cases k with
      | false =>
        obtain ⟨rfl, q⟩ := q4.2 rfl
        obtain ⟨f5, g5⟩ := f.back f4 g4 sub
        exact ⟨[], S1, rfl, by simp, f5.mono (by omega), g5, q⟩
      | true =>
        rw [if_pos rfl]
        rcases ih (t + (coP c d + coE c elt)) (q4.1 rfl) f4 (by omega) hl with ⟨v, y, S2, ρw4, e5, r5, f5, g5, q5⟩ | ⟨_, _, _, _, _, _, _, _, q⟩
        · cases r5
          rw [e5]
          obtain ⟨rfl, q5⟩ := q5
          obtain ⟨f6, g6⟩ := f.back f5 (g4.trans g5) sub
          exact ⟨[y], S2, rfl, by simp, f6, g6, q5⟩
        · exact q.elim
    · exact q.elim
  · exact h.elim
mutual
theorem sE (hc : CallOk B L c cw cf) : ∀ (e : E), OkE B n0 L c cw cf G e
  | .con x, ρw, Q, X, ρ, S, t, T, h, f, ht, hT => Out.ret (f.mono (by omega)) rfl h
  | .var i, ρw, Q, X, ρ, S, t, T, h, f, ht, hT => by
    simp only [wpE] at h
    split at h
    · rename_i x e
      obtain ⟨u, e1, r⟩ := f.val i _ e
      rw [ev_at e1]
      exact Out.ret (f.mono (by omega)) r h
    · exact h.elim
  | .frz i, ρw, Q, X, ρ, S, t, T, h, f, ht, hT => by
    simp only [wpE] at h
    split at h
    · rename_i x e
      obtain ⟨u, e1, r⟩ := f.val i _ e
      cases r
      simp only [ev, e1, frzV]
      exact Out.ret (f.mono (by omega)) rfl h
    · rename_i xs e
      obtain ⟨u, e1, n, rfl, l, r⟩ := f.val i _ e
      have r : S[n]? = _ := r
      simp only [ev, e1, frzV, r, allD_d]
      obtain ⟨f2, g2⟩ := f.put (c := none) (v := none) e e1 (.inl rfl)
      exact .inl ⟨_, _, _, _, rfl, rfl, f2.mono (by omega), g2, h⟩
    · exact h.elim
  | .glob x, ρw, Q, X, ρ, S, t, T, h, f, ht, hT => by
    simp only [wpE] at h
    simp only [ev]
    split at h
    · rename_i v e
      try rw [e]
      exact Out.ret (f.mono (show t ≤ T by omega)) rfl h
    · exact h.elim
  | .bin op a b, ρw, Q, X, ρ, S, t, T, h, f, ht, hT => by
    simp only [coE] at ht
    simp only [wpE] at h
    simp only [ev]
    refine Out.bind (sE hc a (t + coE c a) h f (Nat.le_refl _) (by omega)) (by omega) fun x y S1 ρw1 r fr q => ?_
    refine Out.bind (sE hc b T q fr (by omega) hT) (Nat.le_refl _) fun x2 y2 S2 ρw2 r2 fr2 q2 => ?_
    cases r
    cases r2
    obtain ⟨z, e, q3⟩ := bin_w (S := S2) q2
    rw [e]
    exact Out.ret fr2 rfl q3
  | .neg a, ρw, Q, X, ρ, S, t, T, h, f, ht, hT => by
    simp only [coE] at ht
    simp only [wpE] at h
    simp only [ev]
    refine Out.bind (sE hc a T h f ht hT) (Nat.le_refl _) fun x y S1 ρw1 r fr q => ?_
    cases r
    unfold negW at q
    split at q
    · exact Out.ret fr rfl q
    · exact q.elim
  | .not a, ρw, Q, X, ρ, S, t, T, h, f, ht, hT => by
    simp only [coE] at ht
    simp only [wpE] at h
    simp only [ev]
    refine Out.bind (sRd (sE hc a) T h f ht hT) (Nat.le_refl _) fun x y S1 ρw1 r fr q => ?_
    obtain ⟨b, e, q⟩ := truth_w r q
    rw [e]
    exact Out.ret fr rfl q
  | .cmp op a b, ρw, Q, X, ρ, S, t, T, h, f, ht, hT => by
    simp only [coE] at ht
    simp only [wpE] at h
    simp only [ev]
    refine sRd2 (v := varC op a) (cb := coE c b) (relB := relR) (fun i hi => varOf_eq (by cases op <;> first | exact hi | cases hi)) (sE hc a) T (fun T1 h1 f1 ht1 hT1 => sRd (sE hc b) T1 h1 f1 ht1 hT1) (fun {u w x y S2 ρw2} r1 r2 r3 fr q => ?_) h f ht hT
    obtain ⟨k, e, q⟩ := cmp_w r1 r3 (fun z => r2 (by rcases z with rfl | rfl <;> rfl)) q
    rw [e]
    exact Out.ret fr rfl q
  | .cmp2 op op2 a b d, ρw, Q, X, ρ, S, t, T, h, f, ht, hT => by
    simp only [coE] at ht
    simp only [wpE] at h
    simp only [ev]
    refine Out.bind (sE hc a (t + coE c a) h f (Nat.le_refl _) (by omega)) (by omega) fun x y S1 ρw1 r fr q => ?_
    refine Out.bind (sE hc b (t + coE c a + coE c b) q fr (Nat.le_refl _) (by omega)) (by omega) fun x2 y2 S2 ρw2 r2 fr2 q2 => ?_
    cases r
    cases r2
    obtain ⟨k, e, q3⟩ := cmp_w (S := S2) (.inl rfl) (.inl rfl) (fun _ => rfl) q2
    rw [e]
    show Out _ _ _ _ _ _ _ _ _ (if k then _ else _)
    cases k with
    | false => exact Out.ret (fr2.mono (by omega)) rfl (q3.2 rfl)
    | true =>
      rw [if_pos rfl]
      refine Out.bind (sE hc d T (q3.1 rfl) fr2 (by omega) hT) (Nat.le_refl _) fun x4 y4 S4 ρw4 r4 fr4 q4 => ?_
      cases r4
      obtain ⟨k2, e2, q5⟩ := cmp_w (S := S4) (.inl rfl) (.inl rfl) (fun _ => rfl) q4
      rw [e2]
      exact Out.ret fr4 rfl q5
  | .and a b, ρw, Q, X, ρ, S, t, T, h, f, ht, hT => by
    simp only [coE] at ht
    simp only [wpE] at h
    simp only [ev]
    refine Out.bind (sE hc a (t + coE c a) h f (Nat.le_refl _) (by omega)) (by omega) fun x y S1 ρw1 r fr q => ?_
    cases r
    obtain ⟨k, e, q⟩ := truth_w (S := S1) (.inl rfl) q
    rw [e]
    show Out _ _ _ _ _ _ _ _ _ (if k then _ else _)
    cases k with
    | false => exact Out.ret (fr.mono (by omega)) rfl (q.2 rfl)
    | true => exact sE hc b T (q.1 rfl) fr (by omega) hT
  | .or a b, ρw, Q, X, ρ, S, t, T, h, f, ht, hT => by
    simp only [coE] at ht
    simp only [wpE] at h
    simp only [ev]
    refine Out.bind (sE hc a (t + coE c a) h f (Nat.le_refl _) (by omega)) (by omega) fun x y S1 ρw1 r fr q => ?_
    cases r
    obtain ⟨k, e, q⟩ := truth_w (S := S1) (.inl rfl) q
    rw [e]
    show Out _ _ _ _ _ _ _ _ _ (if k then _ else _)
    cases k with
    | true => exact Out.ret (fr.mono (by omega)) rfl (q.1 rfl)
    | false => exact sE hc b T (q.2 rfl) fr (by omega) hT
  | .ite d a b, ρw, Q, X, ρ, S, t, T, h, f, ht, hT => by
    simp only [coE] at ht
    simp only [wpE] at h
    simp only [ev]
    refine Out.bind (sRd (sE hc d) (t + coE c d) h f (Nat.le_refl _) (by omega)) (by omega) fun x y S1 ρw1 r fr q => ?_
    obtain ⟨k, e, q⟩ := truth_w r q
    rw [e]
    show Out _ _ _ _ _ _ _ _ _ (if k then _ else _)
    cases k with
    | true => exact sE hc a T (q.1 rfl) fr (by omega) hT
    | false => exact sE hc b T (q.2 rfl) fr (by omega) hT
  | .one a, ρw, Q, X, ρ, S, t, T, h, f, ht, hT => sE hc a T h f ht hT
  | .tup es, ρw, Q, X, ρ, S, t, T, h, f, ht, hT => by
    simp only [coE] at ht
    simp only [wpE] at h
    simp only [ev]
    refine Out.bind (sEs hc es T h f ht hT) (Nat.le_refl _) fun x y S1 ρw1 r fr q => ?_
    cases r
    rw [newT_w q.1]
    exact Out.ret fr rfl q.2
  | .lst m es, ρw, Q, X, ρ, S, t, T, h, f, ht, hT => by
    simp only [coE] at ht
    simp only [wpE] at h
    obtain ⟨rfl, h⟩ := h
    simp only [ev]
    refine Out.bind (sEs hc es T h f ht hT) (Nat.le_refl _) fun x y S1 ρw1 r fr q => ?_
    cases r
    rw [newL_w q.1]
    exact Out.ret fr rfl q.2
  | .dic m ks es, ρw, Q, X, ρ, S, t, T, h, f, ht, hT => by
    simp only [coE] at ht
    simp only [wpE] at h
    obtain ⟨rfl, hk, h⟩ := h
    simp only [ev]
    refine Out.bind (Out.noX (sEs hc es T h f ht hT)) (Nat.le_refl _) fun x y S1 ρw1 r fr q => ?_
    cases r
    rw [if_pos (by simp only [Bool.and_eq_true, decide_eq_true_eq, List.length_map]; exact ⟨hk.1, q.1, hk.2⟩), if_neg (by decide), allD_d]
    exact Out.ret fr rfl q.2
  | .sub a i, ρw, Q, X, ρ, S, t, T, h, f, ht, hT => by
    simp only [coE] at ht
    simp only [wpE] at h
    simp only [ev]
    refine sRd2 (v := varOf a) (cb := coE c i) (relB := relD) (fun i => varOf_eq) (sE hc a) T (fun T1 h1 f1 ht1 hT1 => sE hc i T1 h1 f1 ht1 hT1) (fun {u w x y S2 ρw2} r1 r2 r3 fr q => ?_) h f ht hT
    cases r3
    obtain ⟨z, e, q⟩ := sub_w r1 q
    rw [e]
    exact Out.ret fr rfl q
  | .slc a lo hi, ρw, Q, X, ρ, S, t, T, h, f, ht, hT => by
    simp only [coE] at ht
    simp only [wpE] at h
    simp only [ev]
    have z := sRd2 (v := varOf a) (cb := coP c lo + coP c hi) (relB := fun _ (p : Option Int × Option Int) y => y = .tuple [partD p.1, partD p.2]) (rel2 := relD) (Q := Q) (fun i => varOf_eq) (sE hc a) T (eb := fun S1 => (evP cf G lo ρ S1).bind fun l S2 => (evP cf G hi ρ S2).bind fun h S3 => .ok (l, h) S3) (g := fun x p S3 => slcV x p.1 p.2 S3)
      (fun T1 h1 f1 ht1 hT1 => by
        refine Out.bind (sP hc lo _ h1 f1 (Nat.le_refl _) (by omega)) (by omega) fun x y S1 ρw1 r fr q => ?_
        refine Out.bind (sP hc hi T1 q fr (by omega) hT1) (Nat.le_refl _) fun x2 y2 S2 ρw2 r2 fr2 q2 => ?_
        cases r
        cases r2
        exact Out.ret fr2 rfl q2) (fun {u w x y S2 ρw2} r1 r2 r3 fr q => by
        subst r3
        dsimp only at q
        have e : ∀ o : Option Int, dPart (partD o) = o := fun o => by cases o <;> rfl
        rw [e, e] at q
        obtain ⟨z, e, q⟩ := cut_w r1 q
        rw [e]
        exact Out.ret fr rfl q) h f (by omega) hT
    have ba : ((ev cf G a ρ S).bind fun x S1 => ((evP cf G lo ρ S1).bind fun l S2 => (evP cf G hi ρ S2).bind fun h S3 => .ok (l, h) S3).bind fun p S3 => slcV x p.1 p.2 S3) = (ev cf G a ρ S).bind fun x S1 => (evP cf G lo ρ S1).bind fun l S2 => (evP cf G hi ρ S2).bind fun h S3 => slcV x l h S3 := by
      cases ev cf G a ρ S with
      | ok x S1 =>
        simp only [R.bind]
        cases evP cf G lo ρ S1 with
        | ok l S2 =>
          dsimp only
          cases evP cf G hi ρ S2 <;> rfl
        | ex _ _ => rfl
        | fail => rfl
      | ex _ _ => rfl
      | fail => rfl
    rw [ba] at z
    exact z
  | .rev a, ρw, Q, X, ρ, S, t, T, h, f, ht, hT => by
    simp only [coE] at ht
    simp only [wpE] at h
    simp only [ev]
    refine Out.bind (sRd (sE hc a) T h f ht hT) (Nat.le_refl _) fun x y S1 ρw1 r fr q => ?_
    obtain ⟨b, e, q⟩ := rev_w r q
    rw [e]
    exact Out.ret fr rfl q
  | .call g es, ρw, Q, X, ρ, S, t, T, h, f, ht, hT => by
    simp only [coE] at ht
    simp only [wpE] at h
    simp only [ev]
    refine Out.bind (sAs hc es (t + coEs c es) h f (Nat.le_refl _) (by omega)) (by omega) fun us ws S1 ρw1 r fr q => ?_
    rcases hc g ws _ _ q us S1 _ r (Nat.le_trans fr.lo fr.hi) fr.box (by omega) with ⟨v, S2, e, s, bo, q⟩ | ⟨ex, x, S2, e, er, s, bo, q⟩
    · obtain ⟨f2, g2⟩ := fr.same s bo
      exact .inl ⟨_, v, S2, ρw1, e, rfl, f2.mono (by omega), g2, q⟩
    · obtain ⟨f2, g2⟩ := fr.same s bo
      exact .inr ⟨ex, x, S2, ρw1, e, er, f2.mono (by omega), g2, q⟩
  | .bi b es, ρw, Q, X, ρ, S, t, T, h, f, ht, hT => by
    simp only [coE] at ht
    simp only [ev]
    cases es with
    | nil =>
      simp only [wpE, wpEs, bisW] at h
    | star e es =>
      simp only [wpE] at h
      refine Out.bind (sEs hc (.star e es) T h f ht hT) (Nat.le_refl _) fun x y S1 ρw1 r fr q => ?_
      cases r
      obtain ⟨z, e, q⟩ := bis_w (S := S1) q
      rw [e]
      exact Out.ret fr rfl q
    | cons a es =>
      cases es with
      | nil =>
        simp only [wpE] at h
        simp only [coEs] at ht
        have z := sRdv (v := varB b a) (fun i hi => varOf_eq (by cases b <;> first | exact hi | cases hi)) (sE hc a) T h f (by omega) hT
        have ea : evs cf G (.cons a .nil) ρ S = (ev cf G a ρ S).bind fun x S1 => .ok [x] S1 := by
          simp only [evs]
          cases ev cf G a ρ S <;> rfl
        rw [ea]
        have eb : (((ev cf G a ρ S).bind fun x S1 => R.ok [x] S1).bind fun xs S1 => biV b xs S1) = (ev cf G a ρ S).bind fun x S1 => biV b [x] S1 := by
          cases ev cf G a ρ S <;> rfl
        rw [eb]
        refine Out.bind z (Nat.le_refl _) fun x y S1 ρw1 r fr q => ?_
        obtain ⟨z, e, q⟩ := bi1_w r.1 (fun hb => r.2 (by rw [hb]; rfl)) q
        rw [e]
        exact Out.ret fr rfl q
      | cons b2 es =>
        simp only [wpE] at h
        refine Out.bind (sEs hc (.cons a (.cons b2 es)) T h f ht hT) (Nat.le_refl _) fun x y S1 ρw1 r fr q => ?_
        cases r
        obtain ⟨z, e, q⟩ := bis_w (S := S1) q
        rw [e]
        exact Out.ret fr rfl q
      | star b2 es =>
        simp only [wpE] at h
        refine Out.bind (sEs hc (.cons a (.star b2 es)) T h f ht hT) (Nat.le_refl _) fun x y S1 ρw1 r fr q => ?_
        cases r
        obtain ⟨z, e, q⟩ := bis_w (S := S1) q
        rw [e]
        exact Out.ret fr rfl q
  | .isi a ts, ρw, Q, X, ρ, S, t, T, h, f, ht, hT => by
    simp only [coE] at ht
    simp only [wpE] at h
    simp only [ev]
    refine Out.bind (sRd (sE hc a) T h f ht hT) (Nat.le_refl _) fun x y S1 ρw1 r fr q => ?_
    rw [ty_w r]
    exact Out.ret fr rfl q
  | .met m o es, ρw, Q, X, ρ, S, t, T, h, f, ht, hT => by
    simp only [coE] at ht
    simp only [wpE] at h
    simp only [ev]
    split at h
    · rename_i i hv
      cases varOf_eq hv
      obtain ⟨u, x0, e1, r1, ty, h⟩ := rdW_ok h f
      rw [ev_at e1]
      show Out _ _ _ _ _ _ _ _ _ (if tyOf u S = some (mtTy m) then _ else _)
      rw [ty_w r1, ty, if_pos rfl]
      refine Out.bind (sEs hc es T h f (by omega) hT) (Nat.le_refl _) fun x y S1 ρw1 r fr q => ?_
      cases r
      split at q
      · unfold ownL at q
        split at q
        · rename_i xs ex
          obtain ⟨u2, e2, n, rfl, l, hn⟩ := fr.val i _ ex
          rw [e1] at e2
          cases e2
          obtain ⟨z, xs', e, q⟩ := met_o hn q
          rw [e]
          obtain ⟨f2, g2⟩ := fr.put (c := some (.lst (xs'.map .d))) (v := some (.o (.list xs'))) ex e1 (.inr ⟨_, rfl, List.getElem?_set_self (holds_lt hn)⟩)
          exact .inl ⟨_, _, _, _, rfl, rfl, f2, g2, q⟩
        · exact q.elim
      · obtain ⟨u2, x2, e2, r2, q⟩ := rdW_ok q fr
        rw [e1] at e2
        cases e2
        obtain ⟨z, e, q⟩ := met_r r2 q
        rw [e]
        exact Out.ret fr rfl q
    · refine Out.bind (sE hc o (t + coE c o) h f (Nat.le_refl _) (by omega)) (by omega) fun x y S1 ρw1 r fr q => ?_
      cases r
      show Out _ _ _ _ _ _ _ _ _ (if tyOf (.d y) S1 = some (mtTy m) then _ else _)
      rw [ty_w (S := S1) (.inl rfl), q.1, if_pos rfl]
      refine Out.bind (sEs hc es T q.2 fr (by omega) hT) (Nat.le_refl _) fun x2 y2 S2 ρw2 r2 fr2 q2 => ?_
      cases r2
      obtain ⟨z, e, q⟩ := met_r (S := S2) (.inl rfl) q2
      rw [e]
      exact Out.ret fr2 rfl q
  | .lc m own tg it d elt, ρw, Q, X, ρ, S, t, T, h, f, ht, hT => by
    simp only [coE] at ht
    simp only [wpE] at h
    obtain ⟨rfl, h⟩ := h
    simp only [ev]
    refine Out.bind (sI hc it (t + coI c it) h f (Nat.le_refl _) (by omega)) (by omega) fun vs xs S1 ρw1 r fr q => ?_
    obtain ⟨rfl, lx⟩ := r
    have kk : xs.length * (coP c d + coE c elt) ≤ sizeLine * (coP c d + coE c elt) := Nat.mul_le_mul_right _ lx
    obtain ⟨ys, S2, e2, l2, f2, g2, q2⟩ := lc_ok (L := L) (k := coP c d + coE c elt) (ff := fun x Sa => match setTg tg x (wipeE ρ own) with
      | some ρ1 => (evC cf G d ρ1 Sa).bind fun k Sb => if k then (ev cf G elt ρ1 Sb).bind fun y Sc => .ok [y] Sc else .ok [] Sb
      | none => .fail) (fun {x K S t} hx fx hl => sLc (sC hc d) (sE hc elt) hx fx hl) q fr (by omega)
    refine (congrArg (Out B n0 T ρw1 ρ S1 relD Q X) ((congrArg (fun m => (noEx m).bind fun ys S2 => newL false ys S2) e2).trans (newL_w (Nat.le_trans l2 lx)))).mpr ?_
    exact .inl ⟨_, _, _, _, rfl, rfl, f2.mono (by omega), g2, q2⟩
  | .lc2 .., ρw, Q, X, ρ, S, t, T, h, f, ht, hT => h.elim
  | .binL .., ρw, Q, X, ρ, S, t, T, h, f, ht, hT => h.elim
  | .inT neg x e, ρw, Q, X, ρ, S, t, T, h, f, ht, hT => by
    simp only [coE] at ht
    simp only [wpE] at h
    simp only [ev]
    refine Out.bind (sE hc e T h f ht hT) (Nat.le_refl _) fun v y S1 ρw1 r fr q => ?_
    cases r
    split at q
    · rename_i e1
      rw [e1]
      exact Out.ret fr rfl q
    · exact q.elim
  | .subT x e, ρw, Q, X, ρ, S, t, T, h, f, ht, hT => by
    simp only [coE] at ht
    simp only [wpE] at h
    simp only [ev]
    refine Out.bind (sE hc e T h f ht hT) (Nat.le_refl _) fun v y S1 ρw1 r fr q => ?_
    cases r
    split at q
    · rename_i e1
      rw [e1]
      obtain ⟨d, e2, q⟩ := q
      dsimp only
      rw [e2]
      exact Out.ret fr rfl q
    · exact q.elim
theorem sP (hc : CallOk B L c cw cf) : ∀ (p : P) {ρw : We} {Q : Option Int → We → Prop} {X : Wx → We → Prop} {ρ : Env} {S : Store} {t : Nat} (T : Nat), wpP cw G p ρw Q X → Fr B n0 t ρw ρ S → t + coP c p ≤ T → T ≤ L → Out B n0 T ρw ρ S relE Q X (evP cf G p ρ S)
  | .no, ρw, Q, X, ρ, S, t, T, h, f, ht, hT => Out.ret (f.mono (by omega)) rfl h
  | .so e, ρw, Q, X, ρ, S, t, T, h, f, ht, hT => by
    simp only [coP] at ht
    simp only [wpP] at h
    simp only [evP]
    refine Out.bind (sE hc e T h f ht hT) (Nat.le_refl _) fun v y S1 ρw1 r fr q => ?_
    cases r
    split at q
    · exact Out.ret fr rfl q
    · exact q.elim
theorem sC (hc : CallOk B L c cw cf) : ∀ (p : P) {ρw : We} {Q : Bool → We → Prop} {X : Wx → We → Prop} {ρ : Env} {S : Store} {t : Nat} (T : Nat), wpC cw G p ρw Q X → Fr B n0 t ρw ρ S → t + coP c p ≤ T → T ≤ L → Out B n0 T ρw ρ S relE Q X (evC cf G p ρ S)
  | .no, ρw, Q, X, ρ, S, t, T, h, f, ht, hT => Out.ret (f.mono (by omega)) rfl h
  | .so e, ρw, Q, X, ρ, S, t, T, h, f, ht, hT => by
    simp only [coP] at ht
    simp only [wpC] at h
    simp only [evC]
    refine Out.bind (sE hc e T h f ht hT) (Nat.le_refl _) fun v y S1 ρw1 r fr q => ?_
    cases r
    obtain ⟨k, e, q⟩ := truth_w (S := S1) (.inl rfl) q
    rw [e]
    exact Out.ret fr rfl q
theorem sEs (hc : CallOk B L c cw cf) : ∀ (es : Es) {ρw : We} {Q : List PyData → We → Prop} {X : Wx → We → Prop} {ρ : Env} {S : Store} {t : Nat} (T : Nat), wpEs cw G es ρw Q X → Fr B n0 t ρw ρ S → t + coEs c es ≤ T → T ≤ L → Out B n0 T ρw ρ S relDs Q X (evs cf G es ρ S)
  | .nil, ρw, Q, X, ρ, S, t, T, h, f, ht, hT => Out.ret (b := []) (f.mono (by omega)) rfl h
  | .cons e es, ρw, Q, X, ρ, S, t, T, h, f, ht, hT => by
    simp only [coEs] at ht
    simp only [wpEs] at h
    simp only [evs]
    refine Out.bind (sE hc e (t + coE c e) h f (Nat.le_refl _) (by omega)) (by omega) fun v y S1 ρw1 r fr q => ?_
    refine Out.bind (sEs hc es T q fr (by omega) hT) (Nat.le_refl _) fun v2 y2 S2 ρw2 r2 fr2 q2 => ?_
    cases r
    cases r2
    exact Out.ret (b := y :: y2) fr2 rfl q2
  | .star e es, ρw, Q, X, ρ, S, t, T, h, f, ht, hT => by
    simp only [coEs] at ht
    simp only [wpEs] at h
    simp only [evs]
    refine Out.bind (sE hc e (t + coE c e) h f (Nat.le_refl _) (by omega)) (by omega) fun v y S1 ρw1 r fr q => ?_
    cases r
    obtain ⟨xs, _, e2, _, q⟩ := plain_w (S := S1) q
    rw [e2]
    refine Out.bind (sEs hc es T q fr (by omega) hT) (Nat.le_refl _) fun v2 y2 S2 ρw2 r2 fr2 q2 => ?_
    cases r2
    exact Out.ret fr2 (by simp [relDs]) q2
theorem sAs (hc : CallOk B L c cw cf) : ∀ (es : Es) {ρw : We} {Q : List Wv → We → Prop} {X : Wx → We → Prop} {ρ : Env} {S : Store} {t : Nat} (T : Nat), wpAs cw G es ρw Q X → Fr B n0 t ρw ρ S → t + coEs c es ≤ T → T ≤ L → Out B n0 T ρw ρ S (relA B) Q X (evs cf G es ρ S)
  | .nil, ρw, Q, X, ρ, S, t, T, h, f, ht, hT => Out.ret (b := []) (f.mono (by omega)) trivial h
  | .cons e es, ρw, Q, X, ρ, S, t, T, h, f, ht, hT => by
    simp only [coEs] at ht
    simp only [wpAs] at h
    simp only [evs]
    split at h
    · rename_i i hv
      cases varOf_eq hv
      obtain ⟨u, v, e1, _, h⟩ := argW_ok h f
      rw [ev_at e1]
      show Out _ _ _ _ _ _ _ _ _ ((evs cf G es ρ S).bind _)
      refine Out.bind (sAs hc es T h f (by omega) hT) (Nat.le_refl _) fun v2 y2 S2 ρw2 r2 fr2 q2 => ?_
      obtain ⟨u', v', e3, r3, q⟩ := argW_ok q2 fr2
      rw [e1] at e3
      cases e3
      exact Out.ret (b := v' :: y2) fr2 ⟨r3, r2⟩ q
    · refine Out.bind (sE hc e (t + coE c e) h f (Nat.le_refl _) (by omega)) (by omega) fun v y S1 ρw1 r fr q => ?_
      refine Out.bind (sAs hc es T q fr (by omega) hT) (Nat.le_refl _) fun v2 y2 S2 ρw2 r2 fr2 q2 => ?_
      cases r
      exact Out.ret (b := (Wv.d y :: y2)) fr2 ⟨rfl, r2⟩ q2
  | .star e es, ρw, Q, X, ρ, S, t, T, h, f, ht, hT => by
    simp only [coEs] at ht
    simp only [wpAs] at h
    simp only [evs]
    refine Out.bind (sE hc e (t + coE c e) h f (Nat.le_refl _) (by omega)) (by omega) fun v y S1 ρw1 r fr q => ?_
    cases r
    obtain ⟨xs, _, e2, _, q⟩ := plain_w (S := S1) q
    rw [e2]
    refine Out.bind (sAs hc es T q fr (by omega) hT) (Nat.le_refl _) fun v2 y2 S2 ρw2 r2 fr2 q2 => ?_
    exact Out.ret fr2 (RAs.app (RAs.data xs) r2) q2
theorem sI (hc : CallOk B L c cw cf) : ∀ (i : I) {ρw : We} {Q : List PyData → We → Prop} {X : Wx → We → Prop} {ρ : Env} {S : Store} {t : Nat} (T : Nat), wpI cw G i ρw Q X → Fr B n0 t ρw ρ S → t + coI c i ≤ T → T ≤ L → Out B n0 T ρw ρ S (fun _ vs xs => vs = xs.map .d ∧ xs.length ≤ sizeLine) Q X (evI cf G i ρ S)
  | .of e, ρw, Q, X, ρ, S, t, T, h, f, ht, hT => by
    simp only [coI] at ht
    simp only [wpI] at h
    simp only [evI]
    refine Out.bind (sE hc e T h f ht hT) (Nat.le_refl _) fun v y S1 ρw1 r fr q => ?_
    cases r
    obtain ⟨xs, e1, _, l, q⟩ := plain_w (S := S1) q
    rw [e1]
    exact Out.ret fr ⟨rfl, l⟩ q
  | .rng es, ρw, Q, X, ρ, S, t, T, h, f, ht, hT => by
    simp only [coI] at ht
    simp only [wpI] at h
    simp only [evI]
    refine Out.bind (sEs hc es T h f ht hT) (Nat.le_refl _) fun v y S1 ρw1 r fr q => ?_
    cases r
    obtain ⟨xs, e1, l, q⟩ := range_w q
    rw [e1]
    exact Out.ret fr ⟨rfl, l⟩ q
  | .enum e, ρw, Q, X, ρ, S, t, T, h, f, ht, hT => by
    simp only [coI] at ht
    simp only [wpI] at h
    simp only [evI]
    refine Out.bind (sE hc e T h f ht hT) (Nat.le_refl _) fun v y S1 ρw1 r fr q => ?_
    cases r
    obtain ⟨xs, e1, _, l, q⟩ := plain_w (S := S1) q
    rw [e1]
    exact Out.ret fr ⟨enum_w 0 xs, by rw [enum_len]; exact l⟩ q
  | .zip a b, ρw, Q, X, ρ, S, t, T, h, f, ht, hT => by
    simp only [coI] at ht
    simp only [wpI] at h
    simp only [evI]
    refine Out.bind (sE hc a (t + coE c a) h f (Nat.le_refl _) (by omega)) (by omega) fun v y S1 ρw1 r fr q => ?_
    refine Out.bind (sE hc b T q fr (by omega) hT) (Nat.le_refl _) fun v2 y2 S2 ρw2 r2 fr2 q2 => ?_
    cases r
    cases r2
    unfold zipW at q2
    split at q2
    · exact Out.ret fr2 ⟨zip_w _ _, Nat.le_trans (zip_len _ _) q2.1⟩ q2.2
    · exact Out.ret fr2 ⟨zip_w _ _, Nat.le_trans (zip_len _ _) q2.1⟩ q2.2
    · exact Out.ret fr2 ⟨zip_w _ _, Nat.le_trans (zip_len _ _) q2.1⟩ q2.2
    · exact Out.ret fr2 ⟨zip_w _ _, Nat.le_trans (zip_len _ _) q2.1⟩ q2.2
    · exact q2.elim
  | .rvd e, ρw, Q, X, ρ, S, t, T, h, f, ht, hT => by
    simp only [coI] at ht
    simp only [wpI] at h
    simp only [evI]
    refine Out.bind (sE hc e T h f ht hT) (Nat.le_refl _) fun v y S1 ρw1 r fr q => ?_
    cases r
    obtain ⟨xs, e1, _, l, q⟩ := plain_w (S := S1) q
    rw [e1]
    exact Out.ret fr ⟨by simp, by simpa using l⟩ q
  | .rvr es, ρw, Q, X, ρ, S, t, T, h, f, ht, hT => by
    simp only [coI] at ht
    simp only [wpI] at h
    simp only [evI]
    refine Out.bind (sEs hc es T h f ht hT) (Nat.le_refl _) fun v y S1 ρw1 r fr q => ?_
    cases r
    obtain ⟨xs, e1, l, q⟩ := range_w q
    rw [e1]
    exact Out.ret fr ⟨by simp, by simpa using l⟩ q
end
end
end Tz

end
section
/-! Tz.Snd4: statements, calls. -/
namespace Tz
open PySem
def pk (k : L2.Key) (v : PyData) : List (L2.Key × PyData) → List (L2.Key × PyData)
  | [] => [(k, v)]
  | (j, w) :: r => if j = k then (j, v) :: r else (j, w) :: pk k v r
inductive OutF (B : BxS) (n0 T : Nat) (ρw : We) (ρ : Env) (S : Store) (nx : We → Prop) (K : Ko) : Fl → Store → Prop
  | nx {ρ' : Env} {S' : Store} {ρw' : We} : Fr B n0 T ρw' ρ' S' → Go B ρw ρ S ρw' ρ' S' → nx ρw' → OutF B n0 T ρw ρ S nx K (.nx ρ') S'
  | rt {ρ' : Env} {S' : Store} {ρw' : We} {x : PyData} : Fr B n0 T ρw' ρ' S' → Go B ρw ρ S ρw' ρ' S' → K.rt x → OutF B n0 T ρw ρ S nx K (.rt (.d x)) S'
  | bk {ρ' : Env} {S' : Store} {ρw' : We} : Fr B n0 T ρw' ρ' S' → Go B ρw ρ S ρw' ρ' S' → K.bk ρw' → OutF B n0 T ρw ρ S nx K (.bk ρ') S'
  | ct {ρ' : Env} {S' : Store} {ρw' : We} : Fr B n0 T ρw' ρ' S' → Go B ρw ρ S ρw' ρ' S' → K.ct ρw' → OutF B n0 T ρw ρ S nx K (.ct ρ') S'
  | xc {ρ' : Env} {S' : Store} {ρw' : We} {e : Ex} {x : Wx} : ExR e x → Fr B n0 T ρw' ρ' S' → Go B ρw ρ S ρw' ρ' S' → K.xc x ρw' → OutF B n0 T ρw ρ S nx K (.xc e ρ') S'
def OutS (B : BxS) (n0 T : Nat) (ρw : We) (ρ : Env) (S : Store) (nx : We → Prop) (K : Ko) (m : R Fl) : Prop := ∃ fl S', m = .ok fl S' ∧ OutF B n0 T ρw ρ S nx K fl S'
/-- an own value that is just made -/
def relV (B : BxS) (n0 : Nat) (S0 : Store) (S : Store) (ρw : We) (ρ : Env) (v : Wv) (u : Vl) : Prop := RV B n0 S v u ∧ ∀ x n, v = .o x → u = .r n → S0.length ≤ n ∧ ¬ Owns ρw ρ n
def OutV (B : BxS) (n0 T : Nat) (ρw : We) (ρ : Env) (S : Store) (Q : Wv → We → Prop) (X : Wx → We → Prop) (m : R Vl) : Prop :=
  (∃ u v S' ρw', m = .ok u S' ∧ relV B n0 S S' ρw' ρ v u ∧ Fr B n0 T ρw' ρ S' ∧ Go B ρw ρ S ρw' ρ S' ∧ Q v ρw') ∨
  (∃ e x S' ρw', m = .ex e S' ∧ ExR e x ∧ Fr B n0 T ρw' ρ S' ∧ Go B ρw ρ S ρw' ρ S' ∧ X x ρw')
section
variable {B : BxS} {n0 L c : Nat} {cw : Cf} {cf : Str → List Vl → Store → R Vl} {G : Str → Option PyData} {ρw ρw1 : We} {ρ ρ1 : Env} {S S1 : Store} {T T1 : Nat} {nx : We → Prop} {K : Ko}
theorem OutF.trans {fl : Fl} {S2 : Store} (g : Go B ρw ρ S ρw1 ρ1 S1) (h : OutF B n0 T ρw1 ρ1 S1 nx K fl S2) : OutF B n0 T ρw ρ S nx K fl S2 := by
  cases h with
  | nx a b d => exact .nx a (g.trans b) d
  | rt a b d => exact .rt a (g.trans b) d
  | bk a b d => exact .bk a (g.trans b) d
  | ct a b d => exact .ct a (g.trans b) d
  | xc e a b d => exact .xc e a (g.trans b) d
theorem OutS.trans {m : R Fl} (g : Go B ρw ρ S ρw1 ρ1 S1) (h : OutS B n0 T ρw1 ρ1 S1 nx K m) : OutS B n0 T ρw ρ S nx K m := by
  obtain ⟨fl, S2, e, h⟩ := h
  exact ⟨fl, S2, e, h.trans g⟩
theorem OutS.of {α β : Type} {rel : Store → α → β → Prop} {Q : β → We → Prop} {m : R α} {f : α → Store → R Fl} (h : Out B n0 T1 ρw ρ S rel Q K.xc m) (hT : T1 ≤ T)
    (g : ∀ a b S1 ρw1, rel S1 a b → Fr B n0 T1 ρw1 ρ S1 → Go B ρw ρ S ρw1 ρ S1 → Q b ρw1 → OutS B n0 T ρw ρ S nx K (f a S1)) : OutS B n0 T ρw ρ S nx K (m.bindS ρ f) := by
  rcases h with ⟨a, b, S1, ρw1, rfl, r, fr, go, q⟩ | ⟨e, x, S1, ρw1, rfl, r, fr, go, q⟩
  · exact g a b S1 ρw1 r fr go q
  · exact ⟨_, _, rfl, .xc r (fr.mono hT) go q⟩
theorem OutS.ofV {Q : Wv → We → Prop} {m : R Vl} {f : Vl → Store → R Fl} (h : OutV B n0 T1 ρw ρ S Q K.xc m) (hT : T1 ≤ T)
    (g : ∀ u v S1 ρw1, relV B n0 S S1 ρw1 ρ v u → Fr B n0 T1 ρw1 ρ S1 → Go B ρw ρ S ρw1 ρ S1 → Q v ρw1 → OutS B n0 T ρw ρ S nx K (f u S1)) : OutS B n0 T ρw ρ S nx K (m.bindS ρ f) := by
  rcases h with ⟨a, b, S1, ρw1, rfl, r, fr, go, q⟩ | ⟨e, x, S1, ρw1, rfl, r, fr, go, q⟩
  · exact g a b S1 ρw1 r fr go q
  · exact ⟨_, _, rfl, .xc r (fr.mono hT) go q⟩
/-- a new own list -/
theorem new_ok {Q : Wv → We → Prop} {X : Wx → We → Prop} {S0 : Store} {ρw0 : We} {o : Ob} {x : PyData} (f : Fr B n0 T ρw ρ S) (g : Go B ρw0 ρ S0 ρw ρ S) (ho : holds (S ++ [some o]) S.length x) (q : Q (.o x) ρw) : OutV B n0 T ρw0 ρ S0 Q X (.ok (.r S.length) (S ++ [some o])) := by
  obtain ⟨f2, g2⟩ := f.new (o := some o)
  refine .inl ⟨_, .o x, _, ρw, rfl, ⟨⟨S.length, rfl, f.hi, ho⟩, fun y n e1 e2 => ?_⟩, f2, g.trans g2, q⟩
  cases e2
  exact ⟨g.len, fun z => Nat.lt_irrefl _ (f.own_lt z)⟩
theorem kv_zip : ∀ (ks : List L2.Key) (xs : List PyData), (ks.map keyD).zip xs = kvD (ks.zip xs) ∧ ks.zip (xs.map Vl.d) = kvV (ks.zip xs)
  | [], _ => by simp [kvD, kvV]
  | _ :: _, [] => by simp [kvD, kvV]
  | k :: ks, x :: xs => by
    obtain ⟨h1, h2⟩ := kv_zip ks xs
    constructor
    · rw [List.map_cons, List.zip_cons_cons, h1]; rfl
    · rw [List.map_cons, List.zip_cons_cons, h2]; rfl
theorem Out.toV {Q : Wv → We → Prop} {X : Wx → We → Prop} {m : R Vl} (h : Out B n0 T ρw ρ S relD (fun x ρ1 => Q (.d x) ρ1) X m) : OutV B n0 T ρw ρ S Q X m := by
  rcases h with ⟨a, b, S1, ρw1, rfl, r, fr, go, q⟩ | ⟨e, x, S1, ρw1, rfl, r, fr, go, q⟩
  · exact .inl ⟨a, .d b, S1, ρw1, rfl, ⟨r, fun _ _ z => (by cases z)⟩, fr, go, q⟩
  · exact .inr ⟨e, x, S1, ρw1, rfl, r, fr, go, q⟩
theorem OutV.of {α β : Type} {rel : Store → α → β → Prop} {Q1 : β → We → Prop} {Q : Wv → We → Prop} {X : Wx → We → Prop} {m : R α} {f : α → Store → R Vl} (h : Out B n0 T1 ρw ρ S rel Q1 X m) (hT : T1 ≤ T)
    (g : ∀ a b S1 ρw1, rel S1 a b → Fr B n0 T1 ρw1 ρ S1 → Go B ρw ρ S ρw1 ρ S1 → Q1 b ρw1 → OutV B n0 T ρw ρ S Q X (f a S1)) : OutV B n0 T ρw ρ S Q X (m.bind f) := by
  rcases h with ⟨a, b, S1, ρw1, rfl, r, fr, go, q⟩ | ⟨e, x, S1, ρw1, rfl, r, fr, go, q⟩
  · exact g a b S1 ρw1 r fr go q
  · exact .inr ⟨e, x, S1, ρw1, rfl, r, fr.mono hT, go, q⟩
theorem sV (hc : CallOk B L c cw cf) (e : E) {Q : Wv → We → Prop} {X : Wx → We → Prop} {t : Nat} (T : Nat) (h : wpV cw G e ρw Q X) (f : Fr B n0 t ρw ρ S) (ht : t + coE c e ≤ T) (hT : T ≤ L) : OutV B n0 T ρw ρ S Q X (ev cf G e ρ S) := by
  unfold wpV at h
  split at h
  · rename_i es
    simp only [coE] at ht
    simp only [ev]
    refine OutV.of (sEs hc es T h f ht hT) (Nat.le_refl _) fun x y S1 ρw1 r fr go q => ?_
    cases r
    rw [newLt_w q.1]
    exact new_ok fr go (by show (S1 ++ [_])[S1.length]? = _; simp) q.2
  · rename_i op a b
    simp only [coE] at ht
    simp only [ev]
    refine OutV.of (sE hc a (t + coE c a) h f (Nat.le_refl _) (by omega)) (by omega) fun x x1 S1 ρw1 r fr go q => ?_
    cases r
    rcases sE hc b T q fr (by omega) hT with ⟨y, y1, S2, ρw2, e2, r2, fr2, go2, q2⟩ | ⟨e, x2, S2, ρw2, e2, r2, fr2, go2, q2⟩
    · cases r2
      rw [e2]
      show OutV _ _ _ _ _ _ _ _ (binLV op (.d x1) (.d y1) S2)
      have nw : ∀ xs : List PyData, xs.length ≤ sizeLine → Q (.o (.list xs)) ρw2 → OutV B n0 T ρw ρ S Q X (newL true (xs.map .d) S2) := fun xs l q => by
        rw [newLt_w l]
        exact new_ok fr2 (go.trans go2) (by show (S2 ++ [_])[S2.length]? = _; simp) q
      unfold binLW at q2
      split at q2
      · simp only [binLV, q2.1, if_true]
        exact nw _ (by rw [List.length_append]; exact q2.1) q2.2
      · rename_i a k
        have hz : (decide (k ≤ 1000000) && decide (-1000000 ≤ k) && decide (a.length * k.toNat ≤ sizeLine)) = true := by simp only [Bool.and_eq_true, decide_eq_true_eq]; exact ⟨⟨q2.1.1, q2.1.2.1⟩, q2.1.2.2⟩
        simp only [binLV, hz, if_true]
        exact nw _ (by simp only [List.length_flatten, List.map_replicate, List.sum_replicate_nat]; rw [Nat.mul_comm]; exact q2.1.2.2) q2.2
      · exact q2.elim
    · rw [e2]
      exact .inr ⟨e, x2, S2, ρw2, rfl, r2, fr2, go.trans go2, q2⟩
  · rename_i ks es
    simp only [coE] at ht
    simp only [ev]
    refine OutV.of (Out.noX (sEs hc es T h.2 f ht hT)) (Nat.le_refl _) fun x y S1 ρw1 r fr go q => ?_
    cases r
    rw [if_pos (by simp only [Bool.and_eq_true, decide_eq_true_eq, List.length_map]; exact ⟨h.1.1, q.1, h.1.2⟩), if_pos trivial]
    refine new_ok (x := .dict ((ks.map keyD).zip y)) fr go ⟨ks.zip y, (kv_zip ks y).1, ?_⟩ q.2
    rw [(kv_zip ks y).2]
    simp
  · rename_i a
    simp only [coE, coEs] at ht
    simp only [ev]
    have ea : evs cf G (.cons a .nil) ρ S = (ev cf G a ρ S).bind fun x S1 => .ok [x] S1 := by
      simp only [evs]
      cases ev cf G a ρ S <;> rfl
    rw [ea]
    have eb : (((ev cf G a ρ S).bind fun x S1 => R.ok [x] S1).bind fun xs S1 => biV (.list true) xs S1) = (ev cf G a ρ S).bind fun x S1 => biV (.list true) [x] S1 := by
      cases ev cf G a ρ S <;> rfl
    rw [eb]
    refine OutV.of (sRd (sE hc a) T h f (by omega) hT) (Nat.le_refl _) fun x y S1 ρw1 r fr go q => ?_
    have nw : ∀ xs : List PyData, xs.length ≤ sizeLine → Q (.o (.list xs)) ρw1 → OutV B n0 T ρw ρ S Q X (newL true (xs.map .d) S1) := fun xs l q => by
      rw [newLt_w l]
      exact new_ok fr go (by show (S1 ++ [_])[S1.length]? = _; simp) q
    unfold plainW at q
    split at q
    · rename_i xs
      rcases r with rfl | ⟨n, rfl, hn⟩
      · exact nw xs q.1 q.2
      · have hn : S1[n]? = _ := hn
        simp only [biV, seqL, hn]
        exact nw xs q.1 q.2
    · rename_i xs
      rcases r with rfl | ⟨n, rfl, hn⟩
      · exact nw xs q.1 q.2
      · exact hn.elim
    · exact q.elim
  · rename_i own tg it d elt
    simp only [coE] at ht
    simp only [ev]
    refine OutV.of (sI hc it (t + coI c it) h f (Nat.le_refl _) (by omega)) (by omega) fun vs xs S1 ρw1 r fr go q => ?_
    obtain ⟨rfl, lx⟩ := r
    have kk : xs.length * (coP c d + coE c elt) ≤ sizeLine * (coP c d + coE c elt) := Nat.mul_le_mul_right _ lx
    obtain ⟨ys, S2, e2, l2, f2, g2, q2⟩ := lc_ok (L := L) (k := coP c d + coE c elt) (ff := fun x Sa => match setTg tg x (wipeE ρ own) with
      | some ρ1 => (evC cf G d ρ1 Sa).bind fun k Sb => if k then (ev cf G elt ρ1 Sb).bind fun y Sc => .ok [y] Sc else .ok [] Sb
      | none => .fail) (fun {x K S t} hx fx hl => sLc (sC hc d) (sE hc elt) hx fx hl) q fr (by omega)
    refine (congrArg (OutV B n0 T ρw ρ S Q X) ((congrArg (fun m => (noEx m).bind fun ys S2 => newL true ys S2) e2).trans (newLt_w (Nat.le_trans l2 lx)))).mpr ?_
    exact new_ok (f2.mono (by omega)) (go.trans g2) (by show (S2 ++ [_])[S2.length]? = _; simp) q2
  · exact Out.toV (sE hc e T h f ht hT)
theorem setTgW_v {tg : Tg} {v : Wv} {u : Vl} {ρw' : We} {S0 : Store} {ρw0 : We} {ρ0 : Env} (e : setTgW tg v ρw = some ρw') (f : Fr B n0 T ρw ρ S) (r : relV B n0 S0 S ρw ρ v u) (g : Go B ρw0 ρ0 S0 ρw ρ S) : ∃ ρ', setTg tg u ρ = some ρ' ∧ Fr B n0 T ρw' ρ' S ∧ Go B ρw0 ρ0 S0 ρw' ρ' S := by
  cases tg with
  | nm i =>
    unfold setTgW at e
    cases e
    exact ⟨_, rfl, f.set r.1 fun x n z1 z2 => (r.2 x n z1 z2).2, g.set f.len fun x n z1 z2 => (r.2 x n z1 z2).1⟩
  | tp ts =>
    cases v with
    | d x =>
      cases r.1
      obtain ⟨ρ', e1, f1, s1⟩ := setTg_d e f
      exact ⟨ρ', e1, f1, g.trans s1.go⟩
    | o x => unfold setTgW at e; cases e
    | b x => unfold setTgW at e; cases e
    | box => unfold setTgW at e; cases e
/-- a pending value stays -/
theorem relV.later {v : Wv} {u : Vl} {S0 : Store} (f : Fr B n0 T ρw ρ S) (r : relV B n0 S0 S ρw ρ v u) (g : Go B ρw ρ S ρw1 ρ S1) : relV B n0 S0 S1 ρw1 ρ v u := by
  cases v with
  | d x => exact ⟨r.1, fun _ _ z => (by cases z)⟩
  | o x =>
    obtain ⟨⟨n, rfl, l, q⟩, p⟩ := r
    obtain ⟨p1, p2⟩ := p x n rfl rfl
    obtain ⟨e, o⟩ := g.fr n (Nat.le_trans f.lo l) (holds_lt q) p2
    refine ⟨⟨n, rfl, l, holds_at q e⟩, fun y m z1 z2 => ?_⟩
    cases z2
    exact ⟨p1, o⟩
  | b x =>
    obtain ⟨⟨n, rfl, l, l2, q⟩, p⟩ := r
    refine ⟨⟨n, rfl, l, l2, holds_at q (g.fr n l (holds_lt q) fun o => ?_).1⟩, fun _ _ z => (by cases z)⟩
    have := f.own_lo o
    omega
  | box => exact ⟨r.1, fun _ _ z => (by cases z)⟩
theorem put_w {cc k x : PyData} {n : Nat} {Q : PyData → Prop} (hn : holds S n cc) (h : putW cc k x Q) : ∃ c' o, putV (.r n) (.d k) (.d x) S = .ok () (S.set n (some o)) ∧ holds (S.set n (some o)) n c' ∧ Q c' := by
  have hl := holds_lt hn
  unfold putW at h
  split at h
  · rename_i xs
    have hn : S[n]? = _ := hn
    split at h
    · obtain ⟨j, e, q⟩ := h
      refine ⟨_, .lst ((List.map Vl.d xs).set j (.d x)), ?_, ?_, q⟩
      · simp only [putV, hn, List.length_map, e, refsBelow, if_true, setO]
      · show (S.set n _)[n]? = _
        rw [List.getElem?_set_self hl, List.map_set]
    · exact h.elim
  · rename_i kvs
    obtain ⟨l, rfl, hn⟩ := hn
    obtain ⟨key, e, h1, q⟩ := key_w h
    have hp : ∀ l : List (L2.Key × PyData), putK key (.d x) (kvV l) = kvV (pk key x l) ∧ putD key x (kvD l) = kvD (pk key x l) := fun l => by
      induction l with
      | nil => exact ⟨rfl, rfl⟩
      | cons p r ih =>
        obtain ⟨j, w⟩ := p
        constructor
        · show (if j = key then _ else _) = kvV (if j = key then _ else _)
          split
          · rfl
          · show _ :: putK key (.d x) (kvV r) = _
            rw [ih.1]
            rfl
        · show (if keyOf (keyD j) = some key then _ else _) = kvD (if j = key then _ else _)
          rw [keyOf_Dw]
          by_cases hj : j = key
          · rw [if_pos hj, if_pos (by rw [hj])]
            rfl
          · rw [if_neg hj, if_neg (fun z => hj (Option.some.inj z))]
            show _ :: putD key x (kvD r) = _
            rw [ih.2]
            rfl
    refine ⟨.dict (putD key x (kvD l)), .dic (putK key (.d x) (kvV l)), ?_, ⟨pk key x l, (hp l).2, ?_⟩, q⟩
    · have hlen : (kvV l).length < sizeLine := by simpa [kvV, kvD] using h1
      simp only [putV, hn, e, refsBelow, hlen, decide_true, Bool.and_self, if_true, setO]
    · rw [List.getElem?_set_self hl, (hp l).1]
  · exact h.elim
/-! ### statements -/
theorem for_ok {fw : PyData → We → (We → Prop) → Prop} {ff : Vl → Env → Store → R Fl} {k : Nat} {rt : PyData → Prop} {xc : Wx → We → Prop} {bk ct : We → Prop}
    (step : ∀ {x : PyData} {ρw : We} {ρ : Env} {S : Store} {t : Nat} {kn : We → Prop}, fw x ρw kn → Fr B n0 t ρw ρ S → t + k ≤ L → OutS B n0 (t + k) ρw ρ S kn ⟨rt, nx, kn, xc⟩ (ff (.d x) ρ S)) :
    ∀ {xs : List PyData} {ρw : We} {ρ : Env} {S : Store} {t : Nat}, forW fw nx xs ρw → Fr B n0 t ρw ρ S → t + xs.length * k ≤ L → OutS B n0 (t + xs.length * k) ρw ρ S nx ⟨rt, bk, ct, xc⟩ (forL ff (xs.map .d) ρ S)
  | [], ρw, ρ, S, t, h, f, hl => ⟨_, _, rfl, .nx (f.mono (by omega)) Go.refl h⟩
  | x :: r, ρw, ρ, S, t, h, f, hl => by
    have e : (x :: r).length * k = r.length * k + k := by rw [List.length_cons, Nat.succ_mul]
    rw [e] at hl ⊢
    obtain ⟨fl, S1, e1, o1⟩ := step (x := x) h f (by omega)
    have e0 : forL ff ((x :: r).map .d) ρ S = (ff (.d x) ρ S).bind fun fl S1 => match fl with
      | .nx ρ1 => forL ff (r.map .d) ρ1 S1
      | .ct ρ1 => forL ff (r.map .d) ρ1 S1
      | .bk ρ1 => .ok (.nx ρ1) S1
      | .rt v => .ok (.rt v) S1
      | .xc y ρ1 => .ok (.xc y ρ1) S1 := rfl
    rw [e0, e1]
    cases o1 with
    | nx a b d =>
      have z := for_ok (bk := bk) (ct := ct) step (xs := r) d a (by omega)
      rw [show t + k + r.length * k = t + (r.length * k + k) by omega] at z
      exact z.trans b
    | ct a b d =>
      have z := for_ok (bk := bk) (ct := ct) step (xs := r) d a (by omega)
      rw [show t + k + r.length * k = t + (r.length * k + k) by omega] at z
      exact z.trans b
    | bk a b d => exact ⟨_, _, rfl, .nx (a.mono (by omega)) b d⟩
    | rt a b d => exact ⟨_, _, rfl, .rt (a.mono (by omega)) b d⟩
    | xc e a b d => exact ⟨_, _, rfl, .xc e (a.mono (by omega)) b d⟩
theorem whl_ok {cwd : We → (Bool → We → Prop) → Prop} {fw : We → (We → Prop) → Prop} {cc : Env → Store → R Bool} {ff : Env → Store → R Fl} {k1 k2 : Nat} {rt : PyData → Prop} {xc : Wx → We → Prop} {bk ct : We → Prop}
    (cond : ∀ {ρw : We} {ρ : Env} {S : Store} {t : Nat} {Q : Bool → We → Prop}, cwd ρw Q → Fr B n0 t ρw ρ S → t + k1 ≤ L → Out B n0 (t + k1) ρw ρ S relE Q xc (cc ρ S))
    (step : ∀ {ρw : We} {ρ : Env} {S : Store} {t : Nat} {kn : We → Prop}, fw ρw kn → Fr B n0 t ρw ρ S → t + k2 ≤ L → OutS B n0 (t + k2) ρw ρ S kn ⟨rt, nx, kn, xc⟩ (ff ρ S)) :
    ∀ {n : Nat} {ρw : We} {ρ : Env} {S : Store} {t : Nat}, whlW cwd fw nx n ρw → Fr B n0 t ρw ρ S → t + n * (k1 + k2) ≤ L → OutS B n0 (t + n * (k1 + k2)) ρw ρ S nx ⟨rt, bk, ct, xc⟩ (whlL cc ff n ρ S)
  | 0, ρw, ρ, S, t, h, f, hl => h.elim
  | n + 1, ρw, ρ, S, t, h, f, hl => by
    have e : (n + 1) * (k1 + k2) = n * (k1 + k2) + (k1 + k2) := Nat.succ_mul ..
    rw [e] at hl ⊢
    refine OutS.of (cond h f (by omega)) (by omega) fun b b2 S1 ρw1 r fr go q => ?_
    cases r
    show OutS _ _ _ _ _ _ _ _ (if b then _ else _)
    cases b with
    | false => exact ⟨_, _, rfl, .nx (fr.mono (by omega)) go (q.2 rfl)⟩
    | true =>
      rw [if_pos rfl]
      obtain ⟨fl, S2, e1, o1⟩ := step (q.1 rfl) fr (by omega)
      rw [e1]
      refine OutS.trans go ?_
      cases o1 with
      | nx a b d =>
        have z := whl_ok (bk := bk) (ct := ct) cond step (n := n) d a (by omega)
        rw [show t + k1 + k2 + n * (k1 + k2) = t + (n * (k1 + k2) + (k1 + k2)) by omega] at z
        exact z.trans b
      | ct a b d =>
        have z := whl_ok (bk := bk) (ct := ct) cond step (n := n) d a (by omega)
        rw [show t + k1 + k2 + n * (k1 + k2) = t + (n * (k1 + k2) + (k1 + k2)) by omega] at z
        exact z.trans b
      | bk a b d => exact ⟨_, _, rfl, .nx (a.mono (by omega)) b d⟩
      | rt a b d => exact ⟨_, _, rfl, .rt (a.mono (by omega)) b d⟩
      | xc e a b d => exact ⟨_, _, rfl, .xc e (a.mono (by omega)) b d⟩
theorem OutS.mono {m : R Fl} (h : OutS B n0 T1 ρw ρ S nx K m) (hT : T1 ≤ T) : OutS B n0 T ρw ρ S nx K m := by
  obtain ⟨fl, S2, e, h⟩ := h
  refine ⟨fl, S2, e, ?_⟩
  cases h with
  | nx a b d => exact .nx (a.mono hT) b d
  | rt a b d => exact .rt (a.mono hT) b d
  | bk a b d => exact .bk (a.mono hT) b d
  | ct a b d => exact .ct (a.mono hT) b d
  | xc er a b d => exact .xc er (a.mono hT) b d
variable {W : Nat}
mutual
theorem sS (hc : CallOk B L c cw cf) : ∀ (s : St) {ρw : We} {nx : We → Prop} {K : Ko} {ρ : Env} {S : Store} {t : Nat} (T : Nat), wpS cw G W s ρw nx K → Fr B n0 t ρw ρ S → t + coS c W s ≤ T → T ≤ L → OutS B n0 T ρw ρ S nx K (exS cf G W s ρ S)
  | .expr e, ρw, nx, K, ρ, S, t, T, h, f, ht, hT => by
    simp only [coS] at ht
    simp only [wpS] at h
    simp only [exS]
    exact OutS.of (sE hc e T h f ht hT) (Nat.le_refl _) fun a b S1 ρw1 r fr go q => ⟨_, _, rfl, .nx fr go q⟩
  | .asg tg e, ρw, nx, K, ρ, S, t, T, h, f, ht, hT => by
    simp only [coS] at ht
    simp only [wpS] at h
    simp only [exS]
    refine OutS.ofV (sV hc e T h f ht hT) (Nat.le_refl _) fun u v S1 ρw1 r fr go q => ?_
    split at q
    · rename_i ρw2 e2
      obtain ⟨ρ2, e3, f3, g3⟩ := setTgW_v e2 fr r go
      rw [e3]
      exact ⟨_, _, rfl, .nx f3 g3 q⟩
    · exact q.elim
  | .par2 i j a b, ρw, nx, K, ρ, S, t, T, h, f, ht, hT => by
    simp only [coS] at ht
    simp only [wpS] at h
    simp only [exS]
    rcases sV hc a (t + coE c a) h f (Nat.le_refl _) (by omega) with ⟨u1, v1, S1, ρw1, e1, r1, f1, g1, q1⟩ | ⟨e, x, S1, ρw1, e1, r1, f1, g1, q1⟩
    · rcases sV hc b T q1 f1 (by omega) hT with ⟨u2, v2, S2, ρw2, e2, r2, f2, g2, q2⟩ | ⟨e, x, S2, ρw2, e2, r2, f2, g2, q2⟩
      · rw [e1]
        show OutS _ _ _ _ _ _ _ _ (((ev cf G b ρ S1).bind fun y S2 => R.ok (u1, y) S2).bindS ρ _)
        rw [e2]
        have r1' := r1.later f1 g2
        have go := g1.trans g2
        have s1 := f2.set (i := i) r1'.1 fun x n z1 z2 => (r1'.2 x n z1 z2).2
        refine ⟨_, _, rfl, .nx (s1.set (i := j) r2.1 fun x n z1 z2 o => ?_) ((go.set f2.len fun x n z1 z2 => (r1'.2 x n z1 z2).1).set s1.len fun x n z1 z2 => Nat.le_trans g1.len (r2.2 x n z1 z2).1) q2⟩
        rcases owns_set f2.len o with o | ⟨y, z3, z4⟩
        · exact (r2.2 x n z1 z2).2 o
        · have l1 := (r2.2 x n z1 z2).1
          subst z3 z4
          obtain ⟨m, em, _, hm⟩ := r1.1
          cases em
          have := holds_lt hm
          omega
      · rw [e1]
        show OutS _ _ _ _ _ _ _ _ (((ev cf G b ρ S1).bind fun y S2 => R.ok (u1, y) S2).bindS ρ _)
        rw [e2]
        exact ⟨_, _, rfl, .xc r2 f2 (g1.trans g2) q2⟩
    · rw [e1]
      exact ⟨_, _, rfl, .xc r1 (f1.mono (by omega)) g1 q1⟩
  | .par3 i j k a b d, ρw, nx, K, ρ, S, t, T, h, f, ht, hT => by
    simp only [coS] at ht
    simp only [wpS] at h
    simp only [exS]
    rcases sV hc a (t + coE c a) h f (Nat.le_refl _) (by omega) with ⟨u1, v1, S1, ρw1, e1, r1, f1, g1, q1⟩ | ⟨e, x, S1, ρw1, e1, r1, f1, g1, q1⟩
    · rcases sV hc b (t + coE c a + coE c b) q1 f1 (Nat.le_refl _) (by omega) with ⟨u2, v2, S2, ρw2, e2, r2, f2, g2, q2⟩ | ⟨e, x, S2, ρw2, e2, r2, f2, g2, q2⟩
      · rcases sV hc d T q2 f2 (by omega) hT with ⟨u3, v3, S3, ρw3, e3, r3, f3, g3, q3⟩ | ⟨e, x, S3, ρw3, e3, r3, f3, g3, q3⟩
        · rw [e1]
          show OutS _ _ _ _ _ _ _ _ (((ev cf G b ρ S1).bind _).bindS ρ _)
          rw [e2]
          show OutS _ _ _ _ _ _ _ _ (((ev cf G d ρ S2).bind _).bindS ρ _)
          rw [e3]
          have r1' := r1.later f1 (g2.trans g3)
          have r2' := r2.later f2 g3
          have go := g1.trans (g2.trans g3)
          have s1 := f3.set (i := i) r1'.1 fun x n z1 z2 => (r1'.2 x n z1 z2).2
          have lt1 : ∀ x n, v1 = .o x → u1 = .r n → n < S1.length := fun x n z1 z2 => by
            subst z1 z2
            obtain ⟨m, em, _, hm⟩ := r1.1
            cases em
            exact holds_lt hm
          have lt2 : ∀ x n, v2 = .o x → u2 = .r n → n < S2.length := fun x n z1 z2 => by
            subst z1 z2
            obtain ⟨m, em, _, hm⟩ := r2.1
            cases em
            exact holds_lt hm
          have s2 := s1.set (i := j) (v := v2) (u := u2) r2'.1 fun x n z1 z2 o => by
            rcases owns_set f3.len o with o | ⟨y, z3, z4⟩
            · exact (r2'.2 x n z1 z2).2 o
            · have l1 := (r2.2 x n z1 z2).1
              have := lt1 y n z3 z4
              omega
          refine ⟨_, _, rfl, .nx (s2.set (i := k) (v := v3) (u := u3) r3.1 fun x n z1 z2 o => ?_) (((go.set f3.len fun x n z1 z2 => (r1'.2 x n z1 z2).1).set s1.len fun x n z1 z2 => Nat.le_trans g1.len (r2.2 x n z1 z2).1).set s2.len fun x n z1 z2 => Nat.le_trans (Nat.le_trans g1.len g2.len) (r3.2 x n z1 z2).1) q3⟩
          rcases owns_set s1.len o with o | ⟨y, z3, z4⟩
          · rcases owns_set f3.len o with o | ⟨y, z3, z4⟩
            · exact (r3.2 x n z1 z2).2 o
            · have l1 := (r3.2 x n z1 z2).1
              have l2 := lt1 y n z3 z4
              have := g2.len
              omega
          · have l1 := (r3.2 x n z1 z2).1
            have := lt2 y n z3 z4
            omega
        · rw [e1]
          show OutS _ _ _ _ _ _ _ _ (((ev cf G b ρ S1).bind _).bindS ρ _)
          rw [e2]
          show OutS _ _ _ _ _ _ _ _ (((ev cf G d ρ S2).bind _).bindS ρ _)
          rw [e3]
          exact ⟨_, _, rfl, .xc r3 f3 (g1.trans (g2.trans g3)) q3⟩
      · rw [e1]
        show OutS _ _ _ _ _ _ _ _ (((ev cf G b ρ S1).bind _).bindS ρ _)
        rw [e2]
        exact ⟨_, _, rfl, .xc r2 (f2.mono (by omega)) (g1.trans g2) q2⟩
    · rw [e1]
      exact ⟨_, _, rfl, .xc r1 (f1.mono (by omega)) g1 q1⟩
  | .put o i v, ρw, nx, K, ρ, S, t, T, h, f, ht, hT => by
    simp only [coS] at ht
    simp only [wpS] at h
    simp only [exS]
    split at h
    · rename_i n hv
      cases varOf_eq hv
      have z : Out B n0 T ρw ρ S (fun _ (_ : Unit) (_ : Unit) => True) (fun _ ρ1 => nx ρ1) K.xc ((ev cf G v ρ S).bind fun x S1 => (ev cf G (.var n) ρ S1).bind fun y S2 => (ev cf G i ρ S2).bind fun z S3 => putV y z x S3) := by
        refine Out.bind (sE hc v (t + coE c v) h f (Nat.le_refl _) (by omega)) (by omega) fun x x1 S1 ρw1 r fr q => ?_
        cases r
        obtain ⟨u, _, eu, _, q⟩ := rdW_ok q fr
        rw [ev_at eu]
        show Out _ _ _ _ _ _ _ _ _ ((ev cf G i ρ S1).bind _)
        refine Out.bind (sE hc i T q fr (by omega) hT) (Nat.le_refl _) fun y y1 S2 ρw2 r2 fr2 q2 => ?_
        cases r2
        split at q2
        · rename_i cc ec
          obtain ⟨u2, e2, m, rfl, l, hn⟩ := fr2.val n _ ec
          rw [eu] at e2
          cases e2
          obtain ⟨c', o, e3, h3, q3⟩ := put_w hn q2
          rw [e3]
          obtain ⟨f4, g4⟩ := fr2.put (c := some o) (v := some (.o c')) ec eu (.inr ⟨_, rfl, h3⟩)
          exact .inl ⟨(), (), _, _, rfl, trivial, f4, g4, q3⟩
        · exact q2.elim
      exact OutS.of z (Nat.le_refl _) fun a b S1 ρw1 r fr go q => ⟨_, _, rfl, .nx fr go q⟩
    · exact h.elim
  | .aug i op e, ρw, nx, K, ρ, S, t, T, h, f, ht, hT => by
    simp only [coS] at ht
    simp only [wpS] at h
    simp only [exS]
    split at h
    · rename_i x ex
      obtain ⟨u, e1, r1⟩ := f.val i _ ex
      cases r1
      rw [e1]
      dsimp only
      have z : Out B n0 T ρw ρ S relD (fun z ρ1 => nx (ρ1.set i (some (.d z)))) K.xc ((ev cf G e ρ S).bind fun y S1 => augV op (.d x) y S1) := by
        refine Out.bind (sE hc e T h f ht hT) (Nat.le_refl _) fun y y1 S1 ρw1 r fr q => ?_
        cases r
        obtain ⟨z, e2, q⟩ := aug_w (S := S1) q
        rw [e2]
        exact Out.ret fr rfl q
      refine OutS.of z (Nat.le_refl _) fun a b S1 ρw1 r fr go q => ?_
      cases r
      exact ⟨_, _, rfl, .nx (fr.set (v := .d b) rfl fun _ _ z => by cases z) (go.set (v := .d b) fr.len fun _ _ z => by cases z) q⟩
    · exact h.elim
  | .ret e, ρw, nx, K, ρ, S, t, T, h, f, ht, hT => by
    simp only [coS] at ht
    simp only [wpS] at h
    simp only [exS]
    refine OutS.of (sE hc e T h f ht hT) (Nat.le_refl _) fun a b S1 ρw1 r fr go q => ?_
    cases r
    exact ⟨_, _, rfl, .rt fr go q⟩
  | .retN, ρw, nx, K, ρ, S, t, T, h, f, ht, hT => ⟨_, _, rfl, .rt (f.mono (by omega)) Go.refl h⟩
  | .ifs e a b, ρw, nx, K, ρ, S, t, T, h, f, ht, hT => by
    simp only [coS] at ht
    simp only [wpS] at h
    simp only [exS]
    have z : Out B n0 (t + coE c e) ρw ρ S relE (fun k ρ1 => (k = true → wpSs cw G W a ρ1 nx K) ∧ (k = false → wpSs cw G W b ρ1 nx K)) K.xc ((ev cf G e ρ S).bind fun x S1 => ofO (truth x S1) S1) := by
      refine Out.bind (sRd (sE hc e) (t + coE c e) h f (Nat.le_refl _) (by omega)) (Nat.le_refl _) fun x y S1 ρw1 r fr q => ?_
      obtain ⟨k, e1, q⟩ := truth_w r q
      rw [e1]
      exact Out.ret fr rfl q
    refine OutS.of z (by omega) fun k k2 S1 ρw1 r fr go q => ?_
    cases r
    show OutS _ _ _ _ _ _ _ _ (if k then _ else _)
    cases k with
    | true => exact OutS.trans go (sSs hc a T (q.1 rfl) fr (by omega) hT)
    | false => exact OutS.trans go (sSs hc b T (q.2 rfl) fr (by omega) hT)
  | .for_ tg it body, ρw, nx, K, ρ, S, t, T, h, f, ht, hT => by
    simp only [coS] at ht
    simp only [wpS] at h
    simp only [exS]
    refine OutS.of (sI hc it (t + coI c it) h f (Nat.le_refl _) (by omega)) (by omega) fun vs xs S1 ρw1 r fr go q => ?_
    obtain ⟨rfl, lx⟩ := r
    have kk : xs.length * coSs c W body ≤ sizeLine * coSs c W body := Nat.mul_le_mul_right _ lx
    have z := for_ok (L := L) (k := coSs c W body) (bk := K.bk) (ct := K.ct) (ff := fun x ρ1 Sa => match setTg tg x ρ1 with
      | some ρ2 => exs cf G W body ρ2 Sa
      | none => .fail) (fun {x ρw2 ρ2 S2 t2 kn} hx fx hl => by
        split at hx
        · rename_i ρw3 e3
          obtain ⟨ρ3, e4, f4, s4⟩ := setTg_d e3 fx
          rw [e4]
          exact OutS.trans s4.go (sSs hc body (t2 + coSs c W body) hx f4 (Nat.le_refl _) hl)
        · exact hx.elim) q fr (by omega)
    exact OutS.trans go (z.mono (by omega))
  | .whl e body, ρw, nx, K, ρ, S, t, T, h, f, ht, hT => by
    simp only [coS] at ht
    simp only [wpS] at h
    simp only [exS]
    have kk : (W + 1) * (coE c e + coSs c W body) = W * (coE c e + coSs c W body) + (coE c e + coSs c W body) := Nat.succ_mul ..
    have z := whl_ok (L := L) (k1 := coE c e) (k2 := coSs c W body) (bk := K.bk) (ct := K.ct) (cc := fun ρ1 Sa => (ev cf G e ρ1 Sa).bind fun x Sb => ofO (truth x Sb) Sb) (ff := fun ρ1 Sa => exs cf G W body ρ1 Sa)
      (fun {ρw2 ρ2 S2 t2 Q} hx fx hl => by
        refine Out.bind (sRd (sE hc e) (t2 + coE c e) hx fx (Nat.le_refl _) hl) (Nat.le_refl _) fun x y S1 ρw1 r fr q => ?_
        obtain ⟨k, e1, q⟩ := truth_w r q
        rw [e1]
        exact Out.ret fr rfl q)
      (fun {ρw2 ρ2 S2 t2 kn} hx fx hl => sSs hc body (t2 + coSs c W body) hx fx (Nat.le_refl _) hl) (n := W) h f (by omega)
    exact z.mono (by omega)
  | .pass, ρw, nx, K, ρ, S, t, T, h, f, ht, hT => ⟨_, _, rfl, .nx (f.mono (by omega)) Go.refl h⟩
  | .brk, ρw, nx, K, ρ, S, t, T, h, f, ht, hT => ⟨_, _, rfl, .bk (f.mono (by omega)) Go.refl h⟩
  | .cnt, ρw, nx, K, ρ, S, t, T, h, f, ht, hT => ⟨_, _, rfl, .ct (f.mono (by omega)) Go.refl h⟩
theorem sSs (hc : CallOk B L c cw cf) : ∀ (ss : Ss) {ρw : We} {nx : We → Prop} {K : Ko} {ρ : Env} {S : Store} {t : Nat} (T : Nat), wpSs cw G W ss ρw nx K → Fr B n0 t ρw ρ S → t + coSs c W ss ≤ T → T ≤ L → OutS B n0 T ρw ρ S nx K (exs cf G W ss ρ S)
  | .nil, ρw, nx, K, ρ, S, t, T, h, f, ht, hT => ⟨_, _, rfl, .nx (f.mono (by omega)) Go.refl h⟩
  | .cons s ss, ρw, nx, K, ρ, S, t, T, h, f, ht, hT => by
    simp only [coSs] at ht
    simp only [wpSs] at h
    obtain ⟨fl, S1, e1, o1⟩ := sS hc s (t + coS c W s) h f (Nat.le_refl _) (by omega)
    simp only [exs, e1]
    cases o1 with
    | nx a b d => exact OutS.trans b (sSs hc ss T d a (by omega) hT)
    | rt a b d => exact ⟨_, _, rfl, .rt (a.mono (by omega)) b d⟩
    | bk a b d => exact ⟨_, _, rfl, .bk (a.mono (by omega)) b d⟩
    | ct a b d => exact ⟨_, _, rfl, .ct (a.mono (by omega)) b d⟩
    | xc e a b d => exact ⟨_, _, rfl, .xc e (a.mono (by omega)) b d⟩
end
end
/-! ### calls -/
/-- what is told of a function is right -/
def PrimOk (B : BxS) (L : Nat) (T : Prog) (pr : Prims) : Prop := ∀ n f p, pr n f = some p → ∀ ws Q, p ws Q → ∀ us S t, RAs B S ws us → B.hd ≤ S.length → B.ok t (S.take B.hd) → t + 1 ≤ L →
  ∃ r S', run T (n + 1) f us S = .ok (.d r) S' ∧ Same2 B S S' ∧ B.ok (t + 1) (S'.take B.hd) ∧ Q r
section
variable {B : BxS} {L : Nat} {T : Prog} {pr : Prims}
theorem foldr_max {l : List Nat} {a : Nat} (h : a ∈ l) : a ≤ l.foldr max 1 := by
  induction l with
  | nil => cases h
  | cons b r ih =>
    show a ≤ max b (r.foldr max 1)
    rcases List.mem_cons.mp h with rfl | h
    · exact Nat.le_max_left ..
    · exact Nat.le_trans (ih h) (Nat.le_max_right ..)
theorem foldr_one (l : List Nat) : 1 ≤ l.foldr max 1 := by
  induction l with
  | nil => exact Nat.le_refl _
  | cons b r ih => exact Nat.le_trans ih (Nat.le_max_right ..)
theorem look_mem {f : Str} {fn : Fn} : ∀ {l : List (Str × Fn)}, l.lookup f = some fn → (f, fn) ∈ l
  | [], h => by cases h
  | (g, gn) :: r, h => by
    unfold List.lookup at h
    split at h
    · rename_i e
      cases h
      have : f = g := by simpa using e
      subst this
      exact List.mem_cons_self ..
    · exact List.mem_cons_of_mem _ (look_mem h)
theorem RAs.at {S : Store} : ∀ {ws : List Wv} {us : List Vl} {i : Nat} {w : Wv}, RAs B S ws us → ws[i]? = some w → ∃ u, us[i]? = some u ∧ RA B S w u
  | [], _, i, w, _, h => by simp at h
  | _ :: _, [], _, _, h, _ => h.elim
  | w :: ws, u :: us, 0, _, h, e => by
    simp at e
    subst e
    exact ⟨u, rfl, h.1⟩
  | w :: ws, u :: us, i + 1, v, h, e => by
    obtain ⟨u', e1, r⟩ := RAs.at (i := i) h.2 (by simpa using e)
    exact ⟨u', by simpa using e1, r⟩
/-- a call's frame -/
theorem start_fr {fn : Fn} {ws : List Wv} {us : List Vl} {S : Store} {t : Nat} (r : RAs B S ws us) (hd : B.hd ≤ S.length) (b : B.ok t (S.take B.hd)) : Fr B S.length t (startW fn ws) (Tz.start fn us) S ∧ ∀ n, ¬ Owns (startW fn ws) (Tz.start fn us) n := by
  have hl := r.len
  have key : ∀ (i : Nat) (v : Wv), (startW fn ws)[i]? = some (some v) → ∃ u, (Tz.start fn us)[i]? = some (some u) ∧ RA B S v u := fun i v e => by
    unfold startW at e
    unfold Tz.start
    by_cases hi : i < ws.length
    · rw [List.getElem?_append_left (by simpa using hi), List.getElem?_map] at e
      obtain ⟨w, e1, e2⟩ := Option.map_eq_some_iff.mp e
      cases e2
      obtain ⟨u, e3, r3⟩ := r.at e1
      refine ⟨u, ?_, r3⟩
      rw [List.getElem?_append_left (by rw [List.length_map, ← hl]; exact hi), List.getElem?_map, e3]
      rfl
    · rw [List.getElem?_append_right (by simpa using hi), List.getElem?_replicate] at e
      split at e <;> cases e
  have no : ∀ n, ¬ Owns (startW fn ws) (Tz.start fn us) n := fun n ⟨i, x, e1, e2⟩ => by
    obtain ⟨u, _, q⟩ := key i _ e1
    exact q
  refine ⟨⟨by simp [startW, Tz.start, hl], fun i v e => ?_, fun i j x y n _ e1 e2 => absurd ⟨i, x, e1, e2⟩ (no n), hd, Nat.le_refl _, b⟩, no⟩
  obtain ⟨u, e1, q⟩ := key i v e
  refine ⟨u, e1, ?_⟩
  cases v with
  | d x => exact q
  | o x => exact q.elim
  | b x =>
    obtain ⟨n, e2, l, h⟩ := q
    exact ⟨n, e2, l, holds_lt h, h⟩
  | box => exact q
theorem cut_same {ρw ρw' : We} {ρ ρ' : Env} {S S' : Store} {t : Nat} (hd : B.hd ≤ S.length) (f : Fr B S.length t ρw' ρ' S') (g : Go B ρw ρ S ρw' ρ' S') (no : ∀ n, ¬ Owns ρw ρ n) : Same2 B S (S'.take S.length) ∧ B.ok t ((S'.take S.length).take B.hd) := by
  refine ⟨⟨by rw [List.length_take]; exact Nat.min_eq_left g.len, fun n hn => ?_⟩, ?_⟩
  · rw [List.getElem?_take]
    split
    · exact (g.fr n hn (by assumption) (no n)).1
    · rw [List.getElem?_eq_none (by omega)]
  · rw [List.take_take, Nat.min_eq_left hd]
    exact f.box
theorem refsBelow_data (n : Nat) : ∀ l : List (Str × PyData), refsBelow n ((l.map fun p => (p.1, Vl.d p.2)).map (·.2)) = true
  | [] => rfl
  | p :: r => refsBelow_data n r
theorem sF (hp : PrimOk B L T pr) : ∀ k, CallOk B L (coF T k) (wpF T pr k) (run T k)
  | 0 => fun f ws Q X h => h.elim
  | k + 1 => fun f ws Q X h us S t r hd b hl => by
    have c1 : 1 ≤ coF T (k + 1) := foldr_one _
    unfold wpF at h
    split at h
    · rename_i p ep
      obtain ⟨v, S', e, s, bo, q⟩ := hp k f p ep ws Q h us S t r hd b (by omega)
      exact .inl ⟨v, S', e, s, B.mono (by omega) bo, q⟩
    · split at h
      · rename_i fn ef
        have cb : coSs (coF T k) T.W fn.body ≤ coF T (k + 1) := foldr_max (List.mem_map.mpr ⟨_, look_mem ef, rfl⟩)
        obtain ⟨h0, h⟩ := h
        obtain ⟨fr, no⟩ := start_fr (fn := fn) r hd b
        obtain ⟨fl, S1, e1, o1⟩ := sSs (sF hp k) fn.body (t + coF T (k + 1)) h fr (by omega) hl
        have er : run T (k + 1) f us S = endC S.length fl S1 := by
          show (match T.fns.lookup f with | some fn => call1 T (run T k) fn us S | none => .fail) = _
          rw [ef]
          show (if us.length = fn.pars then _ else _) = _
          rw [if_pos (by rw [← r.len]; exact h0), e1]
          rfl
        rw [er]
        cases o1 with
        | nx a g d =>
          obtain ⟨s, bo⟩ := cut_same hd a g no
          exact .inl ⟨.none, _, rfl, s, bo, d⟩
        | rt a g d =>
          obtain ⟨s, bo⟩ := cut_same hd a g no
          exact .inl ⟨_, _, rfl, s, bo, d⟩
        | bk a g d => exact d.elim
        | ct a g d => exact d.elim
        | xc e a g d =>
          obtain ⟨s, bo⟩ := cut_same hd a g no
          subst e
          refine .inr ⟨_, _, _, ?_, rfl, s, bo, d⟩
          show (if refsBelow S.length _ then _ else _) = _
          rw [if_pos (refsBelow_data _ _)]
      · exact h.elim
end
end Tz

end
section
/-! Tz.Draw: the box for wp; a law that draws. -/
namespace Tz
open PySem
section
variable {T : Prog} {k N : Nat} {many : Int} {Rr : Store}
theorem draw_okN {f : Fn} {b : Int} {S : Store} (hN0 : 0 < N) (hN : N ≤ 900000) (hf : T.fns.lookup ("_law_draw" : Str) = some f) (hb : f.body = drB) (hp : f.pars = 2) (hl : f.names.length = 6) (hW : 100 < T.W) (h : Bx b Rr S) (hb2 : b + 1 < 2 ^ N) (hm : 0 < many) (hm2 : many < 2 ^ 100) :
    ∃ d S', run T (k + 1) "_law_draw" [.r 2, .d (.int many)] S = .ok (.d (.int d)) S' ∧ 0 ≤ d ∧ d < many ∧ Bx (b + 1) Rr S' := by
  obtain ⟨ns, g, s, t, rfl, h1, h2, h3, h4, h5, h6⟩ := h
  have hd := div_small hm hm2
  have he : Tz.start f [.r 2, .d (.int many)] = [some (.r 2), some (.d (.int many)), none, none, none, none] := by
    unfold Tz.start
    rw [hl]
    rfl
  have hlen : 0 < s.length := List.length_pos_iff.mpr h1
  have tk : ∀ g' t', (bx ns g' s t' Rr).take (bx ns g s t Rr).length = bx ns g' s t' Rr := fun g' t' => by
    have e : (bx ns g s t Rr).length = (bx ns g' s t' Rr).length := rfl
    rw [e, List.take_length]
  rw [run_at hf]
  unfold call1
  rw [hp, hb, he]
  rcases whl_step (cf := run T k) (G := T.G) (W := T.W) (ns := ns) (s := s) (t := t) (Rr := Rr) hm hd g.length g T.W rfl (by omega) h3 [some (.r 2), some (.d (.int many)), some (.r 1), none, none, none] rfl rfl rfl rfl with z | ⟨d, g', z, d0, d1, z3, z4⟩
  · obtain ⟨c, hc, hcs⟩ := small_at (s := s) (i := (t + 1) % (s.length : Int)) (Int.emod_nonneg _ (by omega)) (Int.emod_lt_of_pos _ (by omega))
    obtain ⟨c0, c1⟩ := h2 c hc
    have m1 : mulOk c 6364136223846793005 = true := mul_small (n := 64) (m := 64) c0 (by omega) (by decide) (by decide) (by decide) (by decide) (by decide)
    have m2 : mulOk (t + 1) 1442695040888963407 = true := mul_small (n := N) (m := 64) (by omega) (Int.lt_of_le_of_lt (by omega) hb2) hN0 (by decide) (by decide) (by decide) (by omega)
    generalize hx : (c * 6364136223846793005 + (t + 1) * 1442695040888963407) % 18446744073709551557 = x
    have x0 : 0 ≤ x := by rw [← hx]; exact Int.emod_nonneg _ (by decide)
    have x1 : x < 18446744073709551557 := by rw [← hx]; exact Int.emod_lt_of_pos _ (by decide)
    have m3 : mulOk x (x / 4294967296 + 17) = true := mul_small (n := 64) (m := 64) x0 (by omega) (by decide) (by omega) (by omega) (by decide) (by decide)
    have dv : divOk 4294967296 = true := by decide
    have dv2 : divOk 65536 = true := by decide
    have p1 : (0 : Int) < 18446744073709551557 := by decide
    have p2 : (0 : Int) < (s.length : Int) := by omega
    refine ⟨x * (x / 4294967296 + 17) % 18446744073709551557 / 65536 % many, bx ns [] s (t + 1) Rr, ?_, Int.emod_nonneg _ (by omega), Int.emod_lt_of_pos _ hm, ⟨ns, [], s, t + 1, rfl, h1, h2, (fun _ z => by cases z), by omega, by omega, by simp⟩⟩
    have hlenD : biV .len [.d (.list (dI s))] (bx ns [] s (t + 1) Rr) = .ok (.d (.int (s.length : Int))) (bx ns [] s (t + 1) Rr) := by
      show R.ok (Vl.d (.int ((dI s).length : Int))) _ = _
      simp [dI]
    unfold drB
    rw [exs_nx (ρ1 := [some (.r 2), some (.d (.int many)), some (.r 1), none, none, none]) (S1 := bx ns g s t Rr) rfl, exs_nx (show exS _ _ _ (.whl _ whB) _ _ = _ from z)]
    simp only [exs, exS, ev, evs, List.getElem?_cons_zero, List.getElem?_cons_succ, List.set_cons_zero, List.set_cons_succ, List.length_cons, List.length_nil, if_true, ok_bind, ok_bindS, box_great, box_small, box_turn, ofO_some, setTg, binV, box_put (Nat.lt_add_left _ (by decide)), hlenD, hcs, m1, m2, hx, m3, dv, dv2, p1, p2, hm, ok_noEx, endC, fin, tk]
  · refine ⟨d, bx ns g' s t Rr, ?_, d0, d1, ns, g', s, t, rfl, h1, h2, z3, h4, by omega, by omega⟩
    unfold drB
    rw [exs_nx (ρ1 := [some (.r 2), some (.d (.int many)), some (.r 1), none, none, none]) (S1 := bx ns g s t Rr) rfl, exs_rt (show exS _ _ _ (.whl _ whB) _ _ = _ from z)]
    simp only [List.length_cons, List.length_nil, if_true, ok_bind, ok_noEx, endC, fin, tk]
end
/-- the box -/
def boxS : BxS where
  hd := 3
  pl := 2
  ok := fun t A => Bx t [] A
  lt := by decide
  mono := fun h b => b.mono (by omega)
/-- a draw gives any number below many -/
def drawW (ws : List Wv) (Q : PyData → Prop) : Prop := match ws with
  | [.box, .d (.int n)] => (0 < n ∧ n < 2 ^ 100) ∧ ∀ d, 0 ≤ d → d < n → Q (.int d)
  | _ => False
def drawP : Prims := fun _ f => if f = "_law_draw" then some drawW else none
def costLine : Nat := 2 ^ 30000
structure DrawT (T : Prog) : Prop where
  fn : ∃ f, T.fns.lookup ("_law_draw" : Str) = some f ∧ f.body = drB ∧ f.pars = 2 ∧ f.names.length = 6
  w : 100 < T.W
theorem bx_split {b : Int} {S : Store} (h : Bx b [] (S.take 3)) : Bx b (S.drop 3) S := by
  obtain ⟨ns, g, s, t, e, h1⟩ := h
  refine ⟨ns, g, s, t, ?_, h1⟩
  calc S = S.take 3 ++ S.drop 3 := (List.take_append_drop 3 S).symm
    _ = _ := by rw [e]; rfl
theorem bx_join {b : Int} {R S : Store} (h : Bx b R S) : Bx b [] (S.take 3) ∧ S.drop 3 = R := by
  obtain ⟨ns, g, s, t, rfl, h1⟩ := h
  exact ⟨⟨ns, g, s, t, rfl, h1⟩, rfl⟩
theorem pow_line : ∃ N, costLine < 2 ^ N ∧ 0 < N ∧ N ≤ 900000 := ⟨30001, by unfold costLine; exact Nat.pow_lt_pow_right (by decide) (by decide), by decide, by decide⟩
theorem draw_prim {T : Prog} (D : DrawT T) : PrimOk boxS costLine T drawP := by
  intro n f p hp ws Q h us S t r hd b hl
  unfold drawP at hp
  split at hp
  · rename_i e
    subst e
    cases hp
    unfold drawW at h
    split at h
    · rename_i many
      obtain ⟨⟨h1, h2⟩, h3⟩ := h
      match us, r with
      | [u1, u2], r =>
        obtain ⟨r1, r2, _⟩ := r
        have r1 : u1 = .r 2 := r1
        have r2 : u2 = .d (.int many) := r2
        subst r1 r2
        obtain ⟨fn, q1, q2, q3, q4⟩ := D.fn
        obtain ⟨N, n1, n2, n3⟩ := pow_line
        have hb : ((t : Nat) : Int) + 1 < 2 ^ N := by
          have z : t + 1 < 2 ^ N := Nat.lt_of_le_of_lt hl n1
          have := Int.ofNat_lt.mpr z
          simpa using this
        obtain ⟨d, S', e, d0, d1, B'⟩ := draw_okN (T := T) (k := n) n2 n3 q1 q2 q3 q4 D.w (bx_split b) hb h1 h2
        obtain ⟨b1, b2⟩ := bx_join B'
        refine ⟨_, S', e, ⟨?_, fun m hm => ?_⟩, ?_, h3 d d0 d1⟩
        · have z1 := (bx_split b).len
          have z2 := B'.len
          omega
        · have hm : 3 ≤ m := hm
          have z : ∀ X : Store, (X.drop 3)[m - 3]? = X[m]? := fun X => by
            rw [List.getElem?_drop]
            congr 1
            omega
          rw [← z S', b2, z S]
        · exact b1
    · exact h.elim
  · cases hp
/-- a law that draws by the box -/
theorem law_draws {T : Prog} {fn fo : Fn} {rest : Ss} {k : Nat} {q : Int} (hf : T.fns.lookup ("law" : Str) = some fn) (hb : fn.body = .cons (.asg (.nm 1) (.call "_law_opened" (.cons (.var 0) .nil))) rest) (hp : fn.pars = 1) (hn : 2 ≤ fn.names.length)
    (ho : T.fns.lookup ("_law_opened" : Str) = some fo) (ob : fo.body = opB q) (op : fo.pars = 1) (ol : fo.names.length = 5) (hq : 0 ≤ q ∧ q < 10 ^ 18) (D : DrawT T) (hc : coSs (coF T (k + 1)) T.W rest ≤ costLine)
    (h : wpSs (wpF T drawP (k + 1)) T.G T.W rest (none :: some .box :: List.replicate (fn.names.length - 2) none) (fun _ => False) ⟨fun r => r = .bool true, fun _ => False, fun _ => False, fun _ _ => False⟩) :
    ∀ ns : List Int, ns.length ≤ 63 → ∃ S', run T (k + 2) "law" [.r 0] [some (.scr ns)] = .ok (.d (.bool true)) S' := by
  intro ns hns
  obtain ⟨S0, e0, B0⟩ := opened_ok (T := T) (k := k) (f := fo) (q := q) (ns := ns) ho ob op ol hq
  obtain ⟨b1, b2⟩ := bx_join B0
  have l0 : S0.length = 3 := by have := B0.len; simpa using this
  obtain ⟨m, hm⟩ : ∃ m, fn.names.length = m + 2 := ⟨fn.names.length - 2, by omega⟩
  rw [hm] at h
  have fr : Fr boxS 3 0 (none :: some .box :: List.replicate m none) (some (.r 0) :: some (.r 2) :: List.replicate m none) S0 := by
    refine ⟨by simp, fun i v e => ?_, fun i j x y n hij e1 => ?_, Nat.le_refl _, by rw [l0]; exact Nat.le_refl _, b1⟩
    · match i, e with
      | 0, e => simp at e
      | 1, e =>
        simp at e
        subst e
        exact ⟨.r 2, rfl, rfl⟩
      | i + 2, e =>
        simp [List.getElem?_replicate] at e
    · match i, e1 with
      | 0, e => simp at e
      | 1, e => simp at e
      | i + 2, e => simp [List.getElem?_replicate] at e
  obtain ⟨fl, S1, e1, o1⟩ := sSs (sF (draw_prim D) (k + 1)) rest costLine h fr (by omega) (Nat.le_refl _)
  have er : run T (k + 2) "law" [.r 0] [some (.scr ns)] = endC 1 fl S1 := by
    rw [run_at hf]
    unfold call1
    rw [if_pos (by rw [hp]; rfl), hb]
    have es : Tz.start fn [.r 0] = some (.r 0) :: none :: List.replicate m none := by
      unfold Tz.start
      rw [hm]
      show [some (Vl.r 0)] ++ List.replicate (m + 2 - 1) none = _
      rw [show m + 2 - 1 = m + 1 by omega, List.replicate_succ]
      rfl
    rw [es]
    have e2 : exS (run T (k + 1)) T.G T.W (.asg (.nm 1) (.call "_law_opened" (.cons (.var 0) .nil))) (some (.r 0) :: none :: List.replicate m none) [some (.scr ns)] = .ok (.nx (some (.r 0) :: some (.r 2) :: List.replicate m none)) S0 := by
      refine exS_asg (x := .r 2) ?_ rfl
      show (evs _ _ (.cons (.var 0) .nil) _ _).bind _ = _
      show run T (k + 1) "_law_opened" [.r 0] [some (.scr ns)] = _
      exact e0
    rw [exs_nx e2, e1]
    rfl
  rw [er]
  cases o1 with
  | nx a b d => exact d.elim
  | rt a b d =>
    have d : _ = PyData.bool true := d
    subst d
    exact ⟨_, rfl⟩
  | bk a b d => exact d.elim
  | ct a b d => exact d.elim
  | xc e a b d => exact d.elim
end Tz

end
section
/-! Tz.Run: how a body is walked by simp. -/
namespace Tz
open PySem
/-- a def of a text -/
class Has (T : Prog) (pr : Prims) (f : Str) (fn : Fn) : Prop where
  at_ : T.fns.lookup f = some fn
  no : ∀ k, pr k f = none
class HasC (T : Prog) (x : Str) (v : PyData) : Prop where
  at_ : T.G x = some v
section
variable {T : Prog} {pr : Prims} {k : Nat} {Q : PyData → Prop} {X : Wx → Prop}
theorem wpF_at {f : Str} (fn : Fn) [h : Has T pr f fn] {vs : List Wv} : callW (wpF T pr (k + 1)) f vs Q X ↔ (vs.length = fn.pars ∧ wpSs (wpF T pr k) T.G T.W fn.body (startW fn vs) (fun _ => Q .none) ⟨Q, fun _ => False, fun _ => False, fun x _ => X x⟩) := by
  show (match pr k f with | some p => p vs Q | none => (match T.fns.lookup f with | some fn => _ | none => False)) ↔ _
  rw [h.no, h.at_]
theorem wp_draw {n : Int} : callW (wpF T drawP (k + 1)) "_law_draw" [.box, .d (.int n)] Q X ↔ ((0 < n ∧ n < 2 ^ 100) ∧ ∀ d : Int, 0 ≤ d → d < n → Q (.int d)) := Iff.rfl
end
theorem atI_0 {α : Type} {x : α} {r : List α} : L2.atI (x :: r) 0 = some x := by
  unfold L2.atI L2.ixN
  rw [if_pos (by decide), if_pos (by simp)]
  rfl
theorem atI_1 {α : Type} {x y : α} {r : List α} : L2.atI (x :: y :: r) 1 = some y := by
  unfold L2.atI L2.ixN
  rw [if_pos (by decide), if_pos (by simp; omega)]
  rfl
theorem atI_2 {α : Type} {x y z : α} {r : List α} : L2.atI (x :: y :: z :: r) 2 = some z := by
  unfold L2.atI L2.ixN
  rw [if_pos (by decide), if_pos (by simp; omega)]
  rfl
theorem getW_some {xs : List PyData} {k : Int} {y : PyData} {Q : PyData → Prop} (h : L2.atI xs k = some y) : getW xs k Q ↔ Q y := by
  unfold getW
  rw [h]
  simp
theorem getW_0 {x : PyData} {r : List PyData} {Q : PyData → Prop} : getW (x :: r) 0 Q ↔ Q x := getW_some atI_0
theorem getW_1 {x y : PyData} {r : List PyData} {Q : PyData → Prop} : getW (x :: y :: r) 1 Q ↔ Q y := getW_some atI_1
theorem getW_2 {x y z : PyData} {r : List PyData} {Q : PyData → Prop} : getW (x :: y :: z :: r) 2 Q ↔ Q z := getW_some atI_2
end Tz

end
section
namespace Lib
open PySem Tz
def b_is_integer : Ss := (.cons (.ret (.and (.isi (.var 0) ["int"]) (.and (.not (.isi (.var 0) ["bool"])) (.one (.cmp2 .LtE .LtE (.var 1) (.var 0) (.var 2))))))
  .nil)
def f_is_integer : Fn := ⟨["value", "low", "high"], 3, b_is_integer⟩
def b_are_integers : Ss := (.cons (.ifs (.or (.not (.isi (.var 0) ["tuple"])) (.one (.cmp .NotEq (.bi .len (.cons (.var 0) .nil)) (.var 1)))) (.cons (.ret (.con (.bool false)))
    .nil) .nil)
  (.cons (.ret (.bi .all (.cons (.lc false [4] (.nm 4) (.of (.var 0)) .no (.call "is_integer" (.cons (.var 4) (.cons (.var 2) (.cons (.var 3) .nil))))) .nil)))
  .nil))
def f_are_integers : Fn := ⟨["value", "many", "low", "high", "item"], 4, b_are_integers⟩
def b_machine_error : Ss := (.cons (.ifs (.or (.not (.isi (.var 0) ["tuple"])) (.one (.cmp .NotEq (.bi .len (.cons (.var 0) .nil)) (.con (.int 3))))) (.cons (.ret (.tup (.cons (.con .none) (.cons (.con (.str "machine")) .nil))))
    .nil) .nil)
  (.cons (.asg (.tp (.cons (.nm 1) (.cons (.nm 2) (.cons (.nm 3) .nil)))) (.var 0))
  (.cons (.ifs (.not (.call "is_integer" (.cons (.var 1) (.cons (.con (.int 2)) (.cons (.glob "MAX_SIZE") .nil))))) (.cons (.ret (.tup (.cons (.con (.int 0)) (.cons (.con (.str "size")) .nil))))
    .nil) .nil)
  (.cons (.ifs (.not (.call "are_integers" (.cons (.var 2) (.cons (.con (.int 2)) (.cons (.con (.int 1)) (.cons (.var 1) .nil)))))) (.cons (.ret (.tup (.cons (.con (.int 1)) (.cons (.con (.str "gates")) .nil))))
    .nil) .nil)
  (.cons (.ifs (.not (.call "are_integers" (.cons (.var 3) (.cons (.con (.int 3)) (.cons (.con (.int 1)) (.cons (.glob "MAX_LAG") .nil)))))) (.cons (.ret (.tup (.cons (.con (.int 2)) (.cons (.con (.str "lags")) .nil))))
    .nil) .nil)
  (.cons (.ret (.con .none))
  .nil))))))
def f_machine_error : Fn := ⟨["value", "size", "gates", "lags"], 1, b_machine_error⟩
def b_is_machine : Ss := (.cons (.ret (.cmp .Is (.call "machine_error" (.cons (.var 0) .nil)) (.con .none)))
  .nil)
def f_is_machine : Fn := ⟨["value"], 1, b_is_machine⟩
def b_offset : Ss := (.cons (.asg (.tp (.cons (.nm 3) (.cons (.nm 4) (.cons (.nm 5) .nil)))) (.var 0))
  (.cons (.ret (.bin .Add (.sub (.var 4) (.var 2)) (.sub (.var 5) (.var 1))))
  .nil))
def f_offset : Fn := ⟨["machine", "many", "operand", "size", "gates", "lags"], 3, b_offset⟩
def b__law_opened : Ss := (.cons (.asg (.nm 1) (.lc false [4] (.nm 4) (.of (.slc (.var 0) .no (.so (.con (.int 61))))) .no (.bi .abs (.cons (.var 4) .nil))))
  (.cons (.asg (.nm 2) (.lc false [4] (.nm 4) (.of (.var 1)) (.so (.cmp .Lt (.var 4) (.bin .Pow (.con (.int 10)) (.con (.int 18))))) (.var 4)))
  (.cons (.asg (.nm 3) (.lc true [4] (.nm 4) (.of (.var 1)) (.so (.cmp .GtE (.var 4) (.bin .Pow (.con (.int 10)) (.con (.int 18))))) (.var 4)))
  (.cons (.ret (.dic true [.inr "great", .inr "small", .inr "turn"] (.cons (.var 3) (.cons (.bin .Add (.var 2) (.bin .Mult (.lst false (.cons (.con (.int 83)) .nil)) (.bi .int (.cons (.cmp .Eq (.var 2) (.lst false .nil)) .nil)))) (.cons (.con (.int 0)) .nil)))))
  .nil))))
def f__law_opened : Fn := ⟨["_law_script", "_law_cells", "_law_small", "_law_great", "_law_cell"], 1, b__law_opened⟩
def b__law_draw : Ss := (.cons (.asg (.nm 2) (.sub (.var 0) (.con (.str "great"))))
  (.cons (.whl (.cmp .NotEq (.var 2) (.lst false .nil)) (.cons (.ifs (.cmp .Gt (.sub (.var 2) (.neg (.con (.int 1)))) (.con (.int 0))) (.cons (.asg (.nm 3) (.bin .Mod (.sub (.var 2) (.neg (.con (.int 1)))) (.var 1)))
      (.cons (.put (.var 2) (.neg (.con (.int 1))) (.bin .FloorDiv (.sub (.var 2) (.neg (.con (.int 1)))) (.var 1)))
      (.cons (.ret (.var 3))
      .nil))) .nil)
    (.cons (.expr (.met .pop (.var 2) .nil))
    .nil)))
  (.cons (.put (.var 0) (.con (.str "turn")) (.bin .Add (.sub (.var 0) (.con (.str "turn"))) (.con (.int 1))))
  (.cons (.asg (.nm 4) (.sub (.sub (.var 0) (.con (.str "small"))) (.bin .Mod (.sub (.var 0) (.con (.str "turn"))) (.bi .len (.cons (.sub (.var 0) (.con (.str "small"))) .nil)))))
  (.cons (.asg (.nm 5) (.bin .Mod (.bin .Add (.bin .Mult (.var 4) (.con (.int 6364136223846793005))) (.bin .Mult (.sub (.var 0) (.con (.str "turn"))) (.con (.int 1442695040888963407)))) (.con (.int 18446744073709551557))))
  (.cons (.asg (.nm 5) (.bin .Mod (.bin .Mult (.var 5) (.bin .Add (.bin .FloorDiv (.var 5) (.con (.int 4294967296))) (.con (.int 17)))) (.con (.int 18446744073709551557))))
  (.cons (.ret (.bin .Mod (.bin .FloorDiv (.var 5) (.con (.int 65536))) (.var 1)))
  .nil)))))))
def f__law_draw : Fn := ⟨["_law_box", "_law_many", "_law_great", "_law_digit", "_law_cell", "_law_mixed"], 2, b__law_draw⟩
def b__law_one : Ss := (.cons (.ret (.sub (.var 1) (.call "_law_draw" (.cons (.var 0) (.cons (.bi .len (.cons (.var 1) .nil)) .nil)))))
  .nil)
def f__law_one : Fn := ⟨["_law_box", "_law_items"], 2, b__law_one⟩
def b__law_whole : Ss := (.cons (.ret (.and (.isi (.var 0) ["int"]) (.and (.not (.isi (.var 0) ["bool"])) (.one (.cmp2 .LtE .LtE (.var 1) (.var 0) (.var 2))))))
  .nil)
def f__law_whole : Fn := ⟨["_law_value", "_law_low", "_law_high"], 3, b__law_whole⟩
def b__law_odd : Ss := (.cons (.asg (.nm 1) (.lst false (.cons (.con .none) (.cons (.con (.bool true)) (.cons (.con (.bool false)) (.cons (.neg (.con (.int 1))) (.cons (.con (.int 0)) (.cons (.con (.int 1)) (.cons (.con (.int 2)) (.cons (.con (.int 7)) (.cons (.con (.int 8)) (.cons (.con (.int 24)) (.cons (.con (.int 25)) (.cons (.con (.int 65520)) (.cons (.con (.int 65521)) (.cons (.bin .Pow (.con (.int 10)) (.con (.int 39))) (.cons (.con (.str "")) (.cons (.con (.str "in")) (.cons (.con (.str "add")) (.cons (.con (.str "0")) (.cons (.tup .nil) (.cons (.tup (.cons (.con (.int 0)) .nil)) .nil))))))))))))))))))))))
  (.cons (.asg (.nm 1) (.bin .Add (.var 1) (.lst false (.cons (.tup (.cons (.con (.str "in")) (.cons (.con (.int 0)) .nil))) (.cons (.tup (.cons (.con (.str "neg")) (.cons (.con (.int 0)) .nil))) (.cons (.tup (.cons (.con (.str "add")) (.cons (.con (.int 0)) (.cons (.con (.int 0)) .nil)))) (.cons (.tup (.cons (.con (.str "const")) (.cons (.con (.int 5)) .nil))) (.cons (.lst false (.cons (.con (.str "in")) (.cons (.con (.int 0)) .nil))) (.cons (.lst false .nil) (.cons (.lst false (.cons (.con (.int 0)) .nil)) (.cons (.dic false [] .nil) (.cons (.dic false [.inr "in"] (.cons (.con (.int 0)) .nil)) (.cons (.tup (.cons (.con (.str "in")) .nil)) .nil)))))))))))))
  (.cons (.ret (.call "_law_one" (.cons (.var 0) (.cons (.bin .Add (.var 1) (.lst false (.cons (.con (.str "in.0")) (.cons (.tup (.cons (.con (.int 1)) (.cons (.con (.int 2)) .nil))) .nil)))) .nil))))
  .nil)))
def f__law_odd : Fn := ⟨["_law_box", "_law_some"], 1, b__law_odd⟩
def b__law_odd74 : Ss := (.cons (.asg (.nm 1) (.lst false (.cons (.con .none) (.cons (.con (.bool true)) (.cons (.con (.bool false)) (.cons (.neg (.con (.int 1))) (.cons (.con (.int 0)) (.cons (.con (.int 1)) (.cons (.con (.int 2)) (.cons (.con (.int 7)) (.cons (.con (.int 8)) (.cons (.con (.int 24)) (.cons (.con (.int 25)) (.cons (.con (.int 65520)) (.cons (.con (.int 65521)) (.cons (.bin .Pow (.con (.int 10)) (.con (.int 39))) (.cons (.con (.str "")) (.cons (.con (.str "in")) (.cons (.con (.str "add")) (.cons (.con (.str "0")) (.cons (.tup .nil) (.cons (.tup (.cons (.con (.int 0)) .nil)) .nil))))))))))))))))))))))
  (.cons (.asg (.nm 1) (.bin .Add (.var 1) (.lst false (.cons (.tup (.cons (.con (.str "in")) (.cons (.con (.int 0)) .nil))) (.cons (.tup (.cons (.con (.str "neg")) (.cons (.con (.int 0)) .nil))) (.cons (.tup (.cons (.con (.str "add")) (.cons (.con (.int 0)) (.cons (.con (.int 0)) .nil)))) (.cons (.tup (.cons (.con (.str "const")) (.cons (.con (.int 5)) .nil))) (.cons (.lst false (.cons (.con (.str "in")) (.cons (.con (.int 0)) .nil))) (.cons (.lst false .nil) (.cons (.lst false (.cons (.con (.int 0)) .nil)) (.cons (.dic false [] .nil) (.cons (.dic false [.inr "in"] (.cons (.con (.int 0)) .nil)) (.cons (.tup (.cons (.con (.str "in")) .nil)) .nil)))))))))))))
  (.cons (.asg (.nm 1) (.bin .Add (.var 1) (.lst false (.cons (.con (.str "in.0")) (.cons (.tup (.cons (.con (.int 1)) (.cons (.con (.int 2)) .nil))) .nil)))))
  (.cons (.ret (.call "_law_one" (.cons (.var 0) (.cons (.var 1) .nil))))
  .nil))))
def f__law_odd74 : Fn := ⟨["_law_box", "_law_some"], 1, b__law_odd74⟩
def b__law_bent : Ss := (.cons (.asg (.nm 2) (.lc false [5] (.nm 5) (.rng (.cons (.bi .len (.cons (.var 1) .nil)) .nil)) (.so (.isi (.sub (.var 1) (.var 5)) ["tuple"])) (.var 5)))
  (.cons (.ifs (.and (.cmp .NotEq (.var 2) (.lst false .nil)) (.one (.cmp .Gt (.call "_law_draw" (.cons (.var 0) (.cons (.con (.int 3)) .nil))) (.con (.int 0))))) (.cons (.asg (.nm 3) (.sub (.var 2) (.call "_law_draw" (.cons (.var 0) (.cons (.bi .len (.cons (.var 2) .nil)) .nil)))))
    (.cons (.ret (.bin .Add (.bin .Add (.slc (.var 1) .no (.so (.var 3))) (.tup (.cons (.call "_law_bent" (.cons (.var 0) (.cons (.sub (.var 1) (.var 3)) .nil))) .nil))) (.slc (.var 1) (.so (.bin .Add (.var 3) (.con (.int 1)))) .no)))
    .nil)) .nil)
  (.cons (.asg (.nm 3) (.call "_law_draw" (.cons (.var 0) (.cons (.bin .Add (.bi .len (.cons (.var 1) .nil)) (.con (.int 1))) .nil))))
  (.cons (.asg (.nm 4) (.lst false (.cons (.bin .Add (.bin .Add (.slc (.var 1) .no (.so (.var 3))) (.tup (.cons (.call "_law_odd" (.cons (.var 0) .nil)) .nil))) (.slc (.var 1) (.so (.bin .Add (.var 3) (.con (.int 1)))) .no)) (.cons (.bin .Add (.slc (.var 1) .no (.so (.var 3))) (.slc (.var 1) (.so (.bin .Add (.var 3) (.con (.int 1)))) .no)) (.cons (.rev (.var 1)) (.cons (.bi (.list false) (.cons (.var 1) .nil)) .nil))))))
  (.cons (.ret (.call "_law_one" (.cons (.var 0) (.cons (.bin .Add (.var 4) (.lst false (.cons (.bin .Add (.bin .Add (.slc (.var 1) .no (.so (.var 3))) (.tup (.cons (.call "_law_odd" (.cons (.var 0) .nil)) .nil))) (.slc (.var 1) (.so (.var 3)) .no)) (.cons (.bin .Add (.var 1) (.slc (.var 1) (.so (.neg (.con (.int 1)))) .no)) (.cons (.bin .Mult (.var 1) (.con (.int 3))) .nil))))) .nil))))
  .nil)))))
def f__law_bent : Fn := ⟨["_law_box", "_law_value", "_law_places", "_law_at", "_law_some", "_law_k"], 2, b__law_bent⟩
def b__law_machine : Ss := (.cons (.asg (.nm 1) (.bin .Add (.con (.int 2)) (.call "_law_draw" (.cons (.var 0) (.cons (.call "_law_one" (.cons (.var 0) (.cons (.lst false (.cons (.con (.int 4)) (.cons (.con (.int 8)) (.cons (.con (.int 23)) .nil)))) .nil))) .nil)))))
  (.cons (.asg (.nm 2) (.call "_law_one" (.cons (.var 0) (.cons (.lst false (.cons (.con (.int 3)) (.cons (.con (.int 20)) .nil))) .nil))))
  (.cons (.asg (.nm 3) (.bi .tuple (.cons (.lc false [4] (.nm 4) (.rng (.cons (.con (.int 3)) .nil)) .no (.bin .Add (.con (.int 1)) (.call "_law_draw" (.cons (.var 0) (.cons (.var 2) .nil))))) .nil)))
  (.cons (.ret (.tup (.cons (.var 1) (.cons (.tup (.cons (.bin .Add (.con (.int 1)) (.call "_law_draw" (.cons (.var 0) (.cons (.var 1) .nil)))) (.cons (.bin .Add (.con (.int 1)) (.call "_law_draw" (.cons (.var 0) (.cons (.var 1) .nil)))) .nil))) (.cons (.var 3) .nil)))))
  .nil))))
def f__law_machine : Fn := ⟨["_law_box", "_law_size", "_law_most", "_law_lags", "_law_k"], 1, b__law_machine⟩
def b_has_form : Ss := (.cons (.ifs (.or (.not (.isi (.var 0) ["tuple"])) (.or (.cmp .Eq (.var 0) (.tup .nil)) (.one (.not (.isi (.sub (.var 0) (.con (.int 0))) ["str"]))))) (.cons (.ret (.con (.bool false)))
    .nil) .nil)
  (.cons (.ifs (.inT false "NUMBERS" (.sub (.var 0) (.con (.int 0)))) (.cons (.ret (.cmp .Eq (.bi .len (.cons (.var 0) .nil)) (.con (.int 2))))
    .nil) .nil)
  (.cons (.ret (.and (.inT false "OPERANDS" (.sub (.var 0) (.con (.int 0)))) (.one (.cmp .Eq (.bi .len (.cons (.var 0) .nil)) (.bin .Add (.con (.int 1)) (.subT "OPERANDS" (.sub (.var 0) (.con (.int 0)))))))))
  .nil)))
def f_has_form : Fn := ⟨["value"], 1, b_has_form⟩
def b_operation_error : Ss := (.cons (.ifs (.not (.call "has_form" (.cons (.var 0) .nil))) (.cons (.ret (.con (.str "operation")))
    .nil) .nil)
  (.cons (.ifs (.inT false "NUMBERS" (.sub (.var 0) (.con (.int 0)))) (.cons (.ret (.ite (.call "is_integer" (.cons (.sub (.var 0) (.con (.int 1))) (.cons (.con (.int 0)) (.cons (.bin .Sub (.subT "NUMBERS" (.sub (.var 0) (.con (.int 0)))) (.con (.int 1))) .nil)))) (.con .none) (.con (.str "number"))))
    .nil) .nil)
  (.cons (.ret (.ite (.bi .all (.cons (.lc false [2] (.nm 2) (.of (.slc (.var 0) (.so (.con (.int 1))) .no)) .no (.call "is_integer" (.cons (.var 2) (.cons (.con (.int 0)) (.cons (.bin .Sub (.var 1) (.con (.int 1))) .nil))))) .nil)) (.con .none) (.con (.str "operand"))))
  .nil)))
def f_operation_error : Fn := ⟨["value", "index", "item"], 2, b_operation_error⟩
def b_sheet_error : Ss := (.cons (.ifs (.or (.not (.isi (.var 0) ["tuple"])) (.one (.not (.cmp2 .LtE .LtE (.con (.int 1)) (.bi .len (.cons (.var 0) .nil)) (.glob "MAX_OPS"))))) (.cons (.ret (.tup (.cons (.con .none) (.cons (.con (.str "sheet")) .nil))))
    .nil) .nil)
  (.cons (.for_ (.tp (.cons (.nm 1) (.cons (.nm 2) .nil))) (.enum (.var 0)) (.cons (.asg (.nm 3) (.call "operation_error" (.cons (.var 2) (.cons (.var 1) .nil))))
    (.cons (.ifs (.cmp .IsNot (.var 3) (.con .none)) (.cons (.ret (.tup (.cons (.var 1) (.cons (.var 3) .nil))))
      .nil) .nil)
    .nil)))
  (.cons (.ret (.con .none))
  .nil)))
def f_sheet_error : Fn := ⟨["value", "index", "operation", "error"], 1, b_sheet_error⟩
def b_is_sheet : Ss := (.cons (.ret (.cmp .Is (.call "sheet_error" (.cons (.var 0) .nil)) (.con .none)))
  .nil)
def f_is_sheet : Fn := ⟨["value"], 1, b_is_sheet⟩
def b__law_operation : Ss := (.cons (.asg (.nm 2) (.call "_law_one" (.cons (.var 0) (.cons (.lst false (.cons (.con (.str "in")) (.cons (.con (.str "const")) (.cons (.con (.str "neg")) (.cons (.con (.str "copy")) (.cons (.con (.str "add")) (.cons (.con (.str "sub")) (.cons (.con (.str "mul")) (.cons (.con (.str "least")) (.cons (.con (.str "most")) .nil)))))))))) .nil))))
  (.cons (.ifs (.cmp .Eq (.var 2) (.con (.str "const"))) (.cons (.ret (.tup (.cons (.var 2) (.cons (.call "_law_one" (.cons (.var 0) (.cons (.lst false (.cons (.con (.int 0)) (.cons (.con (.int 1)) (.cons (.con (.int 65520)) (.cons (.call "_law_draw" (.cons (.var 0) (.cons (.con (.int 65521)) .nil))) .nil))))) .nil))) .nil))))
    .nil) .nil)
  (.cons (.ifs (.or (.cmp .Eq (.var 2) (.con (.str "in"))) (.one (.cmp .Eq (.var 1) (.con (.int 0))))) (.cons (.ret (.tup (.cons (.con (.str "in")) (.cons (.call "_law_draw" (.cons (.var 0) (.cons (.con (.int 8)) .nil))) .nil))))
    .nil) .nil)
  (.cons (.asg (.nm 3) (.call "_law_draw" (.cons (.var 0) (.cons (.var 1) .nil))))
  (.cons (.ifs (.cmp .In (.var 2) (.tup (.cons (.con (.str "neg")) (.cons (.con (.str "copy")) .nil)))) (.cons (.ret (.tup (.cons (.var 2) (.cons (.var 3) .nil))))
    .nil) .nil)
  (.cons (.ret (.tup (.cons (.var 2) (.cons (.var 3) (.cons (.call "_law_draw" (.cons (.var 0) (.cons (.var 1) .nil))) .nil)))))
  .nil))))))
def f__law_operation : Fn := ⟨["_law_box", "_law_index", "_law_kind", "_law_first"], 2, b__law_operation⟩
def b__law_sheet : Ss := (.cons (.asg (.nm 2) (.lst true .nil))
  (.cons (.for_ (.nm 3) (.rng (.cons (.bin .Add (.con (.int 1)) (.call "_law_draw" (.cons (.var 0) (.cons (.var 1) .nil)))) .nil)) (.cons (.expr (.met .append (.var 2) (.cons (.call "_law_operation" (.cons (.var 0) (.cons (.var 3) .nil))) .nil)))
    .nil))
  (.cons (.ret (.bi .tuple (.cons (.var 2) .nil)))
  .nil)))
def f__law_sheet : Fn := ⟨["_law_box", "_law_most", "_law_found", "_law_k"], 2, b__law_sheet⟩
def b__law_sheet_fault_of : Ss := (.cons (.ifs (.or (.not (.isi (.var 0) ["tuple"])) (.or (.cmp .Eq (.var 0) (.tup .nil)) (.one (.not (.isi (.sub (.var 0) (.con (.int 0))) ["str"]))))) (.cons (.ret (.con (.str "operation")))
    .nil) .nil)
  (.cons (.asg (.nm 2) (.dic false [.inr "in", .inr "const", .inr "neg", .inr "copy", .inr "add", .inr "sub", .inr "mul", .inr "least", .inr "most"] (.cons (.con (.int 2)) (.cons (.con (.int 2)) (.cons (.con (.int 2)) (.cons (.con (.int 2)) (.cons (.con (.int 3)) (.cons (.con (.int 3)) (.cons (.con (.int 3)) (.cons (.con (.int 3)) (.cons (.con (.int 3)) .nil)))))))))))
  (.cons (.ifs (.cmp .NotEq (.met .get (.var 2) (.cons (.sub (.var 0) (.con (.int 0))) (.cons (.con (.int 0)) .nil))) (.bi .len (.cons (.var 0) .nil))) (.cons (.ret (.con (.str "operation")))
    .nil) .nil)
  (.cons (.ifs (.cmp .Eq (.sub (.var 0) (.con (.int 0))) (.con (.str "in"))) (.cons (.ret (.ite (.call "_law_whole" (.cons (.sub (.var 0) (.con (.int 1))) (.cons (.con (.int 0)) (.cons (.con (.int 7)) .nil)))) (.con .none) (.con (.str "number"))))
    .nil) .nil)
  (.cons (.ifs (.cmp .Eq (.sub (.var 0) (.con (.int 0))) (.con (.str "const"))) (.cons (.ret (.ite (.call "_law_whole" (.cons (.sub (.var 0) (.con (.int 1))) (.cons (.con (.int 0)) (.cons (.con (.int 65520)) .nil)))) (.con .none) (.con (.str "number"))))
    .nil) .nil)
  (.cons (.asg (.nm 3) (.lc false [4] (.nm 4) (.of (.slc (.var 0) (.so (.con (.int 1))) .no)) (.so (.not (.call "_law_whole" (.cons (.var 4) (.cons (.con (.int 0)) (.cons (.bin .Sub (.var 1) (.con (.int 1))) .nil)))))) (.var 4)))
  (.cons (.ret (.ite (.cmp .Eq (.var 3) (.lst false .nil)) (.con .none) (.con (.str "operand"))))
  .nil)))))))
def f__law_sheet_fault_of : Fn := ⟨["_law_operation_here", "_law_index", "_law_many", "_law_wrong", "_law_item"], 2, b__law_sheet_fault_of⟩
def b__law_sheet_fault : Ss := (.cons (.ifs (.or (.not (.isi (.var 0) ["tuple"])) (.one (.not (.cmp2 .LtE .LtE (.con (.int 1)) (.bi .len (.cons (.var 0) .nil)) (.con (.int 24)))))) (.cons (.ret (.tup (.cons (.con .none) (.cons (.con (.str "sheet")) .nil))))
    .nil) .nil)
  (.cons (.for_ (.tp (.cons (.nm 1) (.cons (.nm 2) .nil))) (.enum (.var 0)) (.cons (.asg (.nm 3) (.call "_law_fault_of" (.cons (.var 2) (.cons (.var 1) .nil))))
    (.cons (.ifs (.cmp .IsNot (.var 3) (.con .none)) (.cons (.ret (.tup (.cons (.var 1) (.cons (.var 3) .nil))))
      .nil) .nil)
    .nil)))
  (.cons (.ret (.con .none))
  .nil)))
def f__law_sheet_fault : Fn := ⟨["_law_value", "_law_index", "_law_operation_here", "_law_word"], 1, b__law_sheet_fault⟩
def b_operands_of : Ss := (.cons (.ret (.ite (.inT false "OPERANDS" (.sub (.var 0) (.con (.int 0)))) (.slc (.var 0) (.so (.con (.int 1))) .no) (.tup .nil)))
  .nil)
def f_operands_of : Fn := ⟨["operation"], 1, b_operands_of⟩
def b_count_operands : Ss := (.cons (.ret (.bi .len (.cons (.call "operands_of" (.cons (.var 0) .nil)) .nil)))
  .nil)
def f_count_operands : Fn := ⟨["operation"], 1, b_count_operands⟩
def b_reads_of : Ss := (.cons (.asg (.nm 1) (.lst true .nil))
  (.cons (.for_ (.tp (.cons (.nm 2) (.cons (.nm 3) .nil))) (.enum (.var 0)) (.cons (.for_ (.tp (.cons (.nm 4) (.cons (.nm 5) .nil))) (.enum (.call "operands_of" (.cons (.var 3) .nil))) (.cons (.expr (.met .append (.var 1) (.cons (.tup (.cons (.var 2) (.cons (.var 4) (.cons (.var 5) .nil)))) .nil)))
      .nil))
    .nil))
  (.cons (.ret (.bi .tuple (.cons (.var 1) .nil)))
  .nil)))
def f_reads_of : Fn := ⟨["sheet", "found", "reader", "operation", "operand", "source"], 1, b_reads_of⟩
def b__law_fitting : Ss := (.cons (.asg (.tp (.cons (.nm 3) (.cons (.nm 4) (.cons (.nm 5) .nil)))) (.var 1))
  (.cons (.asg (.tp (.cons (.nm 6) (.cons (.nm 7) .nil))) (.tup (.cons (.lst false .nil) (.cons (.lst false .nil) .nil))))
  (.cons (.for_ (.nm 8) (.rng (.cons (.bin .Add (.con (.int 1)) (.call "_law_draw" (.cons (.var 0) (.cons (.var 2) .nil)))) .nil)) (.cons (.par2 9 10 (.lst true .nil) (.call "_law_draw" (.cons (.var 0) (.cons (.con (.int 4)) .nil))))
    (.cons (.for_ (.nm 11) (.rng (.cons (.var 8) .nil)) (.cons (.asg (.nm 12) (.bin .Sub (.bin .Add (.sub (.var 7) (.var 11)) (.sub (.var 4) (.con (.int 0)))) (.sub (.var 4) (.con (.int 1)))))
      (.cons (.expr (.met .extend (.var 9) (.cons (.lc false [13] (.nm 13) (.rng (.cons (.var 8) .nil)) (.so (.cmp .Eq (.bin .Mod (.bin .Sub (.var 12) (.sub (.var 7) (.var 13))) (.var 3)) (.con (.int 0)))) (.tup (.cons (.var 11) (.cons (.var 13) .nil)))) .nil)))
      .nil)))
    (.cons (.ifs (.and (.cmp .Gt (.var 10) (.con (.int 1))) (.one (.cmp .NotEq (.var 9) (.lst false .nil)))) (.cons (.asg (.tp (.cons (.nm 11) (.cons (.nm 13) .nil))) (.call "_law_one" (.cons (.var 0) (.cons (.var 9) .nil))))
      (.cons (.expr (.met .append (.var 6) (.cons (.tup (.cons (.call "_law_one" (.cons (.var 0) (.cons (.lst false (.cons (.con (.str "add")) (.cons (.con (.str "sub")) (.cons (.con (.str "mul")) (.cons (.con (.str "least")) (.cons (.con (.str "most")) .nil)))))) .nil))) (.cons (.var 11) (.cons (.var 13) .nil)))) .nil)))
      (.cons (.expr (.met .append (.var 7) (.cons (.bin .Mod (.bin .Add (.bin .Add (.sub (.var 7) (.var 11)) (.sub (.var 4) (.con (.int 0)))) (.sub (.var 5) (.con (.int 2)))) (.var 3)) .nil)))
      .nil))) (.cons (.ifs (.and (.cmp .Gt (.var 10) (.con (.int 0))) (.one (.cmp .Gt (.var 8) (.con (.int 0))))) (.cons (.asg (.nm 11) (.call "_law_draw" (.cons (.var 0) (.cons (.var 8) .nil))))
        (.cons (.expr (.met .append (.var 6) (.cons (.tup (.cons (.call "_law_one" (.cons (.var 0) (.cons (.lst false (.cons (.con (.str "neg")) (.cons (.con (.str "copy")) .nil))) .nil))) (.cons (.var 11) .nil))) .nil)))
        (.cons (.expr (.met .append (.var 7) (.cons (.bin .Mod (.bin .Add (.bin .Add (.sub (.var 7) (.var 11)) (.sub (.var 4) (.con (.int 0)))) (.sub (.var 5) (.con (.int 1)))) (.var 3)) .nil)))
        .nil))) (.cons (.expr (.met .append (.var 6) (.cons (.call "_law_one" (.cons (.var 0) (.cons (.lst false (.cons (.tup (.cons (.con (.str "in")) (.cons (.call "_law_draw" (.cons (.var 0) (.cons (.con (.int 8)) .nil))) .nil))) (.cons (.tup (.cons (.con (.str "const")) (.cons (.call "_law_draw" (.cons (.var 0) (.cons (.con (.int 65521)) .nil))) .nil))) .nil))) .nil))) .nil)))
        (.cons (.expr (.met .append (.var 7) (.cons (.call "_law_draw" (.cons (.var 0) (.cons (.var 3) .nil))) .nil)))
        .nil)))
      .nil))
    .nil))))
  (.cons (.ret (.lst false (.cons (.bi .tuple (.cons (.var 6) .nil)) (.cons (.bi .tuple (.cons (.var 7) .nil)) .nil))))
  .nil))))
def f__law_fitting : Fn := ⟨["_law_box", "_law_machine_here", "_law_most", "_law_size", "_law_gates", "_law_lags", "_law_found", "_law_rests", "_law_k", "_law_pairs", "_law_way", "_law_one_here", "_law_lag", "_law_other"], 3, b__law_fitting⟩
def b__law_operands : Ss := (.cons (.ret (.ite (.cmp .NotIn (.sub (.var 0) (.con (.int 0))) (.tup (.cons (.con (.str "in")) (.cons (.con (.str "const")) .nil)))) (.slc (.var 0) (.so (.con (.int 1))) .no) (.tup .nil)))
  .nil)
def f__law_operands : Fn := ⟨["_law_operation_here"], 1, b__law_operands⟩
def b__law_reads : Ss := (.cons (.asg (.nm 1) (.lst true .nil))
  (.cons (.for_ (.tp (.cons (.nm 2) (.cons (.nm 3) .nil))) (.enum (.var 0)) (.cons (.expr (.met .extend (.var 1) (.cons (.lc false [4, 5] (.tp (.cons (.nm 4) (.cons (.nm 5) .nil))) (.enum (.call "_law_operands" (.cons (.var 3) .nil))) .no (.tup (.cons (.var 2) (.cons (.var 4) (.cons (.var 5) .nil))))) .nil)))
    .nil))
  (.cons (.ret (.frz 1))
  .nil)))
def f__law_reads : Fn := ⟨["_law_sheet_here", "_law_found", "_law_k", "_law_operation_here", "_law_place", "_law_source"], 1, b__law_reads⟩
def b__law_offset : Ss := (.cons (.asg (.tp (.cons (.nm 4) (.cons (.nm 5) (.cons (.nm 6) .nil)))) (.var 0))
  (.cons (.ret (.bin .Add (.sub (.var 5) (.var 3)) (.sub (.var 6) (.bi .len (.cons (.call "_law_operands" (.cons (.sub (.var 1) (.var 2)) .nil)) .nil)))))
  .nil))
def f__law_offset : Fn := ⟨["_law_machine_here", "_law_sheet_here", "_law_reader", "_law_place", "_law_size", "_law_gates", "_law_lags"], 4, b__law_offset⟩
def b_patch_error : Ss := (.cons (.ifs (.or (.not (.isi (.var 1) ["tuple"])) (.one (.cmp .NotEq (.bi .len (.cons (.var 1) .nil)) (.bi .len (.cons (.call "reads_of" (.cons (.var 0) .nil)) .nil))))) (.cons (.ret (.tup (.cons (.con .none) (.cons (.con (.str "patch")) .nil))))
    .nil) .nil)
  (.cons (.for_ (.tp (.cons (.nm 2) (.cons (.nm 3) .nil))) (.enum (.var 1)) (.cons (.ifs (.not (.call "is_integer" (.cons (.var 3) (.cons (.con (.int 0)) (.cons (.glob "MAX_COPIES") .nil))))) (.cons (.ret (.tup (.cons (.var 2) (.cons (.con (.str "number")) .nil))))
      .nil) .nil)
    .nil))
  (.cons (.ret (.con .none))
  .nil)))
def f_patch_error : Fn := ⟨["sheet", "value", "index", "item"], 2, b_patch_error⟩
def b_chains_of : Ss := (.cons (.asg (.nm 2) (.dic true [] .nil))
  (.cons (.for_ (.tp (.cons (.tp (.cons (.nm 3) (.cons (.nm 4) (.cons (.nm 5) .nil)))) (.cons (.nm 6) .nil))) (.zip (.call "reads_of" (.cons (.var 0) .nil)) (.var 1)) (.cons (.put (.var 2) (.var 5) (.bi .max (.cons (.met .get (.var 2) (.cons (.var 5) (.cons (.con (.int 0)) .nil))) (.cons (.var 6) .nil))))
    .nil))
  (.cons (.ret (.lc false [7] (.nm 7) (.rng (.cons (.bi .len (.cons (.var 0) .nil)) .nil)) .no (.met .get (.var 2) (.cons (.var 7) (.cons (.con (.int 0)) .nil)))))
  .nil)))
def f_chains_of : Fn := ⟨["sheet", "patch", "found", "reader", "operand", "source", "many", "index"], 2, b_chains_of⟩
def b_copies_in : Ss := (.cons (.ret (.bi .sum (.cons (.call "chains_of" (.cons (.var 0) (.cons (.var 1) .nil))) .nil)))
  .nil)
def f_copies_in : Fn := ⟨["sheet", "patch"], 2, b_copies_in⟩
def b__law_patch : Ss := (.cons (.ret (.bi .tuple (.cons (.lc false [2] (.nm 2) (.of (.call "_law_reads" (.cons (.var 1) .nil))) .no (.call "_law_one" (.cons (.var 0) (.cons (.lst false (.cons (.con (.int 0)) (.cons (.con (.int 0)) (.cons (.con (.int 1)) (.cons (.call "_law_draw" (.cons (.var 0) (.cons (.con (.int 3)) .nil))) (.cons (.call "_law_draw" (.cons (.var 0) (.cons (.con (.int 24)) .nil))) (.cons (.con (.int 23)) .nil))))))) .nil)))) .nil)))
  .nil)
def f__law_patch : Fn := ⟨["_law_box", "_law_sheet_here", "_law_read"], 2, b__law_patch⟩
def b__law_copies : Ss := (.cons (.asg (.nm 2) (.binL .Mult (.lst false (.cons (.con (.int 0)) .nil)) (.bi .len (.cons (.var 0) .nil))))
  (.cons (.for_ (.tp (.cons (.nm 3) (.cons (.nm 4) .nil))) (.zip (.call "_law_reads" (.cons (.var 0) .nil)) (.var 1)) (.cons (.put (.var 2) (.sub (.var 3) (.con (.int 2))) (.bi .max (.cons (.sub (.var 2) (.sub (.var 3) (.con (.int 2)))) (.cons (.var 4) .nil))))
    .nil))
  (.cons (.ret (.bi .sum (.cons (.var 2) .nil)))
  .nil)))
def f__law_copies : Fn := ⟨["_law_sheet_here", "_law_patch_here", "_law_most", "_law_read", "_law_many"], 2, b__law_copies⟩
def b__law_due : Ss := (.cons (.ifs (.or (.not (.isi (.var 1) ["tuple"])) (.one (.cmp .NotEq (.bi .len (.cons (.var 1) .nil)) (.bi .len (.cons (.call "_law_reads" (.cons (.var 0) .nil)) .nil))))) (.cons (.ret (.tup (.cons (.con .none) (.cons (.con (.str "patch")) .nil))))
    .nil) .nil)
  (.cons (.for_ (.tp (.cons (.nm 2) (.cons (.nm 3) .nil))) (.enum (.var 1)) (.cons (.ifs (.not (.call "_law_whole" (.cons (.var 3) (.cons (.con (.int 0)) (.cons (.con (.int 23)) .nil))))) (.cons (.ret (.tup (.cons (.var 2) (.cons (.con (.str "number")) .nil))))
      .nil) .nil)
    .nil))
  (.cons (.ret (.con .none))
  .nil)))
def f__law_due : Fn := ⟨["_law_sheet_here", "_law_value", "_law_index", "_law_item"], 2, b__law_due⟩
end Lib

end
section
/-! Tz.Pg1: integers, machines, forms of operations. -/
namespace Tz
open PySem
def isInt (v : PyData) (lo hi : Int) : Bool := match v with
  | .int i => decide (lo ≤ i) && decide (i ≤ hi)
  | _ => false
theorem imp_bool {b c : Bool} {Q : Bool → Prop} : ((b = true → Q c) ∧ (b = false → Q false)) ↔ Q (b && c) := by
  cases b <;> simp
theorem imp_bool2 {b c : Bool} {Q : Bool → Prop} : ((b = true → Q true) ∧ (b = false → Q c)) ↔ Q (b || c) := by
  cases b <;> simp
section
variable {T : Prog} {pr : Prims} {k : Nat} {Q : PyData → Prop} {X : Wx → Prop}
theorem is_integer_wp [Has T pr "is_integer" Lib.f_is_integer] {v : PyData} {lo hi : Int} : callW (wpF T pr (k + 1)) "is_integer" [.d v, .d (.int lo), .d (.int hi)] Q X ↔ Q (.bool (isInt v lo hi)) := by
  rw [wpF_at Lib.f_is_integer]
  cases v <;> simp -dsimp only [Lib.f_is_integer, Lib.b_is_integer, ↓getW_0, ↓getW_1, ↓getW_2, ↓wpSs, ↓wpS, ↓wpV, ↓wpE, ↓wpEs, ↓wpAs, ↓wpI, ↓wpP, ↓wpC, ↓rdE, ↓rd2, ↓varOf, ↓varC, ↓varB, ↓rdW, ↓argW, ↓ownL, ↓metO, ↓metR, ↓changes, ↓setTgW, setTgsW, wipeW, startW, ↓binW, ↓addW, ↓mulW, ↓subIW, ↓divW, ↓modW, ↓powW, ↓augW, ↓negW, ↓truthW, ↓eqW, ↓ltW, ↓inW, ↓keyW, ↓isW, isNoneD, ↓cmpW, ↓subW, ↓cutW, ↓revW, isiD, tyD, isTy, ↓bi1W, ↓bi2W, ↓bisW, ↓lenW, ↓plainW, ↓rangeW, ↓zipW, partD, dPart, getDefW, mtTy, ↓putW, sizeLine, Nat.zero_le, Nat.reducePow, Nat.reduceLeDiff, Nat.reduceAdd, Nat.reduceSub, Nat.reduceMul, Int.reducePow, Int.reduceNeg, Int.reduceLE, Int.reduceLT, Int.cast_ofNat_Int, Int.toNat_natCast, Int.reduceToNat, List.map_cons, List.map_nil, List.length_cons, List.length_nil, List.getElem?_cons_zero, List.getElem?_cons_succ, List.set_cons_zero, List.set_cons_succ, List.any_cons, List.any_nil, List.replicate, List.cons_append, List.nil_append, String.reduceBEq, Bool.or_false, Bool.false_or, Bool.or_true, Bool.true_or, Bool.and_true, Bool.true_and, Bool.and_false, Bool.false_and, Bool.not_true, Bool.not_false, forall_const, true_implies, false_implies, implies_true, reduceCtorEq, and_true, true_and, and_false, false_and, if_true, if_false, ite_true, ite_false, not_true_eq_false, not_false_eq_true, Bool.true_eq_false, Bool.false_eq_true, bne_self_eq_false, Bool.not_eq_true', Bool.not_eq_false', Option.some.injEq, exists_eq_left, exists_eq_left', List.zip_cons_cons, List.zip_nil_left, List.zip_nil_right, keyD, Option.getD_some, Option.getD_none, isInt]
  exact imp_bool (Q := fun b => Q (.bool b))
theorem law_whole_wp [Has T pr "_law_whole" Lib.f__law_whole] {v : PyData} {lo hi : Int} : callW (wpF T pr (k + 1)) "_law_whole" [.d v, .d (.int lo), .d (.int hi)] Q X ↔ Q (.bool (isInt v lo hi)) := by
  rw [wpF_at Lib.f__law_whole]
  cases v <;> simp -dsimp only [Lib.f__law_whole, Lib.b__law_whole, ↓getW_0, ↓getW_1, ↓getW_2, ↓wpSs, ↓wpS, ↓wpV, ↓wpE, ↓wpEs, ↓wpAs, ↓wpI, ↓wpP, ↓wpC, ↓rdE, ↓rd2, ↓varOf, ↓varC, ↓varB, ↓rdW, ↓argW, ↓ownL, ↓metO, ↓metR, ↓changes, ↓setTgW, setTgsW, wipeW, startW, ↓binW, ↓addW, ↓mulW, ↓subIW, ↓divW, ↓modW, ↓powW, ↓augW, ↓negW, ↓truthW, ↓eqW, ↓ltW, ↓inW, ↓keyW, ↓isW, isNoneD, ↓cmpW, ↓subW, ↓cutW, ↓revW, isiD, tyD, isTy, ↓bi1W, ↓bi2W, ↓bisW, ↓lenW, ↓plainW, ↓rangeW, ↓zipW, partD, dPart, getDefW, mtTy, ↓putW, sizeLine, Nat.zero_le, Nat.reducePow, Nat.reduceLeDiff, Nat.reduceAdd, Nat.reduceSub, Nat.reduceMul, Int.reducePow, Int.reduceNeg, Int.reduceLE, Int.reduceLT, Int.cast_ofNat_Int, Int.toNat_natCast, Int.reduceToNat, List.map_cons, List.map_nil, List.length_cons, List.length_nil, List.getElem?_cons_zero, List.getElem?_cons_succ, List.set_cons_zero, List.set_cons_succ, List.any_cons, List.any_nil, List.replicate, List.cons_append, List.nil_append, String.reduceBEq, Bool.or_false, Bool.false_or, Bool.or_true, Bool.true_or, Bool.and_true, Bool.true_and, Bool.and_false, Bool.false_and, Bool.not_true, Bool.not_false, forall_const, true_implies, false_implies, implies_true, reduceCtorEq, and_true, true_and, and_false, false_and, if_true, if_false, ite_true, ite_false, not_true_eq_false, not_false_eq_true, Bool.true_eq_false, Bool.false_eq_true, bne_self_eq_false, Bool.not_eq_true', Bool.not_eq_false', Option.some.injEq, exists_eq_left, exists_eq_left', List.zip_cons_cons, List.zip_nil_left, List.zip_nil_right, keyD, Option.getD_some, Option.getD_none, isInt]
  exact imp_bool (Q := fun b => Q (.bool b))
/-! ### comprehensions -/
theorem lcW_map {f : PyData → (List PyData → Prop) → Prop} {g : PyData → PyData} : ∀ {xs : List PyData} {R : List PyData → Prop}, (∀ x ∈ xs, ∀ K, f x K ↔ K [g x]) → (lcW f xs R ↔ R (xs.map g))
  | [], R, h => Iff.rfl
  | x :: r, R, h => by
    show f x _ ↔ _
    rw [h x (List.mem_cons_self ..), lcW_map fun y hy => h y (List.mem_cons_of_mem _ hy)]
    rfl
theorem lcW_filter {f : PyData → (List PyData → Prop) → Prop} {p : PyData → Bool} {g : PyData → PyData} : ∀ {xs : List PyData} {R : List PyData → Prop}, (∀ x ∈ xs, ∀ K, f x K ↔ K (if p x then [g x] else [])) → (lcW f xs R ↔ R ((xs.filter p).map g))
  | [], R, h => Iff.rfl
  | x :: r, R, h => by
    show f x _ ↔ _
    rw [h x (List.mem_cons_self ..), lcW_filter fun y hy => h y (List.mem_cons_of_mem _ hy), List.filter_cons]
    cases p x <;> rfl
theorem lcX_map {f : PyData → (List PyData → Prop) → Prop} {g : PyData → PyData} {xs : List PyData} {R : List PyData → Prop} (h : ∀ x ∈ xs, ∀ K, f x K ↔ K [g x]) : lcX f xs R ↔ R (xs.map g) := lcW_map h
theorem lcX_filter {f : PyData → (List PyData → Prop) → Prop} {p : PyData → Bool} {g : PyData → PyData} {xs : List PyData} {R : List PyData → Prop} (h : ∀ x ∈ xs, ∀ K, f x K ↔ K (if p x then [g x] else [])) : lcX f xs R ↔ R ((xs.filter p).map g) := lcW_filter h
/-- each turn makes one thing of a kind -/
theorem lcW_each {f : PyData → (List PyData → Prop) → Prop} {P : PyData → Prop} : ∀ {xs : List PyData} {R : List PyData → Prop}, (∀ x ∈ xs, ∀ K : List PyData → Prop, (∀ y, P y → K [y]) → f x K) → (∀ ys, (∀ y ∈ ys, P y) → ys.length = xs.length → R ys) → lcW f xs R
  | [], R, h, hR => hR [] (fun _ z => by cases z) rfl
  | x :: r, R, h, hR => h x (List.mem_cons_self ..) _ fun y hy => lcW_each (fun z hz => h z (List.mem_cons_of_mem _ hz)) fun ys hys hl => hR (y :: ys) (fun z hz => (List.mem_cons.mp hz).elim (fun e => e ▸ hy) (hys z)) (by simp [hl])
/-- a loop over a list, by what is left -/
theorem forW_rest {F : PyData → We → (We → Prop) → Prop} {N : We → Prop} {R : List PyData → Prop} {I : We → Prop} (h0 : ∀ ρ, I ρ → (N ρ ↔ R [])) (h1 : ∀ x r ρ (kn : We → Prop), I ρ → (∀ ρ', I ρ' → (kn ρ' ↔ R r)) → (F x ρ kn ↔ R (x :: r))) : ∀ (xs : List PyData) (ρ : We), I ρ → (forW F N xs ρ ↔ R xs)
  | [], ρ, hI => h0 ρ hI
  | x :: r, ρ, hI => h1 x r ρ _ hI (forW_rest h0 h1 r)
theorem forW_enum {F : PyData → We → (We → Prop) → Prop} {N : We → Prop} {R : List PyData → Nat → Prop} {I : We → Prop} (h0 : ∀ ρ i, I ρ → (N ρ ↔ R [] i)) (h1 : ∀ x r (i : Nat) ρ (kn : We → Prop), I ρ → (∀ ρ', I ρ' → (kn ρ' ↔ R r (i + 1))) → (F (.tuple [.int i, x]) ρ kn ↔ R (x :: r) i)) : ∀ (xs : List PyData) (i : Nat) (ρ : We), I ρ → (forW F N (enumD i xs) ρ ↔ R xs i)
  | [], i, ρ, hI => h0 ρ i hI
  | x :: r, i, ρ, hI => h1 x r i ρ _ hI (forW_enum h0 h1 r (i + 1))
theorem forW_enumM {F : PyData → We → (We → Prop) → Prop} {N : We → Prop} {R : List PyData → Nat → Prop} {I : We → Prop} : ∀ {xs0 : List PyData}, (∀ ρ i, I ρ → (N ρ ↔ R [] i)) → (∀ x r (i : Nat) ρ (kn : We → Prop), x ∈ xs0 → I ρ → (∀ ρ', I ρ' → (kn ρ' ↔ R r (i + 1))) → (F (.tuple [.int i, x]) ρ kn ↔ R (x :: r) i)) → ∀ (xs : List PyData) (i : Nat) (ρ : We), I ρ → (∀ x ∈ xs, x ∈ xs0) → (forW F N (enumD i xs) ρ ↔ R xs i)
  | xs0, h0, h1, [], i, ρ, hI, hm => h0 ρ i hI
  | xs0, h0, h1, x :: r, i, ρ, hI, hm => h1 x r i ρ _ (hm x (List.mem_cons_self ..)) hI fun ρ' hI' => forW_enumM h0 h1 r (i + 1) ρ' hI' fun y hy => hm y (List.mem_cons_of_mem _ hy)
/-- a loop by an invariant of what is left -/
theorem forW_imp {F : PyData → We → (We → Prop) → Prop} {N : We → Prop} {I : List PyData → We → Prop} (h0 : ∀ ρ, I [] ρ → N ρ) (h1 : ∀ x r ρ (kn : We → Prop), I (x :: r) ρ → (∀ ρ', I r ρ' → kn ρ') → F x ρ kn) : ∀ (xs : List PyData) (ρ : We), I xs ρ → forW F N xs ρ
  | [], ρ, hI => h0 ρ hI
  | x :: r, ρ, hI => h1 x r ρ _ hI (forW_imp h0 h1 r)
theorem forW_ix {F : PyData → We → (We → Prop) → Prop} {N : We → Prop} {I : Nat → We → Prop} {g : Nat → PyData} {n : Nat} (h0 : ∀ ρ, I n ρ → N ρ) (h1 : ∀ j ρ (kn : We → Prop), j < n → I j ρ → (∀ ρ', I (j + 1) ρ' → kn ρ') → F (g j) ρ kn) (ρ : We) (h : I 0 ρ) : forW F N ((List.range n).map g) ρ := by
  have key : ∀ (m i : Nat) (ρ : We), i + m = n → I i ρ → forW F N ((List.range' i m).map g) ρ := by
    intro m
    induction m with
    | zero =>
      intro i ρ hi hI
      exact h0 ρ (by rw [← hi]; exact hI)
    | succ m ih =>
      intro i ρ hi hI
      rw [List.range'_succ]
      exact h1 i ρ _ (by omega) hI fun ρ' hI' => ih (i + 1) ρ' (by omega) hI'
  rw [List.range_eq_range']
  exact key n 0 ρ (by omega) h
/-- range(n) is walked -/
theorem forW_range {F : PyData → We → (We → Prop) → Prop} {N : We → Prop} {I : Nat → We → Prop} {n : Nat} (h0 : ∀ ρ, I n ρ → N ρ) (h1 : ∀ (j : Nat) ρ (kn : We → Prop), j < n → I j ρ → (∀ ρ', I (j + 1) ρ' → kn ρ') → F (.int j) ρ kn) (ρ : We) (h : I 0 ρ) : forW F N ((List.range n).map fun (j : Nat) => .int j) ρ := forW_ix (g := fun (j : Nat) => .int j) h0 h1 ρ h
theorem boolsD_map {p : PyData → Bool} : ∀ xs : List PyData, boolsD (xs.map fun x => .bool (p x)) = some (xs.map p)
  | [] => rfl
  | x :: r => by
    show (boolsD (r.map fun x => .bool (p x))).map (p x :: ·) = _
    rw [boolsD_map r]
    rfl
/-- all([p(x) for x in xs]) -/
theorem all_wp {p : PyData → Bool} {xs : List PyData} : bi1W .all (.list (xs.map fun x => .bool (p x))) Q ↔ Q (.bool (xs.all p)) := by
  show (∃ bs, boolsD _ = some bs ∧ _) ↔ _
  rw [boolsD_map]
  simp [List.all_map, Function.comp_def]
theorem bools_wp {p : PyData → Bool} {xs : List PyData} {R : List Bool → Prop} : boolsW (.list (xs.map fun x => .bool (p x))) R ↔ R (xs.map p) := by
  show (∃ bs, boolsD _ = some bs ∧ _) ↔ _
  rw [boolsD_map]
  simp
def areInts (v : PyData) (n lo hi : Int) : Bool := match v with
  | .tuple xs => decide ((xs.length : Int) = n) && xs.all fun x => isInt x lo hi
  | _ => false
theorem are_integers_wp [Has T pr "is_integer" Lib.f_is_integer] [Has T pr "are_integers" Lib.f_are_integers] {v : PyData} {n lo hi : Int} (hn : n ≤ 1000) : callW (wpF T pr (k + 2)) "are_integers" [.d v, .d (.int n), .d (.int lo), .d (.int hi)] Q X ↔ Q (.bool (areInts v n lo hi)) := by
  have sz : 1000 ≤ sizeLine := by unfold sizeLine; omega
  rw [wpF_at Lib.f_are_integers]
  cases v with
  | tuple xs =>
    simp -dsimp only [Lib.f_are_integers, Lib.b_are_integers, ↓getW_0, ↓getW_1, ↓getW_2, ↓wpSs, ↓wpS, ↓wpV, ↓wpE, ↓wpEs, ↓wpAs, ↓wpI, ↓wpP, ↓wpC, ↓rdE, ↓rd2, ↓varOf, ↓varC, ↓varB, ↓rdW, ↓argW, ↓ownL, ↓metO, ↓metR, ↓changes, ↓setTgW, setTgsW, wipeW, startW, ↓binW, ↓addW, ↓mulW, ↓subIW, ↓divW, ↓modW, ↓powW, ↓augW, ↓negW, ↓truthW, ↓eqW, ↓ltW, ↓inW, ↓keyW, ↓isW, isNoneD, ↓cmpW, ↓subW, ↓cutW, ↓revW, isiD, tyD, isTy, ↓bi1W, ↓bi2W, ↓bisW, ↓lenW, ↓plainW, ↓rangeW, ↓zipW, partD, dPart, getDefW, mtTy, ↓putW, sizeLine, Nat.zero_le, Nat.reducePow, Nat.reduceLeDiff, Nat.reduceAdd, Nat.reduceSub, Nat.reduceMul, Int.reducePow, Int.reduceNeg, Int.reduceLE, Int.reduceLT, Int.cast_ofNat_Int, Int.toNat_natCast, Int.reduceToNat, List.map_cons, List.map_nil, List.length_cons, List.length_nil, List.getElem?_cons_zero, List.getElem?_cons_succ, List.set_cons_zero, List.set_cons_succ, List.any_cons, List.any_nil, List.replicate, List.cons_append, List.nil_append, String.reduceBEq, Bool.or_false, Bool.false_or, Bool.or_true, Bool.true_or, Bool.and_true, Bool.true_and, Bool.and_false, Bool.false_and, Bool.not_true, Bool.not_false, forall_const, true_implies, false_implies, implies_true, reduceCtorEq, and_true, true_and, and_false, false_and, if_true, if_false, ite_true, ite_false, not_true_eq_false, not_false_eq_true, Bool.true_eq_false, Bool.false_eq_true, bne_self_eq_false, Bool.not_eq_true', Bool.not_eq_false', Option.some.injEq, exists_eq_left, exists_eq_left', List.zip_cons_cons, List.zip_nil_left, List.zip_nil_right, keyD, Option.getD_some, Option.getD_none, areInts]
    by_cases h : (xs.length : Int) = n
    · simp -dsimp only [h, decide_true, ↓getW_0, ↓getW_1, ↓getW_2, ↓wpSs, ↓wpS, ↓wpV, ↓wpE, ↓wpEs, ↓wpAs, ↓wpI, ↓wpP, ↓wpC, ↓rdE, ↓rd2, ↓varOf, ↓varC, ↓varB, ↓rdW, ↓argW, ↓ownL, ↓metO, ↓metR, ↓changes, ↓setTgW, setTgsW, wipeW, startW, ↓binW, ↓addW, ↓mulW, ↓subIW, ↓divW, ↓modW, ↓powW, ↓augW, ↓negW, ↓truthW, ↓eqW, ↓ltW, ↓inW, ↓keyW, ↓isW, isNoneD, ↓cmpW, ↓subW, ↓cutW, ↓revW, isiD, tyD, isTy, ↓bi1W, ↓bi2W, ↓bisW, ↓lenW, ↓plainW, ↓rangeW, ↓zipW, partD, dPart, getDefW, mtTy, ↓putW, sizeLine, Nat.zero_le, Nat.reducePow, Nat.reduceLeDiff, Nat.reduceAdd, Nat.reduceSub, Nat.reduceMul, Int.reducePow, Int.reduceNeg, Int.reduceLE, Int.reduceLT, Int.cast_ofNat_Int, Int.toNat_natCast, Int.reduceToNat, List.map_cons, List.map_nil, List.length_cons, List.length_nil, List.getElem?_cons_zero, List.getElem?_cons_succ, List.set_cons_zero, List.set_cons_succ, List.any_cons, List.any_nil, List.replicate, List.cons_append, List.nil_append, String.reduceBEq, Bool.or_false, Bool.false_or, Bool.or_true, Bool.true_or, Bool.and_true, Bool.true_and, Bool.and_false, Bool.false_and, Bool.not_true, Bool.not_false, forall_const, true_implies, false_implies, implies_true, reduceCtorEq, and_true, true_and, and_false, false_and, if_true, if_false, ite_true, ite_false, not_true_eq_false, not_false_eq_true, Bool.true_eq_false, Bool.false_eq_true, bne_self_eq_false, Bool.not_eq_true', Bool.not_eq_false', Option.some.injEq, exists_eq_left, exists_eq_left', List.zip_cons_cons, List.zip_nil_left, List.zip_nil_right, keyD, Option.getD_some, Option.getD_none]
      rw [lcX_map (g := fun x => .bool (isInt x lo hi)) fun x _ K => by simp -dsimp only [↓getW_0, ↓getW_1, ↓getW_2, ↓wpSs, ↓wpS, ↓wpV, ↓wpE, ↓wpEs, ↓wpAs, ↓wpI, ↓wpP, ↓wpC, ↓rdE, ↓rd2, ↓varOf, ↓varC, ↓varB, ↓rdW, ↓argW, ↓ownL, ↓metO, ↓metR, ↓changes, ↓setTgW, setTgsW, wipeW, startW, ↓binW, ↓addW, ↓mulW, ↓subIW, ↓divW, ↓modW, ↓powW, ↓augW, ↓negW, ↓truthW, ↓eqW, ↓ltW, ↓inW, ↓keyW, ↓isW, isNoneD, ↓cmpW, ↓subW, ↓cutW, ↓revW, isiD, tyD, isTy, ↓bi1W, ↓bi2W, ↓bisW, ↓lenW, ↓plainW, ↓rangeW, ↓zipW, partD, dPart, getDefW, mtTy, ↓putW, sizeLine, Nat.zero_le, Nat.reducePow, Nat.reduceLeDiff, Nat.reduceAdd, Nat.reduceSub, Nat.reduceMul, Int.reducePow, Int.reduceNeg, Int.reduceLE, Int.reduceLT, Int.cast_ofNat_Int, Int.toNat_natCast, Int.reduceToNat, List.map_cons, List.map_nil, List.length_cons, List.length_nil, List.getElem?_cons_zero, List.getElem?_cons_succ, List.set_cons_zero, List.set_cons_succ, List.any_cons, List.any_nil, List.replicate, List.cons_append, List.nil_append, String.reduceBEq, Bool.or_false, Bool.false_or, Bool.or_true, Bool.true_or, Bool.and_true, Bool.true_and, Bool.and_false, Bool.false_and, Bool.not_true, Bool.not_false, forall_const, true_implies, false_implies, implies_true, reduceCtorEq, and_true, true_and, and_false, false_and, if_true, if_false, ite_true, ite_false, not_true_eq_false, not_false_eq_true, Bool.true_eq_false, Bool.false_eq_true, bne_self_eq_false, Bool.not_eq_true', Bool.not_eq_false', Option.some.injEq, exists_eq_left, exists_eq_left', List.zip_cons_cons, List.zip_nil_left, List.zip_nil_right, keyD, Option.getD_some, Option.getD_none, ↓is_integer_wp]]
      simp -dsimp only [↓getW_0, ↓getW_1, ↓getW_2, ↓wpSs, ↓wpS, ↓wpV, ↓wpE, ↓wpEs, ↓wpAs, ↓wpI, ↓wpP, ↓wpC, ↓rdE, ↓rd2, ↓varOf, ↓varC, ↓varB, ↓rdW, ↓argW, ↓ownL, ↓metO, ↓metR, ↓changes, ↓setTgW, setTgsW, wipeW, startW, ↓binW, ↓addW, ↓mulW, ↓subIW, ↓divW, ↓modW, ↓powW, ↓augW, ↓negW, ↓truthW, ↓eqW, ↓ltW, ↓inW, ↓keyW, ↓isW, isNoneD, ↓cmpW, ↓subW, ↓cutW, ↓revW, isiD, tyD, isTy, ↓bi1W, ↓bi2W, ↓bisW, ↓lenW, ↓plainW, ↓rangeW, ↓zipW, partD, dPart, getDefW, mtTy, ↓putW, sizeLine, Nat.zero_le, Nat.reducePow, Nat.reduceLeDiff, Nat.reduceAdd, Nat.reduceSub, Nat.reduceMul, Int.reducePow, Int.reduceNeg, Int.reduceLE, Int.reduceLT, Int.cast_ofNat_Int, Int.toNat_natCast, Int.reduceToNat, List.map_cons, List.map_nil, List.length_cons, List.length_nil, List.getElem?_cons_zero, List.getElem?_cons_succ, List.set_cons_zero, List.set_cons_succ, List.any_cons, List.any_nil, List.replicate, List.cons_append, List.nil_append, String.reduceBEq, Bool.or_false, Bool.false_or, Bool.or_true, Bool.true_or, Bool.and_true, Bool.true_and, Bool.and_false, Bool.false_and, Bool.not_true, Bool.not_false, forall_const, true_implies, false_implies, implies_true, reduceCtorEq, and_true, true_and, and_false, false_and, if_true, if_false, ite_true, ite_false, not_true_eq_false, not_false_eq_true, Bool.true_eq_false, Bool.false_eq_true, bne_self_eq_false, Bool.not_eq_true', Bool.not_eq_false', Option.some.injEq, exists_eq_left, exists_eq_left', List.zip_cons_cons, List.zip_nil_left, List.zip_nil_right, keyD, Option.getD_some, Option.getD_none, bools_wp, List.all_map, Function.comp_def, id]
      have : xs.length ≤ 16777216 := by omega
      simp [this]
    · simp [h]
  | _ => simp -dsimp only [Lib.f_are_integers, Lib.b_are_integers, ↓getW_0, ↓getW_1, ↓getW_2, ↓wpSs, ↓wpS, ↓wpV, ↓wpE, ↓wpEs, ↓wpAs, ↓wpI, ↓wpP, ↓wpC, ↓rdE, ↓rd2, ↓varOf, ↓varC, ↓varB, ↓rdW, ↓argW, ↓ownL, ↓metO, ↓metR, ↓changes, ↓setTgW, setTgsW, wipeW, startW, ↓binW, ↓addW, ↓mulW, ↓subIW, ↓divW, ↓modW, ↓powW, ↓augW, ↓negW, ↓truthW, ↓eqW, ↓ltW, ↓inW, ↓keyW, ↓isW, isNoneD, ↓cmpW, ↓subW, ↓cutW, ↓revW, isiD, tyD, isTy, ↓bi1W, ↓bi2W, ↓bisW, ↓lenW, ↓plainW, ↓rangeW, ↓zipW, partD, dPart, getDefW, mtTy, ↓putW, sizeLine, Nat.zero_le, Nat.reducePow, Nat.reduceLeDiff, Nat.reduceAdd, Nat.reduceSub, Nat.reduceMul, Int.reducePow, Int.reduceNeg, Int.reduceLE, Int.reduceLT, Int.cast_ofNat_Int, Int.toNat_natCast, Int.reduceToNat, List.map_cons, List.map_nil, List.length_cons, List.length_nil, List.getElem?_cons_zero, List.getElem?_cons_succ, List.set_cons_zero, List.set_cons_succ, List.any_cons, List.any_nil, List.replicate, List.cons_append, List.nil_append, String.reduceBEq, Bool.or_false, Bool.false_or, Bool.or_true, Bool.true_or, Bool.and_true, Bool.true_and, Bool.and_false, Bool.false_and, Bool.not_true, Bool.not_false, forall_const, true_implies, false_implies, implies_true, reduceCtorEq, and_true, true_and, and_false, false_and, if_true, if_false, ite_true, ite_false, not_true_eq_false, not_false_eq_true, Bool.true_eq_false, Bool.false_eq_true, bne_self_eq_false, Bool.not_eq_true', Bool.not_eq_false', Option.some.injEq, exists_eq_left, exists_eq_left', List.zip_cons_cons, List.zip_nil_left, List.zip_nil_right, keyD, Option.getD_some, Option.getD_none, areInts]
end
end Tz

end
section
/-! Tz.Pg2: operations and sheets judged. -/
namespace Tz
open PySem
def numbersD : PyData := .dict [(.str "in", .int 8), (.str "const", .int 65521)]
def operandsD : PyData := .dict [(.str "neg", .int 1), (.str "copy", .int 1), (.str "add", .int 2), (.str "sub", .int 2), (.str "mul", .int 2), (.str "least", .int 2), (.str "most", .int 2)]
/-- how many items an operation of a kind has -/
def kindN (z : Str) : Int := if z = "in" ∨ z = "const" ∨ z = "neg" ∨ z = "copy" then 2 else if z = "add" ∨ z = "sub" ∨ z = "mul" ∨ z = "least" ∨ z = "most" then 3 else 0
def isNum (z : Str) : Bool := decide (z = "in" ∨ z = "const")
def hasForm (v : PyData) : Bool := match v with
  | .tuple (.str z :: r) => decide ((r.length : Int) + 1 = kindN z)
  | _ => false
/-- the kinds -/
inductive Kind (z : Str) : Prop
  | inp : z = "in" → Kind z
  | const : z = "const" → Kind z
  | neg : z = "neg" → Kind z
  | copy : z = "copy" → Kind z
  | add : z = "add" → Kind z
  | sub : z = "sub" → Kind z
  | mul : z = "mul" → Kind z
  | least : z = "least" → Kind z
  | most : z = "most" → Kind z
  | no : z ≠ "in" → z ≠ "const" → z ≠ "neg" → z ≠ "copy" → z ≠ "add" → z ≠ "sub" → z ≠ "mul" → z ≠ "least" → z ≠ "most" → Kind z
theorem kind_of (z : Str) : Kind z := by
  by_cases h1 : z = "in"
  · exact .inp h1
  by_cases h2 : z = "const"
  · exact .const h2
  by_cases h3 : z = "neg"
  · exact .neg h3
  by_cases h4 : z = "copy"
  · exact .copy h4
  by_cases h5 : z = "add"
  · exact .add h5
  by_cases h6 : z = "sub"
  · exact .sub h6
  by_cases h7 : z = "mul"
  · exact .mul h7
  by_cases h8 : z = "least"
  · exact .least h8
  by_cases h9 : z = "most"
  · exact .most h9
  exact .no h1 h2 h3 h4 h5 h6 h7 h8 h9
theorem lookD_cons {k : L2.Key} {j v : PyData} {r : List (PyData × PyData)} : lookD k ((j, v) :: r) = if keyOf j = some k then some v else lookD k r := rfl
theorem lookD_nil {k : L2.Key} : lookD k [] = none := rfl
theorem keyOf_str {x z : Str} : (keyOf (.str x) = some (Sum.inr z)) ↔ x = z := by simp [keyOf]
/-- the kinds are apart -/
theorem kinds_ne : ("in" : Str) ≠ "const" ∧ ("in" : Str) ≠ "neg" := by decide
theorem len_one {α : Type} {r : List α} (h : r.length = 1) : ∃ a, r = [a] := by
  match r, h with
  | [a], _ => exact ⟨a, rfl⟩
theorem len_two {α : Type} {r : List α} (h : r.length = 2) : ∃ a b, r = [a, b] := by
  match r, h with
  | [a, b], _ => exact ⟨a, b, rfl⟩
theorem cut_from {α : Type} {xs : List α} {i : Int} (h0 : 0 ≤ i) : cutD xs (some i) none = xs.drop i.toNat := by
  unfold cutD
  have e : HT.sIx xs.length 0 (some i) = min i.toNat xs.length := by
    show (if i < 0 then (i + (xs.length : Int)).toNat else min i.toNat xs.length) = _
    rw [if_neg (by omega)]
  rw [e, HT.sIx_none]
  by_cases h : i.toNat ≤ xs.length
  · rw [Nat.min_eq_left h]
    refine List.take_of_length_le ?_
    rw [List.length_drop]
    omega
  · rw [Nat.min_eq_right (by omega), List.drop_length, List.drop_eq_nil_of_le (by omega)]
    simp
theorem cut_to {α : Type} {xs : List α} {i : Int} (h0 : 0 ≤ i) : cutD xs none (some i) = xs.take i.toNat := by
  unfold cutD
  have e : HT.sIx xs.length xs.length (some i) = min i.toNat xs.length := by
    show (if i < 0 then (i + (xs.length : Int)).toNat else min i.toNat xs.length) = _
    rw [if_neg (by omega)]
  rw [e, HT.sIx_none]
  by_cases h : i.toNat ≤ xs.length
  · rw [Nat.min_eq_left h]
    simp
  · rw [Nat.min_eq_right (by omega), List.take_of_length_le (l := xs) (by omega)]
    simp
theorem cut_tail {α : Type} {x : α} {xs : List α} : cutD (x :: xs) (some 1) none = xs := by
  rw [cut_from (by decide)]
  rfl
theorem filter_none {α : Type} {p : α → Bool} {r : List α} : (r.filter fun x => !p x).isEmpty = r.all p := by
  rw [Bool.eq_iff_iff, List.isEmpty_iff, List.filter_eq_nil_iff, List.all_eq_true]
  simp
theorem imp_ite {b : Bool} {α : Type} {x y : α} {Q : α → Prop} : ((b = true → Q x) ∧ (b = false → Q y)) ↔ Q (if b then x else y) := by
  cases b <;> simp
section
variable {T : Prog} {pr : Prims} {k : Nat} {Q : PyData → Prop} {X : Wx → Prop}
theorem has_form_wp [hN : HasC T "NUMBERS" numbersD] [hO : HasC T "OPERANDS" operandsD] [Has T pr "has_form" Lib.f_has_form] {v : PyData} : callW (wpF T pr (k + 1)) "has_form" [.d v] Q X ↔ Q (.bool (hasForm v)) := by
  rw [wpF_at Lib.f_has_form]
  cases v with
  | tuple xs =>
    cases xs with
    | nil => simp -dsimp only [Lib.f_has_form, Lib.b_has_form, ↓getW_0, ↓getW_1, ↓getW_2, ↓wpSs, ↓wpS, ↓wpV, ↓wpE, ↓wpEs, ↓wpAs, ↓wpI, ↓wpP, ↓wpC, ↓rdE, ↓rd2, ↓varOf, ↓varC, ↓varB, ↓rdW, ↓argW, ↓ownL, ↓metO, ↓metR, ↓changes, ↓setTgW, setTgsW, wipeW, startW, ↓binW, ↓addW, ↓mulW, ↓subIW, ↓divW, ↓modW, ↓powW, ↓augW, ↓negW, ↓truthW, ↓eqW, ↓ltW, ↓inW, ↓keyW, ↓isW, isNoneD, ↓cmpW, ↓subW, ↓cutW, ↓revW, isiD, tyD, isTy, ↓bi1W, ↓bi2W, ↓bisW, ↓lenW, ↓plainW, ↓rangeW, ↓zipW, partD, dPart, getDefW, mtTy, ↓putW, sizeLine, Nat.zero_le, Nat.reducePow, Nat.reduceLeDiff, Nat.reduceAdd, Nat.reduceSub, Nat.reduceMul, Int.reducePow, Int.reduceNeg, Int.reduceLE, Int.reduceLT, Int.cast_ofNat_Int, Int.toNat_natCast, Int.reduceToNat, List.map_cons, List.map_nil, List.length_cons, List.length_nil, List.getElem?_cons_zero, List.getElem?_cons_succ, List.set_cons_zero, List.set_cons_succ, List.any_cons, List.any_nil, List.replicate, List.cons_append, List.nil_append, String.reduceBEq, Bool.or_false, Bool.false_or, Bool.or_true, Bool.true_or, Bool.and_true, Bool.true_and, Bool.and_false, Bool.false_and, Bool.not_true, Bool.not_false, forall_const, true_implies, false_implies, implies_true, reduceCtorEq, and_true, true_and, and_false, false_and, if_true, if_false, ite_true, ite_false, not_true_eq_false, not_false_eq_true, Bool.true_eq_false, Bool.false_eq_true, bne_self_eq_false, Bool.not_eq_true', Bool.not_eq_false', Option.some.injEq, exists_eq_left, exists_eq_left', List.zip_cons_cons, List.zip_nil_left, List.zip_nil_right, keyD, Option.getD_some, Option.getD_none, hasForm, List.isEmpty_nil]
    | cons a r =>
      cases a with
      | str z =>
        simp -dsimp only [Lib.f_has_form, Lib.b_has_form, ↓getW_0, ↓getW_1, ↓getW_2, ↓wpSs, ↓wpS, ↓wpV, ↓wpE, ↓wpEs, ↓wpAs, ↓wpI, ↓wpP, ↓wpC, ↓rdE, ↓rd2, ↓varOf, ↓varC, ↓varB, ↓rdW, ↓argW, ↓ownL, ↓metO, ↓metR, ↓changes, ↓setTgW, setTgsW, wipeW, startW, ↓binW, ↓addW, ↓mulW, ↓subIW, ↓divW, ↓modW, ↓powW, ↓augW, ↓negW, ↓truthW, ↓eqW, ↓ltW, ↓inW, ↓keyW, ↓isW, isNoneD, ↓cmpW, ↓subW, ↓cutW, ↓revW, isiD, tyD, isTy, ↓bi1W, ↓bi2W, ↓bisW, ↓lenW, ↓plainW, ↓rangeW, ↓zipW, partD, dPart, getDefW, mtTy, ↓putW, sizeLine, Nat.zero_le, Nat.reducePow, Nat.reduceLeDiff, Nat.reduceAdd, Nat.reduceSub, Nat.reduceMul, Int.reducePow, Int.reduceNeg, Int.reduceLE, Int.reduceLT, Int.cast_ofNat_Int, Int.toNat_natCast, Int.reduceToNat, List.map_cons, List.map_nil, List.length_cons, List.length_nil, List.getElem?_cons_zero, List.getElem?_cons_succ, List.set_cons_zero, List.set_cons_succ, List.any_cons, List.any_nil, List.replicate, List.cons_append, List.nil_append, String.reduceBEq, Bool.or_false, Bool.false_or, Bool.or_true, Bool.true_or, Bool.and_true, Bool.true_and, Bool.and_false, Bool.false_and, Bool.not_true, Bool.not_false, forall_const, true_implies, false_implies, implies_true, reduceCtorEq, and_true, true_and, and_false, false_and, if_true, if_false, ite_true, ite_false, not_true_eq_false, not_false_eq_true, Bool.true_eq_false, Bool.false_eq_true, bne_self_eq_false, Bool.not_eq_true', Bool.not_eq_false', Option.some.injEq, exists_eq_left, exists_eq_left', List.zip_cons_cons, List.zip_nil_left, List.zip_nil_right, keyD, Option.getD_some, Option.getD_none, hasForm, hN.at_, hO.at_, numbersD, operandsD, List.isEmpty_cons]
        cases kind_of z with
        | no h1 h2 h3 h4 h5 h6 h7 h8 h9 => simp [lookD_cons, lookD_nil, keyOf_str, kindN, h1, h2, h3, h4, h5, h6, h7, h8, h9, h1.symm, h2.symm, h3.symm, h4.symm, h5.symm, h6.symm, h7.symm, h8.symm, h9.symm]; rw [decide_eq_false (by omega)]
        | _ h => subst h; simp +decide [lookD_cons, lookD_nil, keyOf_str, kindN]
      | _ => simp -dsimp only [Lib.f_has_form, Lib.b_has_form, ↓getW_0, ↓getW_1, ↓getW_2, ↓wpSs, ↓wpS, ↓wpV, ↓wpE, ↓wpEs, ↓wpAs, ↓wpI, ↓wpP, ↓wpC, ↓rdE, ↓rd2, ↓varOf, ↓varC, ↓varB, ↓rdW, ↓argW, ↓ownL, ↓metO, ↓metR, ↓changes, ↓setTgW, setTgsW, wipeW, startW, ↓binW, ↓addW, ↓mulW, ↓subIW, ↓divW, ↓modW, ↓powW, ↓augW, ↓negW, ↓truthW, ↓eqW, ↓ltW, ↓inW, ↓keyW, ↓isW, isNoneD, ↓cmpW, ↓subW, ↓cutW, ↓revW, isiD, tyD, isTy, ↓bi1W, ↓bi2W, ↓bisW, ↓lenW, ↓plainW, ↓rangeW, ↓zipW, partD, dPart, getDefW, mtTy, ↓putW, sizeLine, Nat.zero_le, Nat.reducePow, Nat.reduceLeDiff, Nat.reduceAdd, Nat.reduceSub, Nat.reduceMul, Int.reducePow, Int.reduceNeg, Int.reduceLE, Int.reduceLT, Int.cast_ofNat_Int, Int.toNat_natCast, Int.reduceToNat, List.map_cons, List.map_nil, List.length_cons, List.length_nil, List.getElem?_cons_zero, List.getElem?_cons_succ, List.set_cons_zero, List.set_cons_succ, List.any_cons, List.any_nil, List.replicate, List.cons_append, List.nil_append, String.reduceBEq, Bool.or_false, Bool.false_or, Bool.or_true, Bool.true_or, Bool.and_true, Bool.true_and, Bool.and_false, Bool.false_and, Bool.not_true, Bool.not_false, forall_const, true_implies, false_implies, implies_true, reduceCtorEq, and_true, true_and, and_false, false_and, if_true, if_false, ite_true, ite_false, not_true_eq_false, not_false_eq_true, Bool.true_eq_false, Bool.false_eq_true, bne_self_eq_false, Bool.not_eq_true', Bool.not_eq_false', Option.some.injEq, exists_eq_left, exists_eq_left', List.zip_cons_cons, List.zip_nil_left, List.zip_nil_right, keyD, Option.getD_some, Option.getD_none, hasForm, List.isEmpty_cons]
  | _ => simp -dsimp only [Lib.f_has_form, Lib.b_has_form, ↓getW_0, ↓getW_1, ↓getW_2, ↓wpSs, ↓wpS, ↓wpV, ↓wpE, ↓wpEs, ↓wpAs, ↓wpI, ↓wpP, ↓wpC, ↓rdE, ↓rd2, ↓varOf, ↓varC, ↓varB, ↓rdW, ↓argW, ↓ownL, ↓metO, ↓metR, ↓changes, ↓setTgW, setTgsW, wipeW, startW, ↓binW, ↓addW, ↓mulW, ↓subIW, ↓divW, ↓modW, ↓powW, ↓augW, ↓negW, ↓truthW, ↓eqW, ↓ltW, ↓inW, ↓keyW, ↓isW, isNoneD, ↓cmpW, ↓subW, ↓cutW, ↓revW, isiD, tyD, isTy, ↓bi1W, ↓bi2W, ↓bisW, ↓lenW, ↓plainW, ↓rangeW, ↓zipW, partD, dPart, getDefW, mtTy, ↓putW, sizeLine, Nat.zero_le, Nat.reducePow, Nat.reduceLeDiff, Nat.reduceAdd, Nat.reduceSub, Nat.reduceMul, Int.reducePow, Int.reduceNeg, Int.reduceLE, Int.reduceLT, Int.cast_ofNat_Int, Int.toNat_natCast, Int.reduceToNat, List.map_cons, List.map_nil, List.length_cons, List.length_nil, List.getElem?_cons_zero, List.getElem?_cons_succ, List.set_cons_zero, List.set_cons_succ, List.any_cons, List.any_nil, List.replicate, List.cons_append, List.nil_append, String.reduceBEq, Bool.or_false, Bool.false_or, Bool.or_true, Bool.true_or, Bool.and_true, Bool.true_and, Bool.and_false, Bool.false_and, Bool.not_true, Bool.not_false, forall_const, true_implies, false_implies, implies_true, reduceCtorEq, and_true, true_and, and_false, false_and, if_true, if_false, ite_true, ite_false, not_true_eq_false, not_false_eq_true, Bool.true_eq_false, Bool.false_eq_true, bne_self_eq_false, Bool.not_eq_true', Bool.not_eq_false', Option.some.injEq, exists_eq_left, exists_eq_left', List.zip_cons_cons, List.zip_nil_left, List.zip_nil_right, keyD, Option.getD_some, Option.getD_none, hasForm]
/-- why a value is not an operation at an index -/
def opErr (v : PyData) (i : Int) : PyData := if hasForm v then (match v with
    | .tuple (.str z :: r) => if isNum z then (if r.all (fun x => isInt x 0 (if z = "in" then 7 else 65520)) then .none else .str "number") else if r.all (fun x => isInt x 0 (i - 1)) then .none else .str "operand"
    | _ => .none) else .str "operation"
theorem operation_error_wp [hN : HasC T "NUMBERS" numbersD] [hO : HasC T "OPERANDS" operandsD] [Has T pr "is_integer" Lib.f_is_integer] [Has T pr "has_form" Lib.f_has_form] [Has T pr "operation_error" Lib.f_operation_error] {v : PyData} {i : Int} : callW (wpF T pr (k + 2)) "operation_error" [.d v, .d (.int i)] Q X ↔ Q (opErr v i) := by
  rw [wpF_at Lib.f_operation_error]
  simp -dsimp only [Lib.f_operation_error, Lib.b_operation_error, ↓getW_0, ↓getW_1, ↓getW_2, ↓wpSs, ↓wpS, ↓wpV, ↓wpE, ↓wpEs, ↓wpAs, ↓wpI, ↓wpP, ↓wpC, ↓rdE, ↓rd2, ↓varOf, ↓varC, ↓varB, ↓rdW, ↓argW, ↓ownL, ↓metO, ↓metR, ↓changes, ↓setTgW, setTgsW, wipeW, startW, ↓binW, ↓addW, ↓mulW, ↓subIW, ↓divW, ↓modW, ↓powW, ↓augW, ↓negW, ↓truthW, ↓eqW, ↓ltW, ↓inW, ↓keyW, ↓isW, isNoneD, ↓cmpW, ↓subW, ↓cutW, ↓revW, isiD, tyD, isTy, ↓bi1W, ↓bi2W, ↓bisW, ↓lenW, ↓plainW, ↓rangeW, ↓zipW, partD, dPart, getDefW, mtTy, ↓putW, sizeLine, Nat.zero_le, Nat.reducePow, Nat.reduceLeDiff, Nat.reduceAdd, Nat.reduceSub, Nat.reduceMul, Int.reducePow, Int.reduceNeg, Int.reduceLE, Int.reduceLT, Int.cast_ofNat_Int, Int.toNat_natCast, Int.reduceToNat, List.map_cons, List.map_nil, List.length_cons, List.length_nil, List.getElem?_cons_zero, List.getElem?_cons_succ, List.set_cons_zero, List.set_cons_succ, List.any_cons, List.any_nil, List.replicate, List.cons_append, List.nil_append, String.reduceBEq, Bool.or_false, Bool.false_or, Bool.or_true, Bool.true_or, Bool.and_true, Bool.true_and, Bool.and_false, Bool.false_and, Bool.not_true, Bool.not_false, forall_const, true_implies, false_implies, implies_true, reduceCtorEq, and_true, true_and, and_false, false_and, if_true, if_false, ite_true, ite_false, not_true_eq_false, not_false_eq_true, Bool.true_eq_false, Bool.false_eq_true, bne_self_eq_false, Bool.not_eq_true', Bool.not_eq_false', Option.some.injEq, exists_eq_left, exists_eq_left', List.zip_cons_cons, List.zip_nil_left, List.zip_nil_right, keyD, Option.getD_some, Option.getD_none, ↓has_form_wp]
  cases h : hasForm v with
  | false => simp [opErr, h]
  | true =>
    unfold hasForm at h
    split at h
    · rename_i z r
      rw [decide_eq_true_eq] at h
      simp -dsimp only [↓getW_0, ↓getW_1, ↓getW_2, ↓wpSs, ↓wpS, ↓wpV, ↓wpE, ↓wpEs, ↓wpAs, ↓wpI, ↓wpP, ↓wpC, ↓rdE, ↓rd2, ↓varOf, ↓varC, ↓varB, ↓rdW, ↓argW, ↓ownL, ↓metO, ↓metR, ↓changes, ↓setTgW, setTgsW, wipeW, startW, ↓binW, ↓addW, ↓mulW, ↓subIW, ↓divW, ↓modW, ↓powW, ↓augW, ↓negW, ↓truthW, ↓eqW, ↓ltW, ↓inW, ↓keyW, ↓isW, isNoneD, ↓cmpW, ↓subW, ↓cutW, ↓revW, isiD, tyD, isTy, ↓bi1W, ↓bi2W, ↓bisW, ↓lenW, ↓plainW, ↓rangeW, ↓zipW, partD, dPart, getDefW, mtTy, ↓putW, sizeLine, Nat.zero_le, Nat.reducePow, Nat.reduceLeDiff, Nat.reduceAdd, Nat.reduceSub, Nat.reduceMul, Int.reducePow, Int.reduceNeg, Int.reduceLE, Int.reduceLT, Int.cast_ofNat_Int, Int.toNat_natCast, Int.reduceToNat, List.map_cons, List.map_nil, List.length_cons, List.length_nil, List.getElem?_cons_zero, List.getElem?_cons_succ, List.set_cons_zero, List.set_cons_succ, List.any_cons, List.any_nil, List.replicate, List.cons_append, List.nil_append, String.reduceBEq, Bool.or_false, Bool.false_or, Bool.or_true, Bool.true_or, Bool.and_true, Bool.true_and, Bool.and_false, Bool.false_and, Bool.not_true, Bool.not_false, forall_const, true_implies, false_implies, implies_true, reduceCtorEq, and_true, true_and, and_false, false_and, if_true, if_false, ite_true, ite_false, not_true_eq_false, not_false_eq_true, Bool.true_eq_false, Bool.false_eq_true, bne_self_eq_false, Bool.not_eq_true', Bool.not_eq_false', Option.some.injEq, exists_eq_left, exists_eq_left', List.zip_cons_cons, List.zip_nil_left, List.zip_nil_right, keyD, Option.getD_some, Option.getD_none, hN.at_, numbersD, opErr, hasForm, h, decide_true]
      cases kind_of z with
      | no h1 h2 h3 h4 h5 h6 h7 h8 h9 =>
        simp [kindN, h1, h2, h3, h4, h5, h6, h7, h8, h9] at h
        omega
      | inp hz =>
        subst hz
        simp +decide [kindN] at h
        obtain ⟨a, rfl⟩ := len_one (r := r) (by omega)
        simp +decide [lookD_cons, keyOf_str, isNum, ↓is_integer_wp, imp_ite, hN.at_, numbersD, ↓getW_0, ↓getW_1, ↓getW_2, ↓wpSs, ↓wpS, ↓wpV, ↓wpE, ↓wpEs, ↓wpAs, ↓wpI, ↓wpP, ↓wpC, ↓rdE, ↓rd2, ↓varOf, ↓varC, ↓varB, ↓rdW, ↓argW, ↓ownL, ↓metO, ↓metR, ↓changes, ↓setTgW, setTgsW, wipeW, startW, ↓binW, ↓addW, ↓mulW, ↓subIW, ↓divW, ↓modW, ↓powW, ↓augW, ↓negW, ↓truthW, ↓eqW, ↓ltW, ↓inW, ↓keyW, ↓isW, isNoneD, ↓cmpW, ↓subW, ↓cutW, ↓revW, isiD, tyD, isTy, ↓bi1W, ↓bi2W, ↓bisW, ↓lenW, ↓plainW, ↓rangeW, ↓zipW, partD, dPart, getDefW, mtTy, ↓putW, sizeLine, Nat.zero_le, Nat.reducePow, Nat.reduceLeDiff, Nat.reduceAdd, Nat.reduceSub, Nat.reduceMul, Int.reducePow, Int.reduceNeg, Int.reduceLE, Int.reduceLT, Int.cast_ofNat_Int, Int.toNat_natCast, Int.reduceToNat, List.map_cons, List.map_nil, List.length_cons, List.length_nil, List.getElem?_cons_zero, List.getElem?_cons_succ, List.set_cons_zero, List.set_cons_succ, List.any_cons, List.any_nil, List.replicate, List.cons_append, List.nil_append, String.reduceBEq, Bool.or_false, Bool.false_or, Bool.or_true, Bool.true_or, Bool.and_true, Bool.true_and, Bool.and_false, Bool.false_and, Bool.not_true, Bool.not_false, forall_const, true_implies, false_implies, implies_true, reduceCtorEq, and_true, true_and, and_false, false_and, if_true, if_false, ite_true, ite_false, not_true_eq_false, not_false_eq_true, Bool.true_eq_false, Bool.false_eq_true, bne_self_eq_false, Bool.not_eq_true', Bool.not_eq_false', Option.some.injEq, exists_eq_left, exists_eq_left', List.zip_cons_cons, List.zip_nil_left, List.zip_nil_right, keyD, Option.getD_some, Option.getD_none]
      | const hz =>
        subst hz
        simp +decide [kindN] at h
        obtain ⟨a, rfl⟩ := len_one (r := r) (by omega)
        simp +decide [lookD_cons, keyOf_str, isNum, ↓is_integer_wp, imp_ite, hN.at_, numbersD, ↓getW_0, ↓getW_1, ↓getW_2, ↓wpSs, ↓wpS, ↓wpV, ↓wpE, ↓wpEs, ↓wpAs, ↓wpI, ↓wpP, ↓wpC, ↓rdE, ↓rd2, ↓varOf, ↓varC, ↓varB, ↓rdW, ↓argW, ↓ownL, ↓metO, ↓metR, ↓changes, ↓setTgW, setTgsW, wipeW, startW, ↓binW, ↓addW, ↓mulW, ↓subIW, ↓divW, ↓modW, ↓powW, ↓augW, ↓negW, ↓truthW, ↓eqW, ↓ltW, ↓inW, ↓keyW, ↓isW, isNoneD, ↓cmpW, ↓subW, ↓cutW, ↓revW, isiD, tyD, isTy, ↓bi1W, ↓bi2W, ↓bisW, ↓lenW, ↓plainW, ↓rangeW, ↓zipW, partD, dPart, getDefW, mtTy, ↓putW, sizeLine, Nat.zero_le, Nat.reducePow, Nat.reduceLeDiff, Nat.reduceAdd, Nat.reduceSub, Nat.reduceMul, Int.reducePow, Int.reduceNeg, Int.reduceLE, Int.reduceLT, Int.cast_ofNat_Int, Int.toNat_natCast, Int.reduceToNat, List.map_cons, List.map_nil, List.length_cons, List.length_nil, List.getElem?_cons_zero, List.getElem?_cons_succ, List.set_cons_zero, List.set_cons_succ, List.any_cons, List.any_nil, List.replicate, List.cons_append, List.nil_append, String.reduceBEq, Bool.or_false, Bool.false_or, Bool.or_true, Bool.true_or, Bool.and_true, Bool.true_and, Bool.and_false, Bool.false_and, Bool.not_true, Bool.not_false, forall_const, true_implies, false_implies, implies_true, reduceCtorEq, and_true, true_and, and_false, false_and, if_true, if_false, ite_true, ite_false, not_true_eq_false, not_false_eq_true, Bool.true_eq_false, Bool.false_eq_true, bne_self_eq_false, Bool.not_eq_true', Bool.not_eq_false', Option.some.injEq, exists_eq_left, exists_eq_left', List.zip_cons_cons, List.zip_nil_left, List.zip_nil_right, keyD, Option.getD_some, Option.getD_none]
      | _ hz =>
        subst hz
        simp +decide [kindN] at h
        simp -dsimp +decide only [lookD_cons, lookD_nil, keyOf_str, isNum, ↓getW_0, ↓getW_1, ↓getW_2, ↓wpSs, ↓wpS, ↓wpV, ↓wpE, ↓wpEs, ↓wpAs, ↓wpI, ↓wpP, ↓wpC, ↓rdE, ↓rd2, ↓varOf, ↓varC, ↓varB, ↓rdW, ↓argW, ↓ownL, ↓metO, ↓metR, ↓changes, ↓setTgW, setTgsW, wipeW, startW, ↓binW, ↓addW, ↓mulW, ↓subIW, ↓divW, ↓modW, ↓powW, ↓augW, ↓negW, ↓truthW, ↓eqW, ↓ltW, ↓inW, ↓keyW, ↓isW, isNoneD, ↓cmpW, ↓subW, ↓cutW, ↓revW, isiD, tyD, isTy, ↓bi1W, ↓bi2W, ↓bisW, ↓lenW, ↓plainW, ↓rangeW, ↓zipW, partD, dPart, getDefW, mtTy, ↓putW, sizeLine, Nat.zero_le, Nat.reducePow, Nat.reduceLeDiff, Nat.reduceAdd, Nat.reduceSub, Nat.reduceMul, Int.reducePow, Int.reduceNeg, Int.reduceLE, Int.reduceLT, Int.cast_ofNat_Int, Int.toNat_natCast, Int.reduceToNat, List.map_cons, List.map_nil, List.length_cons, List.length_nil, List.getElem?_cons_zero, List.getElem?_cons_succ, List.set_cons_zero, List.set_cons_succ, List.any_cons, List.any_nil, List.replicate, List.cons_append, List.nil_append, String.reduceBEq, Bool.or_false, Bool.false_or, Bool.or_true, Bool.true_or, Bool.and_true, Bool.true_and, Bool.and_false, Bool.false_and, Bool.not_true, Bool.not_false, forall_const, true_implies, false_implies, implies_true, reduceCtorEq, and_true, true_and, and_false, false_and, if_true, if_false, ite_true, ite_false, not_true_eq_false, not_false_eq_true, Bool.true_eq_false, Bool.false_eq_true, bne_self_eq_false, Bool.not_eq_true', Bool.not_eq_false', Option.some.injEq, exists_eq_left, exists_eq_left', List.zip_cons_cons, List.zip_nil_left, List.zip_nil_right, keyD, Option.getD_some, Option.getD_none, cut_tail]
        rw [lcX_map (g := fun x => .bool (isInt x 0 (i - 1))) fun x _ K => by simp -dsimp only [↓getW_0, ↓getW_1, ↓getW_2, ↓wpSs, ↓wpS, ↓wpV, ↓wpE, ↓wpEs, ↓wpAs, ↓wpI, ↓wpP, ↓wpC, ↓rdE, ↓rd2, ↓varOf, ↓varC, ↓varB, ↓rdW, ↓argW, ↓ownL, ↓metO, ↓metR, ↓changes, ↓setTgW, setTgsW, wipeW, startW, ↓binW, ↓addW, ↓mulW, ↓subIW, ↓divW, ↓modW, ↓powW, ↓augW, ↓negW, ↓truthW, ↓eqW, ↓ltW, ↓inW, ↓keyW, ↓isW, isNoneD, ↓cmpW, ↓subW, ↓cutW, ↓revW, isiD, tyD, isTy, ↓bi1W, ↓bi2W, ↓bisW, ↓lenW, ↓plainW, ↓rangeW, ↓zipW, partD, dPart, getDefW, mtTy, ↓putW, sizeLine, Nat.zero_le, Nat.reducePow, Nat.reduceLeDiff, Nat.reduceAdd, Nat.reduceSub, Nat.reduceMul, Int.reducePow, Int.reduceNeg, Int.reduceLE, Int.reduceLT, Int.cast_ofNat_Int, Int.toNat_natCast, Int.reduceToNat, List.map_cons, List.map_nil, List.length_cons, List.length_nil, List.getElem?_cons_zero, List.getElem?_cons_succ, List.set_cons_zero, List.set_cons_succ, List.any_cons, List.any_nil, List.replicate, List.cons_append, List.nil_append, String.reduceBEq, Bool.or_false, Bool.false_or, Bool.or_true, Bool.true_or, Bool.and_true, Bool.true_and, Bool.and_false, Bool.false_and, Bool.not_true, Bool.not_false, forall_const, true_implies, false_implies, implies_true, reduceCtorEq, and_true, true_and, and_false, false_and, if_true, if_false, ite_true, ite_false, not_true_eq_false, not_false_eq_true, Bool.true_eq_false, Bool.false_eq_true, bne_self_eq_false, Bool.not_eq_true', Bool.not_eq_false', Option.some.injEq, exists_eq_left, exists_eq_left', List.zip_cons_cons, List.zip_nil_left, List.zip_nil_right, keyD, Option.getD_some, Option.getD_none, ↓is_integer_wp]]
        have hl : r.length ≤ 16777216 := by omega
        simp -dsimp only [↓getW_0, ↓getW_1, ↓getW_2, ↓wpSs, ↓wpS, ↓wpV, ↓wpE, ↓wpEs, ↓wpAs, ↓wpI, ↓wpP, ↓wpC, ↓rdE, ↓rd2, ↓varOf, ↓varC, ↓varB, ↓rdW, ↓argW, ↓ownL, ↓metO, ↓metR, ↓changes, ↓setTgW, setTgsW, wipeW, startW, ↓binW, ↓addW, ↓mulW, ↓subIW, ↓divW, ↓modW, ↓powW, ↓augW, ↓negW, ↓truthW, ↓eqW, ↓ltW, ↓inW, ↓keyW, ↓isW, isNoneD, ↓cmpW, ↓subW, ↓cutW, ↓revW, isiD, tyD, isTy, ↓bi1W, ↓bi2W, ↓bisW, ↓lenW, ↓plainW, ↓rangeW, ↓zipW, partD, dPart, getDefW, mtTy, ↓putW, sizeLine, Nat.zero_le, Nat.reducePow, Nat.reduceLeDiff, Nat.reduceAdd, Nat.reduceSub, Nat.reduceMul, Int.reducePow, Int.reduceNeg, Int.reduceLE, Int.reduceLT, Int.cast_ofNat_Int, Int.toNat_natCast, Int.reduceToNat, List.map_cons, List.map_nil, List.length_cons, List.length_nil, List.getElem?_cons_zero, List.getElem?_cons_succ, List.set_cons_zero, List.set_cons_succ, List.any_cons, List.any_nil, List.replicate, List.cons_append, List.nil_append, String.reduceBEq, Bool.or_false, Bool.false_or, Bool.or_true, Bool.true_or, Bool.and_true, Bool.true_and, Bool.and_false, Bool.false_and, Bool.not_true, Bool.not_false, forall_const, true_implies, false_implies, implies_true, reduceCtorEq, and_true, true_and, and_false, false_and, if_true, if_false, ite_true, ite_false, not_true_eq_false, not_false_eq_true, Bool.true_eq_false, Bool.false_eq_true, bne_self_eq_false, Bool.not_eq_true', Bool.not_eq_false', Option.some.injEq, exists_eq_left, exists_eq_left', List.zip_cons_cons, List.zip_nil_left, List.zip_nil_right, keyD, Option.getD_some, Option.getD_none, bools_wp, List.all_map, Function.comp_def, id, hl, imp_ite, cut_tail]
    · cases h
/-- the first operation that is wrong -/
def shErr : List PyData → Int → PyData
  | [], _ => .none
  | v :: r, i => if isNoneD (opErr v i) then shErr r (i + 1) else .tuple [.int i, opErr v i]
def sheetErr (v : PyData) : PyData := match v with
  | .tuple xs => if 1 ≤ xs.length ∧ xs.length ≤ 24 then shErr xs 0 else .tuple [.none, .str "sheet"]
  | _ => .tuple [.none, .str "sheet"]
theorem enumD_cons {i : Nat} {x : PyData} {r : List PyData} : enumD i (x :: r) = .tuple [.int i, x] :: enumD (i + 1) r := rfl
theorem opErr_cases (v : PyData) (i : Int) : opErr v i = .none ∨ opErr v i = .str "operation" ∨ opErr v i = .str "number" ∨ opErr v i = .str "operand" := by
  unfold opErr
  repeat' split
  all_goals simp
theorem sheet_error_wp [hN : HasC T "NUMBERS" numbersD] [hO : HasC T "OPERANDS" operandsD] [hM : HasC T "MAX_OPS" (.int 24)] [Has T pr "is_integer" Lib.f_is_integer] [Has T pr "has_form" Lib.f_has_form] [Has T pr "operation_error" Lib.f_operation_error] [Has T pr "sheet_error" Lib.f_sheet_error] {v : PyData} : callW (wpF T pr (k + 3)) "sheet_error" [.d v] Q X ↔ Q (sheetErr v) := by
  rw [wpF_at Lib.f_sheet_error]
  cases v with
  | tuple xs =>
    simp -dsimp only [Lib.f_sheet_error, Lib.b_sheet_error, ↓getW_0, ↓getW_1, ↓getW_2, ↓wpSs, ↓wpS, ↓wpV, ↓wpE, ↓wpEs, ↓wpAs, ↓wpI, ↓wpP, ↓wpC, ↓rdE, ↓rd2, ↓varOf, ↓varC, ↓varB, ↓rdW, ↓argW, ↓ownL, ↓metO, ↓metR, ↓changes, ↓setTgW, setTgsW, wipeW, startW, ↓binW, ↓addW, ↓mulW, ↓subIW, ↓divW, ↓modW, ↓powW, ↓augW, ↓negW, ↓truthW, ↓eqW, ↓ltW, ↓inW, ↓keyW, ↓isW, isNoneD, ↓cmpW, ↓subW, ↓cutW, ↓revW, isiD, tyD, isTy, ↓bi1W, ↓bi2W, ↓bisW, ↓lenW, ↓plainW, ↓rangeW, ↓zipW, partD, dPart, getDefW, mtTy, ↓putW, sizeLine, Nat.zero_le, Nat.reducePow, Nat.reduceLeDiff, Nat.reduceAdd, Nat.reduceSub, Nat.reduceMul, Int.reducePow, Int.reduceNeg, Int.reduceLE, Int.reduceLT, Int.cast_ofNat_Int, Int.toNat_natCast, Int.reduceToNat, List.map_cons, List.map_nil, List.length_cons, List.length_nil, List.getElem?_cons_zero, List.getElem?_cons_succ, List.set_cons_zero, List.set_cons_succ, List.any_cons, List.any_nil, List.replicate, List.cons_append, List.nil_append, String.reduceBEq, Bool.or_false, Bool.false_or, Bool.or_true, Bool.true_or, Bool.and_true, Bool.true_and, Bool.and_false, Bool.false_and, Bool.not_true, Bool.not_false, forall_const, true_implies, false_implies, implies_true, reduceCtorEq, and_true, true_and, and_false, false_and, if_true, if_false, ite_true, ite_false, not_true_eq_false, not_false_eq_true, Bool.true_eq_false, Bool.false_eq_true, bne_self_eq_false, Bool.not_eq_true', Bool.not_eq_false', Option.some.injEq, exists_eq_left, exists_eq_left', List.zip_cons_cons, List.zip_nil_left, List.zip_nil_right, keyD, Option.getD_some, Option.getD_none, hM.at_, sheetErr]
    by_cases h : 1 ≤ xs.length ∧ xs.length ≤ 24
    · have h1 : decide ((1 : Int) ≤ (xs.length : Int)) = true := decide_eq_true (by omega)
      have h2 : decide ((xs.length : Int) ≤ 24) = true := decide_eq_true (by omega)
      have h3 : xs.length ≤ 16777216 := by omega
      simp -dsimp only [h1, h2, h3, h, ↓getW_0, ↓getW_1, ↓getW_2, ↓wpSs, ↓wpS, ↓wpV, ↓wpE, ↓wpEs, ↓wpAs, ↓wpI, ↓wpP, ↓wpC, ↓rdE, ↓rd2, ↓varOf, ↓varC, ↓varB, ↓rdW, ↓argW, ↓ownL, ↓metO, ↓metR, ↓changes, ↓setTgW, setTgsW, wipeW, startW, ↓binW, ↓addW, ↓mulW, ↓subIW, ↓divW, ↓modW, ↓powW, ↓augW, ↓negW, ↓truthW, ↓eqW, ↓ltW, ↓inW, ↓keyW, ↓isW, isNoneD, ↓cmpW, ↓subW, ↓cutW, ↓revW, isiD, tyD, isTy, ↓bi1W, ↓bi2W, ↓bisW, ↓lenW, ↓plainW, ↓rangeW, ↓zipW, partD, dPart, getDefW, mtTy, ↓putW, sizeLine, Nat.zero_le, Nat.reducePow, Nat.reduceLeDiff, Nat.reduceAdd, Nat.reduceSub, Nat.reduceMul, Int.reducePow, Int.reduceNeg, Int.reduceLE, Int.reduceLT, Int.cast_ofNat_Int, Int.toNat_natCast, Int.reduceToNat, List.map_cons, List.map_nil, List.length_cons, List.length_nil, List.getElem?_cons_zero, List.getElem?_cons_succ, List.set_cons_zero, List.set_cons_succ, List.any_cons, List.any_nil, List.replicate, List.cons_append, List.nil_append, String.reduceBEq, Bool.or_false, Bool.false_or, Bool.or_true, Bool.true_or, Bool.and_true, Bool.true_and, Bool.and_false, Bool.false_and, Bool.not_true, Bool.not_false, forall_const, true_implies, false_implies, implies_true, reduceCtorEq, and_true, true_and, and_false, false_and, if_true, if_false, ite_true, ite_false, not_true_eq_false, not_false_eq_true, Bool.true_eq_false, Bool.false_eq_true, bne_self_eq_false, Bool.not_eq_true', Bool.not_eq_false', Option.some.injEq, exists_eq_left, exists_eq_left', List.zip_cons_cons, List.zip_nil_left, List.zip_nil_right, keyD, Option.getD_some, Option.getD_none]
      refine forW_enum (R := fun l i => Q (shErr l i)) (I := fun ρ => ∃ a b c, ρ = [some (.d (.tuple xs)), a, b, c]) ?_ ?_ xs 0 _ ⟨_, _, _, rfl⟩
      · rintro ρ i ⟨a, b, c, rfl⟩
        simp -dsimp only [↓getW_0, ↓getW_1, ↓getW_2, ↓wpSs, ↓wpS, ↓wpV, ↓wpE, ↓wpEs, ↓wpAs, ↓wpI, ↓wpP, ↓wpC, ↓rdE, ↓rd2, ↓varOf, ↓varC, ↓varB, ↓rdW, ↓argW, ↓ownL, ↓metO, ↓metR, ↓changes, ↓setTgW, setTgsW, wipeW, startW, ↓binW, ↓addW, ↓mulW, ↓subIW, ↓divW, ↓modW, ↓powW, ↓augW, ↓negW, ↓truthW, ↓eqW, ↓ltW, ↓inW, ↓keyW, ↓isW, isNoneD, ↓cmpW, ↓subW, ↓cutW, ↓revW, isiD, tyD, isTy, ↓bi1W, ↓bi2W, ↓bisW, ↓lenW, ↓plainW, ↓rangeW, ↓zipW, partD, dPart, getDefW, mtTy, ↓putW, sizeLine, Nat.zero_le, Nat.reducePow, Nat.reduceLeDiff, Nat.reduceAdd, Nat.reduceSub, Nat.reduceMul, Int.reducePow, Int.reduceNeg, Int.reduceLE, Int.reduceLT, Int.cast_ofNat_Int, Int.toNat_natCast, Int.reduceToNat, List.map_cons, List.map_nil, List.length_cons, List.length_nil, List.getElem?_cons_zero, List.getElem?_cons_succ, List.set_cons_zero, List.set_cons_succ, List.any_cons, List.any_nil, List.replicate, List.cons_append, List.nil_append, String.reduceBEq, Bool.or_false, Bool.false_or, Bool.or_true, Bool.true_or, Bool.and_true, Bool.true_and, Bool.and_false, Bool.false_and, Bool.not_true, Bool.not_false, forall_const, true_implies, false_implies, implies_true, reduceCtorEq, and_true, true_and, and_false, false_and, if_true, if_false, ite_true, ite_false, not_true_eq_false, not_false_eq_true, Bool.true_eq_false, Bool.false_eq_true, bne_self_eq_false, Bool.not_eq_true', Bool.not_eq_false', Option.some.injEq, exists_eq_left, exists_eq_left', List.zip_cons_cons, List.zip_nil_left, List.zip_nil_right, keyD, Option.getD_some, Option.getD_none, shErr]
      · rintro x r i ρ kn ⟨a, b, c, rfl⟩ hk
        simp -dsimp only [↓getW_0, ↓getW_1, ↓getW_2, ↓wpSs, ↓wpS, ↓wpV, ↓wpE, ↓wpEs, ↓wpAs, ↓wpI, ↓wpP, ↓wpC, ↓rdE, ↓rd2, ↓varOf, ↓varC, ↓varB, ↓rdW, ↓argW, ↓ownL, ↓metO, ↓metR, ↓changes, ↓setTgW, setTgsW, wipeW, startW, ↓binW, ↓addW, ↓mulW, ↓subIW, ↓divW, ↓modW, ↓powW, ↓augW, ↓negW, ↓truthW, ↓eqW, ↓ltW, ↓inW, ↓keyW, ↓isW, isNoneD, ↓cmpW, ↓subW, ↓cutW, ↓revW, isiD, tyD, isTy, ↓bi1W, ↓bi2W, ↓bisW, ↓lenW, ↓plainW, ↓rangeW, ↓zipW, partD, dPart, getDefW, mtTy, ↓putW, sizeLine, Nat.zero_le, Nat.reducePow, Nat.reduceLeDiff, Nat.reduceAdd, Nat.reduceSub, Nat.reduceMul, Int.reducePow, Int.reduceNeg, Int.reduceLE, Int.reduceLT, Int.cast_ofNat_Int, Int.toNat_natCast, Int.reduceToNat, List.map_cons, List.map_nil, List.length_cons, List.length_nil, List.getElem?_cons_zero, List.getElem?_cons_succ, List.set_cons_zero, List.set_cons_succ, List.any_cons, List.any_nil, List.replicate, List.cons_append, List.nil_append, String.reduceBEq, Bool.or_false, Bool.false_or, Bool.or_true, Bool.true_or, Bool.and_true, Bool.true_and, Bool.and_false, Bool.false_and, Bool.not_true, Bool.not_false, forall_const, true_implies, false_implies, implies_true, reduceCtorEq, and_true, true_and, and_false, false_and, if_true, if_false, ite_true, ite_false, not_true_eq_false, not_false_eq_true, Bool.true_eq_false, Bool.false_eq_true, bne_self_eq_false, Bool.not_eq_true', Bool.not_eq_false', Option.some.injEq, exists_eq_left, exists_eq_left', List.zip_cons_cons, List.zip_nil_left, List.zip_nil_right, keyD, Option.getD_some, Option.getD_none, ↓operation_error_wp, shErr]
        rcases opErr_cases x i with e | e | e | e <;> rw [e] <;> simp -dsimp only [↓getW_0, ↓getW_1, ↓getW_2, ↓wpSs, ↓wpS, ↓wpV, ↓wpE, ↓wpEs, ↓wpAs, ↓wpI, ↓wpP, ↓wpC, ↓rdE, ↓rd2, ↓varOf, ↓varC, ↓varB, ↓rdW, ↓argW, ↓ownL, ↓metO, ↓metR, ↓changes, ↓setTgW, setTgsW, wipeW, startW, ↓binW, ↓addW, ↓mulW, ↓subIW, ↓divW, ↓modW, ↓powW, ↓augW, ↓negW, ↓truthW, ↓eqW, ↓ltW, ↓inW, ↓keyW, ↓isW, isNoneD, ↓cmpW, ↓subW, ↓cutW, ↓revW, isiD, tyD, isTy, ↓bi1W, ↓bi2W, ↓bisW, ↓lenW, ↓plainW, ↓rangeW, ↓zipW, partD, dPart, getDefW, mtTy, ↓putW, sizeLine, Nat.zero_le, Nat.reducePow, Nat.reduceLeDiff, Nat.reduceAdd, Nat.reduceSub, Nat.reduceMul, Int.reducePow, Int.reduceNeg, Int.reduceLE, Int.reduceLT, Int.cast_ofNat_Int, Int.toNat_natCast, Int.reduceToNat, List.map_cons, List.map_nil, List.length_cons, List.length_nil, List.getElem?_cons_zero, List.getElem?_cons_succ, List.set_cons_zero, List.set_cons_succ, List.any_cons, List.any_nil, List.replicate, List.cons_append, List.nil_append, String.reduceBEq, Bool.or_false, Bool.false_or, Bool.or_true, Bool.true_or, Bool.and_true, Bool.true_and, Bool.and_false, Bool.false_and, Bool.not_true, Bool.not_false, forall_const, true_implies, false_implies, implies_true, reduceCtorEq, and_true, true_and, and_false, false_and, if_true, if_false, ite_true, ite_false, not_true_eq_false, not_false_eq_true, Bool.true_eq_false, Bool.false_eq_true, bne_self_eq_false, Bool.not_eq_true', Bool.not_eq_false', Option.some.injEq, exists_eq_left, exists_eq_left', List.zip_cons_cons, List.zip_nil_left, List.zip_nil_right, keyD, Option.getD_some, Option.getD_none]
        exact hk _ ⟨_, _, _, rfl⟩
    · simp -dsimp only [h, ↓getW_0, ↓getW_1, ↓getW_2, ↓wpSs, ↓wpS, ↓wpV, ↓wpE, ↓wpEs, ↓wpAs, ↓wpI, ↓wpP, ↓wpC, ↓rdE, ↓rd2, ↓varOf, ↓varC, ↓varB, ↓rdW, ↓argW, ↓ownL, ↓metO, ↓metR, ↓changes, ↓setTgW, setTgsW, wipeW, startW, ↓binW, ↓addW, ↓mulW, ↓subIW, ↓divW, ↓modW, ↓powW, ↓augW, ↓negW, ↓truthW, ↓eqW, ↓ltW, ↓inW, ↓keyW, ↓isW, isNoneD, ↓cmpW, ↓subW, ↓cutW, ↓revW, isiD, tyD, isTy, ↓bi1W, ↓bi2W, ↓bisW, ↓lenW, ↓plainW, ↓rangeW, ↓zipW, partD, dPart, getDefW, mtTy, ↓putW, sizeLine, Nat.zero_le, Nat.reducePow, Nat.reduceLeDiff, Nat.reduceAdd, Nat.reduceSub, Nat.reduceMul, Int.reducePow, Int.reduceNeg, Int.reduceLE, Int.reduceLT, Int.cast_ofNat_Int, Int.toNat_natCast, Int.reduceToNat, List.map_cons, List.map_nil, List.length_cons, List.length_nil, List.getElem?_cons_zero, List.getElem?_cons_succ, List.set_cons_zero, List.set_cons_succ, List.any_cons, List.any_nil, List.replicate, List.cons_append, List.nil_append, String.reduceBEq, Bool.or_false, Bool.false_or, Bool.or_true, Bool.true_or, Bool.and_true, Bool.true_and, Bool.and_false, Bool.false_and, Bool.not_true, Bool.not_false, forall_const, true_implies, false_implies, implies_true, reduceCtorEq, and_true, true_and, and_false, false_and, if_true, if_false, ite_true, ite_false, not_true_eq_false, not_false_eq_true, Bool.true_eq_false, Bool.false_eq_true, bne_self_eq_false, Bool.not_eq_true', Bool.not_eq_false', Option.some.injEq, exists_eq_left, exists_eq_left', List.zip_cons_cons, List.zip_nil_left, List.zip_nil_right, keyD, Option.getD_some, Option.getD_none]
      by_cases h1 : (1 : Int) ≤ (xs.length : Int)
      · have h2 : ¬ (xs.length : Int) ≤ 24 := by omega
        simp [h1, h2]
      · simp [h1]
  | _ => simp -dsimp only [Lib.f_sheet_error, Lib.b_sheet_error, ↓getW_0, ↓getW_1, ↓getW_2, ↓wpSs, ↓wpS, ↓wpV, ↓wpE, ↓wpEs, ↓wpAs, ↓wpI, ↓wpP, ↓wpC, ↓rdE, ↓rd2, ↓varOf, ↓varC, ↓varB, ↓rdW, ↓argW, ↓ownL, ↓metO, ↓metR, ↓changes, ↓setTgW, setTgsW, wipeW, startW, ↓binW, ↓addW, ↓mulW, ↓subIW, ↓divW, ↓modW, ↓powW, ↓augW, ↓negW, ↓truthW, ↓eqW, ↓ltW, ↓inW, ↓keyW, ↓isW, isNoneD, ↓cmpW, ↓subW, ↓cutW, ↓revW, isiD, tyD, isTy, ↓bi1W, ↓bi2W, ↓bisW, ↓lenW, ↓plainW, ↓rangeW, ↓zipW, partD, dPart, getDefW, mtTy, ↓putW, sizeLine, Nat.zero_le, Nat.reducePow, Nat.reduceLeDiff, Nat.reduceAdd, Nat.reduceSub, Nat.reduceMul, Int.reducePow, Int.reduceNeg, Int.reduceLE, Int.reduceLT, Int.cast_ofNat_Int, Int.toNat_natCast, Int.reduceToNat, List.map_cons, List.map_nil, List.length_cons, List.length_nil, List.getElem?_cons_zero, List.getElem?_cons_succ, List.set_cons_zero, List.set_cons_succ, List.any_cons, List.any_nil, List.replicate, List.cons_append, List.nil_append, String.reduceBEq, Bool.or_false, Bool.false_or, Bool.or_true, Bool.true_or, Bool.and_true, Bool.true_and, Bool.and_false, Bool.false_and, Bool.not_true, Bool.not_false, forall_const, true_implies, false_implies, implies_true, reduceCtorEq, and_true, true_and, and_false, false_and, if_true, if_false, ite_true, ite_false, not_true_eq_false, not_false_eq_true, Bool.true_eq_false, Bool.false_eq_true, bne_self_eq_false, Bool.not_eq_true', Bool.not_eq_false', Option.some.injEq, exists_eq_left, exists_eq_left', List.zip_cons_cons, List.zip_nil_left, List.zip_nil_right, keyD, Option.getD_some, Option.getD_none, sheetErr]
theorem is_sheet_wp [hN : HasC T "NUMBERS" numbersD] [hO : HasC T "OPERANDS" operandsD] [hM : HasC T "MAX_OPS" (.int 24)] [Has T pr "is_integer" Lib.f_is_integer] [Has T pr "has_form" Lib.f_has_form] [Has T pr "operation_error" Lib.f_operation_error] [Has T pr "sheet_error" Lib.f_sheet_error] [Has T pr "is_sheet" Lib.f_is_sheet] {v : PyData} : callW (wpF T pr (k + 4)) "is_sheet" [.d v] Q X ↔ Q (.bool (isNoneD (sheetErr v))) := by
  rw [wpF_at Lib.f_is_sheet]
  simp -dsimp only [Lib.f_is_sheet, Lib.b_is_sheet, ↓getW_0, ↓getW_1, ↓getW_2, ↓wpSs, ↓wpS, ↓wpV, ↓wpE, ↓wpEs, ↓wpAs, ↓wpI, ↓wpP, ↓wpC, ↓rdE, ↓rd2, ↓varOf, ↓varC, ↓varB, ↓rdW, ↓argW, ↓ownL, ↓metO, ↓metR, ↓changes, ↓setTgW, setTgsW, wipeW, startW, ↓binW, ↓addW, ↓mulW, ↓subIW, ↓divW, ↓modW, ↓powW, ↓augW, ↓negW, ↓truthW, ↓eqW, ↓ltW, ↓inW, ↓keyW, ↓isW, isNoneD, ↓cmpW, ↓subW, ↓cutW, ↓revW, isiD, tyD, isTy, ↓bi1W, ↓bi2W, ↓bisW, ↓lenW, ↓plainW, ↓rangeW, ↓zipW, partD, dPart, getDefW, mtTy, ↓putW, sizeLine, Nat.zero_le, Nat.reducePow, Nat.reduceLeDiff, Nat.reduceAdd, Nat.reduceSub, Nat.reduceMul, Int.reducePow, Int.reduceNeg, Int.reduceLE, Int.reduceLT, Int.cast_ofNat_Int, Int.toNat_natCast, Int.reduceToNat, List.map_cons, List.map_nil, List.length_cons, List.length_nil, List.getElem?_cons_zero, List.getElem?_cons_succ, List.set_cons_zero, List.set_cons_succ, List.any_cons, List.any_nil, List.replicate, List.cons_append, List.nil_append, String.reduceBEq, Bool.or_false, Bool.false_or, Bool.or_true, Bool.true_or, Bool.and_true, Bool.true_and, Bool.and_false, Bool.false_and, Bool.not_true, Bool.not_false, forall_const, true_implies, false_implies, implies_true, reduceCtorEq, and_true, true_and, and_false, false_and, if_true, if_false, ite_true, ite_false, not_true_eq_false, not_false_eq_true, Bool.true_eq_false, Bool.false_eq_true, bne_self_eq_false, Bool.not_eq_true', Bool.not_eq_false', Option.some.injEq, exists_eq_left, exists_eq_left', List.zip_cons_cons, List.zip_nil_left, List.zip_nil_right, keyD, Option.getD_some, Option.getD_none, ↓sheet_error_wp]
/-! ### the law's own look -/
theorem law_fault_of_wp [Has T pr "_law_whole" Lib.f__law_whole] [Has T pr "_law_fault_of" Lib.f__law_sheet_fault_of] {v : PyData} {i : Int} (hl : ∀ xs, v = .tuple xs → xs.length ≤ 1000000) : callW (wpF T pr (k + 2)) "_law_fault_of" [.d v, .d (.int i)] Q X ↔ Q (opErr v i) := by
  rw [wpF_at Lib.f__law_sheet_fault_of]
  cases v with
  | tuple xs =>
    have hl := hl xs rfl
    cases xs with
    | nil => simp -dsimp only [Lib.f__law_sheet_fault_of, Lib.b__law_sheet_fault_of, ↓getW_0, ↓getW_1, ↓getW_2, ↓wpSs, ↓wpS, ↓wpV, ↓wpE, ↓wpEs, ↓wpAs, ↓wpI, ↓wpP, ↓wpC, ↓rdE, ↓rd2, ↓varOf, ↓varC, ↓varB, ↓rdW, ↓argW, ↓ownL, ↓metO, ↓metR, ↓changes, ↓setTgW, setTgsW, wipeW, startW, ↓binW, ↓addW, ↓mulW, ↓subIW, ↓divW, ↓modW, ↓powW, ↓augW, ↓negW, ↓truthW, ↓eqW, ↓ltW, ↓inW, ↓keyW, ↓isW, isNoneD, ↓cmpW, ↓subW, ↓cutW, ↓revW, isiD, tyD, isTy, ↓bi1W, ↓bi2W, ↓bisW, ↓lenW, ↓plainW, ↓rangeW, ↓zipW, partD, dPart, getDefW, mtTy, ↓putW, sizeLine, Nat.zero_le, Nat.reducePow, Nat.reduceLeDiff, Nat.reduceAdd, Nat.reduceSub, Nat.reduceMul, Int.reducePow, Int.reduceNeg, Int.reduceLE, Int.reduceLT, Int.cast_ofNat_Int, Int.toNat_natCast, Int.reduceToNat, List.map_cons, List.map_nil, List.length_cons, List.length_nil, List.getElem?_cons_zero, List.getElem?_cons_succ, List.set_cons_zero, List.set_cons_succ, List.any_cons, List.any_nil, List.replicate, List.cons_append, List.nil_append, String.reduceBEq, Bool.or_false, Bool.false_or, Bool.or_true, Bool.true_or, Bool.and_true, Bool.true_and, Bool.and_false, Bool.false_and, Bool.not_true, Bool.not_false, forall_const, true_implies, false_implies, implies_true, reduceCtorEq, and_true, true_and, and_false, false_and, if_true, if_false, ite_true, ite_false, not_true_eq_false, not_false_eq_true, Bool.true_eq_false, Bool.false_eq_true, bne_self_eq_false, Bool.not_eq_true', Bool.not_eq_false', Option.some.injEq, exists_eq_left, exists_eq_left', List.zip_cons_cons, List.zip_nil_left, List.zip_nil_right, keyD, Option.getD_some, Option.getD_none, opErr, hasForm, List.isEmpty_nil]
    | cons a r =>
      cases a with
      | str z =>
        have hr : r.length ≤ 16777216 := by simp at hl; omega
        simp -dsimp only [Lib.f__law_sheet_fault_of, Lib.b__law_sheet_fault_of, ↓getW_0, ↓getW_1, ↓getW_2, ↓wpSs, ↓wpS, ↓wpV, ↓wpE, ↓wpEs, ↓wpAs, ↓wpI, ↓wpP, ↓wpC, ↓rdE, ↓rd2, ↓varOf, ↓varC, ↓varB, ↓rdW, ↓argW, ↓ownL, ↓metO, ↓metR, ↓changes, ↓setTgW, setTgsW, wipeW, startW, ↓binW, ↓addW, ↓mulW, ↓subIW, ↓divW, ↓modW, ↓powW, ↓augW, ↓negW, ↓truthW, ↓eqW, ↓ltW, ↓inW, ↓keyW, ↓isW, isNoneD, ↓cmpW, ↓subW, ↓cutW, ↓revW, isiD, tyD, isTy, ↓bi1W, ↓bi2W, ↓bisW, ↓lenW, ↓plainW, ↓rangeW, ↓zipW, partD, dPart, getDefW, mtTy, ↓putW, sizeLine, Nat.zero_le, Nat.reducePow, Nat.reduceLeDiff, Nat.reduceAdd, Nat.reduceSub, Nat.reduceMul, Int.reducePow, Int.reduceNeg, Int.reduceLE, Int.reduceLT, Int.cast_ofNat_Int, Int.toNat_natCast, Int.reduceToNat, List.map_cons, List.map_nil, List.length_cons, List.length_nil, List.getElem?_cons_zero, List.getElem?_cons_succ, List.set_cons_zero, List.set_cons_succ, List.any_cons, List.any_nil, List.replicate, List.cons_append, List.nil_append, String.reduceBEq, Bool.or_false, Bool.false_or, Bool.or_true, Bool.true_or, Bool.and_true, Bool.true_and, Bool.and_false, Bool.false_and, Bool.not_true, Bool.not_false, forall_const, true_implies, false_implies, implies_true, reduceCtorEq, and_true, true_and, and_false, false_and, if_true, if_false, ite_true, ite_false, not_true_eq_false, not_false_eq_true, Bool.true_eq_false, Bool.false_eq_true, bne_self_eq_false, Bool.not_eq_true', Bool.not_eq_false', Option.some.injEq, exists_eq_left, exists_eq_left', List.zip_cons_cons, List.zip_nil_left, List.zip_nil_right, keyD, Option.getD_some, Option.getD_none, List.isEmpty_cons, lookD_cons, lookD_nil, keyOf_str, opErr, hasForm]
        cases kind_of z with
        | no h1 h2 h3 h4 h5 h6 h7 h8 h9 =>
          have h0 : ¬ (0 : Int) = (r.length : Int) + 1 := by omega
          have h00 : ¬ (r.length : Int) + 1 = 0 := by omega
          simp +decide [kindN, h1, h2, h3, h4, h5, h6, h7, h8, h9, h1.symm, h2.symm, h3.symm, h4.symm, h5.symm, h6.symm, h7.symm, h8.symm, h9.symm, h0, h00]
        | inp hz =>
          subst hz
          by_cases hn : r.length = 1
          · obtain ⟨a, rfl⟩ := len_one hn
            simp +decide [↓law_whole_wp, imp_ite, ↓getW_0, ↓getW_1, ↓getW_2, ↓wpSs, ↓wpS, ↓wpV, ↓wpE, ↓wpEs, ↓wpAs, ↓wpI, ↓wpP, ↓wpC, ↓rdE, ↓rd2, ↓varOf, ↓varC, ↓varB, ↓rdW, ↓argW, ↓ownL, ↓metO, ↓metR, ↓changes, ↓setTgW, setTgsW, wipeW, startW, ↓binW, ↓addW, ↓mulW, ↓subIW, ↓divW, ↓modW, ↓powW, ↓augW, ↓negW, ↓truthW, ↓eqW, ↓ltW, ↓inW, ↓keyW, ↓isW, isNoneD, ↓cmpW, ↓subW, ↓cutW, ↓revW, isiD, tyD, isTy, ↓bi1W, ↓bi2W, ↓bisW, ↓lenW, ↓plainW, ↓rangeW, ↓zipW, partD, dPart, getDefW, mtTy, ↓putW, sizeLine, Nat.zero_le, Nat.reducePow, Nat.reduceLeDiff, Nat.reduceAdd, Nat.reduceSub, Nat.reduceMul, Int.reducePow, Int.reduceNeg, Int.reduceLE, Int.reduceLT, Int.cast_ofNat_Int, Int.toNat_natCast, Int.reduceToNat, List.map_cons, List.map_nil, List.length_cons, List.length_nil, List.getElem?_cons_zero, List.getElem?_cons_succ, List.set_cons_zero, List.set_cons_succ, List.any_cons, List.any_nil, List.replicate, List.cons_append, List.nil_append, String.reduceBEq, Bool.or_false, Bool.false_or, Bool.or_true, Bool.true_or, Bool.and_true, Bool.true_and, Bool.and_false, Bool.false_and, Bool.not_true, Bool.not_false, forall_const, true_implies, false_implies, implies_true, reduceCtorEq, and_true, true_and, and_false, false_and, if_true, if_false, ite_true, ite_false, not_true_eq_false, not_false_eq_true, Bool.true_eq_false, Bool.false_eq_true, bne_self_eq_false, Bool.not_eq_true', Bool.not_eq_false', Option.some.injEq, exists_eq_left, exists_eq_left', List.zip_cons_cons, List.zip_nil_left, List.zip_nil_right, keyD, Option.getD_some, Option.getD_none, kindN, isNum]
          · have h0 : ¬ (2 : Int) = (r.length : Int) + 1 := by omega
            have h00 : ¬ (r.length : Int) + 1 = 2 := by omega
            simp +decide [kindN, h0, h00]
        | const hz =>
          subst hz
          by_cases hn : r.length = 1
          · obtain ⟨a, rfl⟩ := len_one hn
            simp +decide [↓law_whole_wp, imp_ite, ↓getW_0, ↓getW_1, ↓getW_2, ↓wpSs, ↓wpS, ↓wpV, ↓wpE, ↓wpEs, ↓wpAs, ↓wpI, ↓wpP, ↓wpC, ↓rdE, ↓rd2, ↓varOf, ↓varC, ↓varB, ↓rdW, ↓argW, ↓ownL, ↓metO, ↓metR, ↓changes, ↓setTgW, setTgsW, wipeW, startW, ↓binW, ↓addW, ↓mulW, ↓subIW, ↓divW, ↓modW, ↓powW, ↓augW, ↓negW, ↓truthW, ↓eqW, ↓ltW, ↓inW, ↓keyW, ↓isW, isNoneD, ↓cmpW, ↓subW, ↓cutW, ↓revW, isiD, tyD, isTy, ↓bi1W, ↓bi2W, ↓bisW, ↓lenW, ↓plainW, ↓rangeW, ↓zipW, partD, dPart, getDefW, mtTy, ↓putW, sizeLine, Nat.zero_le, Nat.reducePow, Nat.reduceLeDiff, Nat.reduceAdd, Nat.reduceSub, Nat.reduceMul, Int.reducePow, Int.reduceNeg, Int.reduceLE, Int.reduceLT, Int.cast_ofNat_Int, Int.toNat_natCast, Int.reduceToNat, List.map_cons, List.map_nil, List.length_cons, List.length_nil, List.getElem?_cons_zero, List.getElem?_cons_succ, List.set_cons_zero, List.set_cons_succ, List.any_cons, List.any_nil, List.replicate, List.cons_append, List.nil_append, String.reduceBEq, Bool.or_false, Bool.false_or, Bool.or_true, Bool.true_or, Bool.and_true, Bool.true_and, Bool.and_false, Bool.false_and, Bool.not_true, Bool.not_false, forall_const, true_implies, false_implies, implies_true, reduceCtorEq, and_true, true_and, and_false, false_and, if_true, if_false, ite_true, ite_false, not_true_eq_false, not_false_eq_true, Bool.true_eq_false, Bool.false_eq_true, bne_self_eq_false, Bool.not_eq_true', Bool.not_eq_false', Option.some.injEq, exists_eq_left, exists_eq_left', List.zip_cons_cons, List.zip_nil_left, List.zip_nil_right, keyD, Option.getD_some, Option.getD_none, kindN, isNum]
          · have h0 : ¬ (2 : Int) = (r.length : Int) + 1 := by omega
            have h00 : ¬ (r.length : Int) + 1 = 2 := by omega
            simp +decide [kindN, h0, h00]
        | _ hz =>
          subst hz
          have e2 : ((2 : Int) = (r.length : Int) + 1) = (r.length = 1) := by apply propext; omega
          have e3 : ((3 : Int) = (r.length : Int) + 1) = (r.length = 2) := by apply propext; omega
          have f2 : ((r.length : Int) + 1 = 2) = (r.length = 1) := by apply propext; omega
          have f3 : ((r.length : Int) + 1 = 3) = (r.length = 2) := by apply propext; omega
          simp -dsimp +decide only [kindN, isNum, e2, e3, f2, f3, ↓getW_0, ↓getW_1, ↓getW_2, ↓wpSs, ↓wpS, ↓wpV, ↓wpE, ↓wpEs, ↓wpAs, ↓wpI, ↓wpP, ↓wpC, ↓rdE, ↓rd2, ↓varOf, ↓varC, ↓varB, ↓rdW, ↓argW, ↓ownL, ↓metO, ↓metR, ↓changes, ↓setTgW, setTgsW, wipeW, startW, ↓binW, ↓addW, ↓mulW, ↓subIW, ↓divW, ↓modW, ↓powW, ↓augW, ↓negW, ↓truthW, ↓eqW, ↓ltW, ↓inW, ↓keyW, ↓isW, isNoneD, ↓cmpW, ↓subW, ↓cutW, ↓revW, isiD, tyD, isTy, ↓bi1W, ↓bi2W, ↓bisW, ↓lenW, ↓plainW, ↓rangeW, ↓zipW, partD, dPart, getDefW, mtTy, ↓putW, sizeLine, Nat.zero_le, Nat.reducePow, Nat.reduceLeDiff, Nat.reduceAdd, Nat.reduceSub, Nat.reduceMul, Int.reducePow, Int.reduceNeg, Int.reduceLE, Int.reduceLT, Int.cast_ofNat_Int, Int.toNat_natCast, Int.reduceToNat, List.map_cons, List.map_nil, List.length_cons, List.length_nil, List.getElem?_cons_zero, List.getElem?_cons_succ, List.set_cons_zero, List.set_cons_succ, List.any_cons, List.any_nil, List.replicate, List.cons_append, List.nil_append, String.reduceBEq, Bool.or_false, Bool.false_or, Bool.or_true, Bool.true_or, Bool.and_true, Bool.true_and, Bool.and_false, Bool.false_and, Bool.not_true, Bool.not_false, forall_const, true_implies, false_implies, implies_true, reduceCtorEq, and_true, true_and, and_false, false_and, if_true, if_false, ite_true, ite_false, not_true_eq_false, not_false_eq_true, Bool.true_eq_false, Bool.false_eq_true, bne_self_eq_false, Bool.not_eq_true', Bool.not_eq_false', Option.some.injEq, exists_eq_left, exists_eq_left', List.zip_cons_cons, List.zip_nil_left, List.zip_nil_right, keyD, Option.getD_some, Option.getD_none, cut_tail, Int.natCast_add, Int.cast_ofNat_Int]
          rw [lcX_filter (p := fun x => !isInt x 0 (i - 1)) (g := fun x => x) fun x _ K => by simp -dsimp only [↓getW_0, ↓getW_1, ↓getW_2, ↓wpSs, ↓wpS, ↓wpV, ↓wpE, ↓wpEs, ↓wpAs, ↓wpI, ↓wpP, ↓wpC, ↓rdE, ↓rd2, ↓varOf, ↓varC, ↓varB, ↓rdW, ↓argW, ↓ownL, ↓metO, ↓metR, ↓changes, ↓setTgW, setTgsW, wipeW, startW, ↓binW, ↓addW, ↓mulW, ↓subIW, ↓divW, ↓modW, ↓powW, ↓augW, ↓negW, ↓truthW, ↓eqW, ↓ltW, ↓inW, ↓keyW, ↓isW, isNoneD, ↓cmpW, ↓subW, ↓cutW, ↓revW, isiD, tyD, isTy, ↓bi1W, ↓bi2W, ↓bisW, ↓lenW, ↓plainW, ↓rangeW, ↓zipW, partD, dPart, getDefW, mtTy, ↓putW, sizeLine, Nat.zero_le, Nat.reducePow, Nat.reduceLeDiff, Nat.reduceAdd, Nat.reduceSub, Nat.reduceMul, Int.reducePow, Int.reduceNeg, Int.reduceLE, Int.reduceLT, Int.cast_ofNat_Int, Int.toNat_natCast, Int.reduceToNat, List.map_cons, List.map_nil, List.length_cons, List.length_nil, List.getElem?_cons_zero, List.getElem?_cons_succ, List.set_cons_zero, List.set_cons_succ, List.any_cons, List.any_nil, List.replicate, List.cons_append, List.nil_append, String.reduceBEq, Bool.or_false, Bool.false_or, Bool.or_true, Bool.true_or, Bool.and_true, Bool.true_and, Bool.and_false, Bool.false_and, Bool.not_true, Bool.not_false, forall_const, true_implies, false_implies, implies_true, reduceCtorEq, and_true, true_and, and_false, false_and, if_true, if_false, ite_true, ite_false, not_true_eq_false, not_false_eq_true, Bool.true_eq_false, Bool.false_eq_true, bne_self_eq_false, Bool.not_eq_true', Bool.not_eq_false', Option.some.injEq, exists_eq_left, exists_eq_left', List.zip_cons_cons, List.zip_nil_left, List.zip_nil_right, keyD, Option.getD_some, Option.getD_none, ↓law_whole_wp]; cases isInt x 0 (i - 1) <;> simp]
          simp -dsimp only [↓getW_0, ↓getW_1, ↓getW_2, ↓wpSs, ↓wpS, ↓wpV, ↓wpE, ↓wpEs, ↓wpAs, ↓wpI, ↓wpP, ↓wpC, ↓rdE, ↓rd2, ↓varOf, ↓varC, ↓varB, ↓rdW, ↓argW, ↓ownL, ↓metO, ↓metR, ↓changes, ↓setTgW, setTgsW, wipeW, startW, ↓binW, ↓addW, ↓mulW, ↓subIW, ↓divW, ↓modW, ↓powW, ↓augW, ↓negW, ↓truthW, ↓eqW, ↓ltW, ↓inW, ↓keyW, ↓isW, isNoneD, ↓cmpW, ↓subW, ↓cutW, ↓revW, isiD, tyD, isTy, ↓bi1W, ↓bi2W, ↓bisW, ↓lenW, ↓plainW, ↓rangeW, ↓zipW, partD, dPart, getDefW, mtTy, ↓putW, sizeLine, Nat.zero_le, Nat.reducePow, Nat.reduceLeDiff, Nat.reduceAdd, Nat.reduceSub, Nat.reduceMul, Int.reducePow, Int.reduceNeg, Int.reduceLE, Int.reduceLT, Int.cast_ofNat_Int, Int.toNat_natCast, Int.reduceToNat, List.map_cons, List.map_nil, List.length_cons, List.length_nil, List.getElem?_cons_zero, List.getElem?_cons_succ, List.set_cons_zero, List.set_cons_succ, List.any_cons, List.any_nil, List.replicate, List.cons_append, List.nil_append, String.reduceBEq, Bool.or_false, Bool.false_or, Bool.or_true, Bool.true_or, Bool.and_true, Bool.true_and, Bool.and_false, Bool.false_and, Bool.not_true, Bool.not_false, forall_const, true_implies, false_implies, implies_true, reduceCtorEq, and_true, true_and, and_false, false_and, if_true, if_false, ite_true, ite_false, not_true_eq_false, not_false_eq_true, Bool.true_eq_false, Bool.false_eq_true, bne_self_eq_false, Bool.not_eq_true', Bool.not_eq_false', Option.some.injEq, exists_eq_left, exists_eq_left', List.zip_cons_cons, List.zip_nil_left, List.zip_nil_right, keyD, Option.getD_some, Option.getD_none, hr, imp_ite, List.map_id', filter_none, cut_tail]
          cases decide (r.length = _) <;> simp
      | _ => simp -dsimp only [Lib.f__law_sheet_fault_of, Lib.b__law_sheet_fault_of, ↓getW_0, ↓getW_1, ↓getW_2, ↓wpSs, ↓wpS, ↓wpV, ↓wpE, ↓wpEs, ↓wpAs, ↓wpI, ↓wpP, ↓wpC, ↓rdE, ↓rd2, ↓varOf, ↓varC, ↓varB, ↓rdW, ↓argW, ↓ownL, ↓metO, ↓metR, ↓changes, ↓setTgW, setTgsW, wipeW, startW, ↓binW, ↓addW, ↓mulW, ↓subIW, ↓divW, ↓modW, ↓powW, ↓augW, ↓negW, ↓truthW, ↓eqW, ↓ltW, ↓inW, ↓keyW, ↓isW, isNoneD, ↓cmpW, ↓subW, ↓cutW, ↓revW, isiD, tyD, isTy, ↓bi1W, ↓bi2W, ↓bisW, ↓lenW, ↓plainW, ↓rangeW, ↓zipW, partD, dPart, getDefW, mtTy, ↓putW, sizeLine, Nat.zero_le, Nat.reducePow, Nat.reduceLeDiff, Nat.reduceAdd, Nat.reduceSub, Nat.reduceMul, Int.reducePow, Int.reduceNeg, Int.reduceLE, Int.reduceLT, Int.cast_ofNat_Int, Int.toNat_natCast, Int.reduceToNat, List.map_cons, List.map_nil, List.length_cons, List.length_nil, List.getElem?_cons_zero, List.getElem?_cons_succ, List.set_cons_zero, List.set_cons_succ, List.any_cons, List.any_nil, List.replicate, List.cons_append, List.nil_append, String.reduceBEq, Bool.or_false, Bool.false_or, Bool.or_true, Bool.true_or, Bool.and_true, Bool.true_and, Bool.and_false, Bool.false_and, Bool.not_true, Bool.not_false, forall_const, true_implies, false_implies, implies_true, reduceCtorEq, and_true, true_and, and_false, false_and, if_true, if_false, ite_true, ite_false, not_true_eq_false, not_false_eq_true, Bool.true_eq_false, Bool.false_eq_true, bne_self_eq_false, Bool.not_eq_true', Bool.not_eq_false', Option.some.injEq, exists_eq_left, exists_eq_left', List.zip_cons_cons, List.zip_nil_left, List.zip_nil_right, keyD, Option.getD_some, Option.getD_none, opErr, hasForm, List.isEmpty_cons]
  | _ => simp -dsimp only [Lib.f__law_sheet_fault_of, Lib.b__law_sheet_fault_of, ↓getW_0, ↓getW_1, ↓getW_2, ↓wpSs, ↓wpS, ↓wpV, ↓wpE, ↓wpEs, ↓wpAs, ↓wpI, ↓wpP, ↓wpC, ↓rdE, ↓rd2, ↓varOf, ↓varC, ↓varB, ↓rdW, ↓argW, ↓ownL, ↓metO, ↓metR, ↓changes, ↓setTgW, setTgsW, wipeW, startW, ↓binW, ↓addW, ↓mulW, ↓subIW, ↓divW, ↓modW, ↓powW, ↓augW, ↓negW, ↓truthW, ↓eqW, ↓ltW, ↓inW, ↓keyW, ↓isW, isNoneD, ↓cmpW, ↓subW, ↓cutW, ↓revW, isiD, tyD, isTy, ↓bi1W, ↓bi2W, ↓bisW, ↓lenW, ↓plainW, ↓rangeW, ↓zipW, partD, dPart, getDefW, mtTy, ↓putW, sizeLine, Nat.zero_le, Nat.reducePow, Nat.reduceLeDiff, Nat.reduceAdd, Nat.reduceSub, Nat.reduceMul, Int.reducePow, Int.reduceNeg, Int.reduceLE, Int.reduceLT, Int.cast_ofNat_Int, Int.toNat_natCast, Int.reduceToNat, List.map_cons, List.map_nil, List.length_cons, List.length_nil, List.getElem?_cons_zero, List.getElem?_cons_succ, List.set_cons_zero, List.set_cons_succ, List.any_cons, List.any_nil, List.replicate, List.cons_append, List.nil_append, String.reduceBEq, Bool.or_false, Bool.false_or, Bool.or_true, Bool.true_or, Bool.and_true, Bool.true_and, Bool.and_false, Bool.false_and, Bool.not_true, Bool.not_false, forall_const, true_implies, false_implies, implies_true, reduceCtorEq, and_true, true_and, and_false, false_and, if_true, if_false, ite_true, ite_false, not_true_eq_false, not_false_eq_true, Bool.true_eq_false, Bool.false_eq_true, bne_self_eq_false, Bool.not_eq_true', Bool.not_eq_false', Option.some.injEq, exists_eq_left, exists_eq_left', List.zip_cons_cons, List.zip_nil_left, List.zip_nil_right, keyD, Option.getD_some, Option.getD_none, opErr, hasForm]
theorem law_fault_wp [Has T pr "_law_whole" Lib.f__law_whole] [Has T pr "_law_fault_of" Lib.f__law_sheet_fault_of] [Has T pr "_law_fault" Lib.f__law_sheet_fault] {v : PyData} (hl : ∀ xs, v = .tuple xs → ∀ ys, .tuple ys ∈ xs → ys.length ≤ 1000000) : callW (wpF T pr (k + 3)) "_law_fault" [.d v] Q X ↔ Q (sheetErr v) := by
  rw [wpF_at Lib.f__law_sheet_fault]
  cases v with
  | tuple xs =>
    have hl := hl xs rfl
    simp -dsimp only [Lib.f__law_sheet_fault, Lib.b__law_sheet_fault, ↓getW_0, ↓getW_1, ↓getW_2, ↓wpSs, ↓wpS, ↓wpV, ↓wpE, ↓wpEs, ↓wpAs, ↓wpI, ↓wpP, ↓wpC, ↓rdE, ↓rd2, ↓varOf, ↓varC, ↓varB, ↓rdW, ↓argW, ↓ownL, ↓metO, ↓metR, ↓changes, ↓setTgW, setTgsW, wipeW, startW, ↓binW, ↓addW, ↓mulW, ↓subIW, ↓divW, ↓modW, ↓powW, ↓augW, ↓negW, ↓truthW, ↓eqW, ↓ltW, ↓inW, ↓keyW, ↓isW, isNoneD, ↓cmpW, ↓subW, ↓cutW, ↓revW, isiD, tyD, isTy, ↓bi1W, ↓bi2W, ↓bisW, ↓lenW, ↓plainW, ↓rangeW, ↓zipW, partD, dPart, getDefW, mtTy, ↓putW, sizeLine, Nat.zero_le, Nat.reducePow, Nat.reduceLeDiff, Nat.reduceAdd, Nat.reduceSub, Nat.reduceMul, Int.reducePow, Int.reduceNeg, Int.reduceLE, Int.reduceLT, Int.cast_ofNat_Int, Int.toNat_natCast, Int.reduceToNat, List.map_cons, List.map_nil, List.length_cons, List.length_nil, List.getElem?_cons_zero, List.getElem?_cons_succ, List.set_cons_zero, List.set_cons_succ, List.any_cons, List.any_nil, List.replicate, List.cons_append, List.nil_append, String.reduceBEq, Bool.or_false, Bool.false_or, Bool.or_true, Bool.true_or, Bool.and_true, Bool.true_and, Bool.and_false, Bool.false_and, Bool.not_true, Bool.not_false, forall_const, true_implies, false_implies, implies_true, reduceCtorEq, and_true, true_and, and_false, false_and, if_true, if_false, ite_true, ite_false, not_true_eq_false, not_false_eq_true, Bool.true_eq_false, Bool.false_eq_true, bne_self_eq_false, Bool.not_eq_true', Bool.not_eq_false', Option.some.injEq, exists_eq_left, exists_eq_left', List.zip_cons_cons, List.zip_nil_left, List.zip_nil_right, keyD, Option.getD_some, Option.getD_none, sheetErr]
    by_cases h : 1 ≤ xs.length ∧ xs.length ≤ 24
    · have h1 : decide ((1 : Int) ≤ (xs.length : Int)) = true := decide_eq_true (by omega)
      have h2 : decide ((xs.length : Int) ≤ 24) = true := decide_eq_true (by omega)
      have h3 : xs.length ≤ 16777216 := by omega
      simp -dsimp only [h1, h2, h3, h, ↓getW_0, ↓getW_1, ↓getW_2, ↓wpSs, ↓wpS, ↓wpV, ↓wpE, ↓wpEs, ↓wpAs, ↓wpI, ↓wpP, ↓wpC, ↓rdE, ↓rd2, ↓varOf, ↓varC, ↓varB, ↓rdW, ↓argW, ↓ownL, ↓metO, ↓metR, ↓changes, ↓setTgW, setTgsW, wipeW, startW, ↓binW, ↓addW, ↓mulW, ↓subIW, ↓divW, ↓modW, ↓powW, ↓augW, ↓negW, ↓truthW, ↓eqW, ↓ltW, ↓inW, ↓keyW, ↓isW, isNoneD, ↓cmpW, ↓subW, ↓cutW, ↓revW, isiD, tyD, isTy, ↓bi1W, ↓bi2W, ↓bisW, ↓lenW, ↓plainW, ↓rangeW, ↓zipW, partD, dPart, getDefW, mtTy, ↓putW, sizeLine, Nat.zero_le, Nat.reducePow, Nat.reduceLeDiff, Nat.reduceAdd, Nat.reduceSub, Nat.reduceMul, Int.reducePow, Int.reduceNeg, Int.reduceLE, Int.reduceLT, Int.cast_ofNat_Int, Int.toNat_natCast, Int.reduceToNat, List.map_cons, List.map_nil, List.length_cons, List.length_nil, List.getElem?_cons_zero, List.getElem?_cons_succ, List.set_cons_zero, List.set_cons_succ, List.any_cons, List.any_nil, List.replicate, List.cons_append, List.nil_append, String.reduceBEq, Bool.or_false, Bool.false_or, Bool.or_true, Bool.true_or, Bool.and_true, Bool.true_and, Bool.and_false, Bool.false_and, Bool.not_true, Bool.not_false, forall_const, true_implies, false_implies, implies_true, reduceCtorEq, and_true, true_and, and_false, false_and, if_true, if_false, ite_true, ite_false, not_true_eq_false, not_false_eq_true, Bool.true_eq_false, Bool.false_eq_true, bne_self_eq_false, Bool.not_eq_true', Bool.not_eq_false', Option.some.injEq, exists_eq_left, exists_eq_left', List.zip_cons_cons, List.zip_nil_left, List.zip_nil_right, keyD, Option.getD_some, Option.getD_none]
      refine forW_enumM (R := fun l i => Q (shErr l i)) (I := fun ρ => ∃ a b c, ρ = [some (.d (.tuple xs)), a, b, c]) ?_ ?_ xs 0 _ ⟨_, _, _, rfl⟩ (fun _ h => h)
      · rintro ρ i ⟨a, b, c, rfl⟩
        simp -dsimp only [↓getW_0, ↓getW_1, ↓getW_2, ↓wpSs, ↓wpS, ↓wpV, ↓wpE, ↓wpEs, ↓wpAs, ↓wpI, ↓wpP, ↓wpC, ↓rdE, ↓rd2, ↓varOf, ↓varC, ↓varB, ↓rdW, ↓argW, ↓ownL, ↓metO, ↓metR, ↓changes, ↓setTgW, setTgsW, wipeW, startW, ↓binW, ↓addW, ↓mulW, ↓subIW, ↓divW, ↓modW, ↓powW, ↓augW, ↓negW, ↓truthW, ↓eqW, ↓ltW, ↓inW, ↓keyW, ↓isW, isNoneD, ↓cmpW, ↓subW, ↓cutW, ↓revW, isiD, tyD, isTy, ↓bi1W, ↓bi2W, ↓bisW, ↓lenW, ↓plainW, ↓rangeW, ↓zipW, partD, dPart, getDefW, mtTy, ↓putW, sizeLine, Nat.zero_le, Nat.reducePow, Nat.reduceLeDiff, Nat.reduceAdd, Nat.reduceSub, Nat.reduceMul, Int.reducePow, Int.reduceNeg, Int.reduceLE, Int.reduceLT, Int.cast_ofNat_Int, Int.toNat_natCast, Int.reduceToNat, List.map_cons, List.map_nil, List.length_cons, List.length_nil, List.getElem?_cons_zero, List.getElem?_cons_succ, List.set_cons_zero, List.set_cons_succ, List.any_cons, List.any_nil, List.replicate, List.cons_append, List.nil_append, String.reduceBEq, Bool.or_false, Bool.false_or, Bool.or_true, Bool.true_or, Bool.and_true, Bool.true_and, Bool.and_false, Bool.false_and, Bool.not_true, Bool.not_false, forall_const, true_implies, false_implies, implies_true, reduceCtorEq, and_true, true_and, and_false, false_and, if_true, if_false, ite_true, ite_false, not_true_eq_false, not_false_eq_true, Bool.true_eq_false, Bool.false_eq_true, bne_self_eq_false, Bool.not_eq_true', Bool.not_eq_false', Option.some.injEq, exists_eq_left, exists_eq_left', List.zip_cons_cons, List.zip_nil_left, List.zip_nil_right, keyD, Option.getD_some, Option.getD_none, shErr]
      · rintro x r i ρ kn hx ⟨a, b, c, rfl⟩ hk
        simp -dsimp only [↓getW_0, ↓getW_1, ↓getW_2, ↓wpSs, ↓wpS, ↓wpV, ↓wpE, ↓wpEs, ↓wpAs, ↓wpI, ↓wpP, ↓wpC, ↓rdE, ↓rd2, ↓varOf, ↓varC, ↓varB, ↓rdW, ↓argW, ↓ownL, ↓metO, ↓metR, ↓changes, ↓setTgW, setTgsW, wipeW, startW, ↓binW, ↓addW, ↓mulW, ↓subIW, ↓divW, ↓modW, ↓powW, ↓augW, ↓negW, ↓truthW, ↓eqW, ↓ltW, ↓inW, ↓keyW, ↓isW, isNoneD, ↓cmpW, ↓subW, ↓cutW, ↓revW, isiD, tyD, isTy, ↓bi1W, ↓bi2W, ↓bisW, ↓lenW, ↓plainW, ↓rangeW, ↓zipW, partD, dPart, getDefW, mtTy, ↓putW, sizeLine, Nat.zero_le, Nat.reducePow, Nat.reduceLeDiff, Nat.reduceAdd, Nat.reduceSub, Nat.reduceMul, Int.reducePow, Int.reduceNeg, Int.reduceLE, Int.reduceLT, Int.cast_ofNat_Int, Int.toNat_natCast, Int.reduceToNat, List.map_cons, List.map_nil, List.length_cons, List.length_nil, List.getElem?_cons_zero, List.getElem?_cons_succ, List.set_cons_zero, List.set_cons_succ, List.any_cons, List.any_nil, List.replicate, List.cons_append, List.nil_append, String.reduceBEq, Bool.or_false, Bool.false_or, Bool.or_true, Bool.true_or, Bool.and_true, Bool.true_and, Bool.and_false, Bool.false_and, Bool.not_true, Bool.not_false, forall_const, true_implies, false_implies, implies_true, reduceCtorEq, and_true, true_and, and_false, false_and, if_true, if_false, ite_true, ite_false, not_true_eq_false, not_false_eq_true, Bool.true_eq_false, Bool.false_eq_true, bne_self_eq_false, Bool.not_eq_true', Bool.not_eq_false', Option.some.injEq, exists_eq_left, exists_eq_left', List.zip_cons_cons, List.zip_nil_left, List.zip_nil_right, keyD, Option.getD_some, Option.getD_none, ↓law_fault_of_wp (hl := fun ys e => hl ys (e ▸ hx)), shErr]
        rcases opErr_cases x i with e | e | e | e <;> rw [e] <;> simp -dsimp only [↓getW_0, ↓getW_1, ↓getW_2, ↓wpSs, ↓wpS, ↓wpV, ↓wpE, ↓wpEs, ↓wpAs, ↓wpI, ↓wpP, ↓wpC, ↓rdE, ↓rd2, ↓varOf, ↓varC, ↓varB, ↓rdW, ↓argW, ↓ownL, ↓metO, ↓metR, ↓changes, ↓setTgW, setTgsW, wipeW, startW, ↓binW, ↓addW, ↓mulW, ↓subIW, ↓divW, ↓modW, ↓powW, ↓augW, ↓negW, ↓truthW, ↓eqW, ↓ltW, ↓inW, ↓keyW, ↓isW, isNoneD, ↓cmpW, ↓subW, ↓cutW, ↓revW, isiD, tyD, isTy, ↓bi1W, ↓bi2W, ↓bisW, ↓lenW, ↓plainW, ↓rangeW, ↓zipW, partD, dPart, getDefW, mtTy, ↓putW, sizeLine, Nat.zero_le, Nat.reducePow, Nat.reduceLeDiff, Nat.reduceAdd, Nat.reduceSub, Nat.reduceMul, Int.reducePow, Int.reduceNeg, Int.reduceLE, Int.reduceLT, Int.cast_ofNat_Int, Int.toNat_natCast, Int.reduceToNat, List.map_cons, List.map_nil, List.length_cons, List.length_nil, List.getElem?_cons_zero, List.getElem?_cons_succ, List.set_cons_zero, List.set_cons_succ, List.any_cons, List.any_nil, List.replicate, List.cons_append, List.nil_append, String.reduceBEq, Bool.or_false, Bool.false_or, Bool.or_true, Bool.true_or, Bool.and_true, Bool.true_and, Bool.and_false, Bool.false_and, Bool.not_true, Bool.not_false, forall_const, true_implies, false_implies, implies_true, reduceCtorEq, and_true, true_and, and_false, false_and, if_true, if_false, ite_true, ite_false, not_true_eq_false, not_false_eq_true, Bool.true_eq_false, Bool.false_eq_true, bne_self_eq_false, Bool.not_eq_true', Bool.not_eq_false', Option.some.injEq, exists_eq_left, exists_eq_left', List.zip_cons_cons, List.zip_nil_left, List.zip_nil_right, keyD, Option.getD_some, Option.getD_none]
        exact hk _ ⟨_, _, _, rfl⟩
    · simp -dsimp only [h, ↓getW_0, ↓getW_1, ↓getW_2, ↓wpSs, ↓wpS, ↓wpV, ↓wpE, ↓wpEs, ↓wpAs, ↓wpI, ↓wpP, ↓wpC, ↓rdE, ↓rd2, ↓varOf, ↓varC, ↓varB, ↓rdW, ↓argW, ↓ownL, ↓metO, ↓metR, ↓changes, ↓setTgW, setTgsW, wipeW, startW, ↓binW, ↓addW, ↓mulW, ↓subIW, ↓divW, ↓modW, ↓powW, ↓augW, ↓negW, ↓truthW, ↓eqW, ↓ltW, ↓inW, ↓keyW, ↓isW, isNoneD, ↓cmpW, ↓subW, ↓cutW, ↓revW, isiD, tyD, isTy, ↓bi1W, ↓bi2W, ↓bisW, ↓lenW, ↓plainW, ↓rangeW, ↓zipW, partD, dPart, getDefW, mtTy, ↓putW, sizeLine, Nat.zero_le, Nat.reducePow, Nat.reduceLeDiff, Nat.reduceAdd, Nat.reduceSub, Nat.reduceMul, Int.reducePow, Int.reduceNeg, Int.reduceLE, Int.reduceLT, Int.cast_ofNat_Int, Int.toNat_natCast, Int.reduceToNat, List.map_cons, List.map_nil, List.length_cons, List.length_nil, List.getElem?_cons_zero, List.getElem?_cons_succ, List.set_cons_zero, List.set_cons_succ, List.any_cons, List.any_nil, List.replicate, List.cons_append, List.nil_append, String.reduceBEq, Bool.or_false, Bool.false_or, Bool.or_true, Bool.true_or, Bool.and_true, Bool.true_and, Bool.and_false, Bool.false_and, Bool.not_true, Bool.not_false, forall_const, true_implies, false_implies, implies_true, reduceCtorEq, and_true, true_and, and_false, false_and, if_true, if_false, ite_true, ite_false, not_true_eq_false, not_false_eq_true, Bool.true_eq_false, Bool.false_eq_true, bne_self_eq_false, Bool.not_eq_true', Bool.not_eq_false', Option.some.injEq, exists_eq_left, exists_eq_left', List.zip_cons_cons, List.zip_nil_left, List.zip_nil_right, keyD, Option.getD_some, Option.getD_none]
      by_cases h1 : (1 : Int) ≤ (xs.length : Int)
      · have h2 : ¬ (xs.length : Int) ≤ 24 := by omega
        simp [h1, h2]
      · simp [h1]
  | _ => simp -dsimp only [Lib.f__law_sheet_fault, Lib.b__law_sheet_fault, ↓getW_0, ↓getW_1, ↓getW_2, ↓wpSs, ↓wpS, ↓wpV, ↓wpE, ↓wpEs, ↓wpAs, ↓wpI, ↓wpP, ↓wpC, ↓rdE, ↓rd2, ↓varOf, ↓varC, ↓varB, ↓rdW, ↓argW, ↓ownL, ↓metO, ↓metR, ↓changes, ↓setTgW, setTgsW, wipeW, startW, ↓binW, ↓addW, ↓mulW, ↓subIW, ↓divW, ↓modW, ↓powW, ↓augW, ↓negW, ↓truthW, ↓eqW, ↓ltW, ↓inW, ↓keyW, ↓isW, isNoneD, ↓cmpW, ↓subW, ↓cutW, ↓revW, isiD, tyD, isTy, ↓bi1W, ↓bi2W, ↓bisW, ↓lenW, ↓plainW, ↓rangeW, ↓zipW, partD, dPart, getDefW, mtTy, ↓putW, sizeLine, Nat.zero_le, Nat.reducePow, Nat.reduceLeDiff, Nat.reduceAdd, Nat.reduceSub, Nat.reduceMul, Int.reducePow, Int.reduceNeg, Int.reduceLE, Int.reduceLT, Int.cast_ofNat_Int, Int.toNat_natCast, Int.reduceToNat, List.map_cons, List.map_nil, List.length_cons, List.length_nil, List.getElem?_cons_zero, List.getElem?_cons_succ, List.set_cons_zero, List.set_cons_succ, List.any_cons, List.any_nil, List.replicate, List.cons_append, List.nil_append, String.reduceBEq, Bool.or_false, Bool.false_or, Bool.or_true, Bool.true_or, Bool.and_true, Bool.true_and, Bool.and_false, Bool.false_and, Bool.not_true, Bool.not_false, forall_const, true_implies, false_implies, implies_true, reduceCtorEq, and_true, true_and, and_false, false_and, if_true, if_false, ite_true, ite_false, not_true_eq_false, not_false_eq_true, Bool.true_eq_false, Bool.false_eq_true, bne_self_eq_false, Bool.not_eq_true', Bool.not_eq_false', Option.some.injEq, exists_eq_left, exists_eq_left', List.zip_cons_cons, List.zip_nil_left, List.zip_nil_right, keyD, Option.getD_some, Option.getD_none, sheetErr]
end
end Tz

end
section
namespace K74
open PySem PySem.Spec PyProof.Rows L2 Tz
abbrev f_is_integer : Fn := Lib.f_is_integer
abbrev f_operands_of : Fn := Lib.f_operands_of
abbrev f_reads_of : Fn := Lib.f_reads_of
abbrev f_patch_error : Fn := Lib.f_patch_error
abbrev f_chains_of : Fn := Lib.f_chains_of
abbrev f_copies_in : Fn := Lib.f_copies_in
abbrev f__law_opened : Fn := Lib.f__law_opened
abbrev f__law_draw : Fn := Lib.f__law_draw
abbrev f__law_one : Fn := Lib.f__law_one
abbrev f__law_whole : Fn := Lib.f__law_whole
abbrev f__law_odd : Fn := Lib.f__law_odd74
abbrev f__law_bent : Fn := Lib.f__law_bent
abbrev f__law_operands : Fn := Lib.f__law_operands
abbrev f__law_reads : Fn := Lib.f__law_reads
abbrev f__law_patch : Fn := Lib.f__law_patch
abbrev f__law_copies : Fn := Lib.f__law_copies
abbrev f__law_operation : Fn := Lib.f__law_operation
abbrev f__law_sheet : Fn := Lib.f__law_sheet
abbrev f__law_due : Fn := Lib.f__law_due
def b_law : Ss := (.cons (.asg (.nm 1) (.call "_law_opened" (.cons (.var 0) .nil)))
  (.cons (.for_ (.nm 2) (.rng (.cons (.con (.int 10)) .nil)) (.cons (.asg (.nm 3) (.call "_law_sheet" (.cons (.var 1) (.cons (.sub (.lst false (.cons (.con (.int 3)) (.cons (.con (.int 6)) (.cons (.con (.int 24)) .nil)))) (.bin .Mod (.var 2) (.con (.int 3)))) .nil))))
    (.cons (.par2 4 5 (.call "_law_patch" (.cons (.var 1) (.cons (.var 3) .nil))) (.bi .repr (.cons (.var 3) .nil)))
    (.cons (.asg (.nm 6) (.lst false (.cons (.call "copies_in" (.cons (.var 3) (.cons (.var 4) .nil))) (.cons (.call "copies_in" (.cons (.var 3) (.cons (.var 4) .nil))) .nil))))
    (.cons (.ifs (.cmp .NotEq (.bi .repr (.cons (.var 6) .nil)) (.bi .repr (.cons (.bin .Mult (.lst false (.cons (.call "_law_copies" (.cons (.var 3) (.cons (.var 4) .nil))) .nil)) (.con (.int 2))) .nil))) (.cons (.ret (.con (.bool false)))
      .nil) .nil)
    (.cons (.asg (.nm 7) (.lst true (.cons (.var 4) (.cons (.slc (.var 4) (.so (.con (.int 1))) .no) (.cons (.bin .Add (.var 4) (.tup (.cons (.con (.int 0)) .nil))) (.cons (.bi (.list false) (.cons (.var 4) .nil)) (.cons (.con .none) (.cons (.con (.int 0)) (.cons (.con (.str "")) (.cons (.dic false [] .nil) (.cons (.tup .nil) (.cons (.tup (.cons (.con .none) .nil)) (.cons (.call "_law_odd" (.cons (.var 1) .nil)) .nil)))))))))))))
    (.cons (.asg (.nm 7) (.binL .Add (.frz 7) (.lst false (.cons (.call "_law_bent" (.cons (.var 1) (.cons (.var 4) .nil))) (.cons (.call "_law_bent" (.cons (.var 1) (.cons (.var 4) .nil))) .nil)))))
    (.cons (.for_ (.nm 8) (.rng (.cons (.bi .min (.cons (.con (.int 3)) (.cons (.bi .len (.cons (.var 4) .nil)) .nil))) .nil)) (.cons (.for_ (.nm 9) (.of (.lst false (.cons (.con (.int 24)) (.cons (.neg (.con (.int 1))) (.cons (.con (.bool true)) (.cons (.con .none) (.cons (.con (.str "1")) (.cons (.tup (.cons (.con (.int 1)) .nil)) (.cons (.bin .Pow (.con (.int 10)) (.con (.int 39))) (.cons (.con (.int 23)) (.cons (.con (.int 0)) (.cons (.call "_law_odd" (.cons (.var 1) .nil)) .nil)))))))))))) (.cons (.expr (.met .append (.var 7) (.cons (.bin .Add (.bin .Add (.slc (.var 4) .no (.so (.var 8))) (.tup (.cons (.var 9) .nil))) (.slc (.var 4) (.so (.bin .Add (.var 8) (.con (.int 1)))) .no)) .nil)))
        .nil))
      .nil))
    (.cons (.for_ (.nm 10) (.of (.frz 7)) (.cons (.asg (.nm 11) (.bi .repr (.cons (.var 10) .nil)))
      (.cons (.ifs (.cmp .NotEq (.bi .repr (.cons (.lst false (.cons (.call "patch_error" (.cons (.var 3) (.cons (.var 10) .nil))) (.cons (.call "patch_error" (.cons (.var 3) (.cons (.var 10) .nil))) .nil))) .nil)) (.bi .repr (.cons (.bin .Mult (.lst false (.cons (.call "_law_due" (.cons (.var 3) (.cons (.var 10) .nil))) .nil)) (.con (.int 2))) .nil))) (.cons (.ret (.con (.bool false)))
        .nil) .nil)
      (.cons (.ifs (.or (.cmp .NotEq (.bi .repr (.cons (.var 10) .nil)) (.var 11)) (.one (.cmp .NotEq (.bi .repr (.cons (.var 3) .nil)) (.var 5)))) (.cons (.ret (.con (.bool false)))
        .nil) .nil)
      .nil))))
    .nil)))))))))
  (.cons (.asg (.nm 12) (.tup (.cons (.tup (.cons (.con (.str "in")) (.cons (.con (.int 0)) .nil))) (.cons (.tup (.cons (.con (.str "add")) (.cons (.con (.int 0)) (.cons (.con (.int 0)) .nil)))) (.cons (.tup (.cons (.con (.str "mul")) (.cons (.con (.int 1)) (.cons (.con (.int 0)) .nil)))) .nil)))))
  (.cons (.asg (.nm 6) (.lc false [4] (.nm 4) (.of (.lst false (.cons (.tup (.cons (.con (.int 0)) (.cons (.con (.int 0)) (.cons (.con (.int 0)) (.cons (.con (.int 0)) .nil))))) (.cons (.tup (.cons (.con (.int 2)) (.cons (.con (.int 1)) (.cons (.con (.int 1)) (.cons (.con (.int 3)) .nil))))) (.cons (.tup (.cons (.con (.int 23)) (.cons (.con (.int 0)) (.cons (.con (.int 23)) (.cons (.con (.int 0)) .nil))))) .nil))))) .no (.call "copies_in" (.cons (.var 12) (.cons (.var 4) .nil)))))
  (.cons (.ret (.and (.cmp .Eq (.var 6) (.lst false (.cons (.con (.int 0)) (.cons (.con (.int 4)) (.cons (.con (.int 46)) .nil))))) (.one (.cmp .Eq (.lst false (.cons (.call "patch_error" (.cons (.tup (.cons (.tup (.cons (.con (.str "in")) (.cons (.con (.int 7)) .nil))) .nil)) (.cons (.tup .nil) .nil))) (.cons (.call "patch_error" (.cons (.var 12) (.cons (.tup .nil) .nil))) .nil))) (.lst false (.cons (.con .none) (.cons (.tup (.cons (.con .none) (.cons (.con (.str "patch")) .nil))) .nil)))))))
  .nil)))))
def f_law : Fn := ⟨["_law_script", "_law_box", "_law_turn", "_law_sheet_here", "_law_patch_here", "_law_shown", "_law_found", "_law_values", "_law_index", "_law_item", "_law_value", "_law_before", "_law_one_here"], 1, b_law⟩
def top (i : Nat) : Stmt := PySem.Challenge.pw_turnseats_k74_patches_judged.main.body.getD i (.Pass ⟨0, 0, 0, 0⟩)
def defs : List Def := [("is_integer", f_is_integer, top 2), ("operands_of", f_operands_of, top 5), ("reads_of", f_reads_of, top 6), ("patch_error", f_patch_error, top 8), ("chains_of", f_chains_of, top 9), ("copies_in", f_copies_in, top 10), ("_law_opened", f__law_opened, top 12), ("_law_draw", f__law_draw, top 13), ("_law_one", f__law_one, top 14), ("_law_whole", f__law_whole, top 15), ("_law_odd", f__law_odd, top 16), ("_law_bent", f__law_bent, top 17), ("_law_operands", f__law_operands, top 18), ("_law_reads", f__law_reads, top 19), ("_law_patch", f__law_patch, top 20), ("_law_copies", f__law_copies, top 21), ("_law_operation", f__law_operation, top 22), ("_law_sheet", f__law_sheet, top 23), ("_law_due", f__law_due, top 24), ("law", f_law, top 25)]
def con : List (Str × PyData) := [("MAX_COPIES", .int 23), ("OPERANDS", .dict [(.str "neg", .int 1), (.str "copy", .int 1), (.str "add", .int 2), (.str "sub", .int 2), (.str "mul", .int 2), (.str "least", .int 2), (.str "most", .int 2)])]
def fns : List (Str × Fn) := [("is_integer", f_is_integer), ("operands_of", f_operands_of), ("reads_of", f_reads_of), ("patch_error", f_patch_error), ("chains_of", f_chains_of), ("copies_in", f_copies_in), ("_law_opened", f__law_opened), ("_law_draw", f__law_draw), ("_law_one", f__law_one), ("_law_whole", f__law_whole), ("_law_odd", f__law_odd), ("_law_bent", f__law_bent), ("_law_operands", f__law_operands), ("_law_reads", f__law_reads), ("_law_patch", f__law_patch), ("_law_copies", f__law_copies), ("_law_operation", f__law_operation), ("_law_sheet", f__law_sheet), ("_law_due", f__law_due), ("law", f_law)]
def T : Prog := ⟨fns, con, 200⟩
def iLaw : Nat := 25
def loose : List Str := ["MAX_COPIES", "__name__", "is_integer", "OPERANDS", "operands_of", "reads_of", "patch_error", "chains_of", "copies_in", "_law_opened", "_law_draw", "_law_one", "_law_whole", "_law_odd", "_law_bent", "_law_operands", "_law_reads", "_law_patch", "_law_copies", "_law_operation", "_law_sheet", "_law_due"]
instance : Has T drawP "is_integer" Lib.f_is_integer := ⟨rfl, fun _ => if_neg (by decide)⟩
instance : Has T drawP "operands_of" Lib.f_operands_of := ⟨rfl, fun _ => if_neg (by decide)⟩
instance : Has T drawP "reads_of" Lib.f_reads_of := ⟨rfl, fun _ => if_neg (by decide)⟩
instance : Has T drawP "patch_error" Lib.f_patch_error := ⟨rfl, fun _ => if_neg (by decide)⟩
instance : Has T drawP "chains_of" Lib.f_chains_of := ⟨rfl, fun _ => if_neg (by decide)⟩
instance : Has T drawP "copies_in" Lib.f_copies_in := ⟨rfl, fun _ => if_neg (by decide)⟩
instance : Has T drawP "_law_opened" Lib.f__law_opened := ⟨rfl, fun _ => if_neg (by decide)⟩
instance : Has T drawP "_law_one" Lib.f__law_one := ⟨rfl, fun _ => if_neg (by decide)⟩
instance : Has T drawP "_law_whole" Lib.f__law_whole := ⟨rfl, fun _ => if_neg (by decide)⟩
instance : Has T drawP "_law_odd" Lib.f__law_odd74 := ⟨rfl, fun _ => if_neg (by decide)⟩
instance : Has T drawP "_law_bent" Lib.f__law_bent := ⟨rfl, fun _ => if_neg (by decide)⟩
instance : Has T drawP "_law_operands" Lib.f__law_operands := ⟨rfl, fun _ => if_neg (by decide)⟩
instance : Has T drawP "_law_reads" Lib.f__law_reads := ⟨rfl, fun _ => if_neg (by decide)⟩
instance : Has T drawP "_law_patch" Lib.f__law_patch := ⟨rfl, fun _ => if_neg (by decide)⟩
instance : Has T drawP "_law_copies" Lib.f__law_copies := ⟨rfl, fun _ => if_neg (by decide)⟩
instance : Has T drawP "_law_operation" Lib.f__law_operation := ⟨rfl, fun _ => if_neg (by decide)⟩
instance : Has T drawP "_law_sheet" Lib.f__law_sheet := ⟨rfl, fun _ => if_neg (by decide)⟩
instance : Has T drawP "_law_due" Lib.f__law_due := ⟨rfl, fun _ => if_neg (by decide)⟩
instance : Has T drawP "law" f_law := ⟨rfl, fun _ => if_neg (by decide)⟩
instance : HasC T "MAX_COPIES" (.int 23) := ⟨rfl⟩
instance : HasC T "OPERANDS" operandsD := ⟨rfl⟩
end K74

end
section
namespace K74
open PySem PySem.Spec PyProof.Rows L2 Tz
theorem all_defs : defs.all (ckDef T) = true := by decide +kernel
abbrev fa : List He.Fa := faOf defs con
abbrev fds : List He.DefD := defs.map mkD
abbrev ts : List TabD := tabsOf con
abbrev RR : PySem.W.OpenRow := PySem.W.OpenLaw.row PySem.Challenge.rw_turnseats_k74_patches_judged
abbrev hk : PySem.W.Hook := hookS 4 fa fds ts
def ob (s : PySem.W.SharedT) : He.AlT × Bool := obsS 4 fa fds ts (HandSHeadRun.getT s)
theorem ob_eq (s : PySem.W.SharedT) : ob s = hk.obs s.abs := obsS_eq (HandSHeadRun.getT_eq s)
theorem hrunF (w : World) : HandSHeadRun.RunEq RR (PySem.W.view RR.prog [iLaw]) hk ob 2000 loose (w.withFollow "special-get-raises" false) := by
  intro os
  kernel_rfl
theorem hrunT (w : World) : HandSHeadRun.RunEq RR (PySem.W.view RR.prog [iLaw]) hk ob 2000 loose (w.withFollow "special-get-raises" true) := by
  intro os
  kernel_rfl
theorem hrun (w : World) : HandSHeadRun.RunEq RR (PySem.W.view RR.prog [iLaw]) hk ob 2000 loose w := PySem.W.byRow2 "special-get-raises" hrunF hrunT w
theorem text {w : World} {K : PySem.W.Frag} {h : Heap} {mg : Str → Option Value} (X : K.In h) (G : h.Ns mainGlobals mg) (c : SaysK fa fds ts w K) : TextOk T K w mg := text_ok rfl all_defs (by decide +kernel) X G c
end K74
open PySem PySem.W PySem.Calls PyProof.Rows
theorem K74.law_of (plain : ∀ ns : List Int, ns.length ≤ 63 → ∃ S', Tz.run K74.T 40 "law" [.r 0] [some (.scr ns)] = .ok (.d (.bool true)) S') : PySem.Challenge.rw_turnseats_k74_patches_judged.Holds := by
  w_on; o_law
  refine HandSHeadRun.head_any (r := OpenLaw.row PySem.Challenge.rw_turnseats_k74_patches_judged) (q := view (OpenLaw.row PySem.Challenge.rw_turnseats_k74_patches_judged).prog [K74.iLaw]) (H := K74.hk) (ob := K74.ob) (M := 2000) (loose := K74.loose) (d := HandSHeadRun.topDef (OpenLaw.row PySem.Challenge.rw_turnseats_k74_patches_judged).prog K74.iLaw) (kwd := []) K74.ob_eq
    (by kernel_rfl) (fun s => by kernel_rfl) K74.hrun (by kernel_rfl) (by kernel_rfl) (by kernel_rfl) (by rfl) (by first | assumption | decide +kernel) (by decide +kernel) ⟨rfl, rfl, rfl, rfl, rfl, by decide +kernel⟩ ?hw ?hc
  case hw => w_witness2
  case hc =>
    exact Tz.law_walk (l := PySem.Challenge.rw_turnseats_k74_patches_judged) (n := 63) (k := 40) (T := K74.T) (fn := K74.f_law) rfl (by decide) (by kernel_rfl) (Tz.room_caller.mono (by decide)) "law" rfl rfl (by kernel_rfl) (fun w K h mg X G c => K74.text X G c) plain

end
section
/-! Tz.Show: values that can be shown. -/
namespace Tz
open PySem
def sl (v : PyData) : Nat := v.shown.length
def slA (xs : List PyData) : Nat := (xs.map fun x => sl x + 2).sum
theorem piled_shown : ∀ xs : List PyData, piled (PyData.shownAll xs) = slA xs
  | [] => rfl
  | x :: r => by
    show piled (x.shown :: PyData.shownAll r) = _
    rw [piled_cons, piled_shown r]
    simp [slA, sl]
theorem join_le (ts : List Str) : (Str.join ", " ts).length ≤ piled ts := by
  by_cases h : ts = []
  · subst h
    exact Nat.le_refl _
  · have := join_length_add ts h
    omega
theorem textFrom_le : ∀ (ts : List Str) (k : Nat) (acc : Str), (textFrom k acc ts).length ≤ acc.length + piled ts
  | [], k, acc => by
    show acc.length ≤ _
    omega
  | t :: r, k, acc => by
    have ih := textFrom_le r (k + 1) (acc ++ (if k > 0 then ", " else "" : String) ++ t)
    rw [piled_cons]
    have e : (acc ++ (if k > 0 then ", " else "" : String) ++ t).length ≤ acc.length + 2 + t.length := by
      rw [strLen_append, strLen_append]
      have : ((if k > 0 then ", " else "" : String) : Str).length ≤ 2 := by split <;> decide
      omega
    show (textFrom (k + 1) _ r).length ≤ _
    omega
theorem sl_tuple (xs : List PyData) : sl (.tuple xs) ≤ slA xs + 3 ∧ slA xs ≤ sl (.tuple xs) := by
  constructor
  · show (tupleText (PyData.shownAll xs)).length ≤ _
    unfold tupleText
    rw [strLen_append, strLen_append]
    have h1 := join_le (PyData.shownAll xs)
    rw [piled_shown] at h1
    have h2 : ((if (PyData.shownAll xs).length == 1 then ",)" else ")" : String) : Str).length ≤ 2 := by split <;> decide
    have h3 : ("(" : Str).length = 1 := rfl
    omega
  · rw [← piled_shown]
    exact piled_le_tupleText _
theorem sl_list (xs : List PyData) : sl (.list xs) ≤ slA xs + 3 ∧ slA xs ≤ sl (.list xs) := by
  constructor
  · show (listText (PyData.shownAll xs)).length ≤ _
    unfold listText
    rw [strLen_append]
    have h1 := textFrom_le (PyData.shownAll xs) 0 "["
    rw [piled_shown] at h1
    have h2 : ("[" : Str).length = 1 := rfl
    have h3 : ("]" : Str).length = 1 := rfl
    omega
  · rw [← piled_shown]
    exact piled_le_listText _
theorem slA_append (xs ys : List PyData) : slA (xs ++ ys) = slA xs + slA ys := by simp [slA]
theorem slA_cons (x : PyData) (ys : List PyData) : slA (x :: ys) = sl x + 2 + slA ys := by simp [slA]
theorem slA_sub {xs ys : List PyData} (h : xs.Sublist ys) : slA xs ≤ slA ys := by
  induction h with
  | slnil => exact Nat.le_refl _
  | cons a _ ih => rw [slA_cons]; omega
  | cons_cons a _ ih => rw [slA_cons, slA_cons]; omega
theorem slA_len (xs : List PyData) : 2 * xs.length ≤ slA xs := by
  induction xs with
  | nil => exact Nat.le_refl _
  | cons a r ih => rw [slA_cons, List.length_cons]; omega
theorem slA_reverse (xs : List PyData) : slA xs.reverse = slA xs := by
  induction xs with
  | nil => rfl
  | cons a r ih => rw [List.reverse_cons, slA_append, ih, slA_cons, slA_cons]; show _ + (_ + 0) = _; omega
theorem showAll_iff : ∀ {xs : List PyData}, PyData.showableAll xs = true ↔ ∀ x ∈ xs, x.showable = true
  | [] => by simp [PyData.showableAll]
  | x :: r => by
    simp only [PyData.showableAll, Bool.and_eq_true, showAll_iff (xs := r), List.forall_mem_cons]
theorem depthAll_iff {D : Nat} : ∀ {xs : List PyData}, PyData.depthAll xs ≤ D ↔ ∀ x ∈ xs, x.depth ≤ D
  | [] => by simp [PyData.depthAll]
  | x :: r => by
    simp only [PyData.depthAll, Nat.max_le, depthAll_iff (xs := r), List.forall_mem_cons]
/-- a value that can be shown -/
structure Okv (D M : Nat) (v : PyData) : Prop where
  sh : v.showable = true
  dp : v.depth ≤ D
  sz : sl v ≤ M
/-- items -/
structure OkL (D M : Nat) (xs : List PyData) : Prop where
  it : ∀ x ∈ xs, x.showable = true ∧ x.depth ≤ D
  sz : slA xs ≤ M
section
variable {D M D' M' : Nat} {v : PyData} {xs ys : List PyData}
theorem Okv.mono (h : Okv D M v) (a : D ≤ D') (b : M ≤ M') : Okv D' M' v := ⟨h.sh, Nat.le_trans h.dp a, Nat.le_trans h.sz b⟩
theorem OkL.mono (h : OkL D M xs) (a : D ≤ D') (b : M ≤ M') : OkL D' M' xs := ⟨fun x hx => ⟨(h.it x hx).1, Nat.le_trans (h.it x hx).2 a⟩, Nat.le_trans h.sz b⟩
theorem OkL.tup (h : OkL D M xs) : Okv (D + 1) (M + 3) (.tuple xs) := ⟨by
  show PyData.showableAll xs = true
  exact showAll_iff.mpr fun x hx => (h.it x hx).1, by
  show PyData.depthAll xs + 1 ≤ D + 1
  exact Nat.succ_le_succ (depthAll_iff.mpr fun x hx => (h.it x hx).2), by
  have := (sl_tuple xs).1
  have := h.sz
  omega⟩
theorem OkL.lst (h : OkL D M xs) : Okv (D + 1) (M + 3) (.list xs) := ⟨by
  show PyData.showableAll xs = true
  exact showAll_iff.mpr fun x hx => (h.it x hx).1, by
  show PyData.depthAll xs + 1 ≤ D + 1
  exact Nat.succ_le_succ (depthAll_iff.mpr fun x hx => (h.it x hx).2), by
  have := (sl_list xs).1
  have := h.sz
  omega⟩
theorem Okv.items (h : Okv (D + 1) M (.tuple xs)) : OkL D M xs := ⟨fun x hx => ⟨showAll_iff.mp (show PyData.showableAll xs = true from h.sh) x hx, depthAll_iff.mp (Nat.le_of_succ_le_succ (show PyData.depthAll xs + 1 ≤ D + 1 from h.dp)) x hx⟩, Nat.le_trans (sl_tuple xs).2 h.sz⟩
theorem Okv.items0 (h : Okv D M (.tuple xs)) : OkL (D - 1) M xs := by
  have hd := h.dp
  have e : D = D - 1 + 1 := by
    have : 1 ≤ D := Nat.le_trans (Nat.succ_le_succ (Nat.zero_le _)) (show PyData.depthAll xs + 1 ≤ D from hd)
    omega
  rw [e] at h
  exact h.items
theorem OkL.app {M2 : Nat} (h : OkL D M xs) (q : OkL D M2 ys) : OkL D (M + M2) (xs ++ ys) := ⟨fun x hx => (List.mem_append.mp hx).elim (h.it x) (q.it x), by
  rw [slA_append]
  have := h.sz
  have := q.sz
  omega⟩
theorem OkL.sub (h : OkL D M ys) (s : xs.Sublist ys) : OkL D M xs := ⟨fun x hx => h.it x (s.subset hx), Nat.le_trans (slA_sub s) h.sz⟩
theorem OkL.rev (h : OkL D M xs) : OkL D M xs.reverse := ⟨fun x hx => h.it x (List.mem_reverse.mp hx), by rw [slA_reverse]; exact h.sz⟩
theorem OkL.one (h : Okv D M v) : OkL D (M + 2) [v] := ⟨fun x hx => by rw [List.mem_singleton.mp hx]; exact ⟨h.sh, h.dp⟩, by rw [slA_cons]; have := h.sz; show _ + 0 ≤ _; omega⟩
theorem OkL.nil : OkL D M [] := ⟨(fun _ z => by cases z), Nat.zero_le _⟩
theorem OkL.cons {M2 : Nat} (h : Okv D M v) (q : OkL D M2 xs) : OkL D (M + 2 + M2) (v :: xs) := by
  have := (OkL.one h).app q
  exact this
theorem OkL.mem (h : OkL D M xs) (hv : v ∈ xs) : Okv D M v := ⟨(h.it v hv).1, (h.it v hv).2, by
  obtain ⟨a, b, rfl⟩ := List.append_of_mem hv
  have := h.sz
  rw [slA_append, slA_cons] at this
  omega⟩
theorem OkL.len (h : OkL D M xs) : 2 * xs.length ≤ M := Nat.le_trans (slA_len xs) h.sz
theorem Okv.show (h : Okv D M v) (hd : D ≤ 20) (hm : M ≤ 2 ^ 24) : showOk v = true := by
  unfold showOk
  simp only [Bool.and_eq_true, decide_eq_true_eq]
  exact ⟨h.sh, Nat.le_trans h.dp hd, Nat.le_trans h.sz hm⟩
theorem cut_sub {α : Type} {xs : List α} {lo hi : Option Int} : (cutD xs lo hi).Sublist xs := (List.take_sublist _ _).trans (List.drop_sublist _ _)
theorem okv_int {i : Int} (h0 : -100 ≤ i) (h1 : i < 100) : Okv 0 4 (.int i) := by
  have : ∀ n : Fin 200, (PyData.int ((n.val : Int) - 100)).showable = true ∧ sl (.int ((n.val : Int) - 100)) ≤ 4 := by decide +kernel
  have z := this ⟨(i + 100).toNat, by omega⟩
  have e : (((i + 100).toNat : Nat) : Int) - 100 = i := by omega
  rw [show ((⟨(i + 100).toNat, by omega⟩ : Fin 200).val : Int) = (((i + 100).toNat : Nat) : Int) from rfl, e] at z
  exact ⟨z.1, Nat.le_refl _, z.2⟩
end
end Tz

end
section
/-! Tz.Pg3: drawn values, odd values, bent values. -/
namespace Tz
open PySem
section
variable {T : Prog} {k : Nat} {Q : PyData → Prop} {X : Wx → Prop}
theorem getW_in {xs : List PyData} {i : Int} {Q : PyData → Prop} (h0 : 0 ≤ i) (h1 : i < xs.length) (h : ∀ v ∈ xs, Q v) : getW xs i Q := by
  obtain ⟨x, hx, e, _⟩ := atI_ok h0 h1
  exact ⟨x, e, h x hx⟩
theorem getW_at {xs : List PyData} {i : Int} {Q : PyData → Prop} (h0 : 0 ≤ i) (h1 : i < xs.length) : getW xs i Q ↔ Q (xs[i.toNat]'(by omega)) := by
  obtain ⟨x, hx, e, e2⟩ := atI_ok h0 h1
  rw [getW_some e]
  rw [List.getElem?_eq_getElem (by omega)] at e2
  cases e2
  rfl
theorem law_one_wp [Has T drawP "_law_one" Lib.f__law_one] {xs : List PyData} (h0 : xs ≠ []) (hl : xs.length < 2 ^ 60) (h : ∀ v ∈ xs, Q v) : callW (wpF T drawP (k + 2)) "_law_one" [.box, .d (.list xs)] Q X := by
  rw [wpF_at Lib.f__law_one]
  simp -dsimp only [Lib.f__law_one, Lib.b__law_one, ↓getW_0, ↓getW_1, ↓getW_2, ↓wpSs, ↓wpS, ↓wpV, ↓wpE, ↓wpEs, ↓wpAs, ↓wpI, ↓wpP, ↓wpC, ↓rdE, ↓rd2, ↓varOf, ↓varC, ↓varB, ↓rdW, ↓argW, ↓ownL, ↓metO, ↓metR, ↓changes, ↓setTgW, setTgsW, wipeW, startW, ↓binW, ↓addW, ↓mulW, ↓subIW, ↓divW, ↓modW, ↓powW, ↓augW, ↓negW, ↓truthW, ↓eqW, ↓ltW, ↓inW, ↓keyW, ↓isW, isNoneD, ↓cmpW, ↓subW, ↓cutW, ↓revW, isiD, tyD, isTy, ↓bi1W, ↓bi2W, ↓bisW, ↓lenW, ↓plainW, ↓rangeW, ↓zipW, partD, dPart, getDefW, mtTy, ↓putW, sizeLine, Nat.zero_le, Nat.reducePow, Nat.reduceLeDiff, Nat.reduceAdd, Nat.reduceSub, Nat.reduceMul, Int.reducePow, Int.reduceNeg, Int.reduceLE, Int.reduceLT, Int.cast_ofNat_Int, Int.toNat_natCast, Int.reduceToNat, List.map_cons, List.map_nil, List.length_cons, List.length_nil, List.getElem?_cons_zero, List.getElem?_cons_succ, List.set_cons_zero, List.set_cons_succ, List.any_cons, List.any_nil, List.replicate, List.cons_append, List.nil_append, String.reduceBEq, Bool.or_false, Bool.false_or, Bool.or_true, Bool.true_or, Bool.and_true, Bool.true_and, Bool.and_false, Bool.false_and, Bool.not_true, Bool.not_false, forall_const, true_implies, false_implies, implies_true, reduceCtorEq, and_true, true_and, and_false, false_and, if_true, if_false, ite_true, ite_false, not_true_eq_false, not_false_eq_true, Bool.true_eq_false, Bool.false_eq_true, bne_self_eq_false, Bool.not_eq_true', Bool.not_eq_false', Option.some.injEq, exists_eq_left, exists_eq_left', List.zip_cons_cons, List.zip_nil_left, List.zip_nil_right, keyD, Option.getD_some, Option.getD_none, ↓wp_draw]
  have := List.length_pos_iff.mpr h0
  refine ⟨by omega, fun d d0 d1 => getW_in d0 d1 h⟩
/-! ### odd values -/
def odd1 : List PyData := [.none, .bool true, .bool false, .int (-1), .int 0, .int 1, .int 2, .int 7, .int 8, .int 24, .int 25, .int 65520, .int 65521, .int (10 ^ 39), .str "", .str "in", .str "add", .str "0", .tuple [], .tuple [.int 0]]
def odd2 : List PyData := [.tuple [.str "in", .int 0], .tuple [.str "neg", .int 0], .tuple [.str "add", .int 0, .int 0], .tuple [.str "const", .int 5], .list [.str "in", .int 0], .list [], .list [.int 0], .dict [], .dict [(.str "in", .int 0)], .tuple [.str "in"]]
def odd3 : List PyData := [.str "in.0", .tuple [.int 1, .int 2]]
def odds : List PyData := odd1 ++ odd2 ++ odd3
theorem odds_ok : ∀ v ∈ odds, Okv 1 50 v := by
  have z : (odds.all fun v => v.showable && (decide (v.depth ≤ 1) && decide (sl v ≤ 50))) = true := by decide +kernel
  intro v hv
  have := List.all_eq_true.mp z v hv
  simp -dsimp only [Bool.and_eq_true, decide_eq_true_eq] at this
  exact ⟨this.1, this.2.1, this.2.2⟩
/-- odd values, whatever text draws them -/
class OddOk (T : Prog) : Prop where
  odd : ∀ {k : Nat} {Q : PyData → Prop} {X : Wx → Prop}, (∀ v, Okv 1 50 v → Q v) → callW (wpF T drawP (k + 3)) "_law_odd" [.box] Q X
instance [Has T drawP "_law_one" Lib.f__law_one] [Has T drawP "_law_odd" Lib.f__law_odd] : OddOk T where
  odd := fun {k Q X} h => by
    rw [wpF_at Lib.f__law_odd]
    have hp : powOk 10 39 = true := by decide
    simp -dsimp only [Lib.f__law_odd, Lib.b__law_odd, ↓getW_0, ↓getW_1, ↓getW_2, ↓wpSs, ↓wpS, ↓wpV, ↓wpE, ↓wpEs, ↓wpAs, ↓wpI, ↓wpP, ↓wpC, ↓rdE, ↓rd2, ↓varOf, ↓varC, ↓varB, ↓rdW, ↓argW, ↓ownL, ↓metO, ↓metR, ↓changes, ↓setTgW, setTgsW, wipeW, startW, ↓binW, ↓addW, ↓mulW, ↓subIW, ↓divW, ↓modW, ↓powW, ↓augW, ↓negW, ↓truthW, ↓eqW, ↓ltW, ↓inW, ↓keyW, ↓isW, isNoneD, ↓cmpW, ↓subW, ↓cutW, ↓revW, isiD, tyD, isTy, ↓bi1W, ↓bi2W, ↓bisW, ↓lenW, ↓plainW, ↓rangeW, ↓zipW, partD, dPart, getDefW, mtTy, ↓putW, sizeLine, Nat.zero_le, Nat.reducePow, Nat.reduceLeDiff, Nat.reduceAdd, Nat.reduceSub, Nat.reduceMul, Int.reducePow, Int.reduceNeg, Int.reduceLE, Int.reduceLT, Int.cast_ofNat_Int, Int.toNat_natCast, Int.reduceToNat, List.map_cons, List.map_nil, List.length_cons, List.length_nil, List.getElem?_cons_zero, List.getElem?_cons_succ, List.set_cons_zero, List.set_cons_succ, List.any_cons, List.any_nil, List.replicate, List.cons_append, List.nil_append, String.reduceBEq, Bool.or_false, Bool.false_or, Bool.or_true, Bool.true_or, Bool.and_true, Bool.true_and, Bool.and_false, Bool.false_and, Bool.not_true, Bool.not_false, forall_const, true_implies, false_implies, implies_true, reduceCtorEq, and_true, true_and, and_false, false_and, if_true, if_false, ite_true, ite_false, not_true_eq_false, not_false_eq_true, Bool.true_eq_false, Bool.false_eq_true, bne_self_eq_false, Bool.not_eq_true', Bool.not_eq_false', Option.some.injEq, exists_eq_left, exists_eq_left', List.zip_cons_cons, List.zip_nil_left, List.zip_nil_right, keyD, Option.getD_some, Option.getD_none, hp, List.nodup_nil, List.nodup_cons, List.not_mem_nil]
    refine law_one_wp (by simp) (by simp) fun v hv => h v (odds_ok v ?_)
    exact hv
instance [Has T drawP "_law_one" Lib.f__law_one] [Has T drawP "_law_odd" Lib.f__law_odd74] : OddOk T where
  odd := fun {k Q X} h => by
    rw [wpF_at Lib.f__law_odd74]
    have hp : powOk 10 39 = true := by decide
    simp -dsimp only [Lib.f__law_odd74, Lib.b__law_odd74, ↓getW_0, ↓getW_1, ↓getW_2, ↓wpSs, ↓wpS, ↓wpV, ↓wpE, ↓wpEs, ↓wpAs, ↓wpI, ↓wpP, ↓wpC, ↓rdE, ↓rd2, ↓varOf, ↓varC, ↓varB, ↓rdW, ↓argW, ↓ownL, ↓metO, ↓metR, ↓changes, ↓setTgW, setTgsW, wipeW, startW, ↓binW, ↓addW, ↓mulW, ↓subIW, ↓divW, ↓modW, ↓powW, ↓augW, ↓negW, ↓truthW, ↓eqW, ↓ltW, ↓inW, ↓keyW, ↓isW, isNoneD, ↓cmpW, ↓subW, ↓cutW, ↓revW, isiD, tyD, isTy, ↓bi1W, ↓bi2W, ↓bisW, ↓lenW, ↓plainW, ↓rangeW, ↓zipW, partD, dPart, getDefW, mtTy, ↓putW, sizeLine, Nat.zero_le, Nat.reducePow, Nat.reduceLeDiff, Nat.reduceAdd, Nat.reduceSub, Nat.reduceMul, Int.reducePow, Int.reduceNeg, Int.reduceLE, Int.reduceLT, Int.cast_ofNat_Int, Int.toNat_natCast, Int.reduceToNat, List.map_cons, List.map_nil, List.length_cons, List.length_nil, List.getElem?_cons_zero, List.getElem?_cons_succ, List.set_cons_zero, List.set_cons_succ, List.any_cons, List.any_nil, List.replicate, List.cons_append, List.nil_append, String.reduceBEq, Bool.or_false, Bool.false_or, Bool.or_true, Bool.true_or, Bool.and_true, Bool.true_and, Bool.and_false, Bool.false_and, Bool.not_true, Bool.not_false, forall_const, true_implies, false_implies, implies_true, reduceCtorEq, and_true, true_and, and_false, false_and, if_true, if_false, ite_true, ite_false, not_true_eq_false, not_false_eq_true, Bool.true_eq_false, Bool.false_eq_true, bne_self_eq_false, Bool.not_eq_true', Bool.not_eq_false', Option.some.injEq, exists_eq_left, exists_eq_left', List.zip_cons_cons, List.zip_nil_left, List.zip_nil_right, keyD, Option.getD_some, Option.getD_none, hp, List.nodup_nil, List.nodup_cons, List.not_mem_nil]
    refine law_one_wp (by simp) (by simp) fun v hv => h v (odds_ok v ?_)
    exact hv
theorem law_odd_wp [O : OddOk T] (h : ∀ v, Okv 1 50 v → Q v) : callW (wpF T drawP (k + 3)) "_law_odd" [.box] Q X := O.odd h
/-! ### bent values -/
def isTup : PyData → Bool
  | .tuple _ => true
  | _ => false
theorem isi_tup {x : PyData} : (("tuple" == tyD x || (tyD x == "bool" && false)) : Bool) = isTup x := by cases x <;> rfl
def tupAt (xs : List PyData) (i : Int) : Bool := match xs[i.toNat]? with
  | some (.tuple _) => true
  | _ => false
def places (xs : List PyData) : List Int := ((List.range xs.length).map fun (j : Nat) => (j : Int)).filter (tupAt xs)
theorem places_mem {xs : List PyData} {i : Int} (h : i ∈ places xs) : 0 ≤ i ∧ i < xs.length ∧ ∃ ys, xs[i.toNat]? = some (.tuple ys) := by
  unfold places at h
  rw [List.mem_filter] at h
  obtain ⟨h1, h2⟩ := h
  obtain ⟨j, hj, rfl⟩ := List.mem_map.mp h1
  rw [List.mem_range] at hj
  refine ⟨by omega, by omega, ?_⟩
  unfold tupAt at h2
  split at h2
  · exact ⟨_, by assumption⟩
  · cases h2
theorem places_len {xs : List PyData} : (places xs).length ≤ xs.length := by
  unfold places
  refine Nat.le_trans (List.length_filter_le _ _) ?_
  simp
theorem slA_at {xs : List PyData} {j : Nat} {x : PyData} (h : xs[j]? = some x) : slA xs = slA (xs.take j) + (sl x + 2) + slA (xs.drop (j + 1)) := by
  obtain ⟨hl, e⟩ := List.getElem?_eq_some_iff.mp h
  have : xs = xs.take j ++ x :: xs.drop (j + 1) := by
    rw [← e, ← List.drop_eq_getElem_cons hl, List.take_append_drop]
  calc slA xs = slA (xs.take j ++ x :: xs.drop (j + 1)) := by rw [← this]
    _ = _ := by rw [slA_append, slA_cons]; omega
theorem slA_rep (xs : List PyData) : ∀ n : Nat, slA (List.replicate n xs).flatten = n * slA xs
  | 0 => by simp [slA]
  | n + 1 => by
    rw [List.replicate_succ, List.flatten_cons, slA_append, slA_rep xs n, Nat.succ_mul]
    omega
theorem rep_ok {D M n : Nat} {xs : List PyData} (h : OkL D M xs) : OkL D (n * M) (List.replicate n xs).flatten := ⟨fun x hx => by
  obtain ⟨l, hl, hxl⟩ := List.mem_flatten.mp hx
  rw [(List.mem_replicate.mp hl).2] at hxl
  exact h.it x hxl, by rw [slA_rep]; exact Nat.mul_le_mul_left n h.sz⟩
/-- a range's walk in a comprehension -/
theorem lcW_range {f : PyData → (List PyData → Prop) → Prop} {p : Int → Bool} {g : Int → PyData} {n : Nat} {R : List PyData → Prop} (h : ∀ j : Nat, j < n → ∀ K, f (.int j) K ↔ K (if p j then [g j] else [])) : lcX f ((List.range n).map fun (j : Nat) => .int j) R ↔ R ((((List.range n).map fun (j : Nat) => (j : Int)).filter p).map g) := by
  have e : ((List.range n).map fun (j : Nat) => PyData.int j) = ((List.range n).map fun (j : Nat) => (j : Int)).map .int := by simp
  have : ∀ (l : List Nat), (∀ j ∈ l, j < n) → ∀ R : List PyData → Prop, lcW f (l.map fun (j : Nat) => .int j) R ↔ R (((l.map fun (j : Nat) => (j : Int)).filter p).map g) := by
    intro l
    induction l with
    | nil => intro _ R; exact Iff.rfl
    | cons a r ih =>
      intro hm R
      show f _ _ ↔ _
      rw [h a (hm a (List.mem_cons_self ..)), ih fun j hj => hm j (List.mem_cons_of_mem _ hj), List.map_cons, List.filter_cons]
      cases p a <;> rfl
  exact this _ (fun j hj => List.mem_range.mp hj) R
theorem dep_tup {xs : List PyData} {n : Nat} (h : (PyData.tuple xs).depth ≤ n + 1) : ∀ x ∈ xs, x.depth ≤ n := depthAll_iff.mp (Nat.le_of_succ_le_succ (show PyData.depthAll xs + 1 ≤ n + 1 from h))
theorem law_bent_wp [Has T drawP "_law_one" Lib.f__law_one] [OddOk T] [Has T drawP "_law_bent" Lib.f__law_bent] : ∀ (n : Nat) {k : Nat} {xs : List PyData} {D M : Nat} {Q : PyData → Prop}, (PyData.tuple xs).depth ≤ n → Okv D M (.tuple xs) → M ≤ 2000 → (∀ w, Okv (D + 2) (3 * M + 200) w → Q w) → callW (wpF T drawP (k + n + 5)) "_law_bent" [.box, .d (.tuple xs)] Q X := by
  intro n
  induction n with
  | zero =>
    intro k xs D M Q hd
    exact absurd (show PyData.depthAll xs + 1 ≤ 0 from hd) (by omega)
  | succ n ih =>
    intro k xs D M Q hd hv hM hQ
    have hD : 1 ≤ D := Nat.le_trans (Nat.succ_le_succ (Nat.zero_le _)) (show PyData.depthAll xs + 1 ≤ D from hv.dp)
    have hi := hv.items0
    have hlen := hi.len
    rw [show k + (n + 1) + 5 = (k + n + 5) + 1 by omega, wpF_at Lib.f__law_bent]
    simp -dsimp only [Lib.f__law_bent, Lib.b__law_bent, ↓getW_0, ↓getW_1, ↓getW_2, ↓wpSs, ↓wpS, ↓wpV, ↓wpE, ↓wpEs, ↓wpAs, ↓wpI, ↓wpP, ↓wpC, ↓rdE, ↓rd2, ↓varOf, ↓varC, ↓varB, ↓rdW, ↓argW, ↓ownL, ↓metO, ↓metR, ↓changes, ↓setTgW, setTgsW, wipeW, startW, ↓binW, ↓addW, ↓mulW, ↓subIW, ↓divW, ↓modW, ↓powW, ↓augW, ↓negW, ↓truthW, ↓eqW, ↓ltW, ↓inW, ↓keyW, ↓isW, isNoneD, ↓cmpW, ↓subW, ↓cutW, ↓revW, isiD, tyD, isTy, ↓bi1W, ↓bi2W, ↓bisW, ↓lenW, ↓plainW, ↓rangeW, ↓zipW, partD, dPart, getDefW, mtTy, ↓putW, sizeLine, Nat.zero_le, Nat.reducePow, Nat.reduceLeDiff, Nat.reduceAdd, Nat.reduceSub, Nat.reduceMul, Int.reducePow, Int.reduceNeg, Int.reduceLE, Int.reduceLT, Int.cast_ofNat_Int, Int.toNat_natCast, Int.reduceToNat, List.map_cons, List.map_nil, List.length_cons, List.length_nil, List.getElem?_cons_zero, List.getElem?_cons_succ, List.set_cons_zero, List.set_cons_succ, List.any_cons, List.any_nil, List.replicate, List.cons_append, List.nil_append, String.reduceBEq, Bool.or_false, Bool.false_or, Bool.or_true, Bool.true_or, Bool.and_true, Bool.true_and, Bool.and_false, Bool.false_and, Bool.not_true, Bool.not_false, forall_const, true_implies, false_implies, implies_true, reduceCtorEq, and_true, true_and, and_false, false_and, if_true, if_false, ite_true, ite_false, not_true_eq_false, not_false_eq_true, Bool.true_eq_false, Bool.false_eq_true, bne_self_eq_false, Bool.not_eq_true', Bool.not_eq_false', Option.some.injEq, exists_eq_left, exists_eq_left', List.zip_cons_cons, List.zip_nil_left, List.zip_nil_right, keyD, Option.getD_some, Option.getD_none]
    refine ⟨by omega, by omega, ?_⟩
    rw [lcW_range (p := tupAt xs) (g := .int) fun j hj K => by
      have e : tupAt xs j = isTup xs[j] := by
        unfold tupAt
        rw [Int.toNat_natCast, List.getElem?_eq_getElem hj]
        cases xs[j] <;> rfl
      simp -dsimp only [↓getW_0, ↓getW_1, ↓getW_2, ↓wpSs, ↓wpS, ↓wpV, ↓wpE, ↓wpEs, ↓wpAs, ↓wpI, ↓wpP, ↓wpC, ↓rdE, ↓rd2, ↓varOf, ↓varC, ↓varB, ↓rdW, ↓argW, ↓ownL, ↓metO, ↓metR, ↓changes, ↓setTgW, setTgsW, wipeW, startW, ↓binW, ↓addW, ↓mulW, ↓subIW, ↓divW, ↓modW, ↓powW, ↓augW, ↓negW, ↓truthW, ↓eqW, ↓ltW, ↓inW, ↓keyW, ↓isW, isNoneD, ↓cmpW, ↓subW, ↓cutW, ↓revW, isiD, tyD, isTy, ↓bi1W, ↓bi2W, ↓bisW, ↓lenW, ↓plainW, ↓rangeW, ↓zipW, partD, dPart, getDefW, mtTy, ↓putW, sizeLine, Nat.zero_le, Nat.reducePow, Nat.reduceLeDiff, Nat.reduceAdd, Nat.reduceSub, Nat.reduceMul, Int.reducePow, Int.reduceNeg, Int.reduceLE, Int.reduceLT, Int.cast_ofNat_Int, Int.toNat_natCast, Int.reduceToNat, List.map_cons, List.map_nil, List.length_cons, List.length_nil, List.getElem?_cons_zero, List.getElem?_cons_succ, List.set_cons_zero, List.set_cons_succ, List.any_cons, List.any_nil, List.replicate, List.cons_append, List.nil_append, String.reduceBEq, Bool.or_false, Bool.false_or, Bool.or_true, Bool.true_or, Bool.and_true, Bool.true_and, Bool.and_false, Bool.false_and, Bool.not_true, Bool.not_false, forall_const, true_implies, false_implies, implies_true, reduceCtorEq, and_true, true_and, and_false, false_and, if_true, if_false, ite_true, ite_false, not_true_eq_false, not_false_eq_true, Bool.true_eq_false, Bool.false_eq_true, bne_self_eq_false, Bool.not_eq_true', Bool.not_eq_false', Option.some.injEq, exists_eq_left, exists_eq_left', List.zip_cons_cons, List.zip_nil_left, List.zip_nil_right, keyD, Option.getD_some, Option.getD_none]
      rw [getW_at (by omega) (by omega)]
      simp -dsimp only [Int.toNat_natCast, e]
      cases xs[j] <;> simp -dsimp only [↓getW_0, ↓getW_1, ↓getW_2, ↓wpSs, ↓wpS, ↓wpV, ↓wpE, ↓wpEs, ↓wpAs, ↓wpI, ↓wpP, ↓wpC, ↓rdE, ↓rd2, ↓varOf, ↓varC, ↓varB, ↓rdW, ↓argW, ↓ownL, ↓metO, ↓metR, ↓changes, ↓setTgW, setTgsW, wipeW, startW, ↓binW, ↓addW, ↓mulW, ↓subIW, ↓divW, ↓modW, ↓powW, ↓augW, ↓negW, ↓truthW, ↓eqW, ↓ltW, ↓inW, ↓keyW, ↓isW, isNoneD, ↓cmpW, ↓subW, ↓cutW, ↓revW, isiD, tyD, isTy, ↓bi1W, ↓bi2W, ↓bisW, ↓lenW, ↓plainW, ↓rangeW, ↓zipW, partD, dPart, getDefW, mtTy, ↓putW, sizeLine, Nat.zero_le, Nat.reducePow, Nat.reduceLeDiff, Nat.reduceAdd, Nat.reduceSub, Nat.reduceMul, Int.reducePow, Int.reduceNeg, Int.reduceLE, Int.reduceLT, Int.cast_ofNat_Int, Int.toNat_natCast, Int.reduceToNat, List.map_cons, List.map_nil, List.length_cons, List.length_nil, List.getElem?_cons_zero, List.getElem?_cons_succ, List.set_cons_zero, List.set_cons_succ, List.any_cons, List.any_nil, List.replicate, List.cons_append, List.nil_append, String.reduceBEq, Bool.or_false, Bool.false_or, Bool.or_true, Bool.true_or, Bool.and_true, Bool.true_and, Bool.and_false, Bool.false_and, Bool.not_true, Bool.not_false, forall_const, true_implies, false_implies, implies_true, reduceCtorEq, and_true, true_and, and_false, false_and, if_true, if_false, ite_true, ite_false, not_true_eq_false, not_false_eq_true, Bool.true_eq_false, Bool.false_eq_true, bne_self_eq_false, Bool.not_eq_true', Bool.not_eq_false', Option.some.injEq, exists_eq_left, exists_eq_left', List.zip_cons_cons, List.zip_nil_left, List.zip_nil_right, keyD, Option.getD_some, Option.getD_none, isTup]]
    have tail : ∀ pv, wpSs (wpF T drawP (k + n + 5)) T.G T.W (match Lib.b__law_bent with | .cons _ (.cons _ r) => r | _ => .nil) [some .box, some (.d (.tuple xs)), pv, none, none, none] (fun _ => Q .none) ⟨Q, fun _ => False, fun _ => False, fun x _ => X x⟩ := by
      intro pv
      simp -dsimp only [Lib.b__law_bent, ↓getW_0, ↓getW_1, ↓getW_2, ↓wpSs, ↓wpS, ↓wpV, ↓wpE, ↓wpEs, ↓wpAs, ↓wpI, ↓wpP, ↓wpC, ↓rdE, ↓rd2, ↓varOf, ↓varC, ↓varB, ↓rdW, ↓argW, ↓ownL, ↓metO, ↓metR, ↓changes, ↓setTgW, setTgsW, wipeW, startW, ↓binW, ↓addW, ↓mulW, ↓subIW, ↓divW, ↓modW, ↓powW, ↓augW, ↓negW, ↓truthW, ↓eqW, ↓ltW, ↓inW, ↓keyW, ↓isW, isNoneD, ↓cmpW, ↓subW, ↓cutW, ↓revW, isiD, tyD, isTy, ↓bi1W, ↓bi2W, ↓bisW, ↓lenW, ↓plainW, ↓rangeW, ↓zipW, partD, dPart, getDefW, mtTy, ↓putW, sizeLine, Nat.zero_le, Nat.reducePow, Nat.reduceLeDiff, Nat.reduceAdd, Nat.reduceSub, Nat.reduceMul, Int.reducePow, Int.reduceNeg, Int.reduceLE, Int.reduceLT, Int.cast_ofNat_Int, Int.toNat_natCast, Int.reduceToNat, List.map_cons, List.map_nil, List.length_cons, List.length_nil, List.getElem?_cons_zero, List.getElem?_cons_succ, List.set_cons_zero, List.set_cons_succ, List.any_cons, List.any_nil, List.replicate, List.cons_append, List.nil_append, String.reduceBEq, Bool.or_false, Bool.false_or, Bool.or_true, Bool.true_or, Bool.and_true, Bool.true_and, Bool.and_false, Bool.false_and, Bool.not_true, Bool.not_false, forall_const, true_implies, false_implies, implies_true, reduceCtorEq, and_true, true_and, and_false, false_and, if_true, if_false, ite_true, ite_false, not_true_eq_false, not_false_eq_true, Bool.true_eq_false, Bool.false_eq_true, bne_self_eq_false, Bool.not_eq_true', Bool.not_eq_false', Option.some.injEq, exists_eq_left, exists_eq_left', List.zip_cons_cons, List.zip_nil_left, List.zip_nil_right, keyD, Option.getD_some, Option.getD_none, ↓wp_draw]
      refine ⟨by omega, fun d d0 d1 => ?_⟩
      have s1 : (cutD xs none (some d)).Sublist xs := cut_sub
      have s2 : (cutD xs (some (d + 1)) none).Sublist xs := cut_sub
      have s3 : (cutD xs (some d) none).Sublist xs := cut_sub
      have s4 : (cutD xs (some (-1)) none).Sublist xs := cut_sub
      have l1 := s1.length_le
      have l2 := s2.length_le
      have l3 := s3.length_le
      have l4 := s4.length_le
      have k1 := hi.sub s1
      have k2 := hi.sub s2
      have k3 := hi.sub s3
      have k4 := hi.sub s4
      refine law_odd_wp fun o1 p1 => ?_
      simp -dsimp only [↓getW_0, ↓getW_1, ↓getW_2, ↓wpSs, ↓wpS, ↓wpV, ↓wpE, ↓wpEs, ↓wpAs, ↓wpI, ↓wpP, ↓wpC, ↓rdE, ↓rd2, ↓varOf, ↓varC, ↓varB, ↓rdW, ↓argW, ↓ownL, ↓metO, ↓metR, ↓changes, ↓setTgW, setTgsW, wipeW, startW, ↓binW, ↓addW, ↓mulW, ↓subIW, ↓divW, ↓modW, ↓powW, ↓augW, ↓negW, ↓truthW, ↓eqW, ↓ltW, ↓inW, ↓keyW, ↓isW, isNoneD, ↓cmpW, ↓subW, ↓cutW, ↓revW, isiD, tyD, isTy, ↓bi1W, ↓bi2W, ↓bisW, ↓lenW, ↓plainW, ↓rangeW, ↓zipW, partD, dPart, getDefW, mtTy, ↓putW, sizeLine, Nat.zero_le, Nat.reducePow, Nat.reduceLeDiff, Nat.reduceAdd, Nat.reduceSub, Nat.reduceMul, Int.reducePow, Int.reduceNeg, Int.reduceLE, Int.reduceLT, Int.cast_ofNat_Int, Int.toNat_natCast, Int.reduceToNat, List.map_cons, List.map_nil, List.length_cons, List.length_nil, List.getElem?_cons_zero, List.getElem?_cons_succ, List.set_cons_zero, List.set_cons_succ, List.any_cons, List.any_nil, List.replicate, List.cons_append, List.nil_append, String.reduceBEq, Bool.or_false, Bool.false_or, Bool.or_true, Bool.true_or, Bool.and_true, Bool.true_and, Bool.and_false, Bool.false_and, Bool.not_true, Bool.not_false, forall_const, true_implies, false_implies, implies_true, reduceCtorEq, and_true, true_and, and_false, false_and, if_true, if_false, ite_true, ite_false, not_true_eq_false, not_false_eq_true, Bool.true_eq_false, Bool.false_eq_true, bne_self_eq_false, Bool.not_eq_true', Bool.not_eq_false', Option.some.injEq, exists_eq_left, exists_eq_left', List.zip_cons_cons, List.zip_nil_left, List.zip_nil_right, keyD, Option.getD_some, Option.getD_none, List.length_append]
      refine ⟨by omega, by omega, by omega, by omega, ?_⟩
      refine law_odd_wp fun o2 p2 => ?_
      simp -dsimp only [↓getW_0, ↓getW_1, ↓getW_2, ↓wpSs, ↓wpS, ↓wpV, ↓wpE, ↓wpEs, ↓wpAs, ↓wpI, ↓wpP, ↓wpC, ↓rdE, ↓rd2, ↓varOf, ↓varC, ↓varB, ↓rdW, ↓argW, ↓ownL, ↓metO, ↓metR, ↓changes, ↓setTgW, setTgsW, wipeW, startW, ↓binW, ↓addW, ↓mulW, ↓subIW, ↓divW, ↓modW, ↓powW, ↓augW, ↓negW, ↓truthW, ↓eqW, ↓ltW, ↓inW, ↓keyW, ↓isW, isNoneD, ↓cmpW, ↓subW, ↓cutW, ↓revW, isiD, tyD, isTy, ↓bi1W, ↓bi2W, ↓bisW, ↓lenW, ↓plainW, ↓rangeW, ↓zipW, partD, dPart, getDefW, mtTy, ↓putW, sizeLine, Nat.zero_le, Nat.reducePow, Nat.reduceLeDiff, Nat.reduceAdd, Nat.reduceSub, Nat.reduceMul, Int.reducePow, Int.reduceNeg, Int.reduceLE, Int.reduceLT, Int.cast_ofNat_Int, Int.toNat_natCast, Int.reduceToNat, List.map_cons, List.map_nil, List.length_cons, List.length_nil, List.getElem?_cons_zero, List.getElem?_cons_succ, List.set_cons_zero, List.set_cons_succ, List.any_cons, List.any_nil, List.replicate, List.cons_append, List.nil_append, String.reduceBEq, Bool.or_false, Bool.false_or, Bool.or_true, Bool.true_or, Bool.and_true, Bool.true_and, Bool.and_false, Bool.false_and, Bool.not_true, Bool.not_false, forall_const, true_implies, false_implies, implies_true, reduceCtorEq, and_true, true_and, and_false, false_and, if_true, if_false, ite_true, ite_false, not_true_eq_false, not_false_eq_true, Bool.true_eq_false, Bool.false_eq_true, bne_self_eq_false, Bool.not_eq_true', Bool.not_eq_false', Option.some.injEq, exists_eq_left, exists_eq_left', List.zip_cons_cons, List.zip_nil_left, List.zip_nil_right, keyD, Option.getD_some, Option.getD_none, List.length_append]
      repeat refine And.intro (by omega) ?_
      refine law_one_wp (by simp) (by simp) fun w hw => hQ w ?_
      have fin1 : ∀ {l : List PyData} {m : Nat}, OkL (D + 1) m l → m + 3 ≤ 3 * M + 200 → Okv (D + 2) (3 * M + 200) (.tuple l) := fun h q => h.tup.mono (Nat.le_refl _) q
      have up : ∀ {l : List PyData}, OkL (D - 1) M l → OkL (D + 1) M l := fun h => h.mono (by omega) (Nat.le_refl _)
      have q1 : OkL (D + 1) 52 [o1] := (OkL.one p1).mono (by omega) (Nat.le_refl _)
      have q2 : OkL (D + 1) 52 [o2] := (OkL.one p2).mono (by omega) (Nat.le_refl _)
      simp -dsimp only [List.cons_append, List.nil_append, List.mem_cons, List.not_mem_nil, or_false, partD, dPart] at hw
      rcases hw with rfl | rfl | rfl | rfl | rfl | rfl | rfl
      · exact fin1 (m := M + 52 + M) (((up k1).app q1).app (up k2)) (by omega)
      · exact fin1 ((up k1).app (up k2)) (by omega)
      · exact fin1 (up hi).rev (by omega)
      · exact (up hi).lst.mono (Nat.le_refl _) (by omega)
      · exact fin1 (m := M + 52 + M) (((up k1).app q2).app (up k3)) (by omega)
      · exact fin1 ((up hi).app (up k4)) (by omega)
      · exact fin1 (rep_ok (n := 3) (up hi)) (by omega)
    by_cases hpl : places xs = []
    · have e : (List.map PyData.int (List.filter (tupAt xs) (List.map (fun (j : Nat) => (j : Int)) (List.range xs.length)))) = [] := by
        show (places xs).map _ = _
        rw [hpl]
        rfl
      rw [e]
      simp -dsimp only [↓getW_0, ↓getW_1, ↓getW_2, ↓wpSs, ↓wpS, ↓wpV, ↓wpE, ↓wpEs, ↓wpAs, ↓wpI, ↓wpP, ↓wpC, ↓rdE, ↓rd2, ↓varOf, ↓varC, ↓varB, ↓rdW, ↓argW, ↓ownL, ↓metO, ↓metR, ↓changes, ↓setTgW, setTgsW, wipeW, startW, ↓binW, ↓addW, ↓mulW, ↓subIW, ↓divW, ↓modW, ↓powW, ↓augW, ↓negW, ↓truthW, ↓eqW, ↓ltW, ↓inW, ↓keyW, ↓isW, isNoneD, ↓cmpW, ↓subW, ↓cutW, ↓revW, isiD, tyD, isTy, ↓bi1W, ↓bi2W, ↓bisW, ↓lenW, ↓plainW, ↓rangeW, ↓zipW, partD, dPart, getDefW, mtTy, ↓putW, sizeLine, Nat.zero_le, Nat.reducePow, Nat.reduceLeDiff, Nat.reduceAdd, Nat.reduceSub, Nat.reduceMul, Int.reducePow, Int.reduceNeg, Int.reduceLE, Int.reduceLT, Int.cast_ofNat_Int, Int.toNat_natCast, Int.reduceToNat, List.map_cons, List.map_nil, List.length_cons, List.length_nil, List.getElem?_cons_zero, List.getElem?_cons_succ, List.set_cons_zero, List.set_cons_succ, List.any_cons, List.any_nil, List.replicate, List.cons_append, List.nil_append, String.reduceBEq, Bool.or_false, Bool.false_or, Bool.or_true, Bool.true_or, Bool.and_true, Bool.true_and, Bool.and_false, Bool.false_and, Bool.not_true, Bool.not_false, forall_const, true_implies, false_implies, implies_true, reduceCtorEq, and_true, true_and, and_false, false_and, if_true, if_false, ite_true, ite_false, not_true_eq_false, not_false_eq_true, Bool.true_eq_false, Bool.false_eq_true, bne_self_eq_false, Bool.not_eq_true', Bool.not_eq_false', Option.some.injEq, exists_eq_left, exists_eq_left', List.zip_cons_cons, List.zip_nil_left, List.zip_nil_right, keyD, Option.getD_some, Option.getD_none, List.isEmpty_nil]
      have := tail (some (.d (.list [])))
      simp -dsimp only [Lib.b__law_bent, ↓getW_0, ↓getW_1, ↓getW_2, ↓wpSs, ↓wpS, ↓wpV, ↓wpE, ↓wpEs, ↓wpAs, ↓wpI, ↓wpP, ↓wpC, ↓rdE, ↓rd2, ↓varOf, ↓varC, ↓varB, ↓rdW, ↓argW, ↓ownL, ↓metO, ↓metR, ↓changes, ↓setTgW, setTgsW, wipeW, startW, ↓binW, ↓addW, ↓mulW, ↓subIW, ↓divW, ↓modW, ↓powW, ↓augW, ↓negW, ↓truthW, ↓eqW, ↓ltW, ↓inW, ↓keyW, ↓isW, isNoneD, ↓cmpW, ↓subW, ↓cutW, ↓revW, isiD, tyD, isTy, ↓bi1W, ↓bi2W, ↓bisW, ↓lenW, ↓plainW, ↓rangeW, ↓zipW, partD, dPart, getDefW, mtTy, ↓putW, sizeLine, Nat.zero_le, Nat.reducePow, Nat.reduceLeDiff, Nat.reduceAdd, Nat.reduceSub, Nat.reduceMul, Int.reducePow, Int.reduceNeg, Int.reduceLE, Int.reduceLT, Int.cast_ofNat_Int, Int.toNat_natCast, Int.reduceToNat, List.map_cons, List.map_nil, List.length_cons, List.length_nil, List.getElem?_cons_zero, List.getElem?_cons_succ, List.set_cons_zero, List.set_cons_succ, List.any_cons, List.any_nil, List.replicate, List.cons_append, List.nil_append, String.reduceBEq, Bool.or_false, Bool.false_or, Bool.or_true, Bool.true_or, Bool.and_true, Bool.true_and, Bool.and_false, Bool.false_and, Bool.not_true, Bool.not_false, forall_const, true_implies, false_implies, implies_true, reduceCtorEq, and_true, true_and, and_false, false_and, if_true, if_false, ite_true, ite_false, not_true_eq_false, not_false_eq_true, Bool.true_eq_false, Bool.false_eq_true, bne_self_eq_false, Bool.not_eq_true', Bool.not_eq_false', Option.some.injEq, exists_eq_left, exists_eq_left', List.zip_cons_cons, List.zip_nil_left, List.zip_nil_right, keyD, Option.getD_some, Option.getD_none] at this
      exact this
    · have hp0 := List.length_pos_iff.mpr hpl
      have hp1 := places_len (xs := xs)
      have e : (List.map PyData.int (List.filter (tupAt xs) (List.map (fun (j : Nat) => (j : Int)) (List.range xs.length)))) = (places xs).map .int := rfl
      have e2 : ((places xs).map PyData.int).isEmpty = false := by
        cases h : places xs with
        | nil => exact absurd h hpl
        | cons a r => rfl
      rw [e]
      simp -dsimp only [↓getW_0, ↓getW_1, ↓getW_2, ↓wpSs, ↓wpS, ↓wpV, ↓wpE, ↓wpEs, ↓wpAs, ↓wpI, ↓wpP, ↓wpC, ↓rdE, ↓rd2, ↓varOf, ↓varC, ↓varB, ↓rdW, ↓argW, ↓ownL, ↓metO, ↓metR, ↓changes, ↓setTgW, setTgsW, wipeW, startW, ↓binW, ↓addW, ↓mulW, ↓subIW, ↓divW, ↓modW, ↓powW, ↓augW, ↓negW, ↓truthW, ↓eqW, ↓ltW, ↓inW, ↓keyW, ↓isW, isNoneD, ↓cmpW, ↓subW, ↓cutW, ↓revW, isiD, tyD, isTy, ↓bi1W, ↓bi2W, ↓bisW, ↓lenW, ↓plainW, ↓rangeW, ↓zipW, partD, dPart, getDefW, mtTy, ↓putW, sizeLine, Nat.zero_le, Nat.reducePow, Nat.reduceLeDiff, Nat.reduceAdd, Nat.reduceSub, Nat.reduceMul, Int.reducePow, Int.reduceNeg, Int.reduceLE, Int.reduceLT, Int.cast_ofNat_Int, Int.toNat_natCast, Int.reduceToNat, List.map_cons, List.map_nil, List.length_cons, List.length_nil, List.getElem?_cons_zero, List.getElem?_cons_succ, List.set_cons_zero, List.set_cons_succ, List.any_cons, List.any_nil, List.replicate, List.cons_append, List.nil_append, String.reduceBEq, Bool.or_false, Bool.false_or, Bool.or_true, Bool.true_or, Bool.and_true, Bool.true_and, Bool.and_false, Bool.false_and, Bool.not_true, Bool.not_false, forall_const, true_implies, false_implies, implies_true, reduceCtorEq, and_true, true_and, and_false, false_and, if_true, if_false, ite_true, ite_false, not_true_eq_false, not_false_eq_true, Bool.true_eq_false, Bool.false_eq_true, bne_self_eq_false, Bool.not_eq_true', Bool.not_eq_false', Option.some.injEq, exists_eq_left, exists_eq_left', List.zip_cons_cons, List.zip_nil_left, List.zip_nil_right, keyD, Option.getD_some, Option.getD_none, e2, ↓wp_draw]
      repeat refine And.intro (by omega) ?_
      refine fun d d0 d1 => ⟨fun hpos => ?_, fun _ => ?_⟩
      · refine ⟨by simp -dsimp only [List.length_map]; omega, fun j j0 j1 => ?_⟩
        rw [List.length_map] at j1
        rw [getW_at j0 (by simpa using j1)]
        simp -dsimp only [List.getElem_map, ↓getW_0, ↓getW_1, ↓getW_2, ↓wpSs, ↓wpS, ↓wpV, ↓wpE, ↓wpEs, ↓wpAs, ↓wpI, ↓wpP, ↓wpC, ↓rdE, ↓rd2, ↓varOf, ↓varC, ↓varB, ↓rdW, ↓argW, ↓ownL, ↓metO, ↓metR, ↓changes, ↓setTgW, setTgsW, wipeW, startW, ↓binW, ↓addW, ↓mulW, ↓subIW, ↓divW, ↓modW, ↓powW, ↓augW, ↓negW, ↓truthW, ↓eqW, ↓ltW, ↓inW, ↓keyW, ↓isW, isNoneD, ↓cmpW, ↓subW, ↓cutW, ↓revW, isiD, tyD, isTy, ↓bi1W, ↓bi2W, ↓bisW, ↓lenW, ↓plainW, ↓rangeW, ↓zipW, partD, dPart, getDefW, mtTy, ↓putW, sizeLine, Nat.zero_le, Nat.reducePow, Nat.reduceLeDiff, Nat.reduceAdd, Nat.reduceSub, Nat.reduceMul, Int.reducePow, Int.reduceNeg, Int.reduceLE, Int.reduceLT, Int.cast_ofNat_Int, Int.toNat_natCast, Int.reduceToNat, List.map_cons, List.map_nil, List.length_cons, List.length_nil, List.getElem?_cons_zero, List.getElem?_cons_succ, List.set_cons_zero, List.set_cons_succ, List.any_cons, List.any_nil, List.replicate, List.cons_append, List.nil_append, String.reduceBEq, Bool.or_false, Bool.false_or, Bool.or_true, Bool.true_or, Bool.and_true, Bool.true_and, Bool.and_false, Bool.false_and, Bool.not_true, Bool.not_false, forall_const, true_implies, false_implies, implies_true, reduceCtorEq, and_true, true_and, and_false, false_and, if_true, if_false, ite_true, ite_false, not_true_eq_false, not_false_eq_true, Bool.true_eq_false, Bool.false_eq_true, bne_self_eq_false, Bool.not_eq_true', Bool.not_eq_false', Option.some.injEq, exists_eq_left, exists_eq_left', List.zip_cons_cons, List.zip_nil_left, List.zip_nil_right, keyD, Option.getD_some, Option.getD_none]
        obtain ⟨i0, i1, ys, hys⟩ := places_mem (List.getElem_mem (l := places xs) (n := j.toNat) (by omega))
        generalize (places xs)[j.toNat] = i at i0 i1 hys
        have hil : i.toNat < xs.length := by omega
        have hyi : xs[i.toNat] = .tuple ys := by
          rw [List.getElem?_eq_getElem hil] at hys
          exact Option.some.inj hys
        rw [getW_at i0 i1, hyi]
        have okx : Okv (D - 1) (sl (.tuple ys)) (.tuple ys) := by
          have z := hi.it _ (List.mem_of_getElem? hys)
          exact ⟨z.1, z.2, Nat.le_refl _⟩
        have hA := slA_at hys
        have hsz := hi.sz
        simp -dsimp only [↓getW_0, ↓getW_1, ↓getW_2, ↓wpSs, ↓wpS, ↓wpV, ↓wpE, ↓wpEs, ↓wpAs, ↓wpI, ↓wpP, ↓wpC, ↓rdE, ↓rd2, ↓varOf, ↓varC, ↓varB, ↓rdW, ↓argW, ↓ownL, ↓metO, ↓metR, ↓changes, ↓setTgW, setTgsW, wipeW, startW, ↓binW, ↓addW, ↓mulW, ↓subIW, ↓divW, ↓modW, ↓powW, ↓augW, ↓negW, ↓truthW, ↓eqW, ↓ltW, ↓inW, ↓keyW, ↓isW, isNoneD, ↓cmpW, ↓subW, ↓cutW, ↓revW, isiD, tyD, isTy, ↓bi1W, ↓bi2W, ↓bisW, ↓lenW, ↓plainW, ↓rangeW, ↓zipW, partD, dPart, getDefW, mtTy, ↓putW, sizeLine, Nat.zero_le, Nat.reducePow, Nat.reduceLeDiff, Nat.reduceAdd, Nat.reduceSub, Nat.reduceMul, Int.reducePow, Int.reduceNeg, Int.reduceLE, Int.reduceLT, Int.cast_ofNat_Int, Int.toNat_natCast, Int.reduceToNat, List.map_cons, List.map_nil, List.length_cons, List.length_nil, List.getElem?_cons_zero, List.getElem?_cons_succ, List.set_cons_zero, List.set_cons_succ, List.any_cons, List.any_nil, List.replicate, List.cons_append, List.nil_append, String.reduceBEq, Bool.or_false, Bool.false_or, Bool.or_true, Bool.true_or, Bool.and_true, Bool.true_and, Bool.and_false, Bool.false_and, Bool.not_true, Bool.not_false, forall_const, true_implies, false_implies, implies_true, reduceCtorEq, and_true, true_and, and_false, false_and, if_true, if_false, ite_true, ite_false, not_true_eq_false, not_false_eq_true, Bool.true_eq_false, Bool.false_eq_true, bne_self_eq_false, Bool.not_eq_true', Bool.not_eq_false', Option.some.injEq, exists_eq_left, exists_eq_left', List.zip_cons_cons, List.zip_nil_left, List.zip_nil_right, keyD, Option.getD_some, Option.getD_none]
        refine ih (dep_tup hd _ (List.mem_of_getElem? hys)) okx (by omega) fun w okw => ?_
        have cA : cutD xs none (some i) = xs.take i.toNat := cut_to i0
        have cB : cutD xs (some (i + 1)) none = xs.drop (i.toNat + 1) := by
          rw [cut_from (by omega)]
          congr 1
          omega
        have lt := List.length_take_le i.toNat xs
        have ldr : (xs.drop (i.toNat + 1)).length ≤ xs.length := by rw [List.length_drop]; omega
        simp -dsimp only [↓getW_0, ↓getW_1, ↓getW_2, ↓wpSs, ↓wpS, ↓wpV, ↓wpE, ↓wpEs, ↓wpAs, ↓wpI, ↓wpP, ↓wpC, ↓rdE, ↓rd2, ↓varOf, ↓varC, ↓varB, ↓rdW, ↓argW, ↓ownL, ↓metO, ↓metR, ↓changes, ↓setTgW, setTgsW, wipeW, startW, ↓binW, ↓addW, ↓mulW, ↓subIW, ↓divW, ↓modW, ↓powW, ↓augW, ↓negW, ↓truthW, ↓eqW, ↓ltW, ↓inW, ↓keyW, ↓isW, isNoneD, ↓cmpW, ↓subW, ↓cutW, ↓revW, isiD, tyD, isTy, ↓bi1W, ↓bi2W, ↓bisW, ↓lenW, ↓plainW, ↓rangeW, ↓zipW, partD, dPart, getDefW, mtTy, ↓putW, sizeLine, Nat.zero_le, Nat.reducePow, Nat.reduceLeDiff, Nat.reduceAdd, Nat.reduceSub, Nat.reduceMul, Int.reducePow, Int.reduceNeg, Int.reduceLE, Int.reduceLT, Int.cast_ofNat_Int, Int.toNat_natCast, Int.reduceToNat, List.map_cons, List.map_nil, List.length_cons, List.length_nil, List.getElem?_cons_zero, List.getElem?_cons_succ, List.set_cons_zero, List.set_cons_succ, List.any_cons, List.any_nil, List.replicate, List.cons_append, List.nil_append, String.reduceBEq, Bool.or_false, Bool.false_or, Bool.or_true, Bool.true_or, Bool.and_true, Bool.true_and, Bool.and_false, Bool.false_and, Bool.not_true, Bool.not_false, forall_const, true_implies, false_implies, implies_true, reduceCtorEq, and_true, true_and, and_false, false_and, if_true, if_false, ite_true, ite_false, not_true_eq_false, not_false_eq_true, Bool.true_eq_false, Bool.false_eq_true, bne_self_eq_false, Bool.not_eq_true', Bool.not_eq_false', Option.some.injEq, exists_eq_left, exists_eq_left', List.zip_cons_cons, List.zip_nil_left, List.zip_nil_right, keyD, Option.getD_some, Option.getD_none, List.length_append, cA, cB]
        refine ⟨by omega, by omega, hQ _ ?_⟩
        have k1 := hi.sub (List.take_sublist i.toNat xs)
        have k2 := hi.sub (List.drop_sublist (i.toNat + 1) xs)
        have z : OkL (D + 1) (slA (xs.take i.toNat) + (3 * sl (.tuple ys) + 200 + 2) + slA (xs.drop (i.toNat + 1))) (xs.take i.toNat ++ [w] ++ xs.drop (i.toNat + 1)) := by
          refine ((OkL.app (M := slA (xs.take i.toNat)) ⟨fun x hx => ?_, Nat.le_refl _⟩ ((OkL.one okw).mono (by omega) (Nat.le_refl _))).app ⟨fun x hx => ?_, Nat.le_refl _⟩)
          · exact ⟨(k1.it x hx).1, Nat.le_trans (k1.it x hx).2 (by omega)⟩
          · exact ⟨(k2.it x hx).1, Nat.le_trans (k2.it x hx).2 (by omega)⟩
        exact z.tup.mono (Nat.le_refl _) (by omega)
      · have := tail (some (.d (.list ((places xs).map .int))))
        simp -dsimp only [Lib.b__law_bent, ↓getW_0, ↓getW_1, ↓getW_2, ↓wpSs, ↓wpS, ↓wpV, ↓wpE, ↓wpEs, ↓wpAs, ↓wpI, ↓wpP, ↓wpC, ↓rdE, ↓rd2, ↓varOf, ↓varC, ↓varB, ↓rdW, ↓argW, ↓ownL, ↓metO, ↓metR, ↓changes, ↓setTgW, setTgsW, wipeW, startW, ↓binW, ↓addW, ↓mulW, ↓subIW, ↓divW, ↓modW, ↓powW, ↓augW, ↓negW, ↓truthW, ↓eqW, ↓ltW, ↓inW, ↓keyW, ↓isW, isNoneD, ↓cmpW, ↓subW, ↓cutW, ↓revW, isiD, tyD, isTy, ↓bi1W, ↓bi2W, ↓bisW, ↓lenW, ↓plainW, ↓rangeW, ↓zipW, partD, dPart, getDefW, mtTy, ↓putW, sizeLine, Nat.zero_le, Nat.reducePow, Nat.reduceLeDiff, Nat.reduceAdd, Nat.reduceSub, Nat.reduceMul, Int.reducePow, Int.reduceNeg, Int.reduceLE, Int.reduceLT, Int.cast_ofNat_Int, Int.toNat_natCast, Int.reduceToNat, List.map_cons, List.map_nil, List.length_cons, List.length_nil, List.getElem?_cons_zero, List.getElem?_cons_succ, List.set_cons_zero, List.set_cons_succ, List.any_cons, List.any_nil, List.replicate, List.cons_append, List.nil_append, String.reduceBEq, Bool.or_false, Bool.false_or, Bool.or_true, Bool.true_or, Bool.and_true, Bool.true_and, Bool.and_false, Bool.false_and, Bool.not_true, Bool.not_false, forall_const, true_implies, false_implies, implies_true, reduceCtorEq, and_true, true_and, and_false, false_and, if_true, if_false, ite_true, ite_false, not_true_eq_false, not_false_eq_true, Bool.true_eq_false, Bool.false_eq_true, bne_self_eq_false, Bool.not_eq_true', Bool.not_eq_false', Option.some.injEq, exists_eq_left, exists_eq_left', List.zip_cons_cons, List.zip_nil_left, List.zip_nil_right, keyD, Option.getD_some, Option.getD_none, ↓wp_draw] at this
        exact this
/-! ### what may be compared -/
theorem eqOk_str {z : Str} : eqOk (.str z) = PyData.strOk z := by simp [eqOk, SeqAt.shaped, PyData.canLay0, PyData.depth]
theorem sk_in : PyData.strOk "in" = true := by decide +kernel
theorem sk_const : PyData.strOk "const" = true := by decide +kernel
theorem sk_neg : PyData.strOk "neg" = true := by decide +kernel
theorem sk_copy : PyData.strOk "copy" = true := by decide +kernel
theorem sk_add : PyData.strOk "add" = true := by decide +kernel
theorem sk_sub : PyData.strOk "sub" = true := by decide +kernel
theorem sk_mul : PyData.strOk "mul" = true := by decide +kernel
theorem sk_least : PyData.strOk "least" = true := by decide +kernel
theorem sk_most : PyData.strOk "most" = true := by decide +kernel
theorem eqOk_int {i : Int} : eqOk (.int i) = true := rfl
theorem lay_nil : PyData.canLayAll0 [] = true := rfl
theorem lay_cons {x : PyData} {r : List PyData} : PyData.canLayAll0 (x :: r) = (PyData.canLay0 x && PyData.canLayAll0 r) := rfl
theorem lay_str {z : Str} : PyData.canLay0 (.str z) = PyData.strOk z := rfl
theorem lay_int {z : Int} : PyData.canLay0 (.int z) = true := rfl
/-! ### drawn sheets -/
/-- an operation that may stand at an index -/
inductive OpAt (i : Nat) : PyData → Prop
  | inp {a : Int} : 0 ≤ a → a < 8 → OpAt i (.tuple [.str "in", .int a])
  | const {a : Int} : 0 ≤ a → a < 65521 → OpAt i (.tuple [.str "const", .int a])
  | un {z : Str} {a : Int} : z = "neg" ∨ z = "copy" → 0 ≤ a → a < i → OpAt i (.tuple [.str z, .int a])
  | bin {z : Str} {a b : Int} : z = "add" ∨ z = "sub" ∨ z = "mul" ∨ z = "least" ∨ z = "most" → 0 ≤ a → a < i → 0 ≤ b → b < i → OpAt i (.tuple [.str z, .int a, .int b])
theorem law_operation_wp [Has T drawP "_law_one" Lib.f__law_one] [Has T drawP "_law_operation" Lib.f__law_operation] {i : Nat} (hi : i < 1000) (h : ∀ v, OpAt i v → Q v) : callW (wpF T drawP (k + 3)) "_law_operation" [.box, .d (.int i)] Q X := by
  rw [wpF_at Lib.f__law_operation]
  simp -dsimp only [Lib.f__law_operation, Lib.b__law_operation, ↓getW_0, ↓getW_1, ↓getW_2, ↓wpSs, ↓wpS, ↓wpV, ↓wpE, ↓wpEs, ↓wpAs, ↓wpI, ↓wpP, ↓wpC, ↓rdE, ↓rd2, ↓varOf, ↓varC, ↓varB, ↓rdW, ↓argW, ↓ownL, ↓metO, ↓metR, ↓changes, ↓setTgW, setTgsW, wipeW, startW, ↓binW, ↓addW, ↓mulW, ↓subIW, ↓divW, ↓modW, ↓powW, ↓augW, ↓negW, ↓truthW, ↓eqW, ↓ltW, ↓inW, ↓keyW, ↓isW, isNoneD, ↓cmpW, ↓subW, ↓cutW, ↓revW, isiD, tyD, isTy, ↓bi1W, ↓bi2W, ↓bisW, ↓lenW, ↓plainW, ↓rangeW, ↓zipW, partD, dPart, getDefW, mtTy, ↓putW, sizeLine, Nat.zero_le, Nat.reducePow, Nat.reduceLeDiff, Nat.reduceAdd, Nat.reduceSub, Nat.reduceMul, Int.reducePow, Int.reduceNeg, Int.reduceLE, Int.reduceLT, Int.cast_ofNat_Int, Int.toNat_natCast, Int.reduceToNat, List.map_cons, List.map_nil, List.length_cons, List.length_nil, List.getElem?_cons_zero, List.getElem?_cons_succ, List.set_cons_zero, List.set_cons_succ, List.any_cons, List.any_nil, List.replicate, List.cons_append, List.nil_append, String.reduceBEq, Bool.or_false, Bool.false_or, Bool.or_true, Bool.true_or, Bool.and_true, Bool.true_and, Bool.and_false, Bool.false_and, Bool.not_true, Bool.not_false, forall_const, true_implies, false_implies, implies_true, reduceCtorEq, and_true, true_and, and_false, false_and, if_true, if_false, ite_true, ite_false, not_true_eq_false, not_false_eq_true, Bool.true_eq_false, Bool.false_eq_true, bne_self_eq_false, Bool.not_eq_true', Bool.not_eq_false', Option.some.injEq, exists_eq_left, exists_eq_left', List.zip_cons_cons, List.zip_nil_left, List.zip_nil_right, keyD, Option.getD_some, Option.getD_none]
  refine law_one_wp (by simp) (by simp) fun v hv => ?_
  simp -dsimp only [List.mem_cons, List.not_mem_nil, or_false] at hv
  have z0 : decide ((i : Int) = 0) = false → 0 < (i : Int) ∧ (i : Int) < 2 ^ 100 := fun h => by
    have := of_decide_eq_false h
    omega
  rcases hv with rfl | rfl | rfl | rfl | rfl | rfl | rfl | rfl | rfl <;> simp -dsimp +decide only [↓getW_0, ↓getW_1, ↓getW_2, ↓wpSs, ↓wpS, ↓wpV, ↓wpE, ↓wpEs, ↓wpAs, ↓wpI, ↓wpP, ↓wpC, ↓rdE, ↓rd2, ↓varOf, ↓varC, ↓varB, ↓rdW, ↓argW, ↓ownL, ↓metO, ↓metR, ↓changes, ↓setTgW, setTgsW, wipeW, startW, ↓binW, ↓addW, ↓mulW, ↓subIW, ↓divW, ↓modW, ↓powW, ↓augW, ↓negW, ↓truthW, ↓eqW, ↓ltW, ↓inW, ↓keyW, ↓isW, isNoneD, ↓cmpW, ↓subW, ↓cutW, ↓revW, isiD, tyD, isTy, ↓bi1W, ↓bi2W, ↓bisW, ↓lenW, ↓plainW, ↓rangeW, ↓zipW, partD, dPart, getDefW, mtTy, ↓putW, sizeLine, Nat.zero_le, Nat.reducePow, Nat.reduceLeDiff, Nat.reduceAdd, Nat.reduceSub, Nat.reduceMul, Int.reducePow, Int.reduceNeg, Int.reduceLE, Int.reduceLT, Int.cast_ofNat_Int, Int.toNat_natCast, Int.reduceToNat, List.map_cons, List.map_nil, List.length_cons, List.length_nil, List.getElem?_cons_zero, List.getElem?_cons_succ, List.set_cons_zero, List.set_cons_succ, List.any_cons, List.any_nil, List.replicate, List.cons_append, List.nil_append, String.reduceBEq, Bool.or_false, Bool.false_or, Bool.or_true, Bool.true_or, Bool.and_true, Bool.true_and, Bool.and_false, Bool.false_and, Bool.not_true, Bool.not_false, forall_const, true_implies, false_implies, implies_true, reduceCtorEq, and_true, true_and, and_false, false_and, if_true, if_false, ite_true, ite_false, not_true_eq_false, not_false_eq_true, Bool.true_eq_false, Bool.false_eq_true, bne_self_eq_false, Bool.not_eq_true', Bool.not_eq_false', Option.some.injEq, exists_eq_left, exists_eq_left', List.zip_cons_cons, List.zip_nil_left, List.zip_nil_right, keyD, Option.getD_some, Option.getD_none, ↓wp_draw, seqInW, eqOk_str, lay_nil, lay_cons, lay_str, sk_in, sk_const, sk_neg, sk_copy, sk_add, sk_sub, sk_mul, sk_least, sk_most]
  · exact fun d d0 d1 => h _ (.inp d0 d1)
  · refine fun d d0 d1 => law_one_wp (by simp) (by simp) fun v hv => ?_
    simp -dsimp only [List.mem_cons, List.not_mem_nil, or_false] at hv
    rcases hv with rfl | rfl | rfl | rfl <;> simp -dsimp only [↓getW_0, ↓getW_1, ↓getW_2, ↓wpSs, ↓wpS, ↓wpV, ↓wpE, ↓wpEs, ↓wpAs, ↓wpI, ↓wpP, ↓wpC, ↓rdE, ↓rd2, ↓varOf, ↓varC, ↓varB, ↓rdW, ↓argW, ↓ownL, ↓metO, ↓metR, ↓changes, ↓setTgW, setTgsW, wipeW, startW, ↓binW, ↓addW, ↓mulW, ↓subIW, ↓divW, ↓modW, ↓powW, ↓augW, ↓negW, ↓truthW, ↓eqW, ↓ltW, ↓inW, ↓keyW, ↓isW, isNoneD, ↓cmpW, ↓subW, ↓cutW, ↓revW, isiD, tyD, isTy, ↓bi1W, ↓bi2W, ↓bisW, ↓lenW, ↓plainW, ↓rangeW, ↓zipW, partD, dPart, getDefW, mtTy, ↓putW, sizeLine, Nat.zero_le, Nat.reducePow, Nat.reduceLeDiff, Nat.reduceAdd, Nat.reduceSub, Nat.reduceMul, Int.reducePow, Int.reduceNeg, Int.reduceLE, Int.reduceLT, Int.cast_ofNat_Int, Int.toNat_natCast, Int.reduceToNat, List.map_cons, List.map_nil, List.length_cons, List.length_nil, List.getElem?_cons_zero, List.getElem?_cons_succ, List.set_cons_zero, List.set_cons_succ, List.any_cons, List.any_nil, List.replicate, List.cons_append, List.nil_append, String.reduceBEq, Bool.or_false, Bool.false_or, Bool.or_true, Bool.true_or, Bool.and_true, Bool.true_and, Bool.and_false, Bool.false_and, Bool.not_true, Bool.not_false, forall_const, true_implies, false_implies, implies_true, reduceCtorEq, and_true, true_and, and_false, false_and, if_true, if_false, ite_true, ite_false, not_true_eq_false, not_false_eq_true, Bool.true_eq_false, Bool.false_eq_true, bne_self_eq_false, Bool.not_eq_true', Bool.not_eq_false', Option.some.injEq, exists_eq_left, exists_eq_left', List.zip_cons_cons, List.zip_nil_left, List.zip_nil_right, keyD, Option.getD_some, Option.getD_none] <;> exact h _ (.const (by omega) (by omega))
  all_goals refine ⟨fun _ d d0 d1 => h _ (.inp d0 d1), fun hz => ⟨z0 hz, fun d d0 d1 => ?_⟩⟩
  · exact h _ (.un (.inl rfl) d0 d1)
  · exact h _ (.un (.inr rfl) d0 d1)
  all_goals refine ⟨z0 hz, fun e e0 e1 => h _ (.bin (by simp) d0 d1 e0 e1)⟩
/-- the operations of a sheet from an index on -/
def OpsAt : Nat → List PyData → Prop
  | _, [] => True
  | i, v :: r => OpAt i v ∧ OpsAt (i + 1) r
theorem OpsAt.app : ∀ {i : Nat} {xs : List PyData} {v : PyData}, OpsAt i xs → OpAt (i + xs.length) v → OpsAt i (xs ++ [v])
  | i, [], v, _, h => ⟨h, trivial⟩
  | i, x :: r, v, h, q => ⟨h.1, OpsAt.app h.2 (by rw [show i + 1 + r.length = i + (x :: r).length by simp; omega]; exact q)⟩
theorem law_sheet_wp [Has T drawP "_law_one" Lib.f__law_one] [Has T drawP "_law_operation" Lib.f__law_operation] [Has T drawP "_law_sheet" Lib.f__law_sheet] {m : Int} (hm : 1 ≤ m) (hm2 : m ≤ 24) (h : ∀ xs, OpsAt 0 xs → 1 ≤ xs.length → (xs.length : Int) ≤ m → Q (.tuple xs)) : callW (wpF T drawP (k + 4)) "_law_sheet" [.box, .d (.int m)] Q X := by
  rw [wpF_at Lib.f__law_sheet]
  simp -dsimp only [Lib.f__law_sheet, Lib.b__law_sheet, ↓getW_0, ↓getW_1, ↓getW_2, ↓wpSs, ↓wpS, ↓wpV, ↓wpE, ↓wpEs, ↓wpAs, ↓wpI, ↓wpP, ↓wpC, ↓rdE, ↓rd2, ↓varOf, ↓varC, ↓varB, ↓rdW, ↓argW, ↓ownL, ↓metO, ↓metR, ↓changes, ↓setTgW, setTgsW, wipeW, startW, ↓binW, ↓addW, ↓mulW, ↓subIW, ↓divW, ↓modW, ↓powW, ↓augW, ↓negW, ↓truthW, ↓eqW, ↓ltW, ↓inW, ↓keyW, ↓isW, isNoneD, ↓cmpW, ↓subW, ↓cutW, ↓revW, isiD, tyD, isTy, ↓bi1W, ↓bi2W, ↓bisW, ↓lenW, ↓plainW, ↓rangeW, ↓zipW, partD, dPart, getDefW, mtTy, ↓putW, sizeLine, Nat.zero_le, Nat.reducePow, Nat.reduceLeDiff, Nat.reduceAdd, Nat.reduceSub, Nat.reduceMul, Int.reducePow, Int.reduceNeg, Int.reduceLE, Int.reduceLT, Int.cast_ofNat_Int, Int.toNat_natCast, Int.reduceToNat, List.map_cons, List.map_nil, List.length_cons, List.length_nil, List.getElem?_cons_zero, List.getElem?_cons_succ, List.set_cons_zero, List.set_cons_succ, List.any_cons, List.any_nil, List.replicate, List.cons_append, List.nil_append, String.reduceBEq, Bool.or_false, Bool.false_or, Bool.or_true, Bool.true_or, Bool.and_true, Bool.true_and, Bool.and_false, Bool.false_and, Bool.not_true, Bool.not_false, forall_const, true_implies, false_implies, implies_true, reduceCtorEq, and_true, true_and, and_false, false_and, if_true, if_false, ite_true, ite_false, not_true_eq_false, not_false_eq_true, Bool.true_eq_false, Bool.false_eq_true, bne_self_eq_false, Bool.not_eq_true', Bool.not_eq_false', Option.some.injEq, exists_eq_left, exists_eq_left', List.zip_cons_cons, List.zip_nil_left, List.zip_nil_right, keyD, Option.getD_some, Option.getD_none, ↓wp_draw]
  refine ⟨by omega, fun d d0 d1 => ⟨by omega, by omega, ?_⟩⟩
  have e : (1 + d).toNat = d.toNat + 1 := by omega
  rw [e]
  refine forW_range (I := fun j ρ => ∃ xs a, ρ = [some .box, some (.d (.int m)), some (.o (.list xs)), a] ∧ OpsAt 0 xs ∧ xs.length = j) ?_ ?_ _ ⟨[], _, rfl, trivial, rfl⟩
  · rintro ρ ⟨xs, a, rfl, hx, hl⟩
    simp -dsimp only [↓getW_0, ↓getW_1, ↓getW_2, ↓wpSs, ↓wpS, ↓wpV, ↓wpE, ↓wpEs, ↓wpAs, ↓wpI, ↓wpP, ↓wpC, ↓rdE, ↓rd2, ↓varOf, ↓varC, ↓varB, ↓rdW, ↓argW, ↓ownL, ↓metO, ↓metR, ↓changes, ↓setTgW, setTgsW, wipeW, startW, ↓binW, ↓addW, ↓mulW, ↓subIW, ↓divW, ↓modW, ↓powW, ↓augW, ↓negW, ↓truthW, ↓eqW, ↓ltW, ↓inW, ↓keyW, ↓isW, isNoneD, ↓cmpW, ↓subW, ↓cutW, ↓revW, isiD, tyD, isTy, ↓bi1W, ↓bi2W, ↓bisW, ↓lenW, ↓plainW, ↓rangeW, ↓zipW, partD, dPart, getDefW, mtTy, ↓putW, sizeLine, Nat.zero_le, Nat.reducePow, Nat.reduceLeDiff, Nat.reduceAdd, Nat.reduceSub, Nat.reduceMul, Int.reducePow, Int.reduceNeg, Int.reduceLE, Int.reduceLT, Int.cast_ofNat_Int, Int.toNat_natCast, Int.reduceToNat, List.map_cons, List.map_nil, List.length_cons, List.length_nil, List.getElem?_cons_zero, List.getElem?_cons_succ, List.set_cons_zero, List.set_cons_succ, List.any_cons, List.any_nil, List.replicate, List.cons_append, List.nil_append, String.reduceBEq, Bool.or_false, Bool.false_or, Bool.or_true, Bool.true_or, Bool.and_true, Bool.true_and, Bool.and_false, Bool.false_and, Bool.not_true, Bool.not_false, forall_const, true_implies, false_implies, implies_true, reduceCtorEq, and_true, true_and, and_false, false_and, if_true, if_false, ite_true, ite_false, not_true_eq_false, not_false_eq_true, Bool.true_eq_false, Bool.false_eq_true, bne_self_eq_false, Bool.not_eq_true', Bool.not_eq_false', Option.some.injEq, exists_eq_left, exists_eq_left', List.zip_cons_cons, List.zip_nil_left, List.zip_nil_right, keyD, Option.getD_some, Option.getD_none]
    exact ⟨by omega, h xs hx (by omega) (by omega)⟩
  · rintro j ρ kn hj ⟨xs, a, rfl, hx, hl⟩ hk
    simp -dsimp only [↓getW_0, ↓getW_1, ↓getW_2, ↓wpSs, ↓wpS, ↓wpV, ↓wpE, ↓wpEs, ↓wpAs, ↓wpI, ↓wpP, ↓wpC, ↓rdE, ↓rd2, ↓varOf, ↓varC, ↓varB, ↓rdW, ↓argW, ↓ownL, ↓metO, ↓metR, ↓changes, ↓setTgW, setTgsW, wipeW, startW, ↓binW, ↓addW, ↓mulW, ↓subIW, ↓divW, ↓modW, ↓powW, ↓augW, ↓negW, ↓truthW, ↓eqW, ↓ltW, ↓inW, ↓keyW, ↓isW, isNoneD, ↓cmpW, ↓subW, ↓cutW, ↓revW, isiD, tyD, isTy, ↓bi1W, ↓bi2W, ↓bisW, ↓lenW, ↓plainW, ↓rangeW, ↓zipW, partD, dPart, getDefW, mtTy, ↓putW, sizeLine, Nat.zero_le, Nat.reducePow, Nat.reduceLeDiff, Nat.reduceAdd, Nat.reduceSub, Nat.reduceMul, Int.reducePow, Int.reduceNeg, Int.reduceLE, Int.reduceLT, Int.cast_ofNat_Int, Int.toNat_natCast, Int.reduceToNat, List.map_cons, List.map_nil, List.length_cons, List.length_nil, List.getElem?_cons_zero, List.getElem?_cons_succ, List.set_cons_zero, List.set_cons_succ, List.any_cons, List.any_nil, List.replicate, List.cons_append, List.nil_append, String.reduceBEq, Bool.or_false, Bool.false_or, Bool.or_true, Bool.true_or, Bool.and_true, Bool.true_and, Bool.and_false, Bool.false_and, Bool.not_true, Bool.not_false, forall_const, true_implies, false_implies, implies_true, reduceCtorEq, and_true, true_and, and_false, false_and, if_true, if_false, ite_true, ite_false, not_true_eq_false, not_false_eq_true, Bool.true_eq_false, Bool.false_eq_true, bne_self_eq_false, Bool.not_eq_true', Bool.not_eq_false', Option.some.injEq, exists_eq_left, exists_eq_left', List.zip_cons_cons, List.zip_nil_left, List.zip_nil_right, keyD, Option.getD_some, Option.getD_none]
    refine law_operation_wp (by omega) fun v hv => ?_
    simp -dsimp only [↓getW_0, ↓getW_1, ↓getW_2, ↓wpSs, ↓wpS, ↓wpV, ↓wpE, ↓wpEs, ↓wpAs, ↓wpI, ↓wpP, ↓wpC, ↓rdE, ↓rd2, ↓varOf, ↓varC, ↓varB, ↓rdW, ↓argW, ↓ownL, ↓metO, ↓metR, ↓changes, ↓setTgW, setTgsW, wipeW, startW, ↓binW, ↓addW, ↓mulW, ↓subIW, ↓divW, ↓modW, ↓powW, ↓augW, ↓negW, ↓truthW, ↓eqW, ↓ltW, ↓inW, ↓keyW, ↓isW, isNoneD, ↓cmpW, ↓subW, ↓cutW, ↓revW, isiD, tyD, isTy, ↓bi1W, ↓bi2W, ↓bisW, ↓lenW, ↓plainW, ↓rangeW, ↓zipW, partD, dPart, getDefW, mtTy, ↓putW, sizeLine, Nat.zero_le, Nat.reducePow, Nat.reduceLeDiff, Nat.reduceAdd, Nat.reduceSub, Nat.reduceMul, Int.reducePow, Int.reduceNeg, Int.reduceLE, Int.reduceLT, Int.cast_ofNat_Int, Int.toNat_natCast, Int.reduceToNat, List.map_cons, List.map_nil, List.length_cons, List.length_nil, List.getElem?_cons_zero, List.getElem?_cons_succ, List.set_cons_zero, List.set_cons_succ, List.any_cons, List.any_nil, List.replicate, List.cons_append, List.nil_append, String.reduceBEq, Bool.or_false, Bool.false_or, Bool.or_true, Bool.true_or, Bool.and_true, Bool.true_and, Bool.and_false, Bool.false_and, Bool.not_true, Bool.not_false, forall_const, true_implies, false_implies, implies_true, reduceCtorEq, and_true, true_and, and_false, false_and, if_true, if_false, ite_true, ite_false, not_true_eq_false, not_false_eq_true, Bool.true_eq_false, Bool.false_eq_true, bne_self_eq_false, Bool.not_eq_true', Bool.not_eq_false', Option.some.injEq, exists_eq_left, exists_eq_left', List.zip_cons_cons, List.zip_nil_left, List.zip_nil_right, keyD, Option.getD_some, Option.getD_none]
    refine ⟨by omega, hk _ ⟨xs ++ [v], _, rfl, hx.app (by rw [Nat.zero_add, hl]; exact hv), by simp [hl]⟩⟩
end
end Tz

end
section
/-! Tz.Pg4: sizes of what is shown. -/
namespace Tz
open PySem
theorem ok_int {i : Int} {k : Nat} (hk : 0 < k) (hk2 : k ≤ 480) (h : i.natAbs < 10 ^ k) : Okv 0 (k + 1) (.int i) := by
  refine ⟨?_, Nat.le_refl _, ?_⟩
  · show decide (i.natAbs.log2 < 1920) = true
    refine decide_eq_true ?_
    by_cases h0 : i.natAbs = 0
    · rw [h0]; decide
    · rw [Nat.log2_lt h0]
      refine Nat.lt_of_lt_of_le h ?_
      calc 10 ^ k ≤ 16 ^ k := Nat.pow_le_pow_left (by decide) k
        _ = (2 ^ 4) ^ k := rfl
        _ = 2 ^ (4 * k) := (Nat.pow_mul ..).symm
        _ ≤ 2 ^ 1920 := Nat.pow_le_pow_right (by decide) (by omega)
  · have e := int_text_length_le10 hk h
    show (Str.ofString (toString i)).length ≤ k + 1
    rw [ofString_length]
    exact e
theorem ok_n {i : Int} (h0 : 0 ≤ i) (h : i < 100000) : Okv 0 6 (.int i) := ok_int (k := 5) (by decide) (by decide) (by omega)
theorem ok_lit {D M : Nat} {v : PyData} (h : (v.showable && (decide (v.depth ≤ D) && decide (sl v ≤ M))) = true) : Okv D M v := by
  simp only [Bool.and_eq_true, decide_eq_true_eq] at h
  exact ⟨h.1, h.2.1, h.2.2⟩
theorem okL_all {D M : Nat} : ∀ {xs : List PyData}, (∀ x ∈ xs, Okv D M x) → OkL D (xs.length * (M + 2)) xs
  | [], _ => OkL.nil
  | x :: r, h => by
    have := OkL.cons (h x (List.mem_cons_self ..)) (okL_all (xs := r) fun y hy => h y (List.mem_cons_of_mem _ hy))
    refine this.mono (Nat.le_refl _) ?_
    rw [List.length_cons, Nat.succ_mul]
    omega
theorem ok_kind {z : Str} (h : z = "in" ∨ z = "const" ∨ z = "neg" ∨ z = "copy" ∨ z = "add" ∨ z = "sub" ∨ z = "mul" ∨ z = "least" ∨ z = "most") : Okv 0 7 (.str z) := by
  rcases h with rfl | rfl | rfl | rfl | rfl | rfl | rfl | rfl | rfl <;> exact ok_lit (by decide +kernel)
theorem OpAt.ok {i : Nat} {v : PyData} (h : OpAt i v) (hi : i ≤ 1000) : Okv 1 28 v := by
  have two : ∀ {z : Str} {a : Int}, Okv 0 7 (.str z) → 0 ≤ a → a < 100000 → Okv 1 28 (.tuple [.str z, .int a]) := fun hz a0 a1 => (OkL.cons hz (OkL.cons (ok_n a0 a1) (OkL.nil (M := 0)))).tup.mono (by omega) (by omega)
  cases h with
  | inp a b => exact two (ok_kind (by simp)) a (by omega)
  | const a b => exact two (ok_kind (by simp)) a (by omega)
  | un hz a b => exact two (ok_kind (by rcases hz with rfl | rfl <;> simp)) a (by omega)
  | bin hz a b c d => exact (OkL.cons (ok_kind (by rcases hz with rfl | rfl | rfl | rfl | rfl <;> simp)) (OkL.cons (ok_n a (by omega)) (OkL.cons (ok_n c (by omega)) (OkL.nil (M := 0))))).tup.mono (by omega) (by omega)
theorem OpAt.tup {i : Nat} {v : PyData} (h : OpAt i v) : ∃ ys, v = .tuple ys ∧ ys.length ≤ 3 := by
  cases h <;> exact ⟨_, rfl, by simp⟩
theorem OpsAt.mem : ∀ {i : Nat} {xs : List PyData} {v : PyData}, OpsAt i xs → v ∈ xs → ∃ j, OpAt j v ∧ i ≤ j ∧ j < i + xs.length
  | i, [], v, _, h => by cases h
  | i, x :: r, v, h, q => by
    rcases List.mem_cons.mp q with rfl | q
    · exact ⟨i, h.1, Nat.le_refl _, by simp⟩
    · obtain ⟨j, h1, h2, h3⟩ := OpsAt.mem h.2 q
      exact ⟨j, h1, by omega, by simp; omega⟩
theorem OpsAt.ok {i : Nat} {xs : List PyData} (h : OpsAt i xs) (hi : i + xs.length ≤ 1000) : OkL 1 (xs.length * 30) xs := okL_all (M := 28) fun v hv => by
  obtain ⟨j, h1, h2, h3⟩ := h.mem hv
  exact h1.ok (by omega)
end Tz

end
section
/-! Tz.Pg5: operands and reads. -/
namespace Tz
open PySem
/-- the operands of an operation -/
def opnds : PyData → List PyData
  | .tuple (.str z :: r) => if isNum z then [] else r
  | _ => []
def rdOne (i : Nat) : Nat → List PyData → List PyData
  | _, [] => []
  | j, s :: r => .tuple [.int i, .int j, s] :: rdOne i (j + 1) r
def reads : Nat → List PyData → List PyData
  | _, [] => []
  | i, v :: r => rdOne i 0 (opnds v) ++ reads (i + 1) r
theorem OpAt.opnds {i : Nat} {v : PyData} (h : OpAt i v) : ∃ ns : List Int, opnds v = ns.map .int ∧ ns.length ≤ 2 ∧ ∀ n ∈ ns, 0 ≤ n ∧ n < i := by
  cases h with
  | inp a b => exact ⟨[], by simp +decide [Tz.opnds, isNum], by simp, by simp⟩
  | const a b => exact ⟨[], by simp +decide [Tz.opnds, isNum], by simp, by simp⟩
  | @un z a hz h1 h2 => refine ⟨[a], ?_, by simp, by simp; exact ⟨h1, h2⟩⟩; rcases hz with rfl | rfl <;> simp +decide [Tz.opnds, isNum]
  | @bin z a b hz h1 h2 h3 h4 => refine ⟨[a, b], ?_, by simp, by simp; exact ⟨⟨h1, h2⟩, h3, h4⟩⟩; rcases hz with rfl | rfl | rfl | rfl | rfl <;> simp +decide [Tz.opnds, isNum]
section
variable {T : Prog} {pr : Prims} {k : Nat} {Q : PyData → Prop} {X : Wx → Prop}
theorem operands_of_wp [hO : HasC T "OPERANDS" operandsD] [Has T pr "operands_of" Lib.f_operands_of] {i : Nat} {v : PyData} (h : OpAt i v) : callW (wpF T pr (k + 1)) "operands_of" [.d v] Q X ↔ Q (.tuple (opnds v)) := by
  rw [wpF_at Lib.f_operands_of]
  cases h with
  | inp a b => simp -dsimp +decide only [Lib.f_operands_of, Lib.b_operands_of, ↓getW_0, ↓getW_1, ↓getW_2, ↓wpSs, ↓wpS, ↓wpV, ↓wpE, ↓wpEs, ↓wpAs, ↓wpI, ↓wpP, ↓wpC, ↓rdE, ↓rd2, ↓varOf, ↓varC, ↓varB, ↓rdW, ↓argW, ↓ownL, ↓metO, ↓metR, ↓changes, ↓setTgW, setTgsW, wipeW, startW, ↓binW, ↓addW, ↓mulW, ↓subIW, ↓divW, ↓modW, ↓powW, ↓augW, ↓negW, ↓truthW, ↓eqW, ↓ltW, ↓inW, ↓keyW, ↓isW, isNoneD, ↓cmpW, ↓subW, ↓cutW, ↓revW, isiD, tyD, isTy, ↓bi1W, ↓bi2W, ↓bisW, ↓lenW, ↓plainW, ↓rangeW, ↓zipW, partD, dPart, getDefW, mtTy, ↓putW, sizeLine, Nat.zero_le, Nat.reducePow, Nat.reduceLeDiff, Nat.reduceAdd, Nat.reduceSub, Nat.reduceMul, Int.reducePow, Int.reduceNeg, Int.reduceLE, Int.reduceLT, Int.cast_ofNat_Int, Int.toNat_natCast, Int.reduceToNat, List.map_cons, List.map_nil, List.length_cons, List.length_nil, List.getElem?_cons_zero, List.getElem?_cons_succ, List.set_cons_zero, List.set_cons_succ, List.any_cons, List.any_nil, List.replicate, List.cons_append, List.nil_append, String.reduceBEq, Bool.or_false, Bool.false_or, Bool.or_true, Bool.true_or, Bool.and_true, Bool.true_and, Bool.and_false, Bool.false_and, Bool.not_true, Bool.not_false, forall_const, true_implies, false_implies, implies_true, reduceCtorEq, and_true, true_and, and_false, false_and, if_true, if_false, ite_true, ite_false, not_true_eq_false, not_false_eq_true, Bool.true_eq_false, Bool.false_eq_true, bne_self_eq_false, Bool.not_eq_true', Bool.not_eq_false', Option.some.injEq, exists_eq_left, exists_eq_left', List.zip_cons_cons, List.zip_nil_left, List.zip_nil_right, keyD, Option.getD_some, Option.getD_none, hO.at_, operandsD, lookD_cons, lookD_nil, keyOf_str, opnds, isNum, cut_tail, Option.isSome_none, Option.isSome_some]
  | const a b => simp -dsimp +decide only [Lib.f_operands_of, Lib.b_operands_of, ↓getW_0, ↓getW_1, ↓getW_2, ↓wpSs, ↓wpS, ↓wpV, ↓wpE, ↓wpEs, ↓wpAs, ↓wpI, ↓wpP, ↓wpC, ↓rdE, ↓rd2, ↓varOf, ↓varC, ↓varB, ↓rdW, ↓argW, ↓ownL, ↓metO, ↓metR, ↓changes, ↓setTgW, setTgsW, wipeW, startW, ↓binW, ↓addW, ↓mulW, ↓subIW, ↓divW, ↓modW, ↓powW, ↓augW, ↓negW, ↓truthW, ↓eqW, ↓ltW, ↓inW, ↓keyW, ↓isW, isNoneD, ↓cmpW, ↓subW, ↓cutW, ↓revW, isiD, tyD, isTy, ↓bi1W, ↓bi2W, ↓bisW, ↓lenW, ↓plainW, ↓rangeW, ↓zipW, partD, dPart, getDefW, mtTy, ↓putW, sizeLine, Nat.zero_le, Nat.reducePow, Nat.reduceLeDiff, Nat.reduceAdd, Nat.reduceSub, Nat.reduceMul, Int.reducePow, Int.reduceNeg, Int.reduceLE, Int.reduceLT, Int.cast_ofNat_Int, Int.toNat_natCast, Int.reduceToNat, List.map_cons, List.map_nil, List.length_cons, List.length_nil, List.getElem?_cons_zero, List.getElem?_cons_succ, List.set_cons_zero, List.set_cons_succ, List.any_cons, List.any_nil, List.replicate, List.cons_append, List.nil_append, String.reduceBEq, Bool.or_false, Bool.false_or, Bool.or_true, Bool.true_or, Bool.and_true, Bool.true_and, Bool.and_false, Bool.false_and, Bool.not_true, Bool.not_false, forall_const, true_implies, false_implies, implies_true, reduceCtorEq, and_true, true_and, and_false, false_and, if_true, if_false, ite_true, ite_false, not_true_eq_false, not_false_eq_true, Bool.true_eq_false, Bool.false_eq_true, bne_self_eq_false, Bool.not_eq_true', Bool.not_eq_false', Option.some.injEq, exists_eq_left, exists_eq_left', List.zip_cons_cons, List.zip_nil_left, List.zip_nil_right, keyD, Option.getD_some, Option.getD_none, hO.at_, operandsD, lookD_cons, lookD_nil, keyOf_str, opnds, isNum, cut_tail, Option.isSome_none, Option.isSome_some]
  | un hz h1 h2 => rcases hz with rfl | rfl <;> simp -dsimp +decide only [Lib.f_operands_of, Lib.b_operands_of, ↓getW_0, ↓getW_1, ↓getW_2, ↓wpSs, ↓wpS, ↓wpV, ↓wpE, ↓wpEs, ↓wpAs, ↓wpI, ↓wpP, ↓wpC, ↓rdE, ↓rd2, ↓varOf, ↓varC, ↓varB, ↓rdW, ↓argW, ↓ownL, ↓metO, ↓metR, ↓changes, ↓setTgW, setTgsW, wipeW, startW, ↓binW, ↓addW, ↓mulW, ↓subIW, ↓divW, ↓modW, ↓powW, ↓augW, ↓negW, ↓truthW, ↓eqW, ↓ltW, ↓inW, ↓keyW, ↓isW, isNoneD, ↓cmpW, ↓subW, ↓cutW, ↓revW, isiD, tyD, isTy, ↓bi1W, ↓bi2W, ↓bisW, ↓lenW, ↓plainW, ↓rangeW, ↓zipW, partD, dPart, getDefW, mtTy, ↓putW, sizeLine, Nat.zero_le, Nat.reducePow, Nat.reduceLeDiff, Nat.reduceAdd, Nat.reduceSub, Nat.reduceMul, Int.reducePow, Int.reduceNeg, Int.reduceLE, Int.reduceLT, Int.cast_ofNat_Int, Int.toNat_natCast, Int.reduceToNat, List.map_cons, List.map_nil, List.length_cons, List.length_nil, List.getElem?_cons_zero, List.getElem?_cons_succ, List.set_cons_zero, List.set_cons_succ, List.any_cons, List.any_nil, List.replicate, List.cons_append, List.nil_append, String.reduceBEq, Bool.or_false, Bool.false_or, Bool.or_true, Bool.true_or, Bool.and_true, Bool.true_and, Bool.and_false, Bool.false_and, Bool.not_true, Bool.not_false, forall_const, true_implies, false_implies, implies_true, reduceCtorEq, and_true, true_and, and_false, false_and, if_true, if_false, ite_true, ite_false, not_true_eq_false, not_false_eq_true, Bool.true_eq_false, Bool.false_eq_true, bne_self_eq_false, Bool.not_eq_true', Bool.not_eq_false', Option.some.injEq, exists_eq_left, exists_eq_left', List.zip_cons_cons, List.zip_nil_left, List.zip_nil_right, keyD, Option.getD_some, Option.getD_none, hO.at_, operandsD, lookD_cons, lookD_nil, keyOf_str, opnds, isNum, cut_tail, Option.isSome_none, Option.isSome_some]
  | bin hz h1 h2 h3 h4 => rcases hz with rfl | rfl | rfl | rfl | rfl <;> simp -dsimp +decide only [Lib.f_operands_of, Lib.b_operands_of, ↓getW_0, ↓getW_1, ↓getW_2, ↓wpSs, ↓wpS, ↓wpV, ↓wpE, ↓wpEs, ↓wpAs, ↓wpI, ↓wpP, ↓wpC, ↓rdE, ↓rd2, ↓varOf, ↓varC, ↓varB, ↓rdW, ↓argW, ↓ownL, ↓metO, ↓metR, ↓changes, ↓setTgW, setTgsW, wipeW, startW, ↓binW, ↓addW, ↓mulW, ↓subIW, ↓divW, ↓modW, ↓powW, ↓augW, ↓negW, ↓truthW, ↓eqW, ↓ltW, ↓inW, ↓keyW, ↓isW, isNoneD, ↓cmpW, ↓subW, ↓cutW, ↓revW, isiD, tyD, isTy, ↓bi1W, ↓bi2W, ↓bisW, ↓lenW, ↓plainW, ↓rangeW, ↓zipW, partD, dPart, getDefW, mtTy, ↓putW, sizeLine, Nat.zero_le, Nat.reducePow, Nat.reduceLeDiff, Nat.reduceAdd, Nat.reduceSub, Nat.reduceMul, Int.reducePow, Int.reduceNeg, Int.reduceLE, Int.reduceLT, Int.cast_ofNat_Int, Int.toNat_natCast, Int.reduceToNat, List.map_cons, List.map_nil, List.length_cons, List.length_nil, List.getElem?_cons_zero, List.getElem?_cons_succ, List.set_cons_zero, List.set_cons_succ, List.any_cons, List.any_nil, List.replicate, List.cons_append, List.nil_append, String.reduceBEq, Bool.or_false, Bool.false_or, Bool.or_true, Bool.true_or, Bool.and_true, Bool.true_and, Bool.and_false, Bool.false_and, Bool.not_true, Bool.not_false, forall_const, true_implies, false_implies, implies_true, reduceCtorEq, and_true, true_and, and_false, false_and, if_true, if_false, ite_true, ite_false, not_true_eq_false, not_false_eq_true, Bool.true_eq_false, Bool.false_eq_true, bne_self_eq_false, Bool.not_eq_true', Bool.not_eq_false', Option.some.injEq, exists_eq_left, exists_eq_left', List.zip_cons_cons, List.zip_nil_left, List.zip_nil_right, keyD, Option.getD_some, Option.getD_none, hO.at_, operandsD, lookD_cons, lookD_nil, keyOf_str, opnds, isNum, cut_tail, Option.isSome_none, Option.isSome_some]
theorem law_operands_wp [Has T pr "_law_operands" Lib.f__law_operands] {i : Nat} {v : PyData} (h : OpAt i v) : callW (wpF T pr (k + 1)) "_law_operands" [.d v] Q X ↔ Q (.tuple (opnds v)) := by
  rw [wpF_at Lib.f__law_operands]
  cases h with
  | inp a b => simp -dsimp +decide only [Lib.f__law_operands, Lib.b__law_operands, ↓getW_0, ↓getW_1, ↓getW_2, ↓wpSs, ↓wpS, ↓wpV, ↓wpE, ↓wpEs, ↓wpAs, ↓wpI, ↓wpP, ↓wpC, ↓rdE, ↓rd2, ↓varOf, ↓varC, ↓varB, ↓rdW, ↓argW, ↓ownL, ↓metO, ↓metR, ↓changes, ↓setTgW, setTgsW, wipeW, startW, ↓binW, ↓addW, ↓mulW, ↓subIW, ↓divW, ↓modW, ↓powW, ↓augW, ↓negW, ↓truthW, ↓eqW, ↓ltW, ↓inW, ↓keyW, ↓isW, isNoneD, ↓cmpW, ↓subW, ↓cutW, ↓revW, isiD, tyD, isTy, ↓bi1W, ↓bi2W, ↓bisW, ↓lenW, ↓plainW, ↓rangeW, ↓zipW, partD, dPart, getDefW, mtTy, ↓putW, sizeLine, Nat.zero_le, Nat.reducePow, Nat.reduceLeDiff, Nat.reduceAdd, Nat.reduceSub, Nat.reduceMul, Int.reducePow, Int.reduceNeg, Int.reduceLE, Int.reduceLT, Int.cast_ofNat_Int, Int.toNat_natCast, Int.reduceToNat, List.map_cons, List.map_nil, List.length_cons, List.length_nil, List.getElem?_cons_zero, List.getElem?_cons_succ, List.set_cons_zero, List.set_cons_succ, List.any_cons, List.any_nil, List.replicate, List.cons_append, List.nil_append, String.reduceBEq, Bool.or_false, Bool.false_or, Bool.or_true, Bool.true_or, Bool.and_true, Bool.true_and, Bool.and_false, Bool.false_and, Bool.not_true, Bool.not_false, forall_const, true_implies, false_implies, implies_true, reduceCtorEq, and_true, true_and, and_false, false_and, if_true, if_false, ite_true, ite_false, not_true_eq_false, not_false_eq_true, Bool.true_eq_false, Bool.false_eq_true, bne_self_eq_false, Bool.not_eq_true', Bool.not_eq_false', Option.some.injEq, exists_eq_left, exists_eq_left', List.zip_cons_cons, List.zip_nil_left, List.zip_nil_right, keyD, Option.getD_some, Option.getD_none, seqInW, eqOk_str, lay_nil, lay_cons, lay_str, sk_in, sk_const, sk_neg, sk_copy, sk_add, sk_sub, sk_mul, sk_least, sk_most, opnds, isNum, cut_tail]
  | const a b => simp -dsimp +decide only [Lib.f__law_operands, Lib.b__law_operands, ↓getW_0, ↓getW_1, ↓getW_2, ↓wpSs, ↓wpS, ↓wpV, ↓wpE, ↓wpEs, ↓wpAs, ↓wpI, ↓wpP, ↓wpC, ↓rdE, ↓rd2, ↓varOf, ↓varC, ↓varB, ↓rdW, ↓argW, ↓ownL, ↓metO, ↓metR, ↓changes, ↓setTgW, setTgsW, wipeW, startW, ↓binW, ↓addW, ↓mulW, ↓subIW, ↓divW, ↓modW, ↓powW, ↓augW, ↓negW, ↓truthW, ↓eqW, ↓ltW, ↓inW, ↓keyW, ↓isW, isNoneD, ↓cmpW, ↓subW, ↓cutW, ↓revW, isiD, tyD, isTy, ↓bi1W, ↓bi2W, ↓bisW, ↓lenW, ↓plainW, ↓rangeW, ↓zipW, partD, dPart, getDefW, mtTy, ↓putW, sizeLine, Nat.zero_le, Nat.reducePow, Nat.reduceLeDiff, Nat.reduceAdd, Nat.reduceSub, Nat.reduceMul, Int.reducePow, Int.reduceNeg, Int.reduceLE, Int.reduceLT, Int.cast_ofNat_Int, Int.toNat_natCast, Int.reduceToNat, List.map_cons, List.map_nil, List.length_cons, List.length_nil, List.getElem?_cons_zero, List.getElem?_cons_succ, List.set_cons_zero, List.set_cons_succ, List.any_cons, List.any_nil, List.replicate, List.cons_append, List.nil_append, String.reduceBEq, Bool.or_false, Bool.false_or, Bool.or_true, Bool.true_or, Bool.and_true, Bool.true_and, Bool.and_false, Bool.false_and, Bool.not_true, Bool.not_false, forall_const, true_implies, false_implies, implies_true, reduceCtorEq, and_true, true_and, and_false, false_and, if_true, if_false, ite_true, ite_false, not_true_eq_false, not_false_eq_true, Bool.true_eq_false, Bool.false_eq_true, bne_self_eq_false, Bool.not_eq_true', Bool.not_eq_false', Option.some.injEq, exists_eq_left, exists_eq_left', List.zip_cons_cons, List.zip_nil_left, List.zip_nil_right, keyD, Option.getD_some, Option.getD_none, seqInW, eqOk_str, lay_nil, lay_cons, lay_str, sk_in, sk_const, sk_neg, sk_copy, sk_add, sk_sub, sk_mul, sk_least, sk_most, opnds, isNum, cut_tail]
  | un hz h1 h2 => rcases hz with rfl | rfl <;> simp -dsimp +decide only [Lib.f__law_operands, Lib.b__law_operands, ↓getW_0, ↓getW_1, ↓getW_2, ↓wpSs, ↓wpS, ↓wpV, ↓wpE, ↓wpEs, ↓wpAs, ↓wpI, ↓wpP, ↓wpC, ↓rdE, ↓rd2, ↓varOf, ↓varC, ↓varB, ↓rdW, ↓argW, ↓ownL, ↓metO, ↓metR, ↓changes, ↓setTgW, setTgsW, wipeW, startW, ↓binW, ↓addW, ↓mulW, ↓subIW, ↓divW, ↓modW, ↓powW, ↓augW, ↓negW, ↓truthW, ↓eqW, ↓ltW, ↓inW, ↓keyW, ↓isW, isNoneD, ↓cmpW, ↓subW, ↓cutW, ↓revW, isiD, tyD, isTy, ↓bi1W, ↓bi2W, ↓bisW, ↓lenW, ↓plainW, ↓rangeW, ↓zipW, partD, dPart, getDefW, mtTy, ↓putW, sizeLine, Nat.zero_le, Nat.reducePow, Nat.reduceLeDiff, Nat.reduceAdd, Nat.reduceSub, Nat.reduceMul, Int.reducePow, Int.reduceNeg, Int.reduceLE, Int.reduceLT, Int.cast_ofNat_Int, Int.toNat_natCast, Int.reduceToNat, List.map_cons, List.map_nil, List.length_cons, List.length_nil, List.getElem?_cons_zero, List.getElem?_cons_succ, List.set_cons_zero, List.set_cons_succ, List.any_cons, List.any_nil, List.replicate, List.cons_append, List.nil_append, String.reduceBEq, Bool.or_false, Bool.false_or, Bool.or_true, Bool.true_or, Bool.and_true, Bool.true_and, Bool.and_false, Bool.false_and, Bool.not_true, Bool.not_false, forall_const, true_implies, false_implies, implies_true, reduceCtorEq, and_true, true_and, and_false, false_and, if_true, if_false, ite_true, ite_false, not_true_eq_false, not_false_eq_true, Bool.true_eq_false, Bool.false_eq_true, bne_self_eq_false, Bool.not_eq_true', Bool.not_eq_false', Option.some.injEq, exists_eq_left, exists_eq_left', List.zip_cons_cons, List.zip_nil_left, List.zip_nil_right, keyD, Option.getD_some, Option.getD_none, seqInW, eqOk_str, lay_nil, lay_cons, lay_str, sk_in, sk_const, sk_neg, sk_copy, sk_add, sk_sub, sk_mul, sk_least, sk_most, opnds, isNum, cut_tail]
  | bin hz h1 h2 h3 h4 => rcases hz with rfl | rfl | rfl | rfl | rfl <;> simp -dsimp +decide only [Lib.f__law_operands, Lib.b__law_operands, ↓getW_0, ↓getW_1, ↓getW_2, ↓wpSs, ↓wpS, ↓wpV, ↓wpE, ↓wpEs, ↓wpAs, ↓wpI, ↓wpP, ↓wpC, ↓rdE, ↓rd2, ↓varOf, ↓varC, ↓varB, ↓rdW, ↓argW, ↓ownL, ↓metO, ↓metR, ↓changes, ↓setTgW, setTgsW, wipeW, startW, ↓binW, ↓addW, ↓mulW, ↓subIW, ↓divW, ↓modW, ↓powW, ↓augW, ↓negW, ↓truthW, ↓eqW, ↓ltW, ↓inW, ↓keyW, ↓isW, isNoneD, ↓cmpW, ↓subW, ↓cutW, ↓revW, isiD, tyD, isTy, ↓bi1W, ↓bi2W, ↓bisW, ↓lenW, ↓plainW, ↓rangeW, ↓zipW, partD, dPart, getDefW, mtTy, ↓putW, sizeLine, Nat.zero_le, Nat.reducePow, Nat.reduceLeDiff, Nat.reduceAdd, Nat.reduceSub, Nat.reduceMul, Int.reducePow, Int.reduceNeg, Int.reduceLE, Int.reduceLT, Int.cast_ofNat_Int, Int.toNat_natCast, Int.reduceToNat, List.map_cons, List.map_nil, List.length_cons, List.length_nil, List.getElem?_cons_zero, List.getElem?_cons_succ, List.set_cons_zero, List.set_cons_succ, List.any_cons, List.any_nil, List.replicate, List.cons_append, List.nil_append, String.reduceBEq, Bool.or_false, Bool.false_or, Bool.or_true, Bool.true_or, Bool.and_true, Bool.true_and, Bool.and_false, Bool.false_and, Bool.not_true, Bool.not_false, forall_const, true_implies, false_implies, implies_true, reduceCtorEq, and_true, true_and, and_false, false_and, if_true, if_false, ite_true, ite_false, not_true_eq_false, not_false_eq_true, Bool.true_eq_false, Bool.false_eq_true, bne_self_eq_false, Bool.not_eq_true', Bool.not_eq_false', Option.some.injEq, exists_eq_left, exists_eq_left', List.zip_cons_cons, List.zip_nil_left, List.zip_nil_right, keyD, Option.getD_some, Option.getD_none, seqInW, eqOk_str, lay_nil, lay_cons, lay_str, sk_in, sk_const, sk_neg, sk_copy, sk_add, sk_sub, sk_mul, sk_least, sk_most, opnds, isNum, cut_tail]
/-- enumerate is walked, with a state -/
theorem forX_enum {α : Type} {F : PyData → We → (We → Prop) → Prop} {N : We → Prop} {P : Nat → PyData → Prop} {R : List PyData → Nat → α → Prop} {I : Nat → α → We → Prop} (h0 : ∀ ρ i acc, I i acc ρ → (N ρ ↔ R [] i acc)) (h1 : ∀ x r (i : Nat) ρ acc (kn : We → Prop), P i x → I i acc ρ → (∀ ρ' acc', I (i + 1) acc' ρ' → (kn ρ' ↔ R r (i + 1) acc')) → (F (.tuple [.int i, x]) ρ kn ↔ R (x :: r) i acc)) : ∀ (xs : List PyData) (i : Nat) (ρ : We) (acc : α), (∀ j x, xs[j]? = some x → P (i + j) x) → I i acc ρ → (forX F N (enumD i xs) ρ ↔ R xs i acc)
  | [], i, ρ, acc, _, hI => h0 ρ i acc hI
  | x :: r, i, ρ, acc, hP, hI => h1 x r i ρ acc _ (hP 0 x rfl) hI fun ρ' acc' hI' => forX_enum h0 h1 r (i + 1) ρ' acc' (fun j y hy => by rw [show i + 1 + j = i + (j + 1) by omega]; exact hP (j + 1) y (by simpa using hy)) hI'
theorem OpsAt.get : ∀ {i : Nat} {xs : List PyData} {j : Nat} {v : PyData}, OpsAt i xs → xs[j]? = some v → OpAt (i + j) v
  | i, x :: r, 0, v, h, e => by simp at e; subst e; exact h.1
  | i, x :: r, j + 1, v, h, e => by
    have := OpsAt.get (j := j) h.2 (by simpa using e)
    rw [show i + (j + 1) = i + 1 + j by omega]
    exact this
  | i, [], j, v, h, e => by simp at e
theorem rdOne_len {i : Nat} : ∀ {j : Nat} {l : List PyData}, (rdOne i j l).length = l.length
  | _, [] => rfl
  | j, s :: r => by simp [rdOne, rdOne_len]
theorem reads_of_wp [hO : HasC T "OPERANDS" operandsD] [Has T pr "operands_of" Lib.f_operands_of] [Has T pr "reads_of" Lib.f_reads_of] {xs : List PyData} (hx : OpsAt 0 xs) (hl : xs.length ≤ 1000) : callW (wpF T pr (k + 2)) "reads_of" [.d (.tuple xs)] Q X ↔ Q (.tuple (reads 0 xs)) := by
  rw [wpF_at Lib.f_reads_of]
  simp -dsimp only [Lib.f_reads_of, Lib.b_reads_of, ↓getW_0, ↓getW_1, ↓getW_2, ↓wpSs, ↓wpS, ↓wpV, ↓wpE, ↓wpEs, ↓wpAs, ↓wpI, ↓wpP, ↓wpC, ↓rdE, ↓rd2, ↓varOf, ↓varC, ↓varB, ↓rdW, ↓argW, ↓ownL, ↓metO, ↓metR, ↓changes, ↓setTgW, setTgsW, wipeW, startW, ↓binW, ↓addW, ↓mulW, ↓subIW, ↓divW, ↓modW, ↓powW, ↓augW, ↓negW, ↓truthW, ↓eqW, ↓ltW, ↓inW, ↓keyW, ↓isW, isNoneD, ↓cmpW, ↓subW, ↓cutW, ↓revW, isiD, tyD, isTy, ↓bi1W, ↓bi2W, ↓bisW, ↓lenW, ↓plainW, ↓rangeW, ↓zipW, partD, dPart, getDefW, mtTy, ↓putW, sizeLine, Nat.zero_le, Nat.reducePow, Nat.reduceLeDiff, Nat.reduceAdd, Nat.reduceSub, Nat.reduceMul, Int.reducePow, Int.reduceNeg, Int.reduceLE, Int.reduceLT, Int.cast_ofNat_Int, Int.toNat_natCast, Int.reduceToNat, List.map_cons, List.map_nil, List.length_cons, List.length_nil, List.getElem?_cons_zero, List.getElem?_cons_succ, List.set_cons_zero, List.set_cons_succ, List.any_cons, List.any_nil, List.replicate, List.cons_append, List.nil_append, String.reduceBEq, Bool.or_false, Bool.false_or, Bool.or_true, Bool.true_or, Bool.and_true, Bool.true_and, Bool.and_false, Bool.false_and, Bool.not_true, Bool.not_false, forall_const, true_implies, false_implies, implies_true, reduceCtorEq, and_true, true_and, and_false, false_and, if_true, if_false, ite_true, ite_false, not_true_eq_false, not_false_eq_true, Bool.true_eq_false, Bool.false_eq_true, bne_self_eq_false, Bool.not_eq_true', Bool.not_eq_false', Option.some.injEq, exists_eq_left, exists_eq_left', List.zip_cons_cons, List.zip_nil_left, List.zip_nil_right, keyD, Option.getD_some, Option.getD_none]
  have hl' : xs.length ≤ 16777216 := by omega
  simp only [hl', true_and]
  refine (forX_enum (P := fun i v => OpAt i v ∧ i < xs.length) (R := fun l i acc => Q (.tuple (acc ++ reads i l))) (I := fun i acc ρ => acc.length ≤ 2 * i ∧ i ≤ xs.length ∧ ∃ a b c d, ρ = [some (.d (.tuple xs)), some (.o (.list acc)), a, b, c, d]) ?_ ?_ xs 0 _ [] (fun j x hj => ⟨hx.get hj, by have := (List.getElem?_eq_some_iff.mp hj).1; omega⟩) ⟨by simp, by omega, _, _, _, _, rfl⟩)
  · rintro ρ i acc ⟨h1, h2, a, b, c, d, rfl⟩
    have : acc.length ≤ 16777216 := by omega
    simp -dsimp only [↓getW_0, ↓getW_1, ↓getW_2, ↓wpSs, ↓wpS, ↓wpV, ↓wpE, ↓wpEs, ↓wpAs, ↓wpI, ↓wpP, ↓wpC, ↓rdE, ↓rd2, ↓varOf, ↓varC, ↓varB, ↓rdW, ↓argW, ↓ownL, ↓metO, ↓metR, ↓changes, ↓setTgW, setTgsW, wipeW, startW, ↓binW, ↓addW, ↓mulW, ↓subIW, ↓divW, ↓modW, ↓powW, ↓augW, ↓negW, ↓truthW, ↓eqW, ↓ltW, ↓inW, ↓keyW, ↓isW, isNoneD, ↓cmpW, ↓subW, ↓cutW, ↓revW, isiD, tyD, isTy, ↓bi1W, ↓bi2W, ↓bisW, ↓lenW, ↓plainW, ↓rangeW, ↓zipW, partD, dPart, getDefW, mtTy, ↓putW, sizeLine, Nat.zero_le, Nat.reducePow, Nat.reduceLeDiff, Nat.reduceAdd, Nat.reduceSub, Nat.reduceMul, Int.reducePow, Int.reduceNeg, Int.reduceLE, Int.reduceLT, Int.cast_ofNat_Int, Int.toNat_natCast, Int.reduceToNat, List.map_cons, List.map_nil, List.length_cons, List.length_nil, List.getElem?_cons_zero, List.getElem?_cons_succ, List.set_cons_zero, List.set_cons_succ, List.any_cons, List.any_nil, List.replicate, List.cons_append, List.nil_append, String.reduceBEq, Bool.or_false, Bool.false_or, Bool.or_true, Bool.true_or, Bool.and_true, Bool.true_and, Bool.and_false, Bool.false_and, Bool.not_true, Bool.not_false, forall_const, true_implies, false_implies, implies_true, reduceCtorEq, and_true, true_and, and_false, false_and, if_true, if_false, ite_true, ite_false, not_true_eq_false, not_false_eq_true, Bool.true_eq_false, Bool.false_eq_true, bne_self_eq_false, Bool.not_eq_true', Bool.not_eq_false', Option.some.injEq, exists_eq_left, exists_eq_left', List.zip_cons_cons, List.zip_nil_left, List.zip_nil_right, keyD, Option.getD_some, Option.getD_none, this, reads, List.append_nil]
  · rintro x r i ρ acc kn ⟨hop, hi⟩ ⟨h1, h2, a, b, c, d, rfl⟩ hk
    simp -dsimp only [↓getW_0, ↓getW_1, ↓getW_2, ↓wpSs, ↓wpS, ↓wpV, ↓wpE, ↓wpEs, ↓wpAs, ↓wpI, ↓wpP, ↓wpC, ↓rdE, ↓rd2, ↓varOf, ↓varC, ↓varB, ↓rdW, ↓argW, ↓ownL, ↓metO, ↓metR, ↓changes, ↓setTgW, setTgsW, wipeW, startW, ↓binW, ↓addW, ↓mulW, ↓subIW, ↓divW, ↓modW, ↓powW, ↓augW, ↓negW, ↓truthW, ↓eqW, ↓ltW, ↓inW, ↓keyW, ↓isW, isNoneD, ↓cmpW, ↓subW, ↓cutW, ↓revW, isiD, tyD, isTy, ↓bi1W, ↓bi2W, ↓bisW, ↓lenW, ↓plainW, ↓rangeW, ↓zipW, partD, dPart, getDefW, mtTy, ↓putW, sizeLine, Nat.zero_le, Nat.reducePow, Nat.reduceLeDiff, Nat.reduceAdd, Nat.reduceSub, Nat.reduceMul, Int.reducePow, Int.reduceNeg, Int.reduceLE, Int.reduceLT, Int.cast_ofNat_Int, Int.toNat_natCast, Int.reduceToNat, List.map_cons, List.map_nil, List.length_cons, List.length_nil, List.getElem?_cons_zero, List.getElem?_cons_succ, List.set_cons_zero, List.set_cons_succ, List.any_cons, List.any_nil, List.replicate, List.cons_append, List.nil_append, String.reduceBEq, Bool.or_false, Bool.false_or, Bool.or_true, Bool.true_or, Bool.and_true, Bool.true_and, Bool.and_false, Bool.false_and, Bool.not_true, Bool.not_false, forall_const, true_implies, false_implies, implies_true, reduceCtorEq, and_true, true_and, and_false, false_and, if_true, if_false, ite_true, ite_false, not_true_eq_false, not_false_eq_true, Bool.true_eq_false, Bool.false_eq_true, bne_self_eq_false, Bool.not_eq_true', Bool.not_eq_false', Option.some.injEq, exists_eq_left, exists_eq_left', List.zip_cons_cons, List.zip_nil_left, List.zip_nil_right, keyD, Option.getD_some, Option.getD_none, ↓operands_of_wp hop]
    obtain ⟨ns, e, l2, hn⟩ := hop.opnds
    have le : (opnds x).length ≤ 2 := by rw [e, List.length_map]; exact l2
    have le' : (opnds x).length ≤ 16777216 := by omega
    simp only [le', true_and]
    refine (forX_enum (P := fun j _ => j < (opnds x).length) (R := fun l j acc2 => Q (.tuple (acc2 ++ rdOne i j l ++ reads (i + 1) r))) (I := fun j acc2 ρ => acc2.length ≤ acc.length + j ∧ j ≤ (opnds x).length ∧ ∃ c d, ρ = [some (.d (.tuple xs)), some (.o (.list acc2)), some (.d (.int i)), some (.d x), c, d]) ?_ ?_ (opnds x) 0 _ acc (fun j y hj => by have := (List.getElem?_eq_some_iff.mp hj).1; omega) ⟨by omega, by omega, _, _, rfl⟩).trans ?_
    · rintro ρ j acc2 ⟨g1, g2, c, d, rfl⟩
      simp -dsimp only [↓getW_0, ↓getW_1, ↓getW_2, ↓wpSs, ↓wpS, ↓wpV, ↓wpE, ↓wpEs, ↓wpAs, ↓wpI, ↓wpP, ↓wpC, ↓rdE, ↓rd2, ↓varOf, ↓varC, ↓varB, ↓rdW, ↓argW, ↓ownL, ↓metO, ↓metR, ↓changes, ↓setTgW, setTgsW, wipeW, startW, ↓binW, ↓addW, ↓mulW, ↓subIW, ↓divW, ↓modW, ↓powW, ↓augW, ↓negW, ↓truthW, ↓eqW, ↓ltW, ↓inW, ↓keyW, ↓isW, isNoneD, ↓cmpW, ↓subW, ↓cutW, ↓revW, isiD, tyD, isTy, ↓bi1W, ↓bi2W, ↓bisW, ↓lenW, ↓plainW, ↓rangeW, ↓zipW, partD, dPart, getDefW, mtTy, ↓putW, sizeLine, Nat.zero_le, Nat.reducePow, Nat.reduceLeDiff, Nat.reduceAdd, Nat.reduceSub, Nat.reduceMul, Int.reducePow, Int.reduceNeg, Int.reduceLE, Int.reduceLT, Int.cast_ofNat_Int, Int.toNat_natCast, Int.reduceToNat, List.map_cons, List.map_nil, List.length_cons, List.length_nil, List.getElem?_cons_zero, List.getElem?_cons_succ, List.set_cons_zero, List.set_cons_succ, List.any_cons, List.any_nil, List.replicate, List.cons_append, List.nil_append, String.reduceBEq, Bool.or_false, Bool.false_or, Bool.or_true, Bool.true_or, Bool.and_true, Bool.true_and, Bool.and_false, Bool.false_and, Bool.not_true, Bool.not_false, forall_const, true_implies, false_implies, implies_true, reduceCtorEq, and_true, true_and, and_false, false_and, if_true, if_false, ite_true, ite_false, not_true_eq_false, not_false_eq_true, Bool.true_eq_false, Bool.false_eq_true, bne_self_eq_false, Bool.not_eq_true', Bool.not_eq_false', Option.some.injEq, exists_eq_left, exists_eq_left', List.zip_cons_cons, List.zip_nil_left, List.zip_nil_right, keyD, Option.getD_some, Option.getD_none]
      rw [hk _ acc2 ⟨by omega, by omega, _, _, _, _, rfl⟩]
      simp [rdOne]
    · rintro y l j ρ acc2 kn2 hj ⟨g1, g2, c, d, rfl⟩ hk2
      have : acc2.length < 16777216 := by omega
      simp -dsimp only [↓getW_0, ↓getW_1, ↓getW_2, ↓wpSs, ↓wpS, ↓wpV, ↓wpE, ↓wpEs, ↓wpAs, ↓wpI, ↓wpP, ↓wpC, ↓rdE, ↓rd2, ↓varOf, ↓varC, ↓varB, ↓rdW, ↓argW, ↓ownL, ↓metO, ↓metR, ↓changes, ↓setTgW, setTgsW, wipeW, startW, ↓binW, ↓addW, ↓mulW, ↓subIW, ↓divW, ↓modW, ↓powW, ↓augW, ↓negW, ↓truthW, ↓eqW, ↓ltW, ↓inW, ↓keyW, ↓isW, isNoneD, ↓cmpW, ↓subW, ↓cutW, ↓revW, isiD, tyD, isTy, ↓bi1W, ↓bi2W, ↓bisW, ↓lenW, ↓plainW, ↓rangeW, ↓zipW, partD, dPart, getDefW, mtTy, ↓putW, sizeLine, Nat.zero_le, Nat.reducePow, Nat.reduceLeDiff, Nat.reduceAdd, Nat.reduceSub, Nat.reduceMul, Int.reducePow, Int.reduceNeg, Int.reduceLE, Int.reduceLT, Int.cast_ofNat_Int, Int.toNat_natCast, Int.reduceToNat, List.map_cons, List.map_nil, List.length_cons, List.length_nil, List.getElem?_cons_zero, List.getElem?_cons_succ, List.set_cons_zero, List.set_cons_succ, List.any_cons, List.any_nil, List.replicate, List.cons_append, List.nil_append, String.reduceBEq, Bool.or_false, Bool.false_or, Bool.or_true, Bool.true_or, Bool.and_true, Bool.true_and, Bool.and_false, Bool.false_and, Bool.not_true, Bool.not_false, forall_const, true_implies, false_implies, implies_true, reduceCtorEq, and_true, true_and, and_false, false_and, if_true, if_false, ite_true, ite_false, not_true_eq_false, not_false_eq_true, Bool.true_eq_false, Bool.false_eq_true, bne_self_eq_false, Bool.not_eq_true', Bool.not_eq_false', Option.some.injEq, exists_eq_left, exists_eq_left', List.zip_cons_cons, List.zip_nil_left, List.zip_nil_right, keyD, Option.getD_some, Option.getD_none, this]
      rw [hk2 _ _ ⟨by simp; omega, by omega, _, _, rfl⟩]
      simp [rdOne]
    · simp [reads]
/-- what a comprehension over enumerate makes -/
def emap (g : Nat → PyData → PyData) : Nat → List PyData → List PyData
  | _, [] => []
  | j, x :: r => g j x :: emap g (j + 1) r
theorem lcX_enum {f : PyData → (List PyData → Prop) → Prop} {g : Nat → PyData → PyData} (h : ∀ (j : Nat) x K, f (.tuple [.int j, x]) K ↔ K [g j x]) : ∀ {xs : List PyData} {j : Nat} {R : List PyData → Prop}, lcX f (enumD j xs) R ↔ R (emap g j xs)
  | [], j, R => Iff.rfl
  | x :: r, j, R => by
    show f (.tuple [.int j, x]) (fun ys => lcX f (enumD (j + 1) r) fun zs => R (ys ++ zs)) ↔ _
    rw [h, lcX_enum h]
    rfl
theorem emap_rd {i : Nat} : ∀ {l : List PyData} {j : Nat}, emap (fun j s => .tuple [.int i, .int j, s]) j l = rdOne i j l
  | [], j => rfl
  | s :: r, j => by simp [emap, rdOne, emap_rd]
theorem law_reads_wp [Has T pr "_law_operands" Lib.f__law_operands] [Has T pr "_law_reads" Lib.f__law_reads] {xs : List PyData} (hx : OpsAt 0 xs) (hl : xs.length ≤ 1000) : callW (wpF T pr (k + 2)) "_law_reads" [.d (.tuple xs)] Q X ↔ Q (.list (reads 0 xs)) := by
  rw [wpF_at Lib.f__law_reads]
  simp -dsimp only [Lib.f__law_reads, Lib.b__law_reads, ↓getW_0, ↓getW_1, ↓getW_2, ↓wpSs, ↓wpS, ↓wpV, ↓wpE, ↓wpEs, ↓wpAs, ↓wpI, ↓wpP, ↓wpC, ↓rdE, ↓rd2, ↓varOf, ↓varC, ↓varB, ↓rdW, ↓argW, ↓ownL, ↓metO, ↓metR, ↓changes, ↓setTgW, setTgsW, wipeW, startW, ↓binW, ↓addW, ↓mulW, ↓subIW, ↓divW, ↓modW, ↓powW, ↓augW, ↓negW, ↓truthW, ↓eqW, ↓ltW, ↓inW, ↓keyW, ↓isW, isNoneD, ↓cmpW, ↓subW, ↓cutW, ↓revW, isiD, tyD, isTy, ↓bi1W, ↓bi2W, ↓bisW, ↓lenW, ↓plainW, ↓rangeW, ↓zipW, partD, dPart, getDefW, mtTy, ↓putW, sizeLine, Nat.zero_le, Nat.reducePow, Nat.reduceLeDiff, Nat.reduceAdd, Nat.reduceSub, Nat.reduceMul, Int.reducePow, Int.reduceNeg, Int.reduceLE, Int.reduceLT, Int.cast_ofNat_Int, Int.toNat_natCast, Int.reduceToNat, List.map_cons, List.map_nil, List.length_cons, List.length_nil, List.getElem?_cons_zero, List.getElem?_cons_succ, List.set_cons_zero, List.set_cons_succ, List.any_cons, List.any_nil, List.replicate, List.cons_append, List.nil_append, String.reduceBEq, Bool.or_false, Bool.false_or, Bool.or_true, Bool.true_or, Bool.and_true, Bool.true_and, Bool.and_false, Bool.false_and, Bool.not_true, Bool.not_false, forall_const, true_implies, false_implies, implies_true, reduceCtorEq, and_true, true_and, and_false, false_and, if_true, if_false, ite_true, ite_false, not_true_eq_false, not_false_eq_true, Bool.true_eq_false, Bool.false_eq_true, bne_self_eq_false, Bool.not_eq_true', Bool.not_eq_false', Option.some.injEq, exists_eq_left, exists_eq_left', List.zip_cons_cons, List.zip_nil_left, List.zip_nil_right, keyD, Option.getD_some, Option.getD_none]
  have hl' : xs.length ≤ 16777216 := by omega
  simp only [hl', true_and]
  refine (forX_enum (P := fun i v => OpAt i v ∧ i < xs.length) (R := fun l i acc => Q (.list (acc ++ reads i l))) (I := fun i acc ρ => acc.length ≤ 2 * i ∧ i ≤ xs.length ∧ ∃ a b c d, ρ = [some (.d (.tuple xs)), some (.o (.list acc)), a, b, c, d]) ?_ ?_ xs 0 _ [] (fun j x hj => ⟨hx.get hj, by have := (List.getElem?_eq_some_iff.mp hj).1; omega⟩) ⟨by simp, by omega, _, _, _, _, rfl⟩)
  · rintro ρ i acc ⟨h1, h2, a, b, c, d, rfl⟩
    simp -dsimp only [↓getW_0, ↓getW_1, ↓getW_2, ↓wpSs, ↓wpS, ↓wpV, ↓wpE, ↓wpEs, ↓wpAs, ↓wpI, ↓wpP, ↓wpC, ↓rdE, ↓rd2, ↓varOf, ↓varC, ↓varB, ↓rdW, ↓argW, ↓ownL, ↓metO, ↓metR, ↓changes, ↓setTgW, setTgsW, wipeW, startW, ↓binW, ↓addW, ↓mulW, ↓subIW, ↓divW, ↓modW, ↓powW, ↓augW, ↓negW, ↓truthW, ↓eqW, ↓ltW, ↓inW, ↓keyW, ↓isW, isNoneD, ↓cmpW, ↓subW, ↓cutW, ↓revW, isiD, tyD, isTy, ↓bi1W, ↓bi2W, ↓bisW, ↓lenW, ↓plainW, ↓rangeW, ↓zipW, partD, dPart, getDefW, mtTy, ↓putW, sizeLine, Nat.zero_le, Nat.reducePow, Nat.reduceLeDiff, Nat.reduceAdd, Nat.reduceSub, Nat.reduceMul, Int.reducePow, Int.reduceNeg, Int.reduceLE, Int.reduceLT, Int.cast_ofNat_Int, Int.toNat_natCast, Int.reduceToNat, List.map_cons, List.map_nil, List.length_cons, List.length_nil, List.getElem?_cons_zero, List.getElem?_cons_succ, List.set_cons_zero, List.set_cons_succ, List.any_cons, List.any_nil, List.replicate, List.cons_append, List.nil_append, String.reduceBEq, Bool.or_false, Bool.false_or, Bool.or_true, Bool.true_or, Bool.and_true, Bool.true_and, Bool.and_false, Bool.false_and, Bool.not_true, Bool.not_false, forall_const, true_implies, false_implies, implies_true, reduceCtorEq, and_true, true_and, and_false, false_and, if_true, if_false, ite_true, ite_false, not_true_eq_false, not_false_eq_true, Bool.true_eq_false, Bool.false_eq_true, bne_self_eq_false, Bool.not_eq_true', Bool.not_eq_false', Option.some.injEq, exists_eq_left, exists_eq_left', List.zip_cons_cons, List.zip_nil_left, List.zip_nil_right, keyD, Option.getD_some, Option.getD_none, reads, List.append_nil]
  · rintro x r i ρ acc kn ⟨hop, hi⟩ ⟨h1, h2, a, b, c, d, rfl⟩ hk
    obtain ⟨ns, e, l2, hn⟩ := hop.opnds
    have le : (opnds x).length ≤ 2 := by rw [e, List.length_map]; exact l2
    have le' : (opnds x).length ≤ 16777216 := by omega
    simp -dsimp only [↓getW_0, ↓getW_1, ↓getW_2, ↓wpSs, ↓wpS, ↓wpV, ↓wpE, ↓wpEs, ↓wpAs, ↓wpI, ↓wpP, ↓wpC, ↓rdE, ↓rd2, ↓varOf, ↓varC, ↓varB, ↓rdW, ↓argW, ↓ownL, ↓metO, ↓metR, ↓changes, ↓setTgW, setTgsW, wipeW, startW, ↓binW, ↓addW, ↓mulW, ↓subIW, ↓divW, ↓modW, ↓powW, ↓augW, ↓negW, ↓truthW, ↓eqW, ↓ltW, ↓inW, ↓keyW, ↓isW, isNoneD, ↓cmpW, ↓subW, ↓cutW, ↓revW, isiD, tyD, isTy, ↓bi1W, ↓bi2W, ↓bisW, ↓lenW, ↓plainW, ↓rangeW, ↓zipW, partD, dPart, getDefW, mtTy, ↓putW, sizeLine, Nat.zero_le, Nat.reducePow, Nat.reduceLeDiff, Nat.reduceAdd, Nat.reduceSub, Nat.reduceMul, Int.reducePow, Int.reduceNeg, Int.reduceLE, Int.reduceLT, Int.cast_ofNat_Int, Int.toNat_natCast, Int.reduceToNat, List.map_cons, List.map_nil, List.length_cons, List.length_nil, List.getElem?_cons_zero, List.getElem?_cons_succ, List.set_cons_zero, List.set_cons_succ, List.any_cons, List.any_nil, List.replicate, List.cons_append, List.nil_append, String.reduceBEq, Bool.or_false, Bool.false_or, Bool.or_true, Bool.true_or, Bool.and_true, Bool.true_and, Bool.and_false, Bool.false_and, Bool.not_true, Bool.not_false, forall_const, true_implies, false_implies, implies_true, reduceCtorEq, and_true, true_and, and_false, false_and, if_true, if_false, ite_true, ite_false, not_true_eq_false, not_false_eq_true, Bool.true_eq_false, Bool.false_eq_true, bne_self_eq_false, Bool.not_eq_true', Bool.not_eq_false', Option.some.injEq, exists_eq_left, exists_eq_left', List.zip_cons_cons, List.zip_nil_left, List.zip_nil_right, keyD, Option.getD_some, Option.getD_none, ↓law_operands_wp hop, le']
    rw [lcX_enum (g := fun j s => .tuple [.int i, .int j, s]) fun j x K => by simp -dsimp only [↓getW_0, ↓getW_1, ↓getW_2, ↓wpSs, ↓wpS, ↓wpV, ↓wpE, ↓wpEs, ↓wpAs, ↓wpI, ↓wpP, ↓wpC, ↓rdE, ↓rd2, ↓varOf, ↓varC, ↓varB, ↓rdW, ↓argW, ↓ownL, ↓metO, ↓metR, ↓changes, ↓setTgW, setTgsW, wipeW, startW, ↓binW, ↓addW, ↓mulW, ↓subIW, ↓divW, ↓modW, ↓powW, ↓augW, ↓negW, ↓truthW, ↓eqW, ↓ltW, ↓inW, ↓keyW, ↓isW, isNoneD, ↓cmpW, ↓subW, ↓cutW, ↓revW, isiD, tyD, isTy, ↓bi1W, ↓bi2W, ↓bisW, ↓lenW, ↓plainW, ↓rangeW, ↓zipW, partD, dPart, getDefW, mtTy, ↓putW, sizeLine, Nat.zero_le, Nat.reducePow, Nat.reduceLeDiff, Nat.reduceAdd, Nat.reduceSub, Nat.reduceMul, Int.reducePow, Int.reduceNeg, Int.reduceLE, Int.reduceLT, Int.cast_ofNat_Int, Int.toNat_natCast, Int.reduceToNat, List.map_cons, List.map_nil, List.length_cons, List.length_nil, List.getElem?_cons_zero, List.getElem?_cons_succ, List.set_cons_zero, List.set_cons_succ, List.any_cons, List.any_nil, List.replicate, List.cons_append, List.nil_append, String.reduceBEq, Bool.or_false, Bool.false_or, Bool.or_true, Bool.true_or, Bool.and_true, Bool.true_and, Bool.and_false, Bool.false_and, Bool.not_true, Bool.not_false, forall_const, true_implies, false_implies, implies_true, reduceCtorEq, and_true, true_and, and_false, false_and, if_true, if_false, ite_true, ite_false, not_true_eq_false, not_false_eq_true, Bool.true_eq_false, Bool.false_eq_true, bne_self_eq_false, Bool.not_eq_true', Bool.not_eq_false', Option.some.injEq, exists_eq_left, exists_eq_left', List.zip_cons_cons, List.zip_nil_left, List.zip_nil_right, keyD, Option.getD_some, Option.getD_none], emap_rd]
    have l3 : acc.length + (rdOne i 0 (opnds x)).length ≤ 16777216 := by rw [rdOne_len]; omega
    simp -dsimp only [↓getW_0, ↓getW_1, ↓getW_2, ↓wpSs, ↓wpS, ↓wpV, ↓wpE, ↓wpEs, ↓wpAs, ↓wpI, ↓wpP, ↓wpC, ↓rdE, ↓rd2, ↓varOf, ↓varC, ↓varB, ↓rdW, ↓argW, ↓ownL, ↓metO, ↓metR, ↓changes, ↓setTgW, setTgsW, wipeW, startW, ↓binW, ↓addW, ↓mulW, ↓subIW, ↓divW, ↓modW, ↓powW, ↓augW, ↓negW, ↓truthW, ↓eqW, ↓ltW, ↓inW, ↓keyW, ↓isW, isNoneD, ↓cmpW, ↓subW, ↓cutW, ↓revW, isiD, tyD, isTy, ↓bi1W, ↓bi2W, ↓bisW, ↓lenW, ↓plainW, ↓rangeW, ↓zipW, partD, dPart, getDefW, mtTy, ↓putW, sizeLine, Nat.zero_le, Nat.reducePow, Nat.reduceLeDiff, Nat.reduceAdd, Nat.reduceSub, Nat.reduceMul, Int.reducePow, Int.reduceNeg, Int.reduceLE, Int.reduceLT, Int.cast_ofNat_Int, Int.toNat_natCast, Int.reduceToNat, List.map_cons, List.map_nil, List.length_cons, List.length_nil, List.getElem?_cons_zero, List.getElem?_cons_succ, List.set_cons_zero, List.set_cons_succ, List.any_cons, List.any_nil, List.replicate, List.cons_append, List.nil_append, String.reduceBEq, Bool.or_false, Bool.false_or, Bool.or_true, Bool.true_or, Bool.and_true, Bool.true_and, Bool.and_false, Bool.false_and, Bool.not_true, Bool.not_false, forall_const, true_implies, false_implies, implies_true, reduceCtorEq, and_true, true_and, and_false, false_and, if_true, if_false, ite_true, ite_false, not_true_eq_false, not_false_eq_true, Bool.true_eq_false, Bool.false_eq_true, bne_self_eq_false, Bool.not_eq_true', Bool.not_eq_false', Option.some.injEq, exists_eq_left, exists_eq_left', List.zip_cons_cons, List.zip_nil_left, List.zip_nil_right, keyD, Option.getD_some, Option.getD_none, l3]
    rw [hk _ (acc ++ rdOne i 0 (opnds x)) ⟨by rw [List.length_append, rdOne_len]; omega, by omega, _, _, _, _, rfl⟩]
    simp [reads]
end
theorem reads_len : ∀ {xs : List PyData} {i : Nat}, OpsAt i xs → (reads i xs).length ≤ 2 * xs.length
  | [], i, h => by simp [reads]
  | x :: r, i, h => by
    obtain ⟨ns, e, l2, hn⟩ := h.1.opnds
    have := reads_len (i := i + 1) h.2
    simp [reads, rdOne_len, e]
    omega
theorem rdOne_mem {i : Nat} : ∀ {ns : List Int} {j : Nat} {v : PyData}, v ∈ rdOne i j (ns.map .int) → ∃ (b : Nat) (s : Int), v = .tuple [.int i, .int b, .int s] ∧ s ∈ ns
  | [], j, v, h => by simp [rdOne] at h
  | n :: r, j, v, h => by
    simp only [List.map_cons, rdOne, List.mem_cons] at h
    rcases h with rfl | h
    · exact ⟨j, n, rfl, by simp⟩
    · obtain ⟨b, s, e, m⟩ := rdOne_mem h
      exact ⟨b, s, e, List.mem_cons_of_mem _ m⟩
/-- each read has a reader and a source before it -/
theorem reads_mem : ∀ {xs : List PyData} {i : Nat} {v : PyData}, OpsAt i xs → v ∈ reads i xs → ∃ (a b : Nat) (s : Int), v = .tuple [.int a, .int b, .int s] ∧ 0 ≤ s ∧ s < a ∧ a < i + xs.length
  | [], i, v, h, hv => by simp [reads] at hv
  | x :: r, i, v, h, hv => by
    simp only [reads, List.mem_append] at hv
    rcases hv with hv | hv
    · obtain ⟨ns, e, l2, hn⟩ := h.1.opnds
      rw [e] at hv
      obtain ⟨b, s, rfl, m⟩ := rdOne_mem hv
      exact ⟨i, b, s, rfl, (hn s m).1, (hn s m).2, by simp⟩
    · obtain ⟨a, b, s, rfl, h1, h2, h3⟩ := reads_mem h.2 hv
      exact ⟨a, b, s, rfl, h1, h2, by simp; omega⟩
end Tz

end
section
/-! Tz.Pg6: patches: how they are judged, and their copies. -/
namespace Tz
open PySem
def pErr : Nat → List PyData → PyData
  | _, [] => .none
  | i, x :: r => if isInt x 0 23 = true then pErr (i + 1) r else .tuple [.int i, .str "number"]
def patchErr (n : Nat) : PyData → PyData
  | .tuple xs => if xs.length = n then pErr 0 xs else .tuple [.none, .str "patch"]
  | _ => .tuple [.none, .str "patch"]
section
variable {T : Prog} {pr : Prims} {k : Nat} {Q : PyData → Prop} {X : Wx → Prop}
theorem patch_error_wp [hO : HasC T "OPERANDS" operandsD] [hM : HasC T "MAX_COPIES" (.int 23)] [Has T pr "is_integer" Lib.f_is_integer] [Has T pr "operands_of" Lib.f_operands_of] [Has T pr "reads_of" Lib.f_reads_of] [Has T pr "patch_error" Lib.f_patch_error] {xs : List PyData} {v : PyData} (hx : OpsAt 0 xs) (hl : xs.length ≤ 1000) : callW (wpF T pr (k + 3)) "patch_error" [.d (.tuple xs), .d v] Q X ↔ Q (patchErr (reads 0 xs).length v) := by
  rw [wpF_at Lib.f_patch_error]
  cases v with
  | tuple ys =>
    simp -dsimp only [Lib.f_patch_error, Lib.b_patch_error, ↓getW_0, ↓getW_1, ↓getW_2, ↓wpSs, ↓wpS, ↓wpV, ↓wpE, ↓wpEs, ↓wpAs, ↓wpI, ↓wpP, ↓wpC, ↓rdE, ↓rd2, ↓varOf, ↓varC, ↓varB, ↓rdW, ↓argW, ↓ownL, ↓metO, ↓metR, ↓changes, ↓setTgW, setTgsW, wipeW, startW, ↓binW, ↓addW, ↓mulW, ↓subIW, ↓divW, ↓modW, ↓powW, ↓augW, ↓negW, ↓truthW, ↓eqW, ↓ltW, ↓inW, ↓keyW, ↓isW, isNoneD, ↓cmpW, ↓subW, ↓cutW, ↓revW, isiD, tyD, isTy, ↓bi1W, ↓bi2W, ↓bisW, ↓lenW, ↓plainW, ↓rangeW, ↓zipW, partD, dPart, getDefW, mtTy, ↓putW, sizeLine, Nat.zero_le, Nat.reducePow, Nat.reduceLeDiff, Nat.reduceAdd, Nat.reduceSub, Nat.reduceMul, Int.reducePow, Int.reduceNeg, Int.reduceLE, Int.reduceLT, Int.cast_ofNat_Int, Int.toNat_natCast, Int.reduceToNat, List.map_cons, List.map_nil, List.length_cons, List.length_nil, List.getElem?_cons_zero, List.getElem?_cons_succ, List.set_cons_zero, List.set_cons_succ, List.any_cons, List.any_nil, List.replicate, List.cons_append, List.nil_append, String.reduceBEq, Bool.or_false, Bool.false_or, Bool.or_true, Bool.true_or, Bool.and_true, Bool.true_and, Bool.and_false, Bool.false_and, Bool.not_true, Bool.not_false, forall_const, true_implies, false_implies, implies_true, reduceCtorEq, and_true, true_and, and_false, false_and, if_true, if_false, ite_true, ite_false, not_true_eq_false, not_false_eq_true, Bool.true_eq_false, Bool.false_eq_true, bne_self_eq_false, Bool.not_eq_true', Bool.not_eq_false', Option.some.injEq, exists_eq_left, exists_eq_left', List.zip_cons_cons, List.zip_nil_left, List.zip_nil_right, keyD, Option.getD_some, Option.getD_none, ↓reads_of_wp hx hl, patchErr]
    by_cases h : ys.length = (reads 0 xs).length
    · have h' : (ys.length : Int) = ((reads 0 xs).length : Int) := by omega
      have lr := reads_len hx
      have h16 : ys.length ≤ 16777216 := by omega
      simp -dsimp only [h', decide_true, ↓getW_0, ↓getW_1, ↓getW_2, ↓wpSs, ↓wpS, ↓wpV, ↓wpE, ↓wpEs, ↓wpAs, ↓wpI, ↓wpP, ↓wpC, ↓rdE, ↓rd2, ↓varOf, ↓varC, ↓varB, ↓rdW, ↓argW, ↓ownL, ↓metO, ↓metR, ↓changes, ↓setTgW, setTgsW, wipeW, startW, ↓binW, ↓addW, ↓mulW, ↓subIW, ↓divW, ↓modW, ↓powW, ↓augW, ↓negW, ↓truthW, ↓eqW, ↓ltW, ↓inW, ↓keyW, ↓isW, isNoneD, ↓cmpW, ↓subW, ↓cutW, ↓revW, isiD, tyD, isTy, ↓bi1W, ↓bi2W, ↓bisW, ↓lenW, ↓plainW, ↓rangeW, ↓zipW, partD, dPart, getDefW, mtTy, ↓putW, sizeLine, Nat.zero_le, Nat.reducePow, Nat.reduceLeDiff, Nat.reduceAdd, Nat.reduceSub, Nat.reduceMul, Int.reducePow, Int.reduceNeg, Int.reduceLE, Int.reduceLT, Int.cast_ofNat_Int, Int.toNat_natCast, Int.reduceToNat, List.map_cons, List.map_nil, List.length_cons, List.length_nil, List.getElem?_cons_zero, List.getElem?_cons_succ, List.set_cons_zero, List.set_cons_succ, List.any_cons, List.any_nil, List.replicate, List.cons_append, List.nil_append, String.reduceBEq, Bool.or_false, Bool.false_or, Bool.or_true, Bool.true_or, Bool.and_true, Bool.true_and, Bool.and_false, Bool.false_and, Bool.not_true, Bool.not_false, forall_const, true_implies, false_implies, implies_true, reduceCtorEq, and_true, true_and, and_false, false_and, if_true, if_false, ite_true, ite_false, not_true_eq_false, not_false_eq_true, Bool.true_eq_false, Bool.false_eq_true, bne_self_eq_false, Bool.not_eq_true', Bool.not_eq_false', Option.some.injEq, exists_eq_left, exists_eq_left', List.zip_cons_cons, List.zip_nil_left, List.zip_nil_right, keyD, Option.getD_some, Option.getD_none, h16, if_pos h]
      refine forW_enum (R := fun l i => Q (pErr i l)) (I := fun ρ => ∃ a b, ρ = [some (.d (.tuple xs)), some (.d (.tuple ys)), a, b]) ?_ ?_ ys 0 _ ⟨_, _, rfl⟩
      · rintro ρ i ⟨a, b, rfl⟩
        simp -dsimp only [↓getW_0, ↓getW_1, ↓getW_2, ↓wpSs, ↓wpS, ↓wpV, ↓wpE, ↓wpEs, ↓wpAs, ↓wpI, ↓wpP, ↓wpC, ↓rdE, ↓rd2, ↓varOf, ↓varC, ↓varB, ↓rdW, ↓argW, ↓ownL, ↓metO, ↓metR, ↓changes, ↓setTgW, setTgsW, wipeW, startW, ↓binW, ↓addW, ↓mulW, ↓subIW, ↓divW, ↓modW, ↓powW, ↓augW, ↓negW, ↓truthW, ↓eqW, ↓ltW, ↓inW, ↓keyW, ↓isW, isNoneD, ↓cmpW, ↓subW, ↓cutW, ↓revW, isiD, tyD, isTy, ↓bi1W, ↓bi2W, ↓bisW, ↓lenW, ↓plainW, ↓rangeW, ↓zipW, partD, dPart, getDefW, mtTy, ↓putW, sizeLine, Nat.zero_le, Nat.reducePow, Nat.reduceLeDiff, Nat.reduceAdd, Nat.reduceSub, Nat.reduceMul, Int.reducePow, Int.reduceNeg, Int.reduceLE, Int.reduceLT, Int.cast_ofNat_Int, Int.toNat_natCast, Int.reduceToNat, List.map_cons, List.map_nil, List.length_cons, List.length_nil, List.getElem?_cons_zero, List.getElem?_cons_succ, List.set_cons_zero, List.set_cons_succ, List.any_cons, List.any_nil, List.replicate, List.cons_append, List.nil_append, String.reduceBEq, Bool.or_false, Bool.false_or, Bool.or_true, Bool.true_or, Bool.and_true, Bool.true_and, Bool.and_false, Bool.false_and, Bool.not_true, Bool.not_false, forall_const, true_implies, false_implies, implies_true, reduceCtorEq, and_true, true_and, and_false, false_and, if_true, if_false, ite_true, ite_false, not_true_eq_false, not_false_eq_true, Bool.true_eq_false, Bool.false_eq_true, bne_self_eq_false, Bool.not_eq_true', Bool.not_eq_false', Option.some.injEq, exists_eq_left, exists_eq_left', List.zip_cons_cons, List.zip_nil_left, List.zip_nil_right, keyD, Option.getD_some, Option.getD_none, pErr]
      · rintro x r i ρ kn ⟨a, b, rfl⟩ hk
        simp -dsimp only [↓getW_0, ↓getW_1, ↓getW_2, ↓wpSs, ↓wpS, ↓wpV, ↓wpE, ↓wpEs, ↓wpAs, ↓wpI, ↓wpP, ↓wpC, ↓rdE, ↓rd2, ↓varOf, ↓varC, ↓varB, ↓rdW, ↓argW, ↓ownL, ↓metO, ↓metR, ↓changes, ↓setTgW, setTgsW, wipeW, startW, ↓binW, ↓addW, ↓mulW, ↓subIW, ↓divW, ↓modW, ↓powW, ↓augW, ↓negW, ↓truthW, ↓eqW, ↓ltW, ↓inW, ↓keyW, ↓isW, isNoneD, ↓cmpW, ↓subW, ↓cutW, ↓revW, isiD, tyD, isTy, ↓bi1W, ↓bi2W, ↓bisW, ↓lenW, ↓plainW, ↓rangeW, ↓zipW, partD, dPart, getDefW, mtTy, ↓putW, sizeLine, Nat.zero_le, Nat.reducePow, Nat.reduceLeDiff, Nat.reduceAdd, Nat.reduceSub, Nat.reduceMul, Int.reducePow, Int.reduceNeg, Int.reduceLE, Int.reduceLT, Int.cast_ofNat_Int, Int.toNat_natCast, Int.reduceToNat, List.map_cons, List.map_nil, List.length_cons, List.length_nil, List.getElem?_cons_zero, List.getElem?_cons_succ, List.set_cons_zero, List.set_cons_succ, List.any_cons, List.any_nil, List.replicate, List.cons_append, List.nil_append, String.reduceBEq, Bool.or_false, Bool.false_or, Bool.or_true, Bool.true_or, Bool.and_true, Bool.true_and, Bool.and_false, Bool.false_and, Bool.not_true, Bool.not_false, forall_const, true_implies, false_implies, implies_true, reduceCtorEq, and_true, true_and, and_false, false_and, if_true, if_false, ite_true, ite_false, not_true_eq_false, not_false_eq_true, Bool.true_eq_false, Bool.false_eq_true, bne_self_eq_false, Bool.not_eq_true', Bool.not_eq_false', Option.some.injEq, exists_eq_left, exists_eq_left', List.zip_cons_cons, List.zip_nil_left, List.zip_nil_right, keyD, Option.getD_some, Option.getD_none, hM.at_, ↓is_integer_wp, pErr]
        cases isInt x 0 23 with
        | false => simp -dsimp only [↓getW_0, ↓getW_1, ↓getW_2, ↓wpSs, ↓wpS, ↓wpV, ↓wpE, ↓wpEs, ↓wpAs, ↓wpI, ↓wpP, ↓wpC, ↓rdE, ↓rd2, ↓varOf, ↓varC, ↓varB, ↓rdW, ↓argW, ↓ownL, ↓metO, ↓metR, ↓changes, ↓setTgW, setTgsW, wipeW, startW, ↓binW, ↓addW, ↓mulW, ↓subIW, ↓divW, ↓modW, ↓powW, ↓augW, ↓negW, ↓truthW, ↓eqW, ↓ltW, ↓inW, ↓keyW, ↓isW, isNoneD, ↓cmpW, ↓subW, ↓cutW, ↓revW, isiD, tyD, isTy, ↓bi1W, ↓bi2W, ↓bisW, ↓lenW, ↓plainW, ↓rangeW, ↓zipW, partD, dPart, getDefW, mtTy, ↓putW, sizeLine, Nat.zero_le, Nat.reducePow, Nat.reduceLeDiff, Nat.reduceAdd, Nat.reduceSub, Nat.reduceMul, Int.reducePow, Int.reduceNeg, Int.reduceLE, Int.reduceLT, Int.cast_ofNat_Int, Int.toNat_natCast, Int.reduceToNat, List.map_cons, List.map_nil, List.length_cons, List.length_nil, List.getElem?_cons_zero, List.getElem?_cons_succ, List.set_cons_zero, List.set_cons_succ, List.any_cons, List.any_nil, List.replicate, List.cons_append, List.nil_append, String.reduceBEq, Bool.or_false, Bool.false_or, Bool.or_true, Bool.true_or, Bool.and_true, Bool.true_and, Bool.and_false, Bool.false_and, Bool.not_true, Bool.not_false, forall_const, true_implies, false_implies, implies_true, reduceCtorEq, and_true, true_and, and_false, false_and, if_true, if_false, ite_true, ite_false, not_true_eq_false, not_false_eq_true, Bool.true_eq_false, Bool.false_eq_true, bne_self_eq_false, Bool.not_eq_true', Bool.not_eq_false', Option.some.injEq, exists_eq_left, exists_eq_left', List.zip_cons_cons, List.zip_nil_left, List.zip_nil_right, keyD, Option.getD_some, Option.getD_none]
        | true => simp -dsimp only [↓getW_0, ↓getW_1, ↓getW_2, ↓wpSs, ↓wpS, ↓wpV, ↓wpE, ↓wpEs, ↓wpAs, ↓wpI, ↓wpP, ↓wpC, ↓rdE, ↓rd2, ↓varOf, ↓varC, ↓varB, ↓rdW, ↓argW, ↓ownL, ↓metO, ↓metR, ↓changes, ↓setTgW, setTgsW, wipeW, startW, ↓binW, ↓addW, ↓mulW, ↓subIW, ↓divW, ↓modW, ↓powW, ↓augW, ↓negW, ↓truthW, ↓eqW, ↓ltW, ↓inW, ↓keyW, ↓isW, isNoneD, ↓cmpW, ↓subW, ↓cutW, ↓revW, isiD, tyD, isTy, ↓bi1W, ↓bi2W, ↓bisW, ↓lenW, ↓plainW, ↓rangeW, ↓zipW, partD, dPart, getDefW, mtTy, ↓putW, sizeLine, Nat.zero_le, Nat.reducePow, Nat.reduceLeDiff, Nat.reduceAdd, Nat.reduceSub, Nat.reduceMul, Int.reducePow, Int.reduceNeg, Int.reduceLE, Int.reduceLT, Int.cast_ofNat_Int, Int.toNat_natCast, Int.reduceToNat, List.map_cons, List.map_nil, List.length_cons, List.length_nil, List.getElem?_cons_zero, List.getElem?_cons_succ, List.set_cons_zero, List.set_cons_succ, List.any_cons, List.any_nil, List.replicate, List.cons_append, List.nil_append, String.reduceBEq, Bool.or_false, Bool.false_or, Bool.or_true, Bool.true_or, Bool.and_true, Bool.true_and, Bool.and_false, Bool.false_and, Bool.not_true, Bool.not_false, forall_const, true_implies, false_implies, implies_true, reduceCtorEq, and_true, true_and, and_false, false_and, if_true, if_false, ite_true, ite_false, not_true_eq_false, not_false_eq_true, Bool.true_eq_false, Bool.false_eq_true, bne_self_eq_false, Bool.not_eq_true', Bool.not_eq_false', Option.some.injEq, exists_eq_left, exists_eq_left', List.zip_cons_cons, List.zip_nil_left, List.zip_nil_right, keyD, Option.getD_some, Option.getD_none]; exact hk _ ⟨_, _, rfl⟩
    · have h' : ((ys.length : Int) = ((reads 0 xs).length : Int)) = False := by simp; omega
      simp -dsimp only [h', decide_false, ↓getW_0, ↓getW_1, ↓getW_2, ↓wpSs, ↓wpS, ↓wpV, ↓wpE, ↓wpEs, ↓wpAs, ↓wpI, ↓wpP, ↓wpC, ↓rdE, ↓rd2, ↓varOf, ↓varC, ↓varB, ↓rdW, ↓argW, ↓ownL, ↓metO, ↓metR, ↓changes, ↓setTgW, setTgsW, wipeW, startW, ↓binW, ↓addW, ↓mulW, ↓subIW, ↓divW, ↓modW, ↓powW, ↓augW, ↓negW, ↓truthW, ↓eqW, ↓ltW, ↓inW, ↓keyW, ↓isW, isNoneD, ↓cmpW, ↓subW, ↓cutW, ↓revW, isiD, tyD, isTy, ↓bi1W, ↓bi2W, ↓bisW, ↓lenW, ↓plainW, ↓rangeW, ↓zipW, partD, dPart, getDefW, mtTy, ↓putW, sizeLine, Nat.zero_le, Nat.reducePow, Nat.reduceLeDiff, Nat.reduceAdd, Nat.reduceSub, Nat.reduceMul, Int.reducePow, Int.reduceNeg, Int.reduceLE, Int.reduceLT, Int.cast_ofNat_Int, Int.toNat_natCast, Int.reduceToNat, List.map_cons, List.map_nil, List.length_cons, List.length_nil, List.getElem?_cons_zero, List.getElem?_cons_succ, List.set_cons_zero, List.set_cons_succ, List.any_cons, List.any_nil, List.replicate, List.cons_append, List.nil_append, String.reduceBEq, Bool.or_false, Bool.false_or, Bool.or_true, Bool.true_or, Bool.and_true, Bool.true_and, Bool.and_false, Bool.false_and, Bool.not_true, Bool.not_false, forall_const, true_implies, false_implies, implies_true, reduceCtorEq, and_true, true_and, and_false, false_and, if_true, if_false, ite_true, ite_false, not_true_eq_false, not_false_eq_true, Bool.true_eq_false, Bool.false_eq_true, bne_self_eq_false, Bool.not_eq_true', Bool.not_eq_false', Option.some.injEq, exists_eq_left, exists_eq_left', List.zip_cons_cons, List.zip_nil_left, List.zip_nil_right, keyD, Option.getD_some, Option.getD_none, if_neg h]
  | _ => simp -dsimp only [Lib.f_patch_error, Lib.b_patch_error, ↓getW_0, ↓getW_1, ↓getW_2, ↓wpSs, ↓wpS, ↓wpV, ↓wpE, ↓wpEs, ↓wpAs, ↓wpI, ↓wpP, ↓wpC, ↓rdE, ↓rd2, ↓varOf, ↓varC, ↓varB, ↓rdW, ↓argW, ↓ownL, ↓metO, ↓metR, ↓changes, ↓setTgW, setTgsW, wipeW, startW, ↓binW, ↓addW, ↓mulW, ↓subIW, ↓divW, ↓modW, ↓powW, ↓augW, ↓negW, ↓truthW, ↓eqW, ↓ltW, ↓inW, ↓keyW, ↓isW, isNoneD, ↓cmpW, ↓subW, ↓cutW, ↓revW, isiD, tyD, isTy, ↓bi1W, ↓bi2W, ↓bisW, ↓lenW, ↓plainW, ↓rangeW, ↓zipW, partD, dPart, getDefW, mtTy, ↓putW, sizeLine, Nat.zero_le, Nat.reducePow, Nat.reduceLeDiff, Nat.reduceAdd, Nat.reduceSub, Nat.reduceMul, Int.reducePow, Int.reduceNeg, Int.reduceLE, Int.reduceLT, Int.cast_ofNat_Int, Int.toNat_natCast, Int.reduceToNat, List.map_cons, List.map_nil, List.length_cons, List.length_nil, List.getElem?_cons_zero, List.getElem?_cons_succ, List.set_cons_zero, List.set_cons_succ, List.any_cons, List.any_nil, List.replicate, List.cons_append, List.nil_append, String.reduceBEq, Bool.or_false, Bool.false_or, Bool.or_true, Bool.true_or, Bool.and_true, Bool.true_and, Bool.and_false, Bool.false_and, Bool.not_true, Bool.not_false, forall_const, true_implies, false_implies, implies_true, reduceCtorEq, and_true, true_and, and_false, false_and, if_true, if_false, ite_true, ite_false, not_true_eq_false, not_false_eq_true, Bool.true_eq_false, Bool.false_eq_true, bne_self_eq_false, Bool.not_eq_true', Bool.not_eq_false', Option.some.injEq, exists_eq_left, exists_eq_left', List.zip_cons_cons, List.zip_nil_left, List.zip_nil_right, keyD, Option.getD_some, Option.getD_none, patchErr]
theorem law_due_wp [Has T pr "_law_whole" Lib.f__law_whole] [Has T pr "_law_operands" Lib.f__law_operands] [Has T pr "_law_reads" Lib.f__law_reads] [Has T pr "_law_due" Lib.f__law_due] {xs : List PyData} {v : PyData} (hx : OpsAt 0 xs) (hl : xs.length ≤ 1000) : callW (wpF T pr (k + 3)) "_law_due" [.d (.tuple xs), .d v] Q X ↔ Q (patchErr (reads 0 xs).length v) := by
  rw [wpF_at Lib.f__law_due]
  cases v with
  | tuple ys =>
    simp -dsimp only [Lib.f__law_due, Lib.b__law_due, ↓getW_0, ↓getW_1, ↓getW_2, ↓wpSs, ↓wpS, ↓wpV, ↓wpE, ↓wpEs, ↓wpAs, ↓wpI, ↓wpP, ↓wpC, ↓rdE, ↓rd2, ↓varOf, ↓varC, ↓varB, ↓rdW, ↓argW, ↓ownL, ↓metO, ↓metR, ↓changes, ↓setTgW, setTgsW, wipeW, startW, ↓binW, ↓addW, ↓mulW, ↓subIW, ↓divW, ↓modW, ↓powW, ↓augW, ↓negW, ↓truthW, ↓eqW, ↓ltW, ↓inW, ↓keyW, ↓isW, isNoneD, ↓cmpW, ↓subW, ↓cutW, ↓revW, isiD, tyD, isTy, ↓bi1W, ↓bi2W, ↓bisW, ↓lenW, ↓plainW, ↓rangeW, ↓zipW, partD, dPart, getDefW, mtTy, ↓putW, sizeLine, Nat.zero_le, Nat.reducePow, Nat.reduceLeDiff, Nat.reduceAdd, Nat.reduceSub, Nat.reduceMul, Int.reducePow, Int.reduceNeg, Int.reduceLE, Int.reduceLT, Int.cast_ofNat_Int, Int.toNat_natCast, Int.reduceToNat, List.map_cons, List.map_nil, List.length_cons, List.length_nil, List.getElem?_cons_zero, List.getElem?_cons_succ, List.set_cons_zero, List.set_cons_succ, List.any_cons, List.any_nil, List.replicate, List.cons_append, List.nil_append, String.reduceBEq, Bool.or_false, Bool.false_or, Bool.or_true, Bool.true_or, Bool.and_true, Bool.true_and, Bool.and_false, Bool.false_and, Bool.not_true, Bool.not_false, forall_const, true_implies, false_implies, implies_true, reduceCtorEq, and_true, true_and, and_false, false_and, if_true, if_false, ite_true, ite_false, not_true_eq_false, not_false_eq_true, Bool.true_eq_false, Bool.false_eq_true, bne_self_eq_false, Bool.not_eq_true', Bool.not_eq_false', Option.some.injEq, exists_eq_left, exists_eq_left', List.zip_cons_cons, List.zip_nil_left, List.zip_nil_right, keyD, Option.getD_some, Option.getD_none, ↓law_reads_wp hx hl, patchErr]
    by_cases h : ys.length = (reads 0 xs).length
    · have h' : (ys.length : Int) = ((reads 0 xs).length : Int) := by omega
      have lr := reads_len hx
      have h16 : ys.length ≤ 16777216 := by omega
      simp -dsimp only [h', decide_true, ↓getW_0, ↓getW_1, ↓getW_2, ↓wpSs, ↓wpS, ↓wpV, ↓wpE, ↓wpEs, ↓wpAs, ↓wpI, ↓wpP, ↓wpC, ↓rdE, ↓rd2, ↓varOf, ↓varC, ↓varB, ↓rdW, ↓argW, ↓ownL, ↓metO, ↓metR, ↓changes, ↓setTgW, setTgsW, wipeW, startW, ↓binW, ↓addW, ↓mulW, ↓subIW, ↓divW, ↓modW, ↓powW, ↓augW, ↓negW, ↓truthW, ↓eqW, ↓ltW, ↓inW, ↓keyW, ↓isW, isNoneD, ↓cmpW, ↓subW, ↓cutW, ↓revW, isiD, tyD, isTy, ↓bi1W, ↓bi2W, ↓bisW, ↓lenW, ↓plainW, ↓rangeW, ↓zipW, partD, dPart, getDefW, mtTy, ↓putW, sizeLine, Nat.zero_le, Nat.reducePow, Nat.reduceLeDiff, Nat.reduceAdd, Nat.reduceSub, Nat.reduceMul, Int.reducePow, Int.reduceNeg, Int.reduceLE, Int.reduceLT, Int.cast_ofNat_Int, Int.toNat_natCast, Int.reduceToNat, List.map_cons, List.map_nil, List.length_cons, List.length_nil, List.getElem?_cons_zero, List.getElem?_cons_succ, List.set_cons_zero, List.set_cons_succ, List.any_cons, List.any_nil, List.replicate, List.cons_append, List.nil_append, String.reduceBEq, Bool.or_false, Bool.false_or, Bool.or_true, Bool.true_or, Bool.and_true, Bool.true_and, Bool.and_false, Bool.false_and, Bool.not_true, Bool.not_false, forall_const, true_implies, false_implies, implies_true, reduceCtorEq, and_true, true_and, and_false, false_and, if_true, if_false, ite_true, ite_false, not_true_eq_false, not_false_eq_true, Bool.true_eq_false, Bool.false_eq_true, bne_self_eq_false, Bool.not_eq_true', Bool.not_eq_false', Option.some.injEq, exists_eq_left, exists_eq_left', List.zip_cons_cons, List.zip_nil_left, List.zip_nil_right, keyD, Option.getD_some, Option.getD_none, h16, if_pos h]
      refine forW_enum (R := fun l i => Q (pErr i l)) (I := fun ρ => ∃ a b, ρ = [some (.d (.tuple xs)), some (.d (.tuple ys)), a, b]) ?_ ?_ ys 0 _ ⟨_, _, rfl⟩
      · rintro ρ i ⟨a, b, rfl⟩
        simp -dsimp only [↓getW_0, ↓getW_1, ↓getW_2, ↓wpSs, ↓wpS, ↓wpV, ↓wpE, ↓wpEs, ↓wpAs, ↓wpI, ↓wpP, ↓wpC, ↓rdE, ↓rd2, ↓varOf, ↓varC, ↓varB, ↓rdW, ↓argW, ↓ownL, ↓metO, ↓metR, ↓changes, ↓setTgW, setTgsW, wipeW, startW, ↓binW, ↓addW, ↓mulW, ↓subIW, ↓divW, ↓modW, ↓powW, ↓augW, ↓negW, ↓truthW, ↓eqW, ↓ltW, ↓inW, ↓keyW, ↓isW, isNoneD, ↓cmpW, ↓subW, ↓cutW, ↓revW, isiD, tyD, isTy, ↓bi1W, ↓bi2W, ↓bisW, ↓lenW, ↓plainW, ↓rangeW, ↓zipW, partD, dPart, getDefW, mtTy, ↓putW, sizeLine, Nat.zero_le, Nat.reducePow, Nat.reduceLeDiff, Nat.reduceAdd, Nat.reduceSub, Nat.reduceMul, Int.reducePow, Int.reduceNeg, Int.reduceLE, Int.reduceLT, Int.cast_ofNat_Int, Int.toNat_natCast, Int.reduceToNat, List.map_cons, List.map_nil, List.length_cons, List.length_nil, List.getElem?_cons_zero, List.getElem?_cons_succ, List.set_cons_zero, List.set_cons_succ, List.any_cons, List.any_nil, List.replicate, List.cons_append, List.nil_append, String.reduceBEq, Bool.or_false, Bool.false_or, Bool.or_true, Bool.true_or, Bool.and_true, Bool.true_and, Bool.and_false, Bool.false_and, Bool.not_true, Bool.not_false, forall_const, true_implies, false_implies, implies_true, reduceCtorEq, and_true, true_and, and_false, false_and, if_true, if_false, ite_true, ite_false, not_true_eq_false, not_false_eq_true, Bool.true_eq_false, Bool.false_eq_true, bne_self_eq_false, Bool.not_eq_true', Bool.not_eq_false', Option.some.injEq, exists_eq_left, exists_eq_left', List.zip_cons_cons, List.zip_nil_left, List.zip_nil_right, keyD, Option.getD_some, Option.getD_none, pErr]
      · rintro x r i ρ kn ⟨a, b, rfl⟩ hk
        simp -dsimp only [↓getW_0, ↓getW_1, ↓getW_2, ↓wpSs, ↓wpS, ↓wpV, ↓wpE, ↓wpEs, ↓wpAs, ↓wpI, ↓wpP, ↓wpC, ↓rdE, ↓rd2, ↓varOf, ↓varC, ↓varB, ↓rdW, ↓argW, ↓ownL, ↓metO, ↓metR, ↓changes, ↓setTgW, setTgsW, wipeW, startW, ↓binW, ↓addW, ↓mulW, ↓subIW, ↓divW, ↓modW, ↓powW, ↓augW, ↓negW, ↓truthW, ↓eqW, ↓ltW, ↓inW, ↓keyW, ↓isW, isNoneD, ↓cmpW, ↓subW, ↓cutW, ↓revW, isiD, tyD, isTy, ↓bi1W, ↓bi2W, ↓bisW, ↓lenW, ↓plainW, ↓rangeW, ↓zipW, partD, dPart, getDefW, mtTy, ↓putW, sizeLine, Nat.zero_le, Nat.reducePow, Nat.reduceLeDiff, Nat.reduceAdd, Nat.reduceSub, Nat.reduceMul, Int.reducePow, Int.reduceNeg, Int.reduceLE, Int.reduceLT, Int.cast_ofNat_Int, Int.toNat_natCast, Int.reduceToNat, List.map_cons, List.map_nil, List.length_cons, List.length_nil, List.getElem?_cons_zero, List.getElem?_cons_succ, List.set_cons_zero, List.set_cons_succ, List.any_cons, List.any_nil, List.replicate, List.cons_append, List.nil_append, String.reduceBEq, Bool.or_false, Bool.false_or, Bool.or_true, Bool.true_or, Bool.and_true, Bool.true_and, Bool.and_false, Bool.false_and, Bool.not_true, Bool.not_false, forall_const, true_implies, false_implies, implies_true, reduceCtorEq, and_true, true_and, and_false, false_and, if_true, if_false, ite_true, ite_false, not_true_eq_false, not_false_eq_true, Bool.true_eq_false, Bool.false_eq_true, bne_self_eq_false, Bool.not_eq_true', Bool.not_eq_false', Option.some.injEq, exists_eq_left, exists_eq_left', List.zip_cons_cons, List.zip_nil_left, List.zip_nil_right, keyD, Option.getD_some, Option.getD_none, ↓law_whole_wp, pErr]
        cases isInt x 0 23 with
        | false => simp -dsimp only [↓getW_0, ↓getW_1, ↓getW_2, ↓wpSs, ↓wpS, ↓wpV, ↓wpE, ↓wpEs, ↓wpAs, ↓wpI, ↓wpP, ↓wpC, ↓rdE, ↓rd2, ↓varOf, ↓varC, ↓varB, ↓rdW, ↓argW, ↓ownL, ↓metO, ↓metR, ↓changes, ↓setTgW, setTgsW, wipeW, startW, ↓binW, ↓addW, ↓mulW, ↓subIW, ↓divW, ↓modW, ↓powW, ↓augW, ↓negW, ↓truthW, ↓eqW, ↓ltW, ↓inW, ↓keyW, ↓isW, isNoneD, ↓cmpW, ↓subW, ↓cutW, ↓revW, isiD, tyD, isTy, ↓bi1W, ↓bi2W, ↓bisW, ↓lenW, ↓plainW, ↓rangeW, ↓zipW, partD, dPart, getDefW, mtTy, ↓putW, sizeLine, Nat.zero_le, Nat.reducePow, Nat.reduceLeDiff, Nat.reduceAdd, Nat.reduceSub, Nat.reduceMul, Int.reducePow, Int.reduceNeg, Int.reduceLE, Int.reduceLT, Int.cast_ofNat_Int, Int.toNat_natCast, Int.reduceToNat, List.map_cons, List.map_nil, List.length_cons, List.length_nil, List.getElem?_cons_zero, List.getElem?_cons_succ, List.set_cons_zero, List.set_cons_succ, List.any_cons, List.any_nil, List.replicate, List.cons_append, List.nil_append, String.reduceBEq, Bool.or_false, Bool.false_or, Bool.or_true, Bool.true_or, Bool.and_true, Bool.true_and, Bool.and_false, Bool.false_and, Bool.not_true, Bool.not_false, forall_const, true_implies, false_implies, implies_true, reduceCtorEq, and_true, true_and, and_false, false_and, if_true, if_false, ite_true, ite_false, not_true_eq_false, not_false_eq_true, Bool.true_eq_false, Bool.false_eq_true, bne_self_eq_false, Bool.not_eq_true', Bool.not_eq_false', Option.some.injEq, exists_eq_left, exists_eq_left', List.zip_cons_cons, List.zip_nil_left, List.zip_nil_right, keyD, Option.getD_some, Option.getD_none]
        | true => simp -dsimp only [↓getW_0, ↓getW_1, ↓getW_2, ↓wpSs, ↓wpS, ↓wpV, ↓wpE, ↓wpEs, ↓wpAs, ↓wpI, ↓wpP, ↓wpC, ↓rdE, ↓rd2, ↓varOf, ↓varC, ↓varB, ↓rdW, ↓argW, ↓ownL, ↓metO, ↓metR, ↓changes, ↓setTgW, setTgsW, wipeW, startW, ↓binW, ↓addW, ↓mulW, ↓subIW, ↓divW, ↓modW, ↓powW, ↓augW, ↓negW, ↓truthW, ↓eqW, ↓ltW, ↓inW, ↓keyW, ↓isW, isNoneD, ↓cmpW, ↓subW, ↓cutW, ↓revW, isiD, tyD, isTy, ↓bi1W, ↓bi2W, ↓bisW, ↓lenW, ↓plainW, ↓rangeW, ↓zipW, partD, dPart, getDefW, mtTy, ↓putW, sizeLine, Nat.zero_le, Nat.reducePow, Nat.reduceLeDiff, Nat.reduceAdd, Nat.reduceSub, Nat.reduceMul, Int.reducePow, Int.reduceNeg, Int.reduceLE, Int.reduceLT, Int.cast_ofNat_Int, Int.toNat_natCast, Int.reduceToNat, List.map_cons, List.map_nil, List.length_cons, List.length_nil, List.getElem?_cons_zero, List.getElem?_cons_succ, List.set_cons_zero, List.set_cons_succ, List.any_cons, List.any_nil, List.replicate, List.cons_append, List.nil_append, String.reduceBEq, Bool.or_false, Bool.false_or, Bool.or_true, Bool.true_or, Bool.and_true, Bool.true_and, Bool.and_false, Bool.false_and, Bool.not_true, Bool.not_false, forall_const, true_implies, false_implies, implies_true, reduceCtorEq, and_true, true_and, and_false, false_and, if_true, if_false, ite_true, ite_false, not_true_eq_false, not_false_eq_true, Bool.true_eq_false, Bool.false_eq_true, bne_self_eq_false, Bool.not_eq_true', Bool.not_eq_false', Option.some.injEq, exists_eq_left, exists_eq_left', List.zip_cons_cons, List.zip_nil_left, List.zip_nil_right, keyD, Option.getD_some, Option.getD_none]; exact hk _ ⟨_, _, rfl⟩
    · have h' : ((ys.length : Int) = ((reads 0 xs).length : Int)) = False := by simp; omega
      simp -dsimp only [h', decide_false, ↓getW_0, ↓getW_1, ↓getW_2, ↓wpSs, ↓wpS, ↓wpV, ↓wpE, ↓wpEs, ↓wpAs, ↓wpI, ↓wpP, ↓wpC, ↓rdE, ↓rd2, ↓varOf, ↓varC, ↓varB, ↓rdW, ↓argW, ↓ownL, ↓metO, ↓metR, ↓changes, ↓setTgW, setTgsW, wipeW, startW, ↓binW, ↓addW, ↓mulW, ↓subIW, ↓divW, ↓modW, ↓powW, ↓augW, ↓negW, ↓truthW, ↓eqW, ↓ltW, ↓inW, ↓keyW, ↓isW, isNoneD, ↓cmpW, ↓subW, ↓cutW, ↓revW, isiD, tyD, isTy, ↓bi1W, ↓bi2W, ↓bisW, ↓lenW, ↓plainW, ↓rangeW, ↓zipW, partD, dPart, getDefW, mtTy, ↓putW, sizeLine, Nat.zero_le, Nat.reducePow, Nat.reduceLeDiff, Nat.reduceAdd, Nat.reduceSub, Nat.reduceMul, Int.reducePow, Int.reduceNeg, Int.reduceLE, Int.reduceLT, Int.cast_ofNat_Int, Int.toNat_natCast, Int.reduceToNat, List.map_cons, List.map_nil, List.length_cons, List.length_nil, List.getElem?_cons_zero, List.getElem?_cons_succ, List.set_cons_zero, List.set_cons_succ, List.any_cons, List.any_nil, List.replicate, List.cons_append, List.nil_append, String.reduceBEq, Bool.or_false, Bool.false_or, Bool.or_true, Bool.true_or, Bool.and_true, Bool.true_and, Bool.and_false, Bool.false_and, Bool.not_true, Bool.not_false, forall_const, true_implies, false_implies, implies_true, reduceCtorEq, and_true, true_and, and_false, false_and, if_true, if_false, ite_true, ite_false, not_true_eq_false, not_false_eq_true, Bool.true_eq_false, Bool.false_eq_true, bne_self_eq_false, Bool.not_eq_true', Bool.not_eq_false', Option.some.injEq, exists_eq_left, exists_eq_left', List.zip_cons_cons, List.zip_nil_left, List.zip_nil_right, keyD, Option.getD_some, Option.getD_none, if_neg h]
  | _ => simp -dsimp only [Lib.f__law_due, Lib.b__law_due, ↓getW_0, ↓getW_1, ↓getW_2, ↓wpSs, ↓wpS, ↓wpV, ↓wpE, ↓wpEs, ↓wpAs, ↓wpI, ↓wpP, ↓wpC, ↓rdE, ↓rd2, ↓varOf, ↓varC, ↓varB, ↓rdW, ↓argW, ↓ownL, ↓metO, ↓metR, ↓changes, ↓setTgW, setTgsW, wipeW, startW, ↓binW, ↓addW, ↓mulW, ↓subIW, ↓divW, ↓modW, ↓powW, ↓augW, ↓negW, ↓truthW, ↓eqW, ↓ltW, ↓inW, ↓keyW, ↓isW, isNoneD, ↓cmpW, ↓subW, ↓cutW, ↓revW, isiD, tyD, isTy, ↓bi1W, ↓bi2W, ↓bisW, ↓lenW, ↓plainW, ↓rangeW, ↓zipW, partD, dPart, getDefW, mtTy, ↓putW, sizeLine, Nat.zero_le, Nat.reducePow, Nat.reduceLeDiff, Nat.reduceAdd, Nat.reduceSub, Nat.reduceMul, Int.reducePow, Int.reduceNeg, Int.reduceLE, Int.reduceLT, Int.cast_ofNat_Int, Int.toNat_natCast, Int.reduceToNat, List.map_cons, List.map_nil, List.length_cons, List.length_nil, List.getElem?_cons_zero, List.getElem?_cons_succ, List.set_cons_zero, List.set_cons_succ, List.any_cons, List.any_nil, List.replicate, List.cons_append, List.nil_append, String.reduceBEq, Bool.or_false, Bool.false_or, Bool.or_true, Bool.true_or, Bool.and_true, Bool.true_and, Bool.and_false, Bool.false_and, Bool.not_true, Bool.not_false, forall_const, true_implies, false_implies, implies_true, reduceCtorEq, and_true, true_and, and_false, false_and, if_true, if_false, ite_true, ite_false, not_true_eq_false, not_false_eq_true, Bool.true_eq_false, Bool.false_eq_true, bne_self_eq_false, Bool.not_eq_true', Bool.not_eq_false', Option.some.injEq, exists_eq_left, exists_eq_left', List.zip_cons_cons, List.zip_nil_left, List.zip_nil_right, keyD, Option.getD_some, Option.getD_none, patchErr]
/-! ### chains of copies -/
/-- a loop that carries a state -/
theorem forW_fold {α : Type} {F : PyData → We → (We → Prop) → Prop} {N : We → Prop} {I : Nat → α → We → Prop} {step : α → PyData → α} {P : PyData → Prop} {n : Nat} (h1 : ∀ x i a ρ (kn : We → Prop), P x → i < n → I i a ρ → (∀ ρ', I (i + 1) (step a x) ρ' → kn ρ') → F x ρ kn) : ∀ (xs : List PyData) (i : Nat) (a : α) (ρ : We), i + xs.length = n → (∀ x ∈ xs, P x) → I i a ρ → (∀ ρ', I n (xs.foldl step a) ρ' → N ρ') → forW F N xs ρ
  | [], i, a, ρ, e, _, hI, h => h ρ (e ▸ hI)
  | x :: r, i, a, ρ, e, hP, hI, h => h1 x i a ρ _ (hP x (List.mem_cons_self ..)) (by simp at e; omega) hI fun ρ' hI' => forW_fold h1 r (i + 1) (step a x) ρ' (by simp at e; omega) (fun y hy => hP y (List.mem_cons_of_mem _ hy)) hI' h
theorem lcW_imp {f : PyData → (List PyData → Prop) → Prop} {g : PyData → PyData} : ∀ {xs : List PyData} {R : List PyData → Prop}, (∀ x ∈ xs, ∀ K : List PyData → Prop, K [g x] → f x K) → R (xs.map g) → lcW f xs R
  | [], R, _, h => h
  | x :: r, R, hf, h => hf x (List.mem_cons_self ..) _ (lcW_imp (fun y hy => hf y (List.mem_cons_of_mem _ hy)) h)
theorem lcX_imp {f : PyData → (List PyData → Prop) → Prop} {xs : List PyData} {R : List PyData → Prop} (g : PyData → PyData) (h1 : ∀ x ∈ xs, ∀ K : List PyData → Prop, K [g x] → f x K) (h : R (xs.map g)) : lcX f xs R := lcW_imp h1 h
def stepC (f : Int → Int) : PyData → Int → Int
  | .tuple [.tuple [_, _, .int s], .int m] => fun i => if i = s then (if m > f i then m else f i) else f i
  | _ => f
/-- how many copies each operation has -/
def chF (rs ps : List PyData) : Int → Int := (zipD rs ps).foldl stepC fun _ => 0
def chains (xs ps : List PyData) : List Int := (List.range xs.length).map fun (i : Nat) => chF (reads 0 xs) ps i
/-- a read and a number of copies -/
def ReadN (n : Nat) (x : PyData) : Prop := ∃ (a b : Nat) (s m : Int), x = .tuple [.tuple [.int a, .int b, .int s], .int m] ∧ 0 ≤ s ∧ s < n
theorem zipD_mem : ∀ {xs ys : List PyData} {v : PyData}, v ∈ zipD xs ys → ∃ x y, v = .tuple [x, y] ∧ x ∈ xs ∧ y ∈ ys
  | [], _, v, h => by simp [zipD] at h
  | _ :: _, [], v, h => by simp [zipD] at h
  | x :: r, y :: q, v, h => by
    simp only [zipD, List.mem_cons] at h
    rcases h with rfl | h
    · exact ⟨x, y, rfl, by simp, by simp⟩
    · obtain ⟨a, b, e, h1, h2⟩ := zipD_mem h
      exact ⟨a, b, e, List.mem_cons_of_mem _ h1, List.mem_cons_of_mem _ h2⟩
theorem zipD_len : ∀ {xs ys : List PyData}, (zipD xs ys).length ≤ xs.length
  | [], _ => by simp [zipD]
  | _ :: _, [] => by simp [zipD]
  | x :: r, y :: q => by have := zipD_len (xs := r) (ys := q); simp [zipD]; omega
theorem reads_zip {xs ps : List PyData} (hx : OpsAt 0 xs) (hp : ∀ p ∈ ps, ∃ m : Int, p = .int m) : ∀ v ∈ zipD (reads 0 xs) ps, ReadN xs.length v := by
  intro v hv
  obtain ⟨x, y, rfl, h1, h2⟩ := zipD_mem hv
  obtain ⟨a, b, s, rfl, s0, s1, s2⟩ := reads_mem hx h1
  obtain ⟨m, rfl⟩ := hp y h2
  exact ⟨a, b, s, m, rfl, s0, by omega⟩
theorem look_put {k k' : L2.Key} {v : PyData} : ∀ {kvs : List (PyData × PyData)}, lookD k (putD k' v kvs) = if k' = k then some v else lookD k kvs
  | [] => by simp [putD, lookD, keyOf_Dw]
  | (j, w) :: r => by
    unfold putD
    by_cases h : keyOf j = some k'
    · rw [if_pos h, lookD_cons, lookD_cons, h]
      by_cases e : k' = k <;> simp [e]
    · rw [if_neg h, lookD_cons, lookD_cons, look_put]
      by_cases e : k' = k
      · subst e; simp [h]
      · simp [e]
theorem put_len {k : L2.Key} {v : PyData} : ∀ {kvs : List (PyData × PyData)}, (putD k v kvs).length ≤ kvs.length + 1
  | [] => by simp [putD]
  | (j, w) :: r => by
    unfold putD
    have := put_len (k := k) (v := v) (kvs := r)
    split <;> simp <;> omega
theorem lookD_get {kvs : List (PyData × PyData)} {f : Int → Int} (h : ∀ i : Int, (lookD (.inl i) kvs).getD (.int 0) = .int (f i)) (i : Int) : ((lookD (.inl i) kvs).getD (.int 0)) = .int (f i) := h i
theorem chains_of_wp [hO : HasC T "OPERANDS" operandsD] [Has T pr "operands_of" Lib.f_operands_of] [Has T pr "reads_of" Lib.f_reads_of] [Has T pr "chains_of" Lib.f_chains_of] {xs ps : List PyData} (hx : OpsAt 0 xs) (hl : xs.length ≤ 1000) (hp : ∀ p ∈ ps, ∃ m : Int, p = .int m) (h : Q (.list ((chains xs ps).map .int))) : callW (wpF T pr (k + 3)) "chains_of" [.d (.tuple xs), .d (.tuple ps)] Q X := by
  rw [wpF_at Lib.f_chains_of]
  have lr := reads_len hx
  have h16 : (reads 0 xs).length ≤ 16777216 := by omega
  simp -dsimp only [Lib.f_chains_of, Lib.b_chains_of, ↓getW_0, ↓getW_1, ↓getW_2, ↓wpSs, ↓wpS, ↓wpV, ↓wpE, ↓wpEs, ↓wpAs, ↓wpI, ↓wpP, ↓wpC, ↓rdE, ↓rd2, ↓varOf, ↓varC, ↓varB, ↓rdW, ↓argW, ↓ownL, ↓metO, ↓metR, ↓changes, ↓setTgW, setTgsW, wipeW, startW, ↓binW, ↓addW, ↓mulW, ↓subIW, ↓divW, ↓modW, ↓powW, ↓augW, ↓negW, ↓truthW, ↓eqW, ↓ltW, ↓inW, ↓keyW, ↓isW, isNoneD, ↓cmpW, ↓subW, ↓cutW, ↓revW, isiD, tyD, isTy, ↓bi1W, ↓bi2W, ↓bisW, ↓lenW, ↓plainW, ↓rangeW, ↓zipW, partD, dPart, getDefW, mtTy, ↓putW, sizeLine, Nat.zero_le, Nat.reducePow, Nat.reduceLeDiff, Nat.reduceAdd, Nat.reduceSub, Nat.reduceMul, Int.reducePow, Int.reduceNeg, Int.reduceLE, Int.reduceLT, Int.cast_ofNat_Int, Int.toNat_natCast, Int.reduceToNat, List.map_cons, List.map_nil, List.length_cons, List.length_nil, List.getElem?_cons_zero, List.getElem?_cons_succ, List.set_cons_zero, List.set_cons_succ, List.any_cons, List.any_nil, List.replicate, List.cons_append, List.nil_append, String.reduceBEq, Bool.or_false, Bool.false_or, Bool.or_true, Bool.true_or, Bool.and_true, Bool.true_and, Bool.and_false, Bool.false_and, Bool.not_true, Bool.not_false, forall_const, true_implies, false_implies, implies_true, reduceCtorEq, and_true, true_and, and_false, false_and, if_true, if_false, ite_true, ite_false, not_true_eq_false, not_false_eq_true, Bool.true_eq_false, Bool.false_eq_true, bne_self_eq_false, Bool.not_eq_true', Bool.not_eq_false', Option.some.injEq, exists_eq_left, exists_eq_left', List.zip_cons_cons, List.zip_nil_left, List.zip_nil_right, keyD, Option.getD_some, Option.getD_none, List.nodup_nil, ↓reads_of_wp hx hl, h16]
  have lz := zipD_len (xs := reads 0 xs) (ys := ps)
  refine forW_fold (I := fun i f ρ => ∃ kvs a b c d e, ρ = [some (.d (.tuple xs)), some (.d (.tuple ps)), some (.o (.dict kvs)), a, b, c, d, e] ∧ kvs.length ≤ i ∧ ∀ i : Int, (lookD (.inl i) kvs).getD (.int 0) = .int (f i)) (step := stepC) (P := ReadN xs.length) ?_ _ 0 (fun _ => 0) _ (Nat.zero_add _) (reads_zip hx hp) ⟨[], _, _, _, _, _, rfl, by simp, fun i => rfl⟩ ?_
  · rintro x i f ρ kn ⟨a, b, s, m, rfl, s0, s1⟩ hi ⟨kvs, a', b', c, d, e, rfl, l1, hf⟩ hk
    have l3 : kvs.length < 16777216 := by omega
    simp -dsimp only [↓getW_0, ↓getW_1, ↓getW_2, ↓wpSs, ↓wpS, ↓wpV, ↓wpE, ↓wpEs, ↓wpAs, ↓wpI, ↓wpP, ↓wpC, ↓rdE, ↓rd2, ↓varOf, ↓varC, ↓varB, ↓rdW, ↓argW, ↓ownL, ↓metO, ↓metR, ↓changes, ↓setTgW, setTgsW, wipeW, startW, ↓binW, ↓addW, ↓mulW, ↓subIW, ↓divW, ↓modW, ↓powW, ↓augW, ↓negW, ↓truthW, ↓eqW, ↓ltW, ↓inW, ↓keyW, ↓isW, isNoneD, ↓cmpW, ↓subW, ↓cutW, ↓revW, isiD, tyD, isTy, ↓bi1W, ↓bi2W, ↓bisW, ↓lenW, ↓plainW, ↓rangeW, ↓zipW, partD, dPart, getDefW, mtTy, ↓putW, sizeLine, Nat.zero_le, Nat.reducePow, Nat.reduceLeDiff, Nat.reduceAdd, Nat.reduceSub, Nat.reduceMul, Int.reducePow, Int.reduceNeg, Int.reduceLE, Int.reduceLT, Int.cast_ofNat_Int, Int.toNat_natCast, Int.reduceToNat, List.map_cons, List.map_nil, List.length_cons, List.length_nil, List.getElem?_cons_zero, List.getElem?_cons_succ, List.set_cons_zero, List.set_cons_succ, List.any_cons, List.any_nil, List.replicate, List.cons_append, List.nil_append, String.reduceBEq, Bool.or_false, Bool.false_or, Bool.or_true, Bool.true_or, Bool.and_true, Bool.true_and, Bool.and_false, Bool.false_and, Bool.not_true, Bool.not_false, forall_const, true_implies, false_implies, implies_true, reduceCtorEq, and_true, true_and, and_false, false_and, if_true, if_false, ite_true, ite_false, not_true_eq_false, not_false_eq_true, Bool.true_eq_false, Bool.false_eq_true, bne_self_eq_false, Bool.not_eq_true', Bool.not_eq_false', Option.some.injEq, exists_eq_left, exists_eq_left', List.zip_cons_cons, List.zip_nil_left, List.zip_nil_right, keyD, Option.getD_some, Option.getD_none, hf, l3]
    refine hk _ ⟨_, _, _, _, _, _, rfl, ?_, fun j => ?_⟩
    · have := put_len (k := .inl s) (v := .int (if m > f s then m else f s)) (kvs := kvs)
      omega
    · rw [look_put]
      by_cases e : s = j
      · subst e; simp [stepC]
      · have e2 : (Sum.inl s : L2.Key) ≠ Sum.inl j := fun q => e (Sum.inl.inj q)
        rw [if_neg e2, hf]
        simp [stepC, Ne.symm e]
  · rintro ρ ⟨kvs, a, b, c, d, e, rfl, l1, hf⟩
    simp -dsimp only [↓getW_0, ↓getW_1, ↓getW_2, ↓wpSs, ↓wpS, ↓wpV, ↓wpE, ↓wpEs, ↓wpAs, ↓wpI, ↓wpP, ↓wpC, ↓rdE, ↓rd2, ↓varOf, ↓varC, ↓varB, ↓rdW, ↓argW, ↓ownL, ↓metO, ↓metR, ↓changes, ↓setTgW, setTgsW, wipeW, startW, ↓binW, ↓addW, ↓mulW, ↓subIW, ↓divW, ↓modW, ↓powW, ↓augW, ↓negW, ↓truthW, ↓eqW, ↓ltW, ↓inW, ↓keyW, ↓isW, isNoneD, ↓cmpW, ↓subW, ↓cutW, ↓revW, isiD, tyD, isTy, ↓bi1W, ↓bi2W, ↓bisW, ↓lenW, ↓plainW, ↓rangeW, ↓zipW, partD, dPart, getDefW, mtTy, ↓putW, sizeLine, Nat.zero_le, Nat.reducePow, Nat.reduceLeDiff, Nat.reduceAdd, Nat.reduceSub, Nat.reduceMul, Int.reducePow, Int.reduceNeg, Int.reduceLE, Int.reduceLT, Int.cast_ofNat_Int, Int.toNat_natCast, Int.reduceToNat, List.map_cons, List.map_nil, List.length_cons, List.length_nil, List.getElem?_cons_zero, List.getElem?_cons_succ, List.set_cons_zero, List.set_cons_succ, List.any_cons, List.any_nil, List.replicate, List.cons_append, List.nil_append, String.reduceBEq, Bool.or_false, Bool.false_or, Bool.or_true, Bool.true_or, Bool.and_true, Bool.true_and, Bool.and_false, Bool.false_and, Bool.not_true, Bool.not_false, forall_const, true_implies, false_implies, implies_true, reduceCtorEq, and_true, true_and, and_false, false_and, if_true, if_false, ite_true, ite_false, not_true_eq_false, not_false_eq_true, Bool.true_eq_false, Bool.false_eq_true, bne_self_eq_false, Bool.not_eq_true', Bool.not_eq_false', Option.some.injEq, exists_eq_left, exists_eq_left', List.zip_cons_cons, List.zip_nil_left, List.zip_nil_right, keyD, Option.getD_some, Option.getD_none]
    refine ⟨by omega, by omega, ?_⟩
    rw [lcX_map (g := fun v => match v with | .int i => .int (chF (reads 0 xs) ps i) | v => v) fun x hx K => by
      obtain ⟨j, _, rfl⟩ := List.mem_map.mp hx
      simp -dsimp only [↓getW_0, ↓getW_1, ↓getW_2, ↓wpSs, ↓wpS, ↓wpV, ↓wpE, ↓wpEs, ↓wpAs, ↓wpI, ↓wpP, ↓wpC, ↓rdE, ↓rd2, ↓varOf, ↓varC, ↓varB, ↓rdW, ↓argW, ↓ownL, ↓metO, ↓metR, ↓changes, ↓setTgW, setTgsW, wipeW, startW, ↓binW, ↓addW, ↓mulW, ↓subIW, ↓divW, ↓modW, ↓powW, ↓augW, ↓negW, ↓truthW, ↓eqW, ↓ltW, ↓inW, ↓keyW, ↓isW, isNoneD, ↓cmpW, ↓subW, ↓cutW, ↓revW, isiD, tyD, isTy, ↓bi1W, ↓bi2W, ↓bisW, ↓lenW, ↓plainW, ↓rangeW, ↓zipW, partD, dPart, getDefW, mtTy, ↓putW, sizeLine, Nat.zero_le, Nat.reducePow, Nat.reduceLeDiff, Nat.reduceAdd, Nat.reduceSub, Nat.reduceMul, Int.reducePow, Int.reduceNeg, Int.reduceLE, Int.reduceLT, Int.cast_ofNat_Int, Int.toNat_natCast, Int.reduceToNat, List.map_cons, List.map_nil, List.length_cons, List.length_nil, List.getElem?_cons_zero, List.getElem?_cons_succ, List.set_cons_zero, List.set_cons_succ, List.any_cons, List.any_nil, List.replicate, List.cons_append, List.nil_append, String.reduceBEq, Bool.or_false, Bool.false_or, Bool.or_true, Bool.true_or, Bool.and_true, Bool.true_and, Bool.and_false, Bool.false_and, Bool.not_true, Bool.not_false, forall_const, true_implies, false_implies, implies_true, reduceCtorEq, and_true, true_and, and_false, false_and, if_true, if_false, ite_true, ite_false, not_true_eq_false, not_false_eq_true, Bool.true_eq_false, Bool.false_eq_true, bne_self_eq_false, Bool.not_eq_true', Bool.not_eq_false', Option.some.injEq, exists_eq_left, exists_eq_left', List.zip_cons_cons, List.zip_nil_left, List.zip_nil_right, keyD, Option.getD_some, Option.getD_none, hf]
      rfl]
    rw [List.map_map]
    unfold chains at h
    rw [List.map_map] at h
    exact h
theorem intsD_map {ns : List Int} : intsD (ns.map .int) = some ns := by
  induction ns with
  | nil => rfl
  | cons n r ih => simp [intsD, ih]
theorem intsW_map {ns : List Int} {R : List Int → Prop} : intsW (.list (ns.map .int)) R ↔ R ns := by
  show (∃ bs, intsD _ = some bs ∧ _) ↔ _
  rw [intsD_map]
  simp
def copies (xs ps : List PyData) : Int := (chains xs ps).sum
theorem copies_in_wp [hO : HasC T "OPERANDS" operandsD] [Has T pr "operands_of" Lib.f_operands_of] [Has T pr "reads_of" Lib.f_reads_of] [Has T pr "chains_of" Lib.f_chains_of] [Has T pr "copies_in" Lib.f_copies_in] {xs ps : List PyData} (hx : OpsAt 0 xs) (hl : xs.length ≤ 1000) (hp : ∀ p ∈ ps, ∃ m : Int, p = .int m) (h : Q (.int (copies xs ps))) : callW (wpF T pr (k + 4)) "copies_in" [.d (.tuple xs), .d (.tuple ps)] Q X := by
  rw [wpF_at Lib.f_copies_in]
  simp -dsimp only [Lib.f_copies_in, Lib.b_copies_in, ↓getW_0, ↓getW_1, ↓getW_2, ↓wpSs, ↓wpS, ↓wpV, ↓wpE, ↓wpEs, ↓wpAs, ↓wpI, ↓wpP, ↓wpC, ↓rdE, ↓rd2, ↓varOf, ↓varC, ↓varB, ↓rdW, ↓argW, ↓ownL, ↓metO, ↓metR, ↓changes, ↓setTgW, setTgsW, wipeW, startW, ↓binW, ↓addW, ↓mulW, ↓subIW, ↓divW, ↓modW, ↓powW, ↓augW, ↓negW, ↓truthW, ↓eqW, ↓ltW, ↓inW, ↓keyW, ↓isW, isNoneD, ↓cmpW, ↓subW, ↓cutW, ↓revW, isiD, tyD, isTy, ↓bi1W, ↓bi2W, ↓bisW, ↓lenW, ↓plainW, ↓rangeW, ↓zipW, partD, dPart, getDefW, mtTy, ↓putW, sizeLine, Nat.zero_le, Nat.reducePow, Nat.reduceLeDiff, Nat.reduceAdd, Nat.reduceSub, Nat.reduceMul, Int.reducePow, Int.reduceNeg, Int.reduceLE, Int.reduceLT, Int.cast_ofNat_Int, Int.toNat_natCast, Int.reduceToNat, List.map_cons, List.map_nil, List.length_cons, List.length_nil, List.getElem?_cons_zero, List.getElem?_cons_succ, List.set_cons_zero, List.set_cons_succ, List.any_cons, List.any_nil, List.replicate, List.cons_append, List.nil_append, String.reduceBEq, Bool.or_false, Bool.false_or, Bool.or_true, Bool.true_or, Bool.and_true, Bool.true_and, Bool.and_false, Bool.false_and, Bool.not_true, Bool.not_false, forall_const, true_implies, false_implies, implies_true, reduceCtorEq, and_true, true_and, and_false, false_and, if_true, if_false, ite_true, ite_false, not_true_eq_false, not_false_eq_true, Bool.true_eq_false, Bool.false_eq_true, bne_self_eq_false, Bool.not_eq_true', Bool.not_eq_false', Option.some.injEq, exists_eq_left, exists_eq_left', List.zip_cons_cons, List.zip_nil_left, List.zip_nil_right, keyD, Option.getD_some, Option.getD_none]
  refine chains_of_wp hx hl hp ?_
  simp -dsimp only [↓getW_0, ↓getW_1, ↓getW_2, ↓wpSs, ↓wpS, ↓wpV, ↓wpE, ↓wpEs, ↓wpAs, ↓wpI, ↓wpP, ↓wpC, ↓rdE, ↓rd2, ↓varOf, ↓varC, ↓varB, ↓rdW, ↓argW, ↓ownL, ↓metO, ↓metR, ↓changes, ↓setTgW, setTgsW, wipeW, startW, ↓binW, ↓addW, ↓mulW, ↓subIW, ↓divW, ↓modW, ↓powW, ↓augW, ↓negW, ↓truthW, ↓eqW, ↓ltW, ↓inW, ↓keyW, ↓isW, isNoneD, ↓cmpW, ↓subW, ↓cutW, ↓revW, isiD, tyD, isTy, ↓bi1W, ↓bi2W, ↓bisW, ↓lenW, ↓plainW, ↓rangeW, ↓zipW, partD, dPart, getDefW, mtTy, ↓putW, sizeLine, Nat.zero_le, Nat.reducePow, Nat.reduceLeDiff, Nat.reduceAdd, Nat.reduceSub, Nat.reduceMul, Int.reducePow, Int.reduceNeg, Int.reduceLE, Int.reduceLT, Int.cast_ofNat_Int, Int.toNat_natCast, Int.reduceToNat, List.map_cons, List.map_nil, List.length_cons, List.length_nil, List.getElem?_cons_zero, List.getElem?_cons_succ, List.set_cons_zero, List.set_cons_succ, List.any_cons, List.any_nil, List.replicate, List.cons_append, List.nil_append, String.reduceBEq, Bool.or_false, Bool.false_or, Bool.or_true, Bool.true_or, Bool.and_true, Bool.true_and, Bool.and_false, Bool.false_and, Bool.not_true, Bool.not_false, forall_const, true_implies, false_implies, implies_true, reduceCtorEq, and_true, true_and, and_false, false_and, if_true, if_false, ite_true, ite_false, not_true_eq_false, not_false_eq_true, Bool.true_eq_false, Bool.false_eq_true, bne_self_eq_false, Bool.not_eq_true', Bool.not_eq_false', Option.some.injEq, exists_eq_left, exists_eq_left', List.zip_cons_cons, List.zip_nil_left, List.zip_nil_right, keyD, Option.getD_some, Option.getD_none, intsW_map]
  exact h
theorem fill0 : ∀ (n : Nat) (f : Nat → PyData), (∀ i, f i = .int 0) → (List.replicate n [PyData.int 0]).flatten = (List.range n).map f := by
  intro n f hf
  have : f = fun _ => .int 0 := funext hf
  subst this
  rw [List.map_const', List.length_range]
  induction n with
  | zero => rfl
  | succ n ih => simp [List.replicate_succ, ih]
theorem ixN_at {n : Nat} {i : Int} (h0 : 0 ≤ i) (h1 : i < n) : L2.ixN n i = some i.toNat := by
  unfold L2.ixN
  rw [if_pos h0, if_pos (by omega)]
theorem law_copies_wp [Has T pr "_law_operands" Lib.f__law_operands] [Has T pr "_law_reads" Lib.f__law_reads] [Has T pr "_law_copies" Lib.f__law_copies] {xs ps : List PyData} (hx : OpsAt 0 xs) (hl : xs.length ≤ 1000) (hp : ∀ p ∈ ps, ∃ m : Int, p = .int m) (h : Q (.int (copies xs ps))) : callW (wpF T pr (k + 3)) "_law_copies" [.d (.tuple xs), .d (.tuple ps)] Q X := by
  rw [wpF_at Lib.f__law_copies]
  have lr := reads_len hx
  have h16 : (reads 0 xs).length ≤ 16777216 := by omega
  simp -dsimp only [Lib.f__law_copies, Lib.b__law_copies, ↓getW_0, ↓getW_1, ↓getW_2, ↓wpSs, ↓wpS, ↓wpV, ↓wpE, ↓wpEs, ↓wpAs, ↓wpI, ↓wpP, ↓wpC, ↓rdE, ↓rd2, ↓varOf, ↓varC, ↓varB, ↓rdW, ↓argW, ↓ownL, ↓metO, ↓metR, ↓changes, ↓setTgW, setTgsW, wipeW, startW, ↓binW, ↓addW, ↓mulW, ↓subIW, ↓divW, ↓modW, ↓powW, ↓augW, ↓negW, ↓truthW, ↓eqW, ↓ltW, ↓inW, ↓keyW, ↓isW, isNoneD, ↓cmpW, ↓subW, ↓cutW, ↓revW, isiD, tyD, isTy, ↓bi1W, ↓bi2W, ↓bisW, ↓lenW, ↓plainW, ↓rangeW, ↓zipW, partD, dPart, getDefW, mtTy, ↓putW, sizeLine, Nat.zero_le, Nat.reducePow, Nat.reduceLeDiff, Nat.reduceAdd, Nat.reduceSub, Nat.reduceMul, Int.reducePow, Int.reduceNeg, Int.reduceLE, Int.reduceLT, Int.cast_ofNat_Int, Int.toNat_natCast, Int.reduceToNat, List.map_cons, List.map_nil, List.length_cons, List.length_nil, List.getElem?_cons_zero, List.getElem?_cons_succ, List.set_cons_zero, List.set_cons_succ, List.any_cons, List.any_nil, List.replicate, List.cons_append, List.nil_append, String.reduceBEq, Bool.or_false, Bool.false_or, Bool.or_true, Bool.true_or, Bool.and_true, Bool.true_and, Bool.and_false, Bool.false_and, Bool.not_true, Bool.not_false, forall_const, true_implies, false_implies, implies_true, reduceCtorEq, and_true, true_and, and_false, false_and, if_true, if_false, ite_true, ite_false, not_true_eq_false, not_false_eq_true, Bool.true_eq_false, Bool.false_eq_true, bne_self_eq_false, Bool.not_eq_true', Bool.not_eq_false', Option.some.injEq, exists_eq_left, exists_eq_left', List.zip_cons_cons, List.zip_nil_left, List.zip_nil_right, keyD, Option.getD_some, Option.getD_none, ↓binLW, ↓law_reads_wp hx hl, h16]
  repeat refine And.intro (by omega) ?_
  rw [fill0 xs.length (fun (i : Nat) => .int ((fun _ => 0 : Int → Int) i)) fun i => rfl]
  refine forW_fold (I := fun i f ρ => ∃ a b, ρ = [some (.d (.tuple xs)), some (.d (.tuple ps)), some (.o (.list ((List.range xs.length).map fun (i : Nat) => .int (f i)))), a, b]) (step := stepC) (P := ReadN xs.length) ?_ _ 0 (fun _ => 0) _ (Nat.zero_add _) (reads_zip hx hp) ⟨_, _, rfl⟩ ?_
  · rintro x i f ρ kn ⟨a, b, s, m, rfl, s0, s1⟩ hi ⟨a', b', rfl⟩ hk
    simp -dsimp only [↓getW_0, ↓getW_1, ↓getW_2, ↓wpSs, ↓wpS, ↓wpV, ↓wpE, ↓wpEs, ↓wpAs, ↓wpI, ↓wpP, ↓wpC, ↓rdE, ↓rd2, ↓varOf, ↓varC, ↓varB, ↓rdW, ↓argW, ↓ownL, ↓metO, ↓metR, ↓changes, ↓setTgW, setTgsW, wipeW, startW, ↓binW, ↓addW, ↓mulW, ↓subIW, ↓divW, ↓modW, ↓powW, ↓augW, ↓negW, ↓truthW, ↓eqW, ↓ltW, ↓inW, ↓keyW, ↓isW, isNoneD, ↓cmpW, ↓subW, ↓cutW, ↓revW, isiD, tyD, isTy, ↓bi1W, ↓bi2W, ↓bisW, ↓lenW, ↓plainW, ↓rangeW, ↓zipW, partD, dPart, getDefW, mtTy, ↓putW, sizeLine, Nat.zero_le, Nat.reducePow, Nat.reduceLeDiff, Nat.reduceAdd, Nat.reduceSub, Nat.reduceMul, Int.reducePow, Int.reduceNeg, Int.reduceLE, Int.reduceLT, Int.cast_ofNat_Int, Int.toNat_natCast, Int.reduceToNat, List.map_cons, List.map_nil, List.length_cons, List.length_nil, List.getElem?_cons_zero, List.getElem?_cons_succ, List.set_cons_zero, List.set_cons_succ, List.any_cons, List.any_nil, List.replicate, List.cons_append, List.nil_append, String.reduceBEq, Bool.or_false, Bool.false_or, Bool.or_true, Bool.true_or, Bool.and_true, Bool.true_and, Bool.and_false, Bool.false_and, Bool.not_true, Bool.not_false, forall_const, true_implies, false_implies, implies_true, reduceCtorEq, and_true, true_and, and_false, false_and, if_true, if_false, ite_true, ite_false, not_true_eq_false, not_false_eq_true, Bool.true_eq_false, Bool.false_eq_true, bne_self_eq_false, Bool.not_eq_true', Bool.not_eq_false', Option.some.injEq, exists_eq_left, exists_eq_left', List.zip_cons_cons, List.zip_nil_left, List.zip_nil_right, keyD, Option.getD_some, Option.getD_none]
    rw [getW_at s0 (by simpa using s1)]
    simp -dsimp only [List.getElem_map, List.getElem_range, ↓getW_0, ↓getW_1, ↓getW_2, ↓wpSs, ↓wpS, ↓wpV, ↓wpE, ↓wpEs, ↓wpAs, ↓wpI, ↓wpP, ↓wpC, ↓rdE, ↓rd2, ↓varOf, ↓varC, ↓varB, ↓rdW, ↓argW, ↓ownL, ↓metO, ↓metR, ↓changes, ↓setTgW, setTgsW, wipeW, startW, ↓binW, ↓addW, ↓mulW, ↓subIW, ↓divW, ↓modW, ↓powW, ↓augW, ↓negW, ↓truthW, ↓eqW, ↓ltW, ↓inW, ↓keyW, ↓isW, isNoneD, ↓cmpW, ↓subW, ↓cutW, ↓revW, isiD, tyD, isTy, ↓bi1W, ↓bi2W, ↓bisW, ↓lenW, ↓plainW, ↓rangeW, ↓zipW, partD, dPart, getDefW, mtTy, ↓putW, sizeLine, Nat.zero_le, Nat.reducePow, Nat.reduceLeDiff, Nat.reduceAdd, Nat.reduceSub, Nat.reduceMul, Int.reducePow, Int.reduceNeg, Int.reduceLE, Int.reduceLT, Int.cast_ofNat_Int, Int.toNat_natCast, Int.reduceToNat, List.map_cons, List.map_nil, List.length_cons, List.length_nil, List.getElem?_cons_zero, List.getElem?_cons_succ, List.set_cons_zero, List.set_cons_succ, List.any_cons, List.any_nil, List.replicate, List.cons_append, List.nil_append, String.reduceBEq, Bool.or_false, Bool.false_or, Bool.or_true, Bool.true_or, Bool.and_true, Bool.true_and, Bool.and_false, Bool.false_and, Bool.not_true, Bool.not_false, forall_const, true_implies, false_implies, implies_true, reduceCtorEq, and_true, true_and, and_false, false_and, if_true, if_false, ite_true, ite_false, not_true_eq_false, not_false_eq_true, Bool.true_eq_false, Bool.false_eq_true, bne_self_eq_false, Bool.not_eq_true', Bool.not_eq_false', Option.some.injEq, exists_eq_left, exists_eq_left', List.zip_cons_cons, List.zip_nil_left, List.zip_nil_right, keyD, Option.getD_some, Option.getD_none, List.length_map, List.length_range, ixN_at s0 s1]
    have e : (s.toNat : Int) = s := Int.toNat_of_nonneg s0
    have e2 : ((List.range xs.length).map fun (i : Nat) => PyData.int (f i)).set s.toNat (PyData.int (if m > f s.toNat then m else f s.toNat)) = (List.range xs.length).map fun (i : Nat) => PyData.int (stepC f (.tuple [.tuple [.int a, .int b, .int s], .int m]) i) := by
      apply List.ext_getElem
      · simp
      · intro j h1 h2
        simp [List.getElem_set, stepC, e]
        by_cases q : s.toNat = j
        · have q2 : (j : Int) = s := by omega
          simp [q, q2]
        · have q2 : ¬ (j : Int) = s := by omega
          simp [q, q2]
    rw [e2]
    exact hk _ ⟨_, _, rfl⟩
  · rintro ρ ⟨a, b, rfl⟩
    have e : ((List.range xs.length).map fun (i : Nat) => PyData.int (List.foldl stepC (fun _ => 0) (zipD (reads 0 xs) ps) i)) = (chains xs ps).map .int := by
      unfold chains
      rw [List.map_map]
      rfl
    rw [e]
    simp -dsimp only [↓getW_0, ↓getW_1, ↓getW_2, ↓wpSs, ↓wpS, ↓wpV, ↓wpE, ↓wpEs, ↓wpAs, ↓wpI, ↓wpP, ↓wpC, ↓rdE, ↓rd2, ↓varOf, ↓varC, ↓varB, ↓rdW, ↓argW, ↓ownL, ↓metO, ↓metR, ↓changes, ↓setTgW, setTgsW, wipeW, startW, ↓binW, ↓addW, ↓mulW, ↓subIW, ↓divW, ↓modW, ↓powW, ↓augW, ↓negW, ↓truthW, ↓eqW, ↓ltW, ↓inW, ↓keyW, ↓isW, isNoneD, ↓cmpW, ↓subW, ↓cutW, ↓revW, isiD, tyD, isTy, ↓bi1W, ↓bi2W, ↓bisW, ↓lenW, ↓plainW, ↓rangeW, ↓zipW, partD, dPart, getDefW, mtTy, ↓putW, sizeLine, Nat.zero_le, Nat.reducePow, Nat.reduceLeDiff, Nat.reduceAdd, Nat.reduceSub, Nat.reduceMul, Int.reducePow, Int.reduceNeg, Int.reduceLE, Int.reduceLT, Int.cast_ofNat_Int, Int.toNat_natCast, Int.reduceToNat, List.map_cons, List.map_nil, List.length_cons, List.length_nil, List.getElem?_cons_zero, List.getElem?_cons_succ, List.set_cons_zero, List.set_cons_succ, List.any_cons, List.any_nil, List.replicate, List.cons_append, List.nil_append, String.reduceBEq, Bool.or_false, Bool.false_or, Bool.or_true, Bool.true_or, Bool.and_true, Bool.true_and, Bool.and_false, Bool.false_and, Bool.not_true, Bool.not_false, forall_const, true_implies, false_implies, implies_true, reduceCtorEq, and_true, true_and, and_false, false_and, if_true, if_false, ite_true, ite_false, not_true_eq_false, not_false_eq_true, Bool.true_eq_false, Bool.false_eq_true, bne_self_eq_false, Bool.not_eq_true', Bool.not_eq_false', Option.some.injEq, exists_eq_left, exists_eq_left', List.zip_cons_cons, List.zip_nil_left, List.zip_nil_right, keyD, Option.getD_some, Option.getD_none, intsW_map]
    exact h
end
section
variable {T : Prog} {k : Nat} {Q : PyData → Prop} {X : Wx → Prop}
theorem law_patch_wp [Has T drawP "_law_one" Lib.f__law_one] [Has T drawP "_law_operands" Lib.f__law_operands] [Has T drawP "_law_reads" Lib.f__law_reads] [Has T drawP "_law_patch" Lib.f__law_patch] {xs : List PyData} (hx : OpsAt 0 xs) (hl : xs.length ≤ 1000) (h : ∀ ps : List PyData, ps.length = (reads 0 xs).length → (∀ p ∈ ps, ∃ m : Int, p = .int m ∧ 0 ≤ m ∧ m ≤ 23) → Q (.tuple ps)) : callW (wpF T drawP (k + 4)) "_law_patch" [.box, .d (.tuple xs)] Q X := by
  rw [wpF_at Lib.f__law_patch]
  have lr := reads_len hx
  have h16 : (reads 0 xs).length ≤ 16777216 := by omega
  simp -dsimp only [Lib.f__law_patch, Lib.b__law_patch, ↓getW_0, ↓getW_1, ↓getW_2, ↓wpSs, ↓wpS, ↓wpV, ↓wpE, ↓wpEs, ↓wpAs, ↓wpI, ↓wpP, ↓wpC, ↓rdE, ↓rd2, ↓varOf, ↓varC, ↓varB, ↓rdW, ↓argW, ↓ownL, ↓metO, ↓metR, ↓changes, ↓setTgW, setTgsW, wipeW, startW, ↓binW, ↓addW, ↓mulW, ↓subIW, ↓divW, ↓modW, ↓powW, ↓augW, ↓negW, ↓truthW, ↓eqW, ↓ltW, ↓inW, ↓keyW, ↓isW, isNoneD, ↓cmpW, ↓subW, ↓cutW, ↓revW, isiD, tyD, isTy, ↓bi1W, ↓bi2W, ↓bisW, ↓lenW, ↓plainW, ↓rangeW, ↓zipW, partD, dPart, getDefW, mtTy, ↓putW, sizeLine, Nat.zero_le, Nat.reducePow, Nat.reduceLeDiff, Nat.reduceAdd, Nat.reduceSub, Nat.reduceMul, Int.reducePow, Int.reduceNeg, Int.reduceLE, Int.reduceLT, Int.cast_ofNat_Int, Int.toNat_natCast, Int.reduceToNat, List.map_cons, List.map_nil, List.length_cons, List.length_nil, List.getElem?_cons_zero, List.getElem?_cons_succ, List.set_cons_zero, List.set_cons_succ, List.any_cons, List.any_nil, List.replicate, List.cons_append, List.nil_append, String.reduceBEq, Bool.or_false, Bool.false_or, Bool.or_true, Bool.true_or, Bool.and_true, Bool.true_and, Bool.and_false, Bool.false_and, Bool.not_true, Bool.not_false, forall_const, true_implies, false_implies, implies_true, reduceCtorEq, and_true, true_and, and_false, false_and, if_true, if_false, ite_true, ite_false, not_true_eq_false, not_false_eq_true, Bool.true_eq_false, Bool.false_eq_true, bne_self_eq_false, Bool.not_eq_true', Bool.not_eq_false', Option.some.injEq, exists_eq_left, exists_eq_left', List.zip_cons_cons, List.zip_nil_left, List.zip_nil_right, keyD, Option.getD_some, Option.getD_none, ↓law_reads_wp hx hl, h16]
  refine lcW_each (P := fun p => ∃ m : Int, p = .int m ∧ 0 ≤ m ∧ m ≤ 23) (fun x _ K hK => ?_) fun ps hps hpl => ?_
  · simp -dsimp only [↓getW_0, ↓getW_1, ↓getW_2, ↓wpSs, ↓wpS, ↓wpV, ↓wpE, ↓wpEs, ↓wpAs, ↓wpI, ↓wpP, ↓wpC, ↓rdE, ↓rd2, ↓varOf, ↓varC, ↓varB, ↓rdW, ↓argW, ↓ownL, ↓metO, ↓metR, ↓changes, ↓setTgW, setTgsW, wipeW, startW, ↓binW, ↓addW, ↓mulW, ↓subIW, ↓divW, ↓modW, ↓powW, ↓augW, ↓negW, ↓truthW, ↓eqW, ↓ltW, ↓inW, ↓keyW, ↓isW, isNoneD, ↓cmpW, ↓subW, ↓cutW, ↓revW, isiD, tyD, isTy, ↓bi1W, ↓bi2W, ↓bisW, ↓lenW, ↓plainW, ↓rangeW, ↓zipW, partD, dPart, getDefW, mtTy, ↓putW, sizeLine, Nat.zero_le, Nat.reducePow, Nat.reduceLeDiff, Nat.reduceAdd, Nat.reduceSub, Nat.reduceMul, Int.reducePow, Int.reduceNeg, Int.reduceLE, Int.reduceLT, Int.cast_ofNat_Int, Int.toNat_natCast, Int.reduceToNat, List.map_cons, List.map_nil, List.length_cons, List.length_nil, List.getElem?_cons_zero, List.getElem?_cons_succ, List.set_cons_zero, List.set_cons_succ, List.any_cons, List.any_nil, List.replicate, List.cons_append, List.nil_append, String.reduceBEq, Bool.or_false, Bool.false_or, Bool.or_true, Bool.true_or, Bool.and_true, Bool.true_and, Bool.and_false, Bool.false_and, Bool.not_true, Bool.not_false, forall_const, true_implies, false_implies, implies_true, reduceCtorEq, and_true, true_and, and_false, false_and, if_true, if_false, ite_true, ite_false, not_true_eq_false, not_false_eq_true, Bool.true_eq_false, Bool.false_eq_true, bne_self_eq_false, Bool.not_eq_true', Bool.not_eq_false', Option.some.injEq, exists_eq_left, exists_eq_left', List.zip_cons_cons, List.zip_nil_left, List.zip_nil_right, keyD, Option.getD_some, Option.getD_none, ↓wp_draw]
    intro d d0 d1 d' d0' d1'
    refine law_one_wp (by simp) (by simp) fun v hv => ?_
    simp -dsimp only [↓getW_0, ↓getW_1, ↓getW_2, ↓wpSs, ↓wpS, ↓wpV, ↓wpE, ↓wpEs, ↓wpAs, ↓wpI, ↓wpP, ↓wpC, ↓rdE, ↓rd2, ↓varOf, ↓varC, ↓varB, ↓rdW, ↓argW, ↓ownL, ↓metO, ↓metR, ↓changes, ↓setTgW, setTgsW, wipeW, startW, ↓binW, ↓addW, ↓mulW, ↓subIW, ↓divW, ↓modW, ↓powW, ↓augW, ↓negW, ↓truthW, ↓eqW, ↓ltW, ↓inW, ↓keyW, ↓isW, isNoneD, ↓cmpW, ↓subW, ↓cutW, ↓revW, isiD, tyD, isTy, ↓bi1W, ↓bi2W, ↓bisW, ↓lenW, ↓plainW, ↓rangeW, ↓zipW, partD, dPart, getDefW, mtTy, ↓putW, sizeLine, Nat.zero_le, Nat.reducePow, Nat.reduceLeDiff, Nat.reduceAdd, Nat.reduceSub, Nat.reduceMul, Int.reducePow, Int.reduceNeg, Int.reduceLE, Int.reduceLT, Int.cast_ofNat_Int, Int.toNat_natCast, Int.reduceToNat, List.map_cons, List.map_nil, List.length_cons, List.length_nil, List.getElem?_cons_zero, List.getElem?_cons_succ, List.set_cons_zero, List.set_cons_succ, List.any_cons, List.any_nil, List.replicate, List.cons_append, List.nil_append, String.reduceBEq, Bool.or_false, Bool.false_or, Bool.or_true, Bool.true_or, Bool.and_true, Bool.true_and, Bool.and_false, Bool.false_and, Bool.not_true, Bool.not_false, forall_const, true_implies, false_implies, implies_true, reduceCtorEq, and_true, true_and, and_false, false_and, if_true, if_false, ite_true, ite_false, not_true_eq_false, not_false_eq_true, Bool.true_eq_false, Bool.false_eq_true, bne_self_eq_false, Bool.not_eq_true', Bool.not_eq_false', Option.some.injEq, exists_eq_left, exists_eq_left', List.zip_cons_cons, List.zip_nil_left, List.zip_nil_right, keyD, Option.getD_some, Option.getD_none]
    refine hK v ?_
    simp -dsimp only [List.mem_cons, List.not_mem_nil, or_false] at hv
    rcases hv with rfl | rfl | rfl | rfl | rfl | rfl <;> exact ⟨_, rfl, by omega, by omega⟩
  · have : ps.length ≤ 16777216 := by omega
    simp -dsimp only [↓getW_0, ↓getW_1, ↓getW_2, ↓wpSs, ↓wpS, ↓wpV, ↓wpE, ↓wpEs, ↓wpAs, ↓wpI, ↓wpP, ↓wpC, ↓rdE, ↓rd2, ↓varOf, ↓varC, ↓varB, ↓rdW, ↓argW, ↓ownL, ↓metO, ↓metR, ↓changes, ↓setTgW, setTgsW, wipeW, startW, ↓binW, ↓addW, ↓mulW, ↓subIW, ↓divW, ↓modW, ↓powW, ↓augW, ↓negW, ↓truthW, ↓eqW, ↓ltW, ↓inW, ↓keyW, ↓isW, isNoneD, ↓cmpW, ↓subW, ↓cutW, ↓revW, isiD, tyD, isTy, ↓bi1W, ↓bi2W, ↓bisW, ↓lenW, ↓plainW, ↓rangeW, ↓zipW, partD, dPart, getDefW, mtTy, ↓putW, sizeLine, Nat.zero_le, Nat.reducePow, Nat.reduceLeDiff, Nat.reduceAdd, Nat.reduceSub, Nat.reduceMul, Int.reducePow, Int.reduceNeg, Int.reduceLE, Int.reduceLT, Int.cast_ofNat_Int, Int.toNat_natCast, Int.reduceToNat, List.map_cons, List.map_nil, List.length_cons, List.length_nil, List.getElem?_cons_zero, List.getElem?_cons_succ, List.set_cons_zero, List.set_cons_succ, List.any_cons, List.any_nil, List.replicate, List.cons_append, List.nil_append, String.reduceBEq, Bool.or_false, Bool.false_or, Bool.or_true, Bool.true_or, Bool.and_true, Bool.true_and, Bool.and_false, Bool.false_and, Bool.not_true, Bool.not_false, forall_const, true_implies, false_implies, implies_true, reduceCtorEq, and_true, true_and, and_false, false_and, if_true, if_false, ite_true, ite_false, not_true_eq_false, not_false_eq_true, Bool.true_eq_false, Bool.false_eq_true, bne_self_eq_false, Bool.not_eq_true', Bool.not_eq_false', Option.some.injEq, exists_eq_left, exists_eq_left', List.zip_cons_cons, List.zip_nil_left, List.zip_nil_right, keyD, Option.getD_some, Option.getD_none, this]
    exact h ps hpl hps
end
/-! ### sizes -/
theorem pErr_ok : ∀ (xs : List PyData) (i : Nat), i + xs.length ≤ 1000 → Okv 1 40 (pErr i xs)
  | [], i, h => ok_lit (v := .none) (by decide +kernel)
  | x :: r, i, h => by
    unfold pErr
    split
    · exact pErr_ok r (i + 1) (by simp at h; omega)
    · exact (OkL.cons (ok_n (by omega) (by simp at h; omega)) (OkL.cons (ok_lit (D := 0) (M := 12) (by decide +kernel)) (OkL.nil (M := 0)))).tup.mono (by omega) (by omega)
theorem patchErr_ok {n : Nat} (hn : n ≤ 1000) (v : PyData) : Okv 1 40 (patchErr n v) := by
  unfold patchErr
  split
  · split
    · exact pErr_ok _ 0 (by omega)
    · exact ok_lit (by decide +kernel)
  · exact ok_lit (by decide +kernel)
theorem chF_le {n : Nat} : ∀ (zs : List PyData) (f : Int → Int), (∀ i, 0 ≤ f i ∧ f i ≤ 23) → (∀ z ∈ zs, ∃ (a b : PyData) (s m : Int), z = .tuple [.tuple [a, b, .int s], .int m] ∧ m ≤ 23) → ∀ i, 0 ≤ zs.foldl stepC f i ∧ zs.foldl stepC f i ≤ 23
  | [], f, hf, _, i => hf i
  | z :: r, f, hf, hz, i => by
    refine chF_le (n := n) r (stepC f z) (fun j => ?_) (fun y hy => hz y (List.mem_cons_of_mem _ hy)) i
    obtain ⟨a, b, s, m, rfl, hm⟩ := hz z (List.mem_cons_self ..)
    have := hf j
    show 0 ≤ (if j = s then (if m > f j then m else f j) else f j) ∧ (if j = s then (if m > f j then m else f j) else f j) ≤ 23
    split
    · split <;> omega
    · exact this
theorem chains_le {xs ps : List PyData} (hx : OpsAt 0 xs) (hp : ∀ p ∈ ps, ∃ m : Int, p = .int m ∧ 0 ≤ m ∧ m ≤ 23) : ∀ c ∈ chains xs ps, 0 ≤ c ∧ c ≤ 23 := by
  intro c hc
  unfold chains at hc
  obtain ⟨i, _, rfl⟩ := List.mem_map.mp hc
  refine chF_le (n := 0) _ _ (fun _ => by omega) (fun z hz => ?_) i
  obtain ⟨x, y, rfl, h1, h2⟩ := zipD_mem hz
  obtain ⟨a, b, s, rfl, _⟩ := reads_mem hx h1
  obtain ⟨m, rfl, _, hm⟩ := hp y h2
  exact ⟨_, _, s, m, rfl, hm⟩
theorem sum_le {b : Int} : ∀ (l : List Int), (∀ c ∈ l, 0 ≤ c ∧ c ≤ b) → 0 ≤ l.sum ∧ l.sum ≤ l.length * b
  | [], _ => by simp
  | c :: r, h => by
    have h1 := h c (List.mem_cons_self ..)
    have h2 := sum_le r fun y hy => h y (List.mem_cons_of_mem _ hy)
    simp only [List.sum_cons, List.length_cons]
    rw [show ((r.length + 1 : Nat) : Int) * b = r.length * b + b by rw [Int.natCast_add, Int.add_mul]; simp]
    omega
theorem copies_le {xs ps : List PyData} (hx : OpsAt 0 xs) (hl : xs.length ≤ 24) (hp : ∀ p ∈ ps, ∃ m : Int, p = .int m ∧ 0 ≤ m ∧ m ≤ 23) : 0 ≤ copies xs ps ∧ copies xs ps ≤ 552 := by
  have h := sum_le (b := 23) _ (chains_le hx hp)
  have e : (chains xs ps).length = xs.length := by simp [chains]
  rw [e] at h
  unfold copies
  omega
end Tz

end
section
namespace K74
open PySem Tz
variable {k : Nat} {Q : PyData → Prop} {X : Wx → Prop}
theorem law_wp : wpSs (wpF T drawP 39) T.G T.W (match b_law with | .cons _ r => r | _ => .nil) (none :: some .box :: List.replicate (f_law.names.length - 2) none) (fun _ => False) ⟨fun r => r = .bool true, fun _ => False, fun _ => False, fun _ _ => False⟩ := by
  simp -dsimp only [b_law, f_law, ↓getW_0, ↓getW_1, ↓getW_2, ↓wpSs, ↓wpS, ↓wpV, ↓wpE, ↓wpEs, ↓wpAs, ↓wpI, ↓wpP, ↓wpC, ↓rdE, ↓rd2, ↓varOf, ↓varC, ↓varB, ↓rdW, ↓argW, ↓ownL, ↓metO, ↓metR, ↓changes, ↓setTgW, setTgsW, wipeW, startW, ↓binW, ↓addW, ↓mulW, ↓subIW, ↓divW, ↓modW, ↓powW, ↓augW, ↓negW, ↓truthW, ↓eqW, ↓ltW, ↓inW, ↓keyW, ↓isW, isNoneD, ↓cmpW, ↓subW, ↓cutW, ↓revW, isiD, tyD, isTy, ↓bi1W, ↓bi2W, ↓bisW, ↓lenW, ↓plainW, ↓rangeW, ↓zipW, partD, dPart, getDefW, mtTy, ↓putW, sizeLine, Nat.zero_le, Nat.reducePow, Nat.reduceLeDiff, Nat.reduceAdd, Nat.reduceSub, Nat.reduceMul, Int.reducePow, Int.reduceNeg, Int.reduceLE, Int.reduceLT, Int.cast_ofNat_Int, Int.toNat_natCast, Int.reduceToNat, List.map_cons, List.map_nil, List.length_cons, List.length_nil, List.getElem?_cons_zero, List.getElem?_cons_succ, List.set_cons_zero, List.set_cons_succ, List.any_cons, List.any_nil, List.replicate, List.cons_append, List.nil_append, String.reduceBEq, Bool.or_false, Bool.false_or, Bool.or_true, Bool.true_or, Bool.and_true, Bool.true_and, Bool.and_false, Bool.false_and, Bool.not_true, Bool.not_false, forall_const, true_implies, false_implies, implies_true, reduceCtorEq, and_true, true_and, and_false, false_and, if_true, if_false, ite_true, ite_false, not_true_eq_false, not_false_eq_true, Bool.true_eq_false, Bool.false_eq_true, bne_self_eq_false, Bool.not_eq_true', Bool.not_eq_false', Option.some.injEq, exists_eq_left, exists_eq_left', List.zip_cons_cons, List.zip_nil_left, List.zip_nil_right, keyD, Option.getD_some, Option.getD_none]
  refine forW_range (n := 10) (I := fun j ρ => ∃ a b c d e f g h i j k, ρ = [none, some .box, a, b, c, d, e, f, g, h, i, j, k]) ?_ ?_ _ ⟨_, _, _, _, _, _, _, _, _, _, _, rfl⟩
  · rintro ρ ⟨a, b, c, d, e, f, g, h, i, j, k, rfl⟩
    simp -dsimp only [↓getW_0, ↓getW_1, ↓getW_2, ↓wpSs, ↓wpS, ↓wpV, ↓wpE, ↓wpEs, ↓wpAs, ↓wpI, ↓wpP, ↓wpC, ↓rdE, ↓rd2, ↓varOf, ↓varC, ↓varB, ↓rdW, ↓argW, ↓ownL, ↓metO, ↓metR, ↓changes, ↓setTgW, setTgsW, wipeW, startW, ↓binW, ↓addW, ↓mulW, ↓subIW, ↓divW, ↓modW, ↓powW, ↓augW, ↓negW, ↓truthW, ↓eqW, ↓ltW, ↓inW, ↓keyW, ↓isW, isNoneD, ↓cmpW, ↓subW, ↓cutW, ↓revW, isiD, tyD, isTy, ↓bi1W, ↓bi2W, ↓bisW, ↓lenW, ↓plainW, ↓rangeW, ↓zipW, partD, dPart, getDefW, mtTy, ↓putW, sizeLine, Nat.zero_le, Nat.reducePow, Nat.reduceLeDiff, Nat.reduceAdd, Nat.reduceSub, Nat.reduceMul, Int.reducePow, Int.reduceNeg, Int.reduceLE, Int.reduceLT, Int.cast_ofNat_Int, Int.toNat_natCast, Int.reduceToNat, List.map_cons, List.map_nil, List.length_cons, List.length_nil, List.getElem?_cons_zero, List.getElem?_cons_succ, List.set_cons_zero, List.set_cons_succ, List.any_cons, List.any_nil, List.replicate, List.cons_append, List.nil_append, String.reduceBEq, Bool.or_false, Bool.false_or, Bool.or_true, Bool.true_or, Bool.and_true, Bool.true_and, Bool.and_false, Bool.false_and, Bool.not_true, Bool.not_false, forall_const, true_implies, false_implies, implies_true, reduceCtorEq, and_true, true_and, and_false, false_and, if_true, if_false, ite_true, ite_false, not_true_eq_false, not_false_eq_true, Bool.true_eq_false, Bool.false_eq_true, bne_self_eq_false, Bool.not_eq_true', Bool.not_eq_false', Option.some.injEq, exists_eq_left, exists_eq_left', List.zip_cons_cons, List.zip_nil_left, List.zip_nil_right, keyD, Option.getD_some, Option.getD_none]
    have h1 : OpsAt 0 [.tuple [.str "in", .int 0], .tuple [.str "add", .int 0, .int 0], .tuple [.str "mul", .int 1, .int 0]] :=
      ⟨.inp (by decide) (by decide), .bin (by simp) (by decide) (by decide) (by decide) (by decide), .bin (by simp) (by decide) (by decide) (by decide) (by decide), trivial⟩
    have h2 : OpsAt 0 [.tuple [.str "in", .int 7]] := ⟨.inp (by decide) (by decide), trivial⟩
    refine lcX_imp (fun v => match v with | .tuple ps => .int (copies [.tuple [.str "in", .int 0], .tuple [.str "add", .int 0, .int 0], .tuple [.str "mul", .int 1, .int 0]] ps) | v => v) (fun x hx K hK => ?_) ?_
    · simp -dsimp only [List.mem_cons, List.not_mem_nil, or_false] at hx
      rcases hx with rfl | rfl | rfl <;>
      · simp -dsimp only [↓getW_0, ↓getW_1, ↓getW_2, ↓wpSs, ↓wpS, ↓wpV, ↓wpE, ↓wpEs, ↓wpAs, ↓wpI, ↓wpP, ↓wpC, ↓rdE, ↓rd2, ↓varOf, ↓varC, ↓varB, ↓rdW, ↓argW, ↓ownL, ↓metO, ↓metR, ↓changes, ↓setTgW, setTgsW, wipeW, startW, ↓binW, ↓addW, ↓mulW, ↓subIW, ↓divW, ↓modW, ↓powW, ↓augW, ↓negW, ↓truthW, ↓eqW, ↓ltW, ↓inW, ↓keyW, ↓isW, isNoneD, ↓cmpW, ↓subW, ↓cutW, ↓revW, isiD, tyD, isTy, ↓bi1W, ↓bi2W, ↓bisW, ↓lenW, ↓plainW, ↓rangeW, ↓zipW, partD, dPart, getDefW, mtTy, ↓putW, sizeLine, Nat.zero_le, Nat.reducePow, Nat.reduceLeDiff, Nat.reduceAdd, Nat.reduceSub, Nat.reduceMul, Int.reducePow, Int.reduceNeg, Int.reduceLE, Int.reduceLT, Int.cast_ofNat_Int, Int.toNat_natCast, Int.reduceToNat, List.map_cons, List.map_nil, List.length_cons, List.length_nil, List.getElem?_cons_zero, List.getElem?_cons_succ, List.set_cons_zero, List.set_cons_succ, List.any_cons, List.any_nil, List.replicate, List.cons_append, List.nil_append, String.reduceBEq, Bool.or_false, Bool.false_or, Bool.or_true, Bool.true_or, Bool.and_true, Bool.true_and, Bool.and_false, Bool.false_and, Bool.not_true, Bool.not_false, forall_const, true_implies, false_implies, implies_true, reduceCtorEq, and_true, true_and, and_false, false_and, if_true, if_false, ite_true, ite_false, not_true_eq_false, not_false_eq_true, Bool.true_eq_false, Bool.false_eq_true, bne_self_eq_false, Bool.not_eq_true', Bool.not_eq_false', Option.some.injEq, exists_eq_left, exists_eq_left', List.zip_cons_cons, List.zip_nil_left, List.zip_nil_right, keyD, Option.getD_some, Option.getD_none]
        refine copies_in_wp (k := 35) h1 (by decide) (fun p hp => ?_) ?_
        · simp -dsimp only [List.mem_cons, List.not_mem_nil, or_false] at hp
          rcases hp with rfl | rfl | rfl | rfl <;> exact ⟨_, rfl⟩
        · simp -dsimp only [↓getW_0, ↓getW_1, ↓getW_2, ↓wpSs, ↓wpS, ↓wpV, ↓wpE, ↓wpEs, ↓wpAs, ↓wpI, ↓wpP, ↓wpC, ↓rdE, ↓rd2, ↓varOf, ↓varC, ↓varB, ↓rdW, ↓argW, ↓ownL, ↓metO, ↓metR, ↓changes, ↓setTgW, setTgsW, wipeW, startW, ↓binW, ↓addW, ↓mulW, ↓subIW, ↓divW, ↓modW, ↓powW, ↓augW, ↓negW, ↓truthW, ↓eqW, ↓ltW, ↓inW, ↓keyW, ↓isW, isNoneD, ↓cmpW, ↓subW, ↓cutW, ↓revW, isiD, tyD, isTy, ↓bi1W, ↓bi2W, ↓bisW, ↓lenW, ↓plainW, ↓rangeW, ↓zipW, partD, dPart, getDefW, mtTy, ↓putW, sizeLine, Nat.zero_le, Nat.reducePow, Nat.reduceLeDiff, Nat.reduceAdd, Nat.reduceSub, Nat.reduceMul, Int.reducePow, Int.reduceNeg, Int.reduceLE, Int.reduceLT, Int.cast_ofNat_Int, Int.toNat_natCast, Int.reduceToNat, List.map_cons, List.map_nil, List.length_cons, List.length_nil, List.getElem?_cons_zero, List.getElem?_cons_succ, List.set_cons_zero, List.set_cons_succ, List.any_cons, List.any_nil, List.replicate, List.cons_append, List.nil_append, String.reduceBEq, Bool.or_false, Bool.false_or, Bool.or_true, Bool.true_or, Bool.and_true, Bool.true_and, Bool.and_false, Bool.false_and, Bool.not_true, Bool.not_false, forall_const, true_implies, false_implies, implies_true, reduceCtorEq, and_true, true_and, and_false, false_and, if_true, if_false, ite_true, ite_false, not_true_eq_false, not_false_eq_true, Bool.true_eq_false, Bool.false_eq_true, bne_self_eq_false, Bool.not_eq_true', Bool.not_eq_false', Option.some.injEq, exists_eq_left, exists_eq_left', List.zip_cons_cons, List.zip_nil_left, List.zip_nil_right, keyD, Option.getD_some, Option.getD_none]
          exact hK
    · have e1 : copies [.tuple [.str "in", .int 0], .tuple [.str "add", .int 0, .int 0], .tuple [.str "mul", .int 1, .int 0]] [.int 0, .int 0, .int 0, .int 0] = 0 := by decide +kernel
      have e2 : copies [.tuple [.str "in", .int 0], .tuple [.str "add", .int 0, .int 0], .tuple [.str "mul", .int 1, .int 0]] [.int 2, .int 1, .int 1, .int 3] = 4 := by decide +kernel
      have e3 : copies [.tuple [.str "in", .int 0], .tuple [.str "add", .int 0, .int 0], .tuple [.str "mul", .int 1, .int 0]] [.int 23, .int 0, .int 23, .int 0] = 46 := by decide +kernel
      simp -dsimp only [↓getW_0, ↓getW_1, ↓getW_2, ↓wpSs, ↓wpS, ↓wpV, ↓wpE, ↓wpEs, ↓wpAs, ↓wpI, ↓wpP, ↓wpC, ↓rdE, ↓rd2, ↓varOf, ↓varC, ↓varB, ↓rdW, ↓argW, ↓ownL, ↓metO, ↓metR, ↓changes, ↓setTgW, setTgsW, wipeW, startW, ↓binW, ↓addW, ↓mulW, ↓subIW, ↓divW, ↓modW, ↓powW, ↓augW, ↓negW, ↓truthW, ↓eqW, ↓ltW, ↓inW, ↓keyW, ↓isW, isNoneD, ↓cmpW, ↓subW, ↓cutW, ↓revW, isiD, tyD, isTy, ↓bi1W, ↓bi2W, ↓bisW, ↓lenW, ↓plainW, ↓rangeW, ↓zipW, partD, dPart, getDefW, mtTy, ↓putW, sizeLine, Nat.zero_le, Nat.reducePow, Nat.reduceLeDiff, Nat.reduceAdd, Nat.reduceSub, Nat.reduceMul, Int.reducePow, Int.reduceNeg, Int.reduceLE, Int.reduceLT, Int.cast_ofNat_Int, Int.toNat_natCast, Int.reduceToNat, List.map_cons, List.map_nil, List.length_cons, List.length_nil, List.getElem?_cons_zero, List.getElem?_cons_succ, List.set_cons_zero, List.set_cons_succ, List.any_cons, List.any_nil, List.replicate, List.cons_append, List.nil_append, String.reduceBEq, Bool.or_false, Bool.false_or, Bool.or_true, Bool.true_or, Bool.and_true, Bool.true_and, Bool.and_false, Bool.false_and, Bool.not_true, Bool.not_false, forall_const, true_implies, false_implies, implies_true, reduceCtorEq, and_true, true_and, and_false, false_and, if_true, if_false, ite_true, ite_false, not_true_eq_false, not_false_eq_true, Bool.true_eq_false, Bool.false_eq_true, bne_self_eq_false, Bool.not_eq_true', Bool.not_eq_false', Option.some.injEq, exists_eq_left, exists_eq_left', List.zip_cons_cons, List.zip_nil_left, List.zip_nil_right, keyD, Option.getD_some, Option.getD_none, e1, e2, e3, ↓patch_error_wp h1, ↓patch_error_wp h2]
      have p1 : patchErr (reads 0 [PyData.tuple [.str "in", .int 7]]).length (.tuple []) = .none := rfl
      have p2 : patchErr (reads 0 [PyData.tuple [.str "in", .int 0], .tuple [.str "add", .int 0, .int 0], .tuple [.str "mul", .int 1, .int 0]]).length (.tuple []) = .tuple [.none, .str "patch"] := rfl
      have q1 : eqOk (.list [.int 0, .int 4, .int 46]) = true := by decide +kernel
      have q2 : eqOk (.list [.none, .tuple [.none, .str "patch"]]) = true := by decide +kernel
      have q3 : PyData.eqv (.list [.int 0, .int 4, .int 46]) (.list [.int 0, .int 4, .int 46]) = true := by decide +kernel
      have q4 : PyData.eqv (.list [.none, .tuple [.none, .str "patch"]]) (.list [.none, .tuple [.none, .str "patch"]]) = true := by decide +kernel
      simp -dsimp only [p1, p2, q1, q2, q3, q4, ↓getW_0, ↓getW_1, ↓getW_2, ↓wpSs, ↓wpS, ↓wpV, ↓wpE, ↓wpEs, ↓wpAs, ↓wpI, ↓wpP, ↓wpC, ↓rdE, ↓rd2, ↓varOf, ↓varC, ↓varB, ↓rdW, ↓argW, ↓ownL, ↓metO, ↓metR, ↓changes, ↓setTgW, setTgsW, wipeW, startW, ↓binW, ↓addW, ↓mulW, ↓subIW, ↓divW, ↓modW, ↓powW, ↓augW, ↓negW, ↓truthW, ↓eqW, ↓ltW, ↓inW, ↓keyW, ↓isW, isNoneD, ↓cmpW, ↓subW, ↓cutW, ↓revW, isiD, tyD, isTy, ↓bi1W, ↓bi2W, ↓bisW, ↓lenW, ↓plainW, ↓rangeW, ↓zipW, partD, dPart, getDefW, mtTy, ↓putW, sizeLine, Nat.zero_le, Nat.reducePow, Nat.reduceLeDiff, Nat.reduceAdd, Nat.reduceSub, Nat.reduceMul, Int.reducePow, Int.reduceNeg, Int.reduceLE, Int.reduceLT, Int.cast_ofNat_Int, Int.toNat_natCast, Int.reduceToNat, List.map_cons, List.map_nil, List.length_cons, List.length_nil, List.getElem?_cons_zero, List.getElem?_cons_succ, List.set_cons_zero, List.set_cons_succ, List.any_cons, List.any_nil, List.replicate, List.cons_append, List.nil_append, String.reduceBEq, Bool.or_false, Bool.false_or, Bool.or_true, Bool.true_or, Bool.and_true, Bool.true_and, Bool.and_false, Bool.false_and, Bool.not_true, Bool.not_false, forall_const, true_implies, false_implies, implies_true, reduceCtorEq, and_true, true_and, and_false, false_and, if_true, if_false, ite_true, ite_false, not_true_eq_false, not_false_eq_true, Bool.true_eq_false, Bool.false_eq_true, bne_self_eq_false, Bool.not_eq_true', Bool.not_eq_false', Option.some.injEq, exists_eq_left, exists_eq_left', List.zip_cons_cons, List.zip_nil_left, List.zip_nil_right, keyD, Option.getD_some, Option.getD_none]
  · rintro j ρ kn hj ⟨a, b, c, d, e, f, g, h, i, j', k', rfl⟩ hk
    have dv : divOk 3 = true := div_small (by omega) (by omega)
    simp -dsimp only [↓getW_0, ↓getW_1, ↓getW_2, ↓wpSs, ↓wpS, ↓wpV, ↓wpE, ↓wpEs, ↓wpAs, ↓wpI, ↓wpP, ↓wpC, ↓rdE, ↓rd2, ↓varOf, ↓varC, ↓varB, ↓rdW, ↓argW, ↓ownL, ↓metO, ↓metR, ↓changes, ↓setTgW, setTgsW, wipeW, startW, ↓binW, ↓addW, ↓mulW, ↓subIW, ↓divW, ↓modW, ↓powW, ↓augW, ↓negW, ↓truthW, ↓eqW, ↓ltW, ↓inW, ↓keyW, ↓isW, isNoneD, ↓cmpW, ↓subW, ↓cutW, ↓revW, isiD, tyD, isTy, ↓bi1W, ↓bi2W, ↓bisW, ↓lenW, ↓plainW, ↓rangeW, ↓zipW, partD, dPart, getDefW, mtTy, ↓putW, sizeLine, Nat.zero_le, Nat.reducePow, Nat.reduceLeDiff, Nat.reduceAdd, Nat.reduceSub, Nat.reduceMul, Int.reducePow, Int.reduceNeg, Int.reduceLE, Int.reduceLT, Int.cast_ofNat_Int, Int.toNat_natCast, Int.reduceToNat, List.map_cons, List.map_nil, List.length_cons, List.length_nil, List.getElem?_cons_zero, List.getElem?_cons_succ, List.set_cons_zero, List.set_cons_succ, List.any_cons, List.any_nil, List.replicate, List.cons_append, List.nil_append, String.reduceBEq, Bool.or_false, Bool.false_or, Bool.or_true, Bool.true_or, Bool.and_true, Bool.true_and, Bool.and_false, Bool.false_and, Bool.not_true, Bool.not_false, forall_const, true_implies, false_implies, implies_true, reduceCtorEq, and_true, true_and, and_false, false_and, if_true, if_false, ite_true, ite_false, not_true_eq_false, not_false_eq_true, Bool.true_eq_false, Bool.false_eq_true, bne_self_eq_false, Bool.not_eq_true', Bool.not_eq_false', Option.some.injEq, exists_eq_left, exists_eq_left', List.zip_cons_cons, List.zip_nil_left, List.zip_nil_right, keyD, Option.getD_some, Option.getD_none, dv]
    refine getW_in (by omega) (by simp; omega) fun m hm => ?_
    obtain ⟨m, rfl, m1, m2⟩ : ∃ n : Int, m = .int n ∧ 1 ≤ n ∧ n ≤ 24 := by
      simp -dsimp only [List.mem_cons, List.not_mem_nil, or_false] at hm
      rcases hm with rfl | rfl | rfl <;> exact ⟨_, rfl, by decide, by decide⟩
    simp -dsimp only [↓getW_0, ↓getW_1, ↓getW_2, ↓wpSs, ↓wpS, ↓wpV, ↓wpE, ↓wpEs, ↓wpAs, ↓wpI, ↓wpP, ↓wpC, ↓rdE, ↓rd2, ↓varOf, ↓varC, ↓varB, ↓rdW, ↓argW, ↓ownL, ↓metO, ↓metR, ↓changes, ↓setTgW, setTgsW, wipeW, startW, ↓binW, ↓addW, ↓mulW, ↓subIW, ↓divW, ↓modW, ↓powW, ↓augW, ↓negW, ↓truthW, ↓eqW, ↓ltW, ↓inW, ↓keyW, ↓isW, isNoneD, ↓cmpW, ↓subW, ↓cutW, ↓revW, isiD, tyD, isTy, ↓bi1W, ↓bi2W, ↓bisW, ↓lenW, ↓plainW, ↓rangeW, ↓zipW, partD, dPart, getDefW, mtTy, ↓putW, sizeLine, Nat.zero_le, Nat.reducePow, Nat.reduceLeDiff, Nat.reduceAdd, Nat.reduceSub, Nat.reduceMul, Int.reducePow, Int.reduceNeg, Int.reduceLE, Int.reduceLT, Int.cast_ofNat_Int, Int.toNat_natCast, Int.reduceToNat, List.map_cons, List.map_nil, List.length_cons, List.length_nil, List.getElem?_cons_zero, List.getElem?_cons_succ, List.set_cons_zero, List.set_cons_succ, List.any_cons, List.any_nil, List.replicate, List.cons_append, List.nil_append, String.reduceBEq, Bool.or_false, Bool.false_or, Bool.or_true, Bool.true_or, Bool.and_true, Bool.true_and, Bool.and_false, Bool.false_and, Bool.not_true, Bool.not_false, forall_const, true_implies, false_implies, implies_true, reduceCtorEq, and_true, true_and, and_false, false_and, if_true, if_false, ite_true, ite_false, not_true_eq_false, not_false_eq_true, Bool.true_eq_false, Bool.false_eq_true, bne_self_eq_false, Bool.not_eq_true', Bool.not_eq_false', Option.some.injEq, exists_eq_left, exists_eq_left', List.zip_cons_cons, List.zip_nil_left, List.zip_nil_right, keyD, Option.getD_some, Option.getD_none]
    refine law_sheet_wp (k := 35) m1 m2 fun xs hx x1 x2 => ?_
    have xl : xs.length ≤ 24 := by omega
    have lr := reads_len hx
    simp -dsimp only [↓getW_0, ↓getW_1, ↓getW_2, ↓wpSs, ↓wpS, ↓wpV, ↓wpE, ↓wpEs, ↓wpAs, ↓wpI, ↓wpP, ↓wpC, ↓rdE, ↓rd2, ↓varOf, ↓varC, ↓varB, ↓rdW, ↓argW, ↓ownL, ↓metO, ↓metR, ↓changes, ↓setTgW, setTgsW, wipeW, startW, ↓binW, ↓addW, ↓mulW, ↓subIW, ↓divW, ↓modW, ↓powW, ↓augW, ↓negW, ↓truthW, ↓eqW, ↓ltW, ↓inW, ↓keyW, ↓isW, isNoneD, ↓cmpW, ↓subW, ↓cutW, ↓revW, isiD, tyD, isTy, ↓bi1W, ↓bi2W, ↓bisW, ↓lenW, ↓plainW, ↓rangeW, ↓zipW, partD, dPart, getDefW, mtTy, ↓putW, sizeLine, Nat.zero_le, Nat.reducePow, Nat.reduceLeDiff, Nat.reduceAdd, Nat.reduceSub, Nat.reduceMul, Int.reducePow, Int.reduceNeg, Int.reduceLE, Int.reduceLT, Int.cast_ofNat_Int, Int.toNat_natCast, Int.reduceToNat, List.map_cons, List.map_nil, List.length_cons, List.length_nil, List.getElem?_cons_zero, List.getElem?_cons_succ, List.set_cons_zero, List.set_cons_succ, List.any_cons, List.any_nil, List.replicate, List.cons_append, List.nil_append, String.reduceBEq, Bool.or_false, Bool.false_or, Bool.or_true, Bool.true_or, Bool.and_true, Bool.true_and, Bool.and_false, Bool.false_and, Bool.not_true, Bool.not_false, forall_const, true_implies, false_implies, implies_true, reduceCtorEq, and_true, true_and, and_false, false_and, if_true, if_false, ite_true, ite_false, not_true_eq_false, not_false_eq_true, Bool.true_eq_false, Bool.false_eq_true, bne_self_eq_false, Bool.not_eq_true', Bool.not_eq_false', Option.some.injEq, exists_eq_left, exists_eq_left', List.zip_cons_cons, List.zip_nil_left, List.zip_nil_right, keyD, Option.getD_some, Option.getD_none]
    refine law_patch_wp (k := 35) hx (by omega) fun ps pl hps => ?_
    have hps' : ∀ p ∈ ps, ∃ m : Int, p = .int m := fun p hp => let ⟨m, e, _⟩ := hps p hp; ⟨m, e⟩
    have hL := hx.ok (by omega)
    have okx : Okv 2 723 (.tuple xs) := hL.tup.mono (by omega) (by omega)
    have sx : showOk (.tuple xs) = true := okx.show (by omega) (by omega)
    have hP : OkL 0 384 ps := (okL_all (M := 6) fun p hp => by obtain ⟨m, rfl, h0, h1⟩ := hps p hp; exact ok_n h0 (by omega)).mono (by omega) (by omega)
    have okp : Okv 1 387 (.tuple ps) := hP.tup.mono (by omega) (by omega)
    have cl := copies_le hx xl hps
    have sc : showOk (.list [.int (copies xs ps), .int (copies xs ps)]) = true := by
      have z : Okv 0 6 (.int (copies xs ps)) := ok_n cl.1 (by omega)
      exact (OkL.cons z (OkL.cons z (OkL.nil (M := 0)))).lst.show (by omega) (by omega)
    simp -dsimp only [↓getW_0, ↓getW_1, ↓getW_2, ↓wpSs, ↓wpS, ↓wpV, ↓wpE, ↓wpEs, ↓wpAs, ↓wpI, ↓wpP, ↓wpC, ↓rdE, ↓rd2, ↓varOf, ↓varC, ↓varB, ↓rdW, ↓argW, ↓ownL, ↓metO, ↓metR, ↓changes, ↓setTgW, setTgsW, wipeW, startW, ↓binW, ↓addW, ↓mulW, ↓subIW, ↓divW, ↓modW, ↓powW, ↓augW, ↓negW, ↓truthW, ↓eqW, ↓ltW, ↓inW, ↓keyW, ↓isW, isNoneD, ↓cmpW, ↓subW, ↓cutW, ↓revW, isiD, tyD, isTy, ↓bi1W, ↓bi2W, ↓bisW, ↓lenW, ↓plainW, ↓rangeW, ↓zipW, partD, dPart, getDefW, mtTy, ↓putW, sizeLine, Nat.zero_le, Nat.reducePow, Nat.reduceLeDiff, Nat.reduceAdd, Nat.reduceSub, Nat.reduceMul, Int.reducePow, Int.reduceNeg, Int.reduceLE, Int.reduceLT, Int.cast_ofNat_Int, Int.toNat_natCast, Int.reduceToNat, List.map_cons, List.map_nil, List.length_cons, List.length_nil, List.getElem?_cons_zero, List.getElem?_cons_succ, List.set_cons_zero, List.set_cons_succ, List.any_cons, List.any_nil, List.replicate, List.cons_append, List.nil_append, String.reduceBEq, Bool.or_false, Bool.false_or, Bool.or_true, Bool.true_or, Bool.and_true, Bool.true_and, Bool.and_false, Bool.false_and, Bool.not_true, Bool.not_false, forall_const, true_implies, false_implies, implies_true, reduceCtorEq, and_true, true_and, and_false, false_and, if_true, if_false, ite_true, ite_false, not_true_eq_false, not_false_eq_true, Bool.true_eq_false, Bool.false_eq_true, bne_self_eq_false, Bool.not_eq_true', Bool.not_eq_false', Option.some.injEq, exists_eq_left, exists_eq_left', List.zip_cons_cons, List.zip_nil_left, List.zip_nil_right, keyD, Option.getD_some, Option.getD_none, sx]
    refine copies_in_wp (k := 35) hx (by omega) hps' ?_
    simp -dsimp only [↓getW_0, ↓getW_1, ↓getW_2, ↓wpSs, ↓wpS, ↓wpV, ↓wpE, ↓wpEs, ↓wpAs, ↓wpI, ↓wpP, ↓wpC, ↓rdE, ↓rd2, ↓varOf, ↓varC, ↓varB, ↓rdW, ↓argW, ↓ownL, ↓metO, ↓metR, ↓changes, ↓setTgW, setTgsW, wipeW, startW, ↓binW, ↓addW, ↓mulW, ↓subIW, ↓divW, ↓modW, ↓powW, ↓augW, ↓negW, ↓truthW, ↓eqW, ↓ltW, ↓inW, ↓keyW, ↓isW, isNoneD, ↓cmpW, ↓subW, ↓cutW, ↓revW, isiD, tyD, isTy, ↓bi1W, ↓bi2W, ↓bisW, ↓lenW, ↓plainW, ↓rangeW, ↓zipW, partD, dPart, getDefW, mtTy, ↓putW, sizeLine, Nat.zero_le, Nat.reducePow, Nat.reduceLeDiff, Nat.reduceAdd, Nat.reduceSub, Nat.reduceMul, Int.reducePow, Int.reduceNeg, Int.reduceLE, Int.reduceLT, Int.cast_ofNat_Int, Int.toNat_natCast, Int.reduceToNat, List.map_cons, List.map_nil, List.length_cons, List.length_nil, List.getElem?_cons_zero, List.getElem?_cons_succ, List.set_cons_zero, List.set_cons_succ, List.any_cons, List.any_nil, List.replicate, List.cons_append, List.nil_append, String.reduceBEq, Bool.or_false, Bool.false_or, Bool.or_true, Bool.true_or, Bool.and_true, Bool.true_and, Bool.and_false, Bool.false_and, Bool.not_true, Bool.not_false, forall_const, true_implies, false_implies, implies_true, reduceCtorEq, and_true, true_and, and_false, false_and, if_true, if_false, ite_true, ite_false, not_true_eq_false, not_false_eq_true, Bool.true_eq_false, Bool.false_eq_true, bne_self_eq_false, Bool.not_eq_true', Bool.not_eq_false', Option.some.injEq, exists_eq_left, exists_eq_left', List.zip_cons_cons, List.zip_nil_left, List.zip_nil_right, keyD, Option.getD_some, Option.getD_none]
    refine copies_in_wp (k := 35) hx (by omega) hps' ?_
    simp -dsimp only [↓getW_0, ↓getW_1, ↓getW_2, ↓wpSs, ↓wpS, ↓wpV, ↓wpE, ↓wpEs, ↓wpAs, ↓wpI, ↓wpP, ↓wpC, ↓rdE, ↓rd2, ↓varOf, ↓varC, ↓varB, ↓rdW, ↓argW, ↓ownL, ↓metO, ↓metR, ↓changes, ↓setTgW, setTgsW, wipeW, startW, ↓binW, ↓addW, ↓mulW, ↓subIW, ↓divW, ↓modW, ↓powW, ↓augW, ↓negW, ↓truthW, ↓eqW, ↓ltW, ↓inW, ↓keyW, ↓isW, isNoneD, ↓cmpW, ↓subW, ↓cutW, ↓revW, isiD, tyD, isTy, ↓bi1W, ↓bi2W, ↓bisW, ↓lenW, ↓plainW, ↓rangeW, ↓zipW, partD, dPart, getDefW, mtTy, ↓putW, sizeLine, Nat.zero_le, Nat.reducePow, Nat.reduceLeDiff, Nat.reduceAdd, Nat.reduceSub, Nat.reduceMul, Int.reducePow, Int.reduceNeg, Int.reduceLE, Int.reduceLT, Int.cast_ofNat_Int, Int.toNat_natCast, Int.reduceToNat, List.map_cons, List.map_nil, List.length_cons, List.length_nil, List.getElem?_cons_zero, List.getElem?_cons_succ, List.set_cons_zero, List.set_cons_succ, List.any_cons, List.any_nil, List.replicate, List.cons_append, List.nil_append, String.reduceBEq, Bool.or_false, Bool.false_or, Bool.or_true, Bool.true_or, Bool.and_true, Bool.true_and, Bool.and_false, Bool.false_and, Bool.not_true, Bool.not_false, forall_const, true_implies, false_implies, implies_true, reduceCtorEq, and_true, true_and, and_false, false_and, if_true, if_false, ite_true, ite_false, not_true_eq_false, not_false_eq_true, Bool.true_eq_false, Bool.false_eq_true, bne_self_eq_false, Bool.not_eq_true', Bool.not_eq_false', Option.some.injEq, exists_eq_left, exists_eq_left', List.zip_cons_cons, List.zip_nil_left, List.zip_nil_right, keyD, Option.getD_some, Option.getD_none, sc]
    refine law_copies_wp (k := 36) hx (by omega) hps' ?_
    simp -dsimp only [↓getW_0, ↓getW_1, ↓getW_2, ↓wpSs, ↓wpS, ↓wpV, ↓wpE, ↓wpEs, ↓wpAs, ↓wpI, ↓wpP, ↓wpC, ↓rdE, ↓rd2, ↓varOf, ↓varC, ↓varB, ↓rdW, ↓argW, ↓ownL, ↓metO, ↓metR, ↓changes, ↓setTgW, setTgsW, wipeW, startW, ↓binW, ↓addW, ↓mulW, ↓subIW, ↓divW, ↓modW, ↓powW, ↓augW, ↓negW, ↓truthW, ↓eqW, ↓ltW, ↓inW, ↓keyW, ↓isW, isNoneD, ↓cmpW, ↓subW, ↓cutW, ↓revW, isiD, tyD, isTy, ↓bi1W, ↓bi2W, ↓bisW, ↓lenW, ↓plainW, ↓rangeW, ↓zipW, partD, dPart, getDefW, mtTy, ↓putW, sizeLine, Nat.zero_le, Nat.reducePow, Nat.reduceLeDiff, Nat.reduceAdd, Nat.reduceSub, Nat.reduceMul, Int.reducePow, Int.reduceNeg, Int.reduceLE, Int.reduceLT, Int.cast_ofNat_Int, Int.toNat_natCast, Int.reduceToNat, List.map_cons, List.map_nil, List.length_cons, List.length_nil, List.getElem?_cons_zero, List.getElem?_cons_succ, List.set_cons_zero, List.set_cons_succ, List.any_cons, List.any_nil, List.replicate, List.cons_append, List.nil_append, String.reduceBEq, Bool.or_false, Bool.false_or, Bool.or_true, Bool.true_or, Bool.and_true, Bool.true_and, Bool.and_false, Bool.false_and, Bool.not_true, Bool.not_false, forall_const, true_implies, false_implies, implies_true, reduceCtorEq, and_true, true_and, and_false, false_and, if_true, if_false, ite_true, ite_false, not_true_eq_false, not_false_eq_true, Bool.true_eq_false, Bool.false_eq_true, bne_self_eq_false, Bool.not_eq_true', Bool.not_eq_false', Option.some.injEq, exists_eq_left, exists_eq_left', List.zip_cons_cons, List.zip_nil_left, List.zip_nil_right, keyD, Option.getD_some, Option.getD_none, sc, List.flatten_cons, List.flatten_nil, List.append_nil, beq_self_eq_true, List.nodup_nil]
    repeat refine And.intro (by omega) ?_
    refine law_odd_wp fun o1 p1 => ?_
    simp -dsimp only [↓getW_0, ↓getW_1, ↓getW_2, ↓wpSs, ↓wpS, ↓wpV, ↓wpE, ↓wpEs, ↓wpAs, ↓wpI, ↓wpP, ↓wpC, ↓rdE, ↓rd2, ↓varOf, ↓varC, ↓varB, ↓rdW, ↓argW, ↓ownL, ↓metO, ↓metR, ↓changes, ↓setTgW, setTgsW, wipeW, startW, ↓binW, ↓addW, ↓mulW, ↓subIW, ↓divW, ↓modW, ↓powW, ↓augW, ↓negW, ↓truthW, ↓eqW, ↓ltW, ↓inW, ↓keyW, ↓isW, isNoneD, ↓cmpW, ↓subW, ↓cutW, ↓revW, isiD, tyD, isTy, ↓bi1W, ↓bi2W, ↓bisW, ↓lenW, ↓plainW, ↓rangeW, ↓zipW, partD, dPart, getDefW, mtTy, ↓putW, sizeLine, Nat.zero_le, Nat.reducePow, Nat.reduceLeDiff, Nat.reduceAdd, Nat.reduceSub, Nat.reduceMul, Int.reducePow, Int.reduceNeg, Int.reduceLE, Int.reduceLT, Int.cast_ofNat_Int, Int.toNat_natCast, Int.reduceToNat, List.map_cons, List.map_nil, List.length_cons, List.length_nil, List.getElem?_cons_zero, List.getElem?_cons_succ, List.set_cons_zero, List.set_cons_succ, List.any_cons, List.any_nil, List.replicate, List.cons_append, List.nil_append, String.reduceBEq, Bool.or_false, Bool.false_or, Bool.or_true, Bool.true_or, Bool.and_true, Bool.true_and, Bool.and_false, Bool.false_and, Bool.not_true, Bool.not_false, forall_const, true_implies, false_implies, implies_true, reduceCtorEq, and_true, true_and, and_false, false_and, if_true, if_false, ite_true, ite_false, not_true_eq_false, not_false_eq_true, Bool.true_eq_false, Bool.false_eq_true, bne_self_eq_false, Bool.not_eq_true', Bool.not_eq_false', Option.some.injEq, exists_eq_left, exists_eq_left', List.zip_cons_cons, List.zip_nil_left, List.zip_nil_right, keyD, Option.getD_some, Option.getD_none, List.length_append]
    repeat refine And.intro (by omega) ?_
    refine law_bent_wp 1 (k := 33) okp.dp okp (by omega) fun w1 hw1 => ?_
    simp -dsimp only [↓getW_0, ↓getW_1, ↓getW_2, ↓wpSs, ↓wpS, ↓wpV, ↓wpE, ↓wpEs, ↓wpAs, ↓wpI, ↓wpP, ↓wpC, ↓rdE, ↓rd2, ↓varOf, ↓varC, ↓varB, ↓rdW, ↓argW, ↓ownL, ↓metO, ↓metR, ↓changes, ↓setTgW, setTgsW, wipeW, startW, ↓binW, ↓addW, ↓mulW, ↓subIW, ↓divW, ↓modW, ↓powW, ↓augW, ↓negW, ↓truthW, ↓eqW, ↓ltW, ↓inW, ↓keyW, ↓isW, isNoneD, ↓cmpW, ↓subW, ↓cutW, ↓revW, isiD, tyD, isTy, ↓bi1W, ↓bi2W, ↓bisW, ↓lenW, ↓plainW, ↓rangeW, ↓zipW, partD, dPart, getDefW, mtTy, ↓putW, sizeLine, Nat.zero_le, Nat.reducePow, Nat.reduceLeDiff, Nat.reduceAdd, Nat.reduceSub, Nat.reduceMul, Int.reducePow, Int.reduceNeg, Int.reduceLE, Int.reduceLT, Int.cast_ofNat_Int, Int.toNat_natCast, Int.reduceToNat, List.map_cons, List.map_nil, List.length_cons, List.length_nil, List.getElem?_cons_zero, List.getElem?_cons_succ, List.set_cons_zero, List.set_cons_succ, List.any_cons, List.any_nil, List.replicate, List.cons_append, List.nil_append, String.reduceBEq, Bool.or_false, Bool.false_or, Bool.or_true, Bool.true_or, Bool.and_true, Bool.true_and, Bool.and_false, Bool.false_and, Bool.not_true, Bool.not_false, forall_const, true_implies, false_implies, implies_true, reduceCtorEq, and_true, true_and, and_false, false_and, if_true, if_false, ite_true, ite_false, not_true_eq_false, not_false_eq_true, Bool.true_eq_false, Bool.false_eq_true, bne_self_eq_false, Bool.not_eq_true', Bool.not_eq_false', Option.some.injEq, exists_eq_left, exists_eq_left', List.zip_cons_cons, List.zip_nil_left, List.zip_nil_right, keyD, Option.getD_some, Option.getD_none]
    refine law_bent_wp 1 (k := 33) okp.dp okp (by omega) fun w2 hw2 => ?_
    simp -dsimp only [↓getW_0, ↓getW_1, ↓getW_2, ↓wpSs, ↓wpS, ↓wpV, ↓wpE, ↓wpEs, ↓wpAs, ↓wpI, ↓wpP, ↓wpC, ↓rdE, ↓rd2, ↓varOf, ↓varC, ↓varB, ↓rdW, ↓argW, ↓ownL, ↓metO, ↓metR, ↓changes, ↓setTgW, setTgsW, wipeW, startW, ↓binW, ↓addW, ↓mulW, ↓subIW, ↓divW, ↓modW, ↓powW, ↓augW, ↓negW, ↓truthW, ↓eqW, ↓ltW, ↓inW, ↓keyW, ↓isW, isNoneD, ↓cmpW, ↓subW, ↓cutW, ↓revW, isiD, tyD, isTy, ↓bi1W, ↓bi2W, ↓bisW, ↓lenW, ↓plainW, ↓rangeW, ↓zipW, partD, dPart, getDefW, mtTy, ↓putW, sizeLine, Nat.zero_le, Nat.reducePow, Nat.reduceLeDiff, Nat.reduceAdd, Nat.reduceSub, Nat.reduceMul, Int.reducePow, Int.reduceNeg, Int.reduceLE, Int.reduceLT, Int.cast_ofNat_Int, Int.toNat_natCast, Int.reduceToNat, List.map_cons, List.map_nil, List.length_cons, List.length_nil, List.getElem?_cons_zero, List.getElem?_cons_succ, List.set_cons_zero, List.set_cons_succ, List.any_cons, List.any_nil, List.replicate, List.cons_append, List.nil_append, String.reduceBEq, Bool.or_false, Bool.false_or, Bool.or_true, Bool.true_or, Bool.and_true, Bool.true_and, Bool.and_false, Bool.false_and, Bool.not_true, Bool.not_false, forall_const, true_implies, false_implies, implies_true, reduceCtorEq, and_true, true_and, and_false, false_and, if_true, if_false, ite_true, ite_false, not_true_eq_false, not_false_eq_true, Bool.true_eq_false, Bool.false_eq_true, bne_self_eq_false, Bool.not_eq_true', Bool.not_eq_false', Option.some.injEq, exists_eq_left, exists_eq_left', List.zip_cons_cons, List.zip_nil_left, List.zip_nil_right, keyD, Option.getD_some, Option.getD_none, ↓binLW]
    repeat refine And.intro (by omega) ?_
    have up : ∀ {l : List PyData} {m : Nat}, OkL 1 m l → m + 3 ≤ 2000 → Okv 4 2000 (.tuple l) := fun h q => h.tup.mono (by omega) q
    have hP1 : OkL 1 384 ps := hP.mono (by omega) (by omega)
    have hvs : ∀ v ∈ ([PyData.tuple ps, .tuple (cutD ps (some 1) none), .tuple (ps ++ [.int 0]), .list ps, .none, .int 0, .str "", .dict [], .tuple [], .tuple [.none], o1, w1, w2] : List PyData), Okv 4 2000 v := by
      intro v hv
      simp -dsimp only [List.mem_cons, List.not_mem_nil, or_false] at hv
      rcases hv with rfl | rfl | rfl | rfl | rfl | rfl | rfl | rfl | rfl | rfl | rfl | rfl | rfl
      · exact up hP1 (by omega)
      · exact up (hP1.sub cut_sub) (by omega)
      · exact up (hP1.app ((OkL.one (ok_n (by omega) (by omega))).mono (M' := 8) (by omega) (by omega))) (by omega)
      · exact hP1.lst.mono (by omega) (by omega)
      · exact ok_lit (by decide +kernel)
      · exact ok_lit (by decide +kernel)
      · exact ok_lit (by decide +kernel)
      · exact ok_lit (by decide +kernel)
      · exact ok_lit (by decide +kernel)
      · exact ok_lit (by decide +kernel)
      · exact p1.mono (by omega) (by omega)
      · exact hw1.mono (by omega) (by omega)
      · exact hw2.mono (by omega) (by omega)
    refine forW_range (I := fun j ρ => ∃ vs a f g h i j' k, ρ = [none, some .box, a, some (.d (.tuple xs)), some (.d (.tuple ps)), some (.d (.str (PyData.tuple xs).shown)), f, some (.o (.list vs)), g, h, i, j', k] ∧ vs.length ≤ 13 + 10 * j ∧ ∀ v ∈ vs, Okv 4 2000 v) ?_ ?_ _ ⟨_, _, _, _, _, _, _, _, rfl, by simp, hvs⟩
    · rintro ρ ⟨vs, a, f, g, h, i, j', k', rfl, hl, hv⟩
      have n3 : (if (ps.length : Int) < 3 then (ps.length : Int) else 3).toNat ≤ 3 := by split <;> omega
      simp -dsimp only [↓getW_0, ↓getW_1, ↓getW_2, ↓wpSs, ↓wpS, ↓wpV, ↓wpE, ↓wpEs, ↓wpAs, ↓wpI, ↓wpP, ↓wpC, ↓rdE, ↓rd2, ↓varOf, ↓varC, ↓varB, ↓rdW, ↓argW, ↓ownL, ↓metO, ↓metR, ↓changes, ↓setTgW, setTgsW, wipeW, startW, ↓binW, ↓addW, ↓mulW, ↓subIW, ↓divW, ↓modW, ↓powW, ↓augW, ↓negW, ↓truthW, ↓eqW, ↓ltW, ↓inW, ↓keyW, ↓isW, isNoneD, ↓cmpW, ↓subW, ↓cutW, ↓revW, isiD, tyD, isTy, ↓bi1W, ↓bi2W, ↓bisW, ↓lenW, ↓plainW, ↓rangeW, ↓zipW, partD, dPart, getDefW, mtTy, ↓putW, sizeLine, Nat.zero_le, Nat.reducePow, Nat.reduceLeDiff, Nat.reduceAdd, Nat.reduceSub, Nat.reduceMul, Int.reducePow, Int.reduceNeg, Int.reduceLE, Int.reduceLT, Int.cast_ofNat_Int, Int.toNat_natCast, Int.reduceToNat, List.map_cons, List.map_nil, List.length_cons, List.length_nil, List.getElem?_cons_zero, List.getElem?_cons_succ, List.set_cons_zero, List.set_cons_succ, List.any_cons, List.any_nil, List.replicate, List.cons_append, List.nil_append, String.reduceBEq, Bool.or_false, Bool.false_or, Bool.or_true, Bool.true_or, Bool.and_true, Bool.true_and, Bool.and_false, Bool.false_and, Bool.not_true, Bool.not_false, forall_const, true_implies, false_implies, implies_true, reduceCtorEq, and_true, true_and, and_false, false_and, if_true, if_false, ite_true, ite_false, not_true_eq_false, not_false_eq_true, Bool.true_eq_false, Bool.false_eq_true, bne_self_eq_false, Bool.not_eq_true', Bool.not_eq_false', Option.some.injEq, exists_eq_left, exists_eq_left', List.zip_cons_cons, List.zip_nil_left, List.zip_nil_right, keyD, Option.getD_some, Option.getD_none]
      refine ⟨by omega, ?_⟩
      refine forW_imp (I := fun r ρ => (∃ a f v g h i j' k, ρ = [none, some .box, a, some (.d (.tuple xs)), some (.d (.tuple ps)), some (.d (.str (PyData.tuple xs).shown)), f, v, g, h, i, j', k]) ∧ ∀ v ∈ r, Okv 4 2000 v) ?_ ?_ _ _ ⟨⟨_, _, _, _, _, _, _, _, rfl⟩, hv⟩
      · rintro ρ ⟨⟨a, f, v, g, h, i, j', k', rfl⟩, _⟩
        exact hk _ ⟨_, _, _, _, _, _, _, _, _, _, _, rfl⟩
      · rintro v r ρ kn2 ⟨⟨a, f, v', g, h, i, j', k', rfl⟩, hr⟩ hk2
        have okv := hr v (List.mem_cons_self ..)
        have sv : showOk v = true := okv.show (by omega) (by omega)
        have eo := patchErr_ok (n := (reads 0 xs).length) (by omega) v
        have sp : showOk (.list [patchErr (reads 0 xs).length v, patchErr (reads 0 xs).length v]) = true := (OkL.cons eo (OkL.cons eo (OkL.nil (M := 0)))).lst.show (by omega) (by omega)
        have xl' : xs.length ≤ 1000 := by omega
        simp -dsimp only [↓getW_0, ↓getW_1, ↓getW_2, ↓wpSs, ↓wpS, ↓wpV, ↓wpE, ↓wpEs, ↓wpAs, ↓wpI, ↓wpP, ↓wpC, ↓rdE, ↓rd2, ↓varOf, ↓varC, ↓varB, ↓rdW, ↓argW, ↓ownL, ↓metO, ↓metR, ↓changes, ↓setTgW, setTgsW, wipeW, startW, ↓binW, ↓addW, ↓mulW, ↓subIW, ↓divW, ↓modW, ↓powW, ↓augW, ↓negW, ↓truthW, ↓eqW, ↓ltW, ↓inW, ↓keyW, ↓isW, isNoneD, ↓cmpW, ↓subW, ↓cutW, ↓revW, isiD, tyD, isTy, ↓bi1W, ↓bi2W, ↓bisW, ↓lenW, ↓plainW, ↓rangeW, ↓zipW, partD, dPart, getDefW, mtTy, ↓putW, sizeLine, Nat.zero_le, Nat.reducePow, Nat.reduceLeDiff, Nat.reduceAdd, Nat.reduceSub, Nat.reduceMul, Int.reducePow, Int.reduceNeg, Int.reduceLE, Int.reduceLT, Int.cast_ofNat_Int, Int.toNat_natCast, Int.reduceToNat, List.map_cons, List.map_nil, List.length_cons, List.length_nil, List.getElem?_cons_zero, List.getElem?_cons_succ, List.set_cons_zero, List.set_cons_succ, List.any_cons, List.any_nil, List.replicate, List.cons_append, List.nil_append, String.reduceBEq, Bool.or_false, Bool.false_or, Bool.or_true, Bool.true_or, Bool.and_true, Bool.true_and, Bool.and_false, Bool.false_and, Bool.not_true, Bool.not_false, forall_const, true_implies, false_implies, implies_true, reduceCtorEq, and_true, true_and, and_false, false_and, if_true, if_false, ite_true, ite_false, not_true_eq_false, not_false_eq_true, Bool.true_eq_false, Bool.false_eq_true, bne_self_eq_false, Bool.not_eq_true', Bool.not_eq_false', Option.some.injEq, exists_eq_left, exists_eq_left', List.zip_cons_cons, List.zip_nil_left, List.zip_nil_right, keyD, Option.getD_some, Option.getD_none, sv, sx, ↓patch_error_wp hx xl', ↓law_due_wp hx xl', List.flatten_cons, List.flatten_nil, List.append_nil, sp, beq_self_eq_true]
        exact hk2 _ ⟨⟨_, _, _, _, _, _, _, _, rfl⟩, fun w hw => hr w (List.mem_cons_of_mem _ hw)⟩
    · rintro j2 ρ kn2 hj2 ⟨vs, a, f, g, h, i, j', k', rfl, hl, hv⟩ hk2
      have n3 : (if (ps.length : Int) < 3 then (ps.length : Int) else 3).toNat ≤ 3 := by split <;> omega
      have hp : powOk 10 39 = true := by decide
      simp -dsimp only [↓getW_0, ↓getW_1, ↓getW_2, ↓wpSs, ↓wpS, ↓wpV, ↓wpE, ↓wpEs, ↓wpAs, ↓wpI, ↓wpP, ↓wpC, ↓rdE, ↓rd2, ↓varOf, ↓varC, ↓varB, ↓rdW, ↓argW, ↓ownL, ↓metO, ↓metR, ↓changes, ↓setTgW, setTgsW, wipeW, startW, ↓binW, ↓addW, ↓mulW, ↓subIW, ↓divW, ↓modW, ↓powW, ↓augW, ↓negW, ↓truthW, ↓eqW, ↓ltW, ↓inW, ↓keyW, ↓isW, isNoneD, ↓cmpW, ↓subW, ↓cutW, ↓revW, isiD, tyD, isTy, ↓bi1W, ↓bi2W, ↓bisW, ↓lenW, ↓plainW, ↓rangeW, ↓zipW, partD, dPart, getDefW, mtTy, ↓putW, sizeLine, Nat.zero_le, Nat.reducePow, Nat.reduceLeDiff, Nat.reduceAdd, Nat.reduceSub, Nat.reduceMul, Int.reducePow, Int.reduceNeg, Int.reduceLE, Int.reduceLT, Int.cast_ofNat_Int, Int.toNat_natCast, Int.reduceToNat, List.map_cons, List.map_nil, List.length_cons, List.length_nil, List.getElem?_cons_zero, List.getElem?_cons_succ, List.set_cons_zero, List.set_cons_succ, List.any_cons, List.any_nil, List.replicate, List.cons_append, List.nil_append, String.reduceBEq, Bool.or_false, Bool.false_or, Bool.or_true, Bool.true_or, Bool.and_true, Bool.true_and, Bool.and_false, Bool.false_and, Bool.not_true, Bool.not_false, forall_const, true_implies, false_implies, implies_true, reduceCtorEq, and_true, true_and, and_false, false_and, if_true, if_false, ite_true, ite_false, not_true_eq_false, not_false_eq_true, Bool.true_eq_false, Bool.false_eq_true, bne_self_eq_false, Bool.not_eq_true', Bool.not_eq_false', Option.some.injEq, exists_eq_left, exists_eq_left', List.zip_cons_cons, List.zip_nil_left, List.zip_nil_right, keyD, Option.getD_some, Option.getD_none, hp]
      refine law_odd_wp fun o2 p2 => ?_
      simp -dsimp only [↓getW_0, ↓getW_1, ↓getW_2, ↓wpSs, ↓wpS, ↓wpV, ↓wpE, ↓wpEs, ↓wpAs, ↓wpI, ↓wpP, ↓wpC, ↓rdE, ↓rd2, ↓varOf, ↓varC, ↓varB, ↓rdW, ↓argW, ↓ownL, ↓metO, ↓metR, ↓changes, ↓setTgW, setTgsW, wipeW, startW, ↓binW, ↓addW, ↓mulW, ↓subIW, ↓divW, ↓modW, ↓powW, ↓augW, ↓negW, ↓truthW, ↓eqW, ↓ltW, ↓inW, ↓keyW, ↓isW, isNoneD, ↓cmpW, ↓subW, ↓cutW, ↓revW, isiD, tyD, isTy, ↓bi1W, ↓bi2W, ↓bisW, ↓lenW, ↓plainW, ↓rangeW, ↓zipW, partD, dPart, getDefW, mtTy, ↓putW, sizeLine, Nat.zero_le, Nat.reducePow, Nat.reduceLeDiff, Nat.reduceAdd, Nat.reduceSub, Nat.reduceMul, Int.reducePow, Int.reduceNeg, Int.reduceLE, Int.reduceLT, Int.cast_ofNat_Int, Int.toNat_natCast, Int.reduceToNat, List.map_cons, List.map_nil, List.length_cons, List.length_nil, List.getElem?_cons_zero, List.getElem?_cons_succ, List.set_cons_zero, List.set_cons_succ, List.any_cons, List.any_nil, List.replicate, List.cons_append, List.nil_append, String.reduceBEq, Bool.or_false, Bool.false_or, Bool.or_true, Bool.true_or, Bool.and_true, Bool.true_and, Bool.and_false, Bool.false_and, Bool.not_true, Bool.not_false, forall_const, true_implies, false_implies, implies_true, reduceCtorEq, and_true, true_and, and_false, false_and, if_true, if_false, ite_true, ite_false, not_true_eq_false, not_false_eq_true, Bool.true_eq_false, Bool.false_eq_true, bne_self_eq_false, Bool.not_eq_true', Bool.not_eq_false', Option.some.injEq, exists_eq_left, exists_eq_left', List.zip_cons_cons, List.zip_nil_left, List.zip_nil_right, keyD, Option.getD_some, Option.getD_none]
      have hits : ∀ v ∈ ([.int 24, .int (-1), .bool true, .none, .str "1", .tuple [.int 1], .int (10 ^ 39), .int 23, .int 0, o2] : List PyData), Okv 1 50 v := by
        intro v hv
        simp -dsimp only [List.mem_cons, List.not_mem_nil, or_false] at hv
        rcases hv with rfl | rfl | rfl | rfl | rfl | rfl | rfl | rfl | rfl | rfl
        · exact ok_lit (by decide +kernel)
        · exact ok_lit (by decide +kernel)
        · exact ok_lit (by decide +kernel)
        · exact ok_lit (by decide +kernel)
        · exact ok_lit (by decide +kernel)
        · exact ok_lit (by decide +kernel)
        · exact ok_lit (by decide +kernel)
        · exact ok_lit (by decide +kernel)
        · exact ok_lit (by decide +kernel)
        · exact p2
      refine forW_imp (I := fun r ρ => (∃ vs a f g h i j' k, ρ = [none, some .box, a, some (.d (.tuple xs)), some (.d (.tuple ps)), some (.d (.str (PyData.tuple xs).shown)), f, some (.o (.list vs)), some (.d (.int j2)), h, i, j', k] ∧ vs.length + r.length ≤ 13 + 10 * (j2 + 1) ∧ ∀ v ∈ vs, Okv 4 2000 v) ∧ ∀ v ∈ r, Okv 1 50 v) ?_ ?_ _ _ ⟨⟨_, _, _, g, _, _, _, _, rfl, by simp; omega, hv⟩, hits⟩
      · rintro ρ ⟨⟨vs, a, f, g, h, i, j', k', rfl, hl, hv⟩, _⟩
        exact hk2 _ ⟨_, _, _, _, _, _, _, _, rfl, by simpa using hl, hv⟩
      · rintro v r ρ kn3 ⟨⟨vs, a, f, g, h, i, j', k', rfl, hl, hv⟩, hr⟩ hk3
        simp at hl
        have s1 : (cutD ps none (some (j2 : Int))).Sublist ps := cut_sub
        have s2 : (cutD ps (some ((j2 : Int) + 1)) none).Sublist ps := cut_sub
        have l1 := s1.length_le
        have l2 := s2.length_le
        simp -dsimp only [↓getW_0, ↓getW_1, ↓getW_2, ↓wpSs, ↓wpS, ↓wpV, ↓wpE, ↓wpEs, ↓wpAs, ↓wpI, ↓wpP, ↓wpC, ↓rdE, ↓rd2, ↓varOf, ↓varC, ↓varB, ↓rdW, ↓argW, ↓ownL, ↓metO, ↓metR, ↓changes, ↓setTgW, setTgsW, wipeW, startW, ↓binW, ↓addW, ↓mulW, ↓subIW, ↓divW, ↓modW, ↓powW, ↓augW, ↓negW, ↓truthW, ↓eqW, ↓ltW, ↓inW, ↓keyW, ↓isW, isNoneD, ↓cmpW, ↓subW, ↓cutW, ↓revW, isiD, tyD, isTy, ↓bi1W, ↓bi2W, ↓bisW, ↓lenW, ↓plainW, ↓rangeW, ↓zipW, partD, dPart, getDefW, mtTy, ↓putW, sizeLine, Nat.zero_le, Nat.reducePow, Nat.reduceLeDiff, Nat.reduceAdd, Nat.reduceSub, Nat.reduceMul, Int.reducePow, Int.reduceNeg, Int.reduceLE, Int.reduceLT, Int.cast_ofNat_Int, Int.toNat_natCast, Int.reduceToNat, List.map_cons, List.map_nil, List.length_cons, List.length_nil, List.getElem?_cons_zero, List.getElem?_cons_succ, List.set_cons_zero, List.set_cons_succ, List.any_cons, List.any_nil, List.replicate, List.cons_append, List.nil_append, String.reduceBEq, Bool.or_false, Bool.false_or, Bool.or_true, Bool.true_or, Bool.and_true, Bool.true_and, Bool.and_false, Bool.false_and, Bool.not_true, Bool.not_false, forall_const, true_implies, false_implies, implies_true, reduceCtorEq, and_true, true_and, and_false, false_and, if_true, if_false, ite_true, ite_false, not_true_eq_false, not_false_eq_true, Bool.true_eq_false, Bool.false_eq_true, bne_self_eq_false, Bool.not_eq_true', Bool.not_eq_false', Option.some.injEq, exists_eq_left, exists_eq_left', List.zip_cons_cons, List.zip_nil_left, List.zip_nil_right, keyD, Option.getD_some, Option.getD_none, List.length_append]
        repeat refine And.intro (by omega) ?_
        refine hk3 _ ⟨⟨_, _, _, g, _, _, _, _, rfl, by simp; omega, fun w hw => ?_⟩, fun w hw => hr w (List.mem_cons_of_mem _ hw)⟩
        rcases List.mem_append.mp hw with hw | hw
        · exact hv w hw
        · rw [List.mem_singleton] at hw
          subst hw
          have ov : OkL 1 52 [v] := OkL.one (hr v (List.mem_cons_self ..))
          exact up (((hP1.sub s1).app ov).app (hP1.sub s2)) (by omega)
theorem plain : ∀ ns : List Int, ns.length ≤ 63 → ∃ S', Tz.run T 40 "law" [.r 0] [some (.scr ns)] = .ok (.d (.bool true)) S' :=
  law_draws (T := T) (fn := f_law) (fo := Lib.f__law_opened) (k := 38) (q := 83) rfl rfl rfl (by decide) rfl rfl rfl rfl (by decide) ⟨⟨Lib.f__law_draw, rfl, rfl, rfl, rfl⟩, by decide⟩ (by decide +kernel) law_wp
end K74
theorem PySem.Challenge.cw_turnseats_k74_patches_judged_holds : PySem.Challenge.rw_turnseats_k74_patches_judged.Holds := by
  exact K74.law_of K74.plain

end
