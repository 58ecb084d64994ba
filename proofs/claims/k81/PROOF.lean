import PyProof.Rows.All
import Wide.All
import OpenK.AllK
import Wide.FinOn
import KE.SortData
import KE.DataAny
import KE.DataCmp
import KE.DataIsa
import HandS.ForMost
import HandS.ForExc
import HandS.StrMore
import KE.IntTextText
import HandS.Replace
import HandS.ExcOwn
import HandS.Defaults
import HandS.HeadEnd
import HandS.Flow
import HandS.ExcIs
import HandS.IsInst
import HandS.NoneIn
import HandS.Records
import HandS.Comp
import HandS.SetKeys
import HandS.SetBool
import HandS.Zip
import PyProof.SetRoads
import HandS.FStr
import HandS.TupAny
import HandS.Wide
import KE.DataFind
import KE.DataEq
import PyProof.StrOps2
import HandS.Codes
import HandS.Text
import HandS.RaiseMore
import PyProof.ReprRoads
import HandS.SortInts
import HandS.Iter
import HandS.Style
import HandS.Exc
import HandS.Words
import HandS.GenCall
import HandS.EndBits
import HandS.ReplaceLit
import HandS.ReplaceDef
import HandS.Ends
import HandS.WordsExc
import HandS.Head0
import HandS.Head1
import HandS.Head2
import HandS.HeadHook1
import HandS.HeadHook2
import PySem.Challenge.RW_spareskept_k81_row_texts
set_option Elab.async false
set_option linter.all false
set_option maxRecDepth 100000
set_option maxHeartbeats 0
/-! Ev1: values, store, the small language and its evaluator. -/
namespace Ev
open PySem PySem.Spec PyProof.Rows L2

/-- a bound below every length that the model allows -/
abbrev big : Nat := 5000000

inductive Val where
  | p (d : PyData)
  | loc (i : Nat)
  | seq (t : Bool) (xs : List Val)
  | dic (kvs : List (PyData × PyData))
  | st (ks : List PyData)
  | fn (f : Nat)
  | exc (c : Nat) (as : List Val)

inductive Cell where
  | lst (ds : List PyData)
  | dic (kvs : List (PyData × PyData))

abbrev Store := List Cell
abbrev Slots := List (Option Val)

inductive Res where
  | ok (v : Val) (S : Store)
  | ex (c : Nat) (as : List Val) (S : Store)
  | bad
inductive ResL where
  | ok (vs : List Val) (S : Store)
  | ex (c : Nat) (as : List Val) (S : Store)
  | bad
inductive SRes where
  | nx (env : Slots) (S : Store)
  | rt (v : Val) (S : Store)
  | bk (env : Slots) (S : Store)
  | ct (env : Slots) (S : Store)
  | ex (c : Nat) (as : List Val) (env : Slots) (S : Store)
  | bad

/-! ### the small language -/
inductive TyR where
  | bt (n : String)
  | cls (c : Nat)
inductive Bi where
  | len | abs | max | min | int | str | repr | tuple | list | sorted | all | any | sum
inductive Me where
  | append | pop | popAt | index | count | join | split | replace | upper
inductive Op where
  | add | sub | mul | fdiv | mod | pow | neg
  | eq | ne | lt | le | gt | ge | isin | notin | isnone | notnone
  | ix | sl (lo hi : Bool)
  | tup | lst | dnew
  | mk (o : Op)
  | bi (b : Bi) | isi (t : TyR)
inductive Tg where
  | nm (i : Nat)
  | tp (is : List Nat)
inductive IK where
  | val | rng1 | rng2 | enum | zip
inductive E where
  | var (i : Nat)
  | lit (d : PyData)
  | gcon (x : Str) (d : PyData)
  | gfn (f : Nat)
  | op (o : Op) (es : List E)
  | and (a b : E)
  | or (a b : E)
  | not (a : E)
  | ite (c a b : E)
  | chain (o1 o2 : Op) (a b c : E)
  | call (f : Nat) (es : List E)
  | meth (cell : Bool) (m : Me) (o : E) (es : List E)
  | fstr (fs : List Bool) (es : List E)
  | callv (i : Nat) (es : List E)
  | comp (cell : Bool) (own : List Nat) (elt : E) (tg : Tg) (ik : IK) (its : List E) (cond : Option E)
  | scomp (own : List Nat) (elt : E) (tg : Tg) (ik : IK) (its : List E) (cond : Option E)
inductive St where
  | asg (t : Tg) (e : E)
  | par (is : List Nat) (es : List E)
  | setIx (o ix e : E)
  | swapIx (o1 i1 o2 i2 a b : E)
  | aug (i : Nat) (o : Op) (e : E)
  | expr (e : E)
  | ret (e : E)
  | retN
  | ifs (c : E) (a b : List St)
  | for (tg : Tg) (ik : IK) (its : List E) (body : List St)
  | while (c : E) (body : List St)
  | raise (c : Nat) (es : List E)
  | tryAs (body : List St) (cs : List Nat) (slot : Option Nat) (suite : List St)
  | pass | brk | cont

structure DefI where
  name : Str
  ps : List Str
  N : List Str
  keep : Bool
  body : List St
/-- an own exception class: its ancestors among the own classes, itself first -/
structure ClsI where
  name : Str
  anc : List Nat
structure Cfg where
  defs : List DefI
  clss : List ClsI
  free : List Str
  cons : List (Str × PyData)

/-! ### data -/
def pures : List Val → Option (List PyData)
  | [] => some []
  | .p d :: vs => (pures vs).map (d :: ·)
  | _ :: _ => none
def mkSeq (t : Bool) (vs : List Val) : Val := match pures vs with
  | some ds => .p (if t then .tuple ds else .list ds)
  | none => .seq t vs
/-- a list that a cell holds -/
def Cell.list? : Cell → Option (List PyData)
  | .lst ds => some ds
  | _ => none
mutual
/-- the very same datum -/
def beqD : PyData → PyData → Bool
  | .none, .none => true
  | .bool a, .bool b => a == b
  | .int i, .int j => i == j
  | .str x, .str y => x == y
  | .list xs, .list ys => beqDs xs ys
  | .tuple xs, .tuple ys => beqDs xs ys
  | _, _ => false
def beqDs : List PyData → List PyData → Bool
  | [], [] => true
  | x :: xs, y :: ys => beqD x y && beqDs xs ys
  | _, _ => false
end
/-- a value as data -/
def view (S : Store) : Val → Option PyData
  | .p d => some d
  | .loc i => match S[i]? with
    | some c => c.list?.map PyData.list
    | none => none
  | _ => none
def views (S : Store) : List Val → Option (List PyData)
  | [] => some []
  | v :: vs => match view S v with
    | some d => (views S vs).map (d :: ·)
    | none => none

def addP : PyData → PyData → Option PyData
  | .int i, .int j => some (.int (i + j))
  | .str x, .str y => if x.length + y.length ≤ big then some (.str (x ++ y)) else none
  | .list xs, .list ys => if xs.length + ys.length ≤ big then some (.list (xs ++ ys)) else none
  | .tuple xs, .tuple ys => if xs.length + ys.length ≤ big then some (.tuple (xs ++ ys)) else none
  | _, _ => none
def mulP : PyData → PyData → Option PyData
  | .int i, .int j => if i.natAbs < 2 ^ 64 ∨ j.natAbs < 2 ^ 64 then some (.int (i * j)) else none
  | .str x, .int j => if x.length * j.toNat ≤ big ∧ j < 1000000 ∧ -1000000 < j then some (.str ⟨(List.replicate j.toNat x.cps.toList).flatten.toArray⟩) else none
  | _, _ => none
def eqP : PyData → PyData → Option Bool
  | .int i, .int j => some (i == j)
  | .str x, .str y => some (x == y)
  | .bool x, .bool y => some (x == y)
  | .none, .none => some true
  | x, y => if x.depth ≤ 64 ∨ y.depth ≤ 64 then some (PyData.eqv x y) else none
def ltP : PyData → PyData → Option Bool
  | .int i, .int j => some (decide (i < j))
  | .str x, .str y => some (decide (x.cps.toList < y.cps.toList))
  | .none, _ => none
  | x, y => if PySem.W.alike x y = true ∧ x.depth ≤ 64 then some (PySem.W.dataLt x y) else none
def inP (x : PyData) : PyData → Option Bool
  | .str y => match x with
    | .str z => some (!(Builtin.Str.occurrences y z 0 y.length 1).isEmpty)
    | _ => none
  | .list ys => if x.depth ≤ 64 then some (ys.any fun y => PyData.eqv y x) else none
  | .tuple ys => if x.depth ≤ 64 then some (ys.any fun y => PyData.eqv y x) else none
  | _ => none
def ixP : PyData → PyData → Option PyData
  | .list xs, .int i => atI xs i
  | .tuple xs, .int i => atI xs i
  | .str x, .int i => if x.length ≤ big then (atI x.cps.toList i).map fun c => .str ⟨#[c]⟩ else none
  | _, _ => none
def cutL {α : Type} (xs : List α) (lo hi : Option Int) : List α := (xs.drop (HT.sIx xs.length 0 lo)).take (HT.sIx xs.length xs.length hi - HT.sIx xs.length 0 lo)
def slP (x : PyData) (lo hi : Option Int) : Option PyData := match x with
  | .list xs => some (.list (cutL xs lo hi))
  | .tuple xs => some (.tuple (cutL xs lo hi))
  | .str x => if x.length ≤ big then some (.str (cutS x lo hi)) else none
  | _ => none
def truP : PyData → Option Bool
  | .none => some false
  | .bool b => some b
  | .int i => some (i != 0)
  | .str x => if x.length ≤ big then some ((x.length : Int) != 0) else none
  | .list xs => some (!xs.isEmpty)
  | .tuple xs => some (!xs.isEmpty)
  | .dict _ => none
def isaP (t : String) (d : PyData) : Option Bool :=
  if t = "int" then some d.isInt else if t = "bool" then some d.isBool else if t = "str" then some d.isStr else if t = "tuple" then some d.isTuple else if t = "list" then some d.isList else if t = "dict" then some d.isDict else none
def strsOf : List PyData → Option (List Str)
  | [] => some []
  | .str x :: ds => (strsOf ds).map (x :: ·)
  | _ :: _ => none
def intsOf : List PyData → Option (List Int)
  | [] => some []
  | .int x :: ds => (intsOf ds).map (x :: ·)
  | _ :: _ => none
/-- the truth of what is no sequence of values -/
def truF : PyData → Option Bool
  | .none => some false
  | .bool b => some b
  | .int i => some (i != 0)
  | .str x => if x.length ≤ big then some ((x.length : Int) != 0) else none
  | _ => none
def trusOf : List PyData → Option (List Bool)
  | [] => some []
  | d :: ds => match truF d with
    | some b => (trusOf ds).map (b :: ·)
    | none => none
/-- an int's text -/
def intStr (i : Int) : Str := toString i
def strP : PyData → Option PyData
  | .int i => if i.natAbs.log2 < 1920 then some (.str (intStr i)) else none
  | .str x => some (.str x)
  | _ => none
def sortOk (ds : List PyData) : Bool := (ds.all fun d => ds.all fun e => PySem.W.alike d e) && (ds.all fun d => decide (d.depth ≤ 64)) &&
  ((ds.all fun d => match d with | .tuple (_ :: _) => true | _ => false) || ds.all fun d => match d with | .none => false | .tuple _ => false | _ => true)
/-- stable -/
def isort (xs : List PyData) : List PyData := xs.mergeSort (PySem.W.dataLe false id)
def biP : Bi → List PyData → Option PyData
  | .len, [.str x] => if x.length ≤ big then some (.int x.length) else none
  | .len, [.list xs] => some (.int xs.length)
  | .len, [.tuple xs] => some (.int xs.length)
  | .abs, [.int i] => some (.int i.natAbs)
  | .max, [.int i, .int j] => some (.int (if j > i then j else i))
  | .min, [.int i, .int j] => some (.int (if j < i then j else i))
  | .int, [.int i] => some (.int i)
  | .int, [.bool b] => some (.int (if b then 1 else 0))
  | .int, [.str x] => if x.length ≤ 640 then (PySem.intText? x).map .int else none
  | .str, [d] => strP d
  | .repr, [.list xs] => if PyData.showable (.list xs) = true ∧ (PyData.list xs).shown.length ≤ big ∧ (PyData.list xs).depth ≤ 64 then some (.str (PyData.list xs).shown) else none
  | .repr, [.tuple xs] => if PyData.showable (.tuple xs) = true ∧ (PyData.tuple xs).shown.length ≤ big ∧ (PyData.tuple xs).depth ≤ 64 then some (.str (PyData.tuple xs).shown) else none
  | .repr, [.str x] => if (reprText x).length ≤ big then some (.str (reprText x)) else none
  | .tuple, [.list xs] => some (.tuple xs)
  | .tuple, [.tuple xs] => some (.tuple xs)
  | .list, [.list xs] => some (.list xs)
  | .list, [.tuple xs] => some (.list xs)
  | .sorted, [.list xs] => if sortOk xs = true ∧ xs.length ≤ big then some (.list (isort xs)) else none
  | .all, [.list xs] => (trusOf xs).map fun bs => .bool (bs.all id)
  | .any, [.list xs] => (trusOf xs).map fun bs => .bool (bs.any id)
  | .sum, [.list xs] => (intsOf xs).map fun is => .int is.sum
  | _, _ => none
def meP : Me → List PyData → Option PyData
  | .index, [.list xs, d] => if d.depth ≤ 64 then (xs.findIdx? fun y => PyData.eqv y d).map fun k => .int k else none
  | .index, [.str x, .str y] => (Txt.index0 x y).map fun k => .int k
  | .count, [.list xs, d] => if d.depth ≤ 64 then some (.int (xs.countP fun y => PyData.eqv y d : Nat)) else none
  | .count, [.str x, .str y] => some (.int (Txt.count x y))
  | .join, [.str x, .list ds] => match strsOf ds with
    | some ys => if (ys.map (·.length)).sum + ys.length * x.length ≤ big then some (.str (Txt.join x ys)) else none
    | none => none
  | .join, [.str x, .tuple ds] => match strsOf ds with
    | some ys => if (ys.map (·.length)).sum + ys.length * x.length ≤ big then some (.str (Txt.join x ys)) else none
    | none => none
  | .split, [.str x, .str y] => if (y.length == 0) = false ∧ x.length + 2 ≤ big then some (.list ((Txt.split x y).map .str)) else none
  | .replace, [.str x, .str y, .str z] => if x.length + (x.length + 1) * z.length ≤ 16777216 ∧ (y == z) = false then some (.str (Txt.replace x y z)) else none
  | .upper, [.str x] => if x.length ≤ big then some (.str (Txt.upper x)) else none
  | _, _ => none
/-- a part of an f-string -/
def fmtP (b : Bool) : Val → Option Str
  | .p (.str y) => if y.length ≤ big then some y else none
  | .p (.int i) => if b = true ∧ i.natAbs.log2 < 1920 then some (intStr i) else none
  | _ => none
def optI (b : Bool) (ds : List PyData) : Option (Option Int × List PyData) := match b, ds with
  | false, ds => some (none, ds)
  | true, .int i :: ds => some (some i, ds)
  | _, _ => none
def bl (b : Option Bool) : Option PyData := b.map .bool
def primP : Op → List PyData → Option PyData
  | .add, [x, y] => addP x y
  | .sub, [.int i, .int j] => some (.int (i - j))
  | .mul, [x, y] => mulP x y
  | .fdiv, [.int i, .int j] => if 0 < j ∧ j.natAbs.log2 < 9000 then some (.int (i / j)) else none
  | .mod, [.int i, .int j] => if 0 < j then some (.int (i % j)) else none
  | .pow, [.int i, .int j] => if 0 ≤ j ∧ j ≤ 100 ∧ i.natAbs.log2 < 250 then some (.int (i ^ j.toNat)) else none
  | .neg, [.int i] => some (.int (-i))
  | .eq, [x, y] => bl (eqP x y)
  | .ne, [x, y] => bl ((eqP x y).map not)
  | .lt, [x, y] => bl (ltP x y)
  | .gt, [.int i, .int j] => some (.bool (decide (j < i)))
  | .le, [.int i, .int j] => some (.bool (decide (i ≤ j)))
  | .ge, [.int i, .int j] => some (.bool (decide (j ≤ i)))
  | .isin, [x, y] => bl (inP x y)
  | .notin, [x, y] => bl ((inP x y).map not)
  | .ix, [x, y] => ixP x y
  | .sl a b, x :: ds => match optI a ds with
    | some (lo, ds) => match optI b ds with
      | some (hi, []) => slP x lo hi
      | _ => none
    | none => none
  | .bi b, ds => biP b ds
  | _, _ => none
def isiV (C : Cfg) (S : Store) (t : TyR) (v : Val) : Option Bool := match t with
  | .bt n => match v with
    | .dic _ => isaP n (.dict [])
    | v => match view S v with
      | some d => isaP n d
      | none => none
  | .cls k => match v with
    | .exc c [] => match C.clss[c]? with
      | some i => if (C.clss[k]?).isSome then some (i.anc.contains k) else none
      | none => none
    | _ => none
def nonV : Val → Option Bool
  | .p .none => some true
  | .p _ => some false
  | .dic _ => some false
  | .loc _ => some false
  | .seq _ _ => some false
  | _ => none
def appM : List Val → Store → Option (Val × Store)
  | [.loc i, .p d], S => match S[i]? with
    | some (.lst ds) => if ds.length < big then some (.p .none, S.set i (.lst (ds ++ [d]))) else none
    | _ => none
  | _, _ => none
def popM : List Val → Store → Option (Val × Store)
  | [.loc i], S => match S[i]? with
    | some (.lst ds) => match ds[ds.length - 1]? with
      | some d => some (.p d, S.set i (.lst ds.dropLast))
      | none => none
    | _ => none
  | _, _ => none
def popAtM : List Val → Store → Option (Val × Store)
  | [.loc i, .p (.int k)], S => match S[i]? with
    | some (.lst ds) => if -(2 ^ 63) ≤ k ∧ k < 2 ^ 63 then match seqIndex? k ds.length with
      | some j => match ds[j]? with
        | some d => some (.p d, S.set i (.lst (ds.eraseIdx j)))
        | none => none
      | none => none else none
    | _ => none
  | _, _ => none
def primM (m : Me) (vs : List Val) (S : Store) : Option (Val × Store) := match m with
  | .append => appM vs S
  | .pop => popM vs S
  | .popAt => popAtM vs S
  | m => match views S vs with
    | some ds => (meP m ds).map fun d => (.p d, S)
    | none => none
def primQ (C : Cfg) (o : Op) (vs : List Val) (S : Store) : Option (Val × Store) := match o with
  | .lst => if vs.length ≤ big then some (mkSeq false vs, S) else none
  | o => match views S vs with
    | some ds => (primP o ds).map fun d => (.p d, S)
    | none => none
def prim (C : Cfg) (o : Op) (vs : List Val) (S : Store) : Option (Val × Store) := match o with
  | .tup => if vs.length ≤ big then some (mkSeq true vs, S) else none
  | .lst => if vs.length ≤ big then some (mkSeq false vs, S) else none
  | .dnew => match vs with
    | [] => some (.dic [], S)
    | _ => none
  | .mk o => match primQ C o vs S with
    | some (.p (.list ds), S1) => some (.loc S1.length, S1 ++ [.lst ds])
    | _ => none
  | .isi t => match vs with
    | [v] => (isiV C S t v).map fun b => (.p (.bool b), S)
    | _ => none
  | .isnone => match vs with
    | [v] => (nonV v).map fun b => (.p (.bool b), S)
    | _ => none
  | .notnone => match vs with
    | [v] => (nonV v).map fun b => (.p (.bool !b), S)
    | _ => none
  | .ix => match vs with
    | [.seq _ xs, i] => match i with
      | .p (.int k) => (atI xs k).map fun v => (v, S)
      | _ => none
    | vs => match views S vs with
      | some ds => (primP .ix ds).map fun d => (.p d, S)
      | none => none
  | o => match views S vs with
    | some ds => (primP o ds).map fun d => (.p d, S)
    | none => none
/-- a receiver that the method is known of -/
def recvOk (S : Store) (m : Me) (v : Val) : Bool := match v with
  | .p (.str _) => match m with
    | .index | .count | .join | .split | .upper | .replace => true
    | _ => false
  | .p (.list _) => match m with
    | .index | .count => true
    | _ => false
  | .loc i => match m with
    | .append | .pop | .popAt | .index | .count => (match S[i]? with
      | some (.lst _) => true
      | _ => false)
    | _ => false
  | _ => false
def truV (S : Store) (v : Val) : Option Bool := match view S v with
  | some d => truP d
  | none => none

/-! ### what a for walks -/
def itemsV (S : Store) : Val → Option (List Val × Option (Nat × List PyData))
  | .p (.list ds) => some (ds.map .p, none)
  | .p (.tuple ds) => some (ds.map .p, none)
  | .p (.str x) => some (x.cps.toList.map fun c => .p (.str ⟨#[c]⟩), none)
  | .seq _ vs => some (vs, none)
  | .loc i => match S[i]? with
    | some (.lst ds) => some (ds.map .p, some (i, ds))
    | _ => none
  | _ => none
def enumFrom (k : Nat) : List Val → List Val
  | [] => []
  | v :: vs => mkSeq true [.p (.int k), v] :: enumFrom (k + 1) vs
def zipV : List Val → List Val → List Val
  | a :: as, b :: bs => mkSeq true [a, b] :: zipV as bs
  | _, _ => []
/-- a list, a tuple that nobody changes -/
def seqV : Val → Option (Bool × List Val)
  | .p (.list ds) => some (false, ds.map .p)
  | .p (.tuple ds) => some (true, ds.map .p)
  | .seq t vs => some (t, vs)
  | _ => none
def items (S : Store) (ik : IK) (vs : List Val) : Option (List Val × Option (Nat × List PyData)) := match ik with
  | .val => match vs with
    | [v] => itemsV S v
    | _ => none
  | .rng1 => match vs with
    | [.p (.int n)] => if n ≤ big ∧ -(2 ^ 62) ≤ n then some ((List.range n.toNat).map fun (k : Nat) => .p (.int (k : Int)), none) else none
    | _ => none
  | .rng2 => match vs with
    | [.p (.int a), .p (.int b)] => if b - a ≤ big ∧ (-(2 ^ 62) ≤ a ∧ a < 2 ^ 62 ∧ -(2 ^ 62) ≤ b ∧ b < 2 ^ 62) then some ((List.range (b - a).toNat).map fun (k : Nat) => .p (.int (a + (k : Int))), none) else none
    | _ => none
  | .enum => match vs with
    | [v] => match seqV v with
      | some (false, xs) => some (enumFrom 0 xs, none)
      | _ => none
    | _ => none
  | .zip => match vs with
    | [v, w] => match seqV v, seqV w with
      | some (t, xs), some (t2, ys) => if t = t2 then some (zipV xs ys, none) else none
      | _, _ => none
    | _ => none
/-- the list that is walked stands as it stood -/
def ckS (lk : Option (Nat × List PyData)) (S : Store) : Bool := match lk with
  | none => true
  | some (i, ds) => match S[i]? with
    | some (.lst es) => beqDs es ds
    | _ => false
def wipeE (env : Slots) : List Nat → Slots
  | [] => env
  | v :: vs => (wipeE env vs).set v none
/-- the items of a value that is unpacked -/
def unpack (S : Store) : Val → Option (List Val)
  | .p (.tuple ds) => some (ds.map .p)
  | .p (.list ds) => some (ds.map .p)
  | .seq _ vs => some vs
  | _ => none
def setAll : List Nat → List Val → Slots → Option Slots
  | [], [], env => some env
  | i :: is, v :: vs, env => setAll is vs (env.set i (some v))
  | _, _, _ => none
def bindTg (S : Store) (tg : Tg) (v : Val) (env : Slots) : Option Slots := match tg with
  | .nm i => some (env.set i (some v))
  | .tp is => match unpack S v with
    | some vs => setAll is vs env
    | none => none

/-- a comprehension's turns -/
def compGo (ck : Store → Bool) (fe : Slots → Store → Res) (fc : Slots → Store → Option Bool × Store) (tg : Tg) (env : Slots) : List Val → Store → ResL
  | [], S => if ck S then .ok [] S else .bad
  | v :: vs, S => if ck S then match bindTg S tg v env with
    | none => .bad
    | some env1 => match fc env1 S with
      | (none, _) => .bad
      | (some false, S1) => compGo ck fe fc tg env vs S1
      | (some true, S1) => match fe env1 S1 with
        | .ok x S2 => match compGo ck fe fc tg env vs S2 with
          | .ok xs S3 => .ok (x :: xs) S3
          | r => r
        | _ => .bad
    else .bad
/-- a test that makes nothing leave -/
def asTest (r : Res) : Option Bool × Store := match r with
  | .ok v S => (truV S v, S)
  | _ => (none, [])
/-- keys of a set: ints and texts -/
def keyOf : Val → Option (Sum Int Str)
  | .p (.int i) => some (.inl i)
  | .p (.str x) => some (.inr x)
  | _ => none
def keysOf : List Val → Option (List (Sum Int Str))
  | [] => some []
  | v :: vs => match keyOf v with
    | some k => (keysOf vs).map (k :: ·)
    | none => none
instance keyMem (k : Sum Int Str) (acc : List (Sum Int Str)) : Decidable (k ∈ acc) := @List.instDecidableMemOfLawfulBEq (Sum Int Str) instBEqOfDecidableEq inferInstance k acc
def kins (acc : List (Sum Int Str)) (k : Sum Int Str) : List (Sum Int Str) := if k ∈ acc then acc else acc ++ [k]

/-! ### evaluation -/
mutual
def ev (C : Cfg) (F : Nat → List Val → Store → Res) : E → Slots → Store → Res
  | .var i, env, S => match env[i]? with
    | some (some v) => .ok v S
    | _ => .bad
  | .lit d, _, S => .ok (.p d) S
  | .gcon _ d, _, S => .ok (.p d) S
  | .gfn f, _, S => .ok (.fn f) S
  | .op o es, env, S => match evL C F es env S with
    | .ok vs S1 => match prim C o vs S1 with
      | some (v, S2) => .ok v S2
      | none => .bad
    | .ex c as S1 => .ex c as S1
    | .bad => .bad
  | .and a b, env, S => match ev C F a env S with
    | .ok v S1 => match truV S1 v with
      | some true => ev C F b env S1
      | some false => .ok v S1
      | none => .bad
    | r => r
  | .or a b, env, S => match ev C F a env S with
    | .ok v S1 => match truV S1 v with
      | some false => ev C F b env S1
      | some true => .ok v S1
      | none => .bad
    | r => r
  | .not a, env, S => match ev C F a env S with
    | .ok v S1 => match truV S1 v with
      | some b => .ok (.p (.bool !b)) S1
      | none => .bad
    | r => r
  | .ite c a b, env, S => match ev C F c env S with
    | .ok v S1 => match truV S1 v with
      | some true => ev C F a env S1
      | some false => ev C F b env S1
      | none => .bad
    | r => r
  | .chain o1 o2 a b c, env, S => match ev C F a env S with
    | .ok x S1 => match ev C F b env S1 with
      | .ok y S2 => match prim C o1 [x, y] S2 with
        | some (.p (.bool true), S3) => match ev C F c env S3 with
          | .ok z S4 => match prim C o2 [y, z] S4 with
            | some (v, S5) => .ok v S5
            | none => .bad
          | r => r
        | some (.p (.bool false), S3) => .ok (.p (.bool false)) S3
        | _ => .bad
      | r => r
    | r => r
  | .call f es, env, S => match evL C F es env S with
    | .ok vs S1 => F f vs S1
    | .ex c as S1 => .ex c as S1
    | .bad => .bad
  | .meth cell m o es, env, S => match ev C F o env S with
    | .ok v S1 => if recvOk S1 m v then match evL C F es env S1 with
      | .ok vs S2 => match primM m (v :: vs) S2 with
        | some (w, S3) => if cell then (match w with
          | .p (.list ds) => .ok (.loc S3.length) (S3 ++ [.lst ds])
          | _ => .bad) else .ok w S3
        | none => .bad
      | .ex c as S2 => .ex c as S2
      | .bad => .bad
      else .bad
    | r => r
  | .fstr fs es, env, S => evF C F es fs env S Str.empty
  | .callv i es, env, S => match env[i]? with
    | some (some (.fn f)) => if (C.defs[f]?).isSome then match evL C F es env S with
      | .ok vs S1 => F f vs S1
      | .ex c as S1 => .ex c as S1
      | .bad => .bad
      else .bad
    | _ => .bad
  | .comp cell own elt tg ik its cond, env, S => match evL C F its env S with
    | .ok vs S1 => match items S1 ik vs with
      | some (xs, lk) => if big < xs.length then .bad else match compGo (ckS lk) (ev C F elt) (evC C F cond) tg (wipeE env own) xs S1 with
        | .ok ys S2 => match pures ys with
          | some ds => if cell then .ok (.loc S2.length) (S2 ++ [.lst ds]) else .ok (.p (.list ds)) S2
          | none => if cell then .bad else .ok (.seq false ys) S2
        | _ => .bad
      | none => .bad
    | .ex c as S1 => .ex c as S1
    | .bad => .bad
  | .scomp own elt tg ik its cond, env, S => match evL C F its env S with
    | .ok vs S1 => match items S1 ik vs with
      | some (xs, lk) => if 4000 < xs.length then .bad else match compGo (ckS lk) (ev C F elt) (evC C F cond) tg (wipeE env own) xs S1 with
        | .ok ys S2 => match keysOf ys with
          | some ks => .ok (.p (.int ((ks.foldl kins []).length : Nat))) S2
          | none => .bad
        | _ => .bad
      | none => .bad
    | .ex c as S1 => .ex c as S1
    | .bad => .bad
def evF (C : Cfg) (F : Nat → List Val → Store → Res) : List E → List Bool → Slots → Store → Str → Res
  | [], [], _, S, acc => .ok (.p (.str acc)) S
  | e :: es, b :: fs, env, S, acc => match ev C F e env S with
    | .ok v S1 => match fmtP b v with
      | some y => if (acc ++ y).length ≤ big then evF C F es fs env S1 (acc ++ y) else .bad
      | none => .bad
    | r => r
  | _, _, _, _, _ => .bad
def evL (C : Cfg) (F : Nat → List Val → Store → Res) : List E → Slots → Store → ResL
  | [], _, S => .ok [] S
  | e :: es, env, S => match ev C F e env S with
    | .ok v S1 => match evL C F es env S1 with
      | .ok vs S2 => .ok (v :: vs) S2
      | r => r
    | .ex c as S1 => .ex c as S1
    | .bad => .bad
def evC (C : Cfg) (F : Nat → List Val → Store → Res) : Option E → Slots → Store → Option Bool × Store
  | none, _, S => (some true, S)
  | some e, env, S => asTest (ev C F e env S)
end
/-- a loop's turns -/
def forGo (ck : Store → Bool) (fb : Slots → Store → SRes) (tg : Tg) : List Val → Slots → Store → SRes
  | [], env, S => if ck S then .nx env S else .bad
  | v :: vs, env, S => if ck S then match bindTg S tg v env with
    | none => .bad
    | some env1 => match fb env1 S with
      | .nx env2 S2 => forGo ck fb tg vs env2 S2
      | .ct env2 S2 => forGo ck fb tg vs env2 S2
      | .bk env2 S2 => .nx env2 S2
      | r => r
    else .bad
def whileGo (fc : Slots → Store → Res) (fb : Slots → Store → SRes) : Nat → Slots → Store → SRes
  | 0, _, _ => .bad
  | n + 1, env, S => match fc env S with
    | .ok v S1 => match truV S1 v with
      | some true => match fb env S1 with
        | .nx env2 S2 => whileGo fc fb n env2 S2
        | .ct env2 S2 => whileGo fc fb n env2 S2
        | .bk env2 S2 => .nx env2 S2
        | r => r
      | some false => .nx env S1
      | none => .bad
    | .ex c as S1 => .ex c as env S1
    | .bad => .bad
def ofRes (r : Res) (k : Val → Store → SRes) (env : Slots) : SRes := match r with
  | .ok v S => k v S
  | .ex c as S => .ex c as env S
  | .bad => .bad
def setIxV (S : Store) (o i v : Val) : Option Store := match o, i, v with
  | .loc k, .p (.int j), .p d => match S[k]? with
    | some (.lst ds) => match ixN ds.length j with
      | some n => some (S.set k (.lst (ds.set n d)))
      | none => none
    | _ => none
  | _, _, _ => none
mutual
/-- no exception is within -/
def noExc : Val → Bool
  | .exc _ _ => false
  | .seq _ vs => noExcs vs
  | _ => true
def noExcs : List Val → Bool
  | [] => true
  | v :: vs => noExc v && noExcs vs
end
def noExcE (env : Slots) : Bool := env.all fun o => match o with
  | some v => noExc v
  | none => true
/-- loops of more turns are not followed -/
abbrev fuel : Nat := 1000000
mutual
def evS (C : Cfg) (F : Nat → List Val → Store → Res) : St → Slots → Store → SRes
  | .asg t e, env, S => match ev C F e env S with
    | .ok v S1 => match bindTg S1 t v env with
      | some env1 => .nx env1 S1
      | none => .bad
    | .ex c as S1 => .ex c as env S1
    | .bad => .bad
  | .par is es, env, S => match evL C F es env S with
    | .ok vs S1 => match setAll is vs env with
      | some env1 => .nx env1 S1
      | none => .bad
    | .ex c as S1 => .ex c as env S1
    | .bad => .bad
  | .setIx o ix e, env, S => match evL C F [e, o, ix] env S with
    | .ok [v, o, i] S1 => match setIxV S1 o i v with
      | some S2 => .nx env S2
      | none => .bad
    | .ex c as S1 => .ex c as env S1
    | _ => .bad
  | .swapIx o1 i1 o2 i2 a b, env, S => match evL C F [a, b] env S with
    | .ok [x, y] S1 => match evL C F [o1, i1] env S1 with
      | .ok [o, i] S2 => match setIxV S2 o i x with
        | some S3 => match evL C F [o2, i2] env S3 with
          | .ok [o, i] S4 => match setIxV S4 o i y with
            | some S5 => .nx env S5
            | none => .bad
          | .ex c as S1 => .ex c as env S1
          | _ => .bad
        | none => .bad
      | .ex c as S1 => .ex c as env S1
      | _ => .bad
    | .ex c as S1 => .ex c as env S1
    | _ => .bad
  | .aug i o e, env, S => match env[i]? with
    | some (some x) => match ev C F e env S with
      | .ok y S1 => match prim C o [x, y] S1 with
        | some (v, S2) => .nx (env.set i (some v)) S2
        | none => .bad
      | .ex c as S1 => .ex c as env S1
      | .bad => .bad
    | _ => .bad
  | .expr e, env, S => match ev C F e env S with
    | .ok _ S1 => .nx env S1
    | .ex c as S1 => .ex c as env S1
    | .bad => .bad
  | .ret e, env, S => match ev C F e env S with
    | .ok v S1 => .rt v S1
    | .ex c as S1 => .ex c as env S1
    | .bad => .bad
  | .retN, _, S => .rt (.p .none) S
  | .ifs c a b, env, S => match ev C F c env S with
    | .ok v S1 => match truV S1 v with
      | some true => evB C F a env S1
      | some false => evB C F b env S1
      | none => .bad
    | .ex c as S1 => .ex c as env S1
    | .bad => .bad
  | .for tg ik its body, env, S => match evL C F its env S with
    | .ok vs S1 => match items S1 ik vs with
      | some (xs, lk) => forGo (ckS lk) (evB C F body) tg xs env S1
      | none => .bad
    | .ex c as S1 => .ex c as env S1
    | .bad => .bad
  | .while c body, env, S => whileGo (ev C F c) (evB C F body) fuel env S
  | .raise c es, env, S => match evL C F es env S with
    | .ok vs S1 => .ex c vs env S1
    | .ex c as S1 => .ex c as env S1
    | .bad => .bad
  | .tryAs body cs slot suite, env, S => match evB C F body env S with
    | .ex c as env1 S1 => match C.clss[c]?, cs, slot with
      | some i, [h], some k => if i.anc.contains h then (if as.isEmpty then match evB C F suite (env1.set k (some (.exc c []))) S1 with
            | .nx env2 S2 => if noExcE (env2.set k none) then .nx (env2.set k none) S2 else .bad
            | .rt v S2 => if noExc v then .rt v S2 else .bad
            | _ => .bad
          else .bad)
        else .ex c as env1 S1
      | _, _, _ => .bad
    | r => r
  | .pass, env, S => .nx env S
  | .brk, env, S => .bk env S
  | .cont, env, S => .ct env S
def evB (C : Cfg) (F : Nat → List Val → Store → Res) : List St → Slots → Store → SRes
  | [], env, S => .nx env S
  | s :: ss, env, S => match evS C F s env S with
    | .nx env1 S1 => evB C F ss env1 S1
    | r => r
end

/-! ### calls -/
def locsOf : List Val → Option (List Nat)
  | [] => some []
  | .loc i :: vs => (locsOf vs).map (i :: ·)
  | .seq _ _ :: _ => none
  | .exc _ _ :: _ => none
  | _ :: vs => locsOf vs
def inV (ls : List Nat) : Val → Val
  | .loc i => .loc (ls.idxOf i)
  | v => v
def cellsAt (S : Store) : List Nat → Option Store
  | [] => some []
  | i :: is => match S[i]? with
    | some c => (cellsAt S is).map (c :: ·)
    | none => none
/-- what leaves a call: k cells were the caller's, at ls; a cell of the call's own is frozen (drop) or laid behind the caller's n cells (keep) -/
def outV (keep : Bool) (k n : Nat) (ls : List Nat) (S : Store) : Val → Option Val
  | .loc i => if i < k then (ls[i]?).map .loc else if keep then some (.loc (n + (i - k))) else match S[i]? with
    | some (.lst ds) => some (.p (.list ds))
    | some (.dic kvs) => some (.dic kvs)
    | _ => none
  | .seq _ _ => none
  | .exc _ _ => none
  | v => some v
def outVs (keep : Bool) (k n : Nat) (ls : List Nat) (S : Store) : List Val → Option (List Val)
  | [] => some []
  | v :: vs => match outV keep k n ls S v with
    | some w => (outVs keep k n ls S vs).map (w :: ·)
    | none => none
/-- a value, or a tuple of values, that leaves a call -/
def outT (keep : Bool) (k n : Nat) (ls : List Nat) (S : Store) : Val → Option Val
  | .seq t vs => (outVs keep k n ls S vs).map (mkSeq t)
  | v => outV keep k n ls S v
/-- the caller's cells as the call left them -/
def putBack : List Nat → Store → Store → Store
  | i :: is, c :: cs, S => putBack is cs (S.set i c)
  | _, _, S => S
def after (keep : Bool) (ls : List Nat) (S S1 : Store) : Store := if keep then putBack ls S1 S ++ S1.drop ls.length else putBack ls S1 S
def callD (C : Cfg) (F : Nat → List Val → Store → Res) (d : DefI) (vs : List Val) (S : Store) : Res :=
  if vs.length ≠ d.ps.length then .bad else
  match locsOf vs with
  | none => .bad
  | some ls => if ls.Nodup then match cellsAt S ls with
    | none => .bad
    | some S0 => match evB C F d.body ((vs.map fun v => some (inV ls v)) ++ List.replicate (d.N.length - d.ps.length) none) S0 with
      | .nx _ S1 => .ok (.p .none) (after d.keep ls S S1)
      | .rt v S1 => match outT d.keep ls.length S.length ls S1 v with
        | some w => .ok w (after d.keep ls S S1)
        | none => .bad
      | .ex c as _ S1 => match outVs d.keep ls.length S.length ls S1 as with
        | some bs => .ex c bs (after d.keep ls S S1)
        | none => .bad
      | _ => .bad
    else .bad
def callN (C : Cfg) : Nat → Nat → List Val → Store → Res
  | 0, _, _, _ => .bad
  | n + 1, f, vs, S => match C.defs[f]? with
    | some d => callD C (callN C n) d vs S
    | none => .bad
end Ev

/-! Mb: the evaluator's equations, calls, walks. -/
namespace Mb
open PySem Ev
variable {C : Cfg}

section
variable {F : Nat → List Val → Store → Res} {env : Slots} {S : Store}
theorem ev_var {i : Nat} : ev C F (.var i) env S = (match env[i]? with
    | some (some v) => .ok v S
    | _ => .bad) := by rw [ev] <;> rfl
theorem ev_lit {d : PyData} : ev C F (.lit d) env S = .ok (.p d) S := by rw [ev] <;> rfl
theorem ev_gcon {x : Str} {d : PyData} : ev C F (.gcon x d) env S = .ok (.p d) S := by rw [ev] <;> rfl
theorem ev_gfn {f : Nat} : ev C F (.gfn f) env S = .ok (.fn f) S := by rw [ev] <;> rfl
theorem ev_op {o : Op} {es : List E} : ev C F (.op o es) env S = (match evL C F es env S with
    | .ok vs S1 => match prim C o vs S1 with
      | some (v, S2) => .ok v S2
      | none => .bad
    | .ex c as S1 => .ex c as S1
    | .bad => .bad) := by rw [ev] <;> rfl
theorem ev_and {a b : E} : ev C F (.and a b) env S = (match ev C F a env S with
    | .ok v S1 => match truV S1 v with
      | some true => ev C F b env S1
      | some false => .ok v S1
      | none => .bad
    | r => r) := by rw [ev] <;> rfl
theorem ev_or {a b : E} : ev C F (.or a b) env S = (match ev C F a env S with
    | .ok v S1 => match truV S1 v with
      | some false => ev C F b env S1
      | some true => .ok v S1
      | none => .bad
    | r => r) := by rw [ev] <;> rfl
theorem ev_not {a : E} : ev C F (.not a) env S = (match ev C F a env S with
    | .ok v S1 => match truV S1 v with
      | some b => .ok (.p (.bool !b)) S1
      | none => .bad
    | r => r) := by rw [ev] <;> rfl
theorem ev_ite {c a b : E} : ev C F (.ite c a b) env S = (match ev C F c env S with
    | .ok v S1 => match truV S1 v with
      | some true => ev C F a env S1
      | some false => ev C F b env S1
      | none => .bad
    | r => r) := by rw [ev] <;> rfl
theorem ev_call {f : Nat} {es : List E} : ev C F (.call f es) env S = (match evL C F es env S with
    | .ok vs S1 => F f vs S1
    | .ex c as S1 => .ex c as S1
    | .bad => .bad) := by rw [ev] <;> rfl
theorem ev_chain {o1 o2 : Op} {a b c : E} : ev C F (.chain o1 o2 a b c) env S = (match ev C F a env S with
    | .ok x S1 => match ev C F b env S1 with
      | .ok y S2 => match prim C o1 [x, y] S2 with
        | some (.p (.bool true), S3) => match ev C F c env S3 with
          | .ok z S4 => match prim C o2 [y, z] S4 with
            | some (v, S5) => .ok v S5
            | none => .bad
          | r => r
        | some (.p (.bool false), S3) => .ok (.p (.bool false)) S3
        | _ => .bad
      | r => r
    | r => r) := by rw [ev] <;> rfl
theorem ev_meth {cell : Bool} {m : Me} {o : E} {es : List E} : ev C F (.meth cell m o es) env S = (match ev C F o env S with
    | .ok v S1 => if recvOk S1 m v then match evL C F es env S1 with
      | .ok vs S2 => match primM m (v :: vs) S2 with
        | some (w, S3) => if cell then (match w with
          | .p (.list ds) => .ok (.loc S3.length) (S3 ++ [.lst ds])
          | _ => .bad) else .ok w S3
        | none => .bad
      | .ex c as S2 => .ex c as S2
      | .bad => .bad
      else .bad
    | r => r) := by rw [ev] <;> rfl
theorem evL_nil : evL C F [] env S = .ok [] S := by rw [evL] <;> rfl
theorem evL_cons {e : E} {es : List E} : evL C F (e :: es) env S = (match ev C F e env S with
    | .ok v S1 => match evL C F es env S1 with
      | .ok vs S2 => .ok (v :: vs) S2
      | r => r
    | .ex c as S1 => .ex c as S1
    | .bad => .bad) := by rw [evL] <;> rfl
theorem evB_nil : evB C F [] env S = .nx env S := by rw [evB] <;> rfl
theorem evB_cons {s : St} {ss : List St} : evB C F (s :: ss) env S = (match evS C F s env S with
    | .nx env1 S1 => evB C F ss env1 S1
    | r => r) := by rw [evB] <;> rfl
theorem evS_asg {t : Tg} {e : E} : evS C F (.asg t e) env S = (match ev C F e env S with
    | .ok v S1 => match bindTg S1 t v env with
      | some env1 => .nx env1 S1
      | none => .bad
    | .ex c as S1 => .ex c as env S1
    | .bad => .bad) := by rw [evS] <;> rfl
theorem evS_par {is : List Nat} {es : List E} : evS C F (.par is es) env S = (match evL C F es env S with
    | .ok vs S1 => match setAll is vs env with
      | some env1 => .nx env1 S1
      | none => .bad
    | .ex c as S1 => .ex c as env S1
    | .bad => .bad) := by rw [evS] <;> rfl
theorem evS_expr {e : E} : evS C F (.expr e) env S = (match ev C F e env S with
    | .ok _ S1 => .nx env S1
    | .ex c as S1 => .ex c as env S1
    | .bad => .bad) := by rw [evS] <;> rfl
theorem evS_ret {e : E} : evS C F (.ret e) env S = (match ev C F e env S with
    | .ok v S1 => .rt v S1
    | .ex c as S1 => .ex c as env S1
    | .bad => .bad) := by rw [evS] <;> rfl
theorem evS_ifs {c : E} {a b : List St} : evS C F (.ifs c a b) env S = (match ev C F c env S with
    | .ok v S1 => match truV S1 v with
      | some true => evB C F a env S1
      | some false => evB C F b env S1
      | none => .bad
    | .ex c as S1 => .ex c as env S1
    | .bad => .bad) := by rw [evS] <;> rfl
theorem evS_for {tg : Tg} {ik : IK} {its : List E} {body : List St} : evS C F (.for tg ik its body) env S = (match evL C F its env S with
    | .ok vs S1 => match items S1 ik vs with
      | some (xs, lk) => forGo (ckS lk) (evB C F body) tg xs env S1
      | none => .bad
    | .ex c as S1 => .ex c as env S1
    | .bad => .bad) := by rw [evS] <;> rfl
theorem evS_raise {c : Nat} {es : List E} : evS C F (.raise c es) env S = (match evL C F es env S with
    | .ok vs S1 => .ex c vs env S1
    | .ex c as S1 => .ex c as env S1
    | .bad => .bad) := by rw [evS] <;> rfl
theorem ev_callv {i : Nat} {es : List E} : ev C F (.callv i es) env S = (match env[i]? with
    | some (some (.fn f)) => if (C.defs[f]?).isSome then match evL C F es env S with
      | .ok vs S1 => F f vs S1
      | .ex c as S1 => .ex c as S1
      | .bad => .bad
      else .bad
    | _ => .bad) := by rw [ev] <;> rfl
theorem evS_setIx {o ix e : E} : evS C F (.setIx o ix e) env S = (match evL C F [e, o, ix] env S with
    | .ok [v, o, i] S1 => match setIxV S1 o i v with
      | some S2 => .nx env S2
      | none => .bad
    | .ex c as S1 => .ex c as env S1
    | _ => .bad) := by rw [evS] <;> rfl
theorem evS_swap {o1 i1 o2 i2 a b : E} : evS C F (.swapIx o1 i1 o2 i2 a b) env S = (match evL C F [a, b] env S with
    | .ok [x, y] S1 => match evL C F [o1, i1] env S1 with
      | .ok [o, i] S2 => match setIxV S2 o i x with
        | some S3 => match evL C F [o2, i2] env S3 with
          | .ok [o, i] S4 => match setIxV S4 o i y with
            | some S5 => .nx env S5
            | none => .bad
          | .ex c as S1 => .ex c as env S1
          | _ => .bad
        | none => .bad
      | .ex c as S1 => .ex c as env S1
      | _ => .bad
    | .ex c as S1 => .ex c as env S1
    | _ => .bad) := by rw [evS] <;> rfl
theorem evS_try {body : List St} {cs : List Nat} {slot : Option Nat} {suite : List St} : evS C F (.tryAs body cs slot suite) env S = (match evB C F body env S with
    | .ex c as env1 S1 => match C.clss[c]?, cs, slot with
      | some i, [h], some k => if i.anc.contains h then (if as.isEmpty then match evB C F suite (env1.set k (some (.exc c []))) S1 with
            | .nx env2 S2 => if noExcE (env2.set k none) then .nx (env2.set k none) S2 else .bad
            | .rt v S2 => if noExc v then .rt v S2 else .bad
            | _ => .bad
          else .bad)
        else .ex c as env1 S1
      | _, _, _ => .bad
    | r => r) := by rw [evS] <;> rfl
theorem evS_retN : evS C F .retN env S = .rt (.p .none) S := by rw [evS] <;> rfl
theorem evS_pass : evS C F .pass env S = .nx env S := by rw [evS] <;> rfl
theorem truV_bool {b : Bool} : truV S (.p (.bool b)) = some b := rfl
end

section
variable {S : Store} {x y z : PyData} {i j : Int}
theorem pr_add : prim C .add [.p x, .p y] S = (addP x y).map fun d => (.p d, S) := rfl
theorem pr_sub : prim C .sub [.p (.int i), .p (.int j)] S = some (.p (.int (i - j)), S) := rfl
theorem pr_mul : prim C .mul [.p x, .p y] S = (mulP x y).map fun d => (.p d, S) := rfl
theorem pr_fdiv : prim C .fdiv [.p (.int i), .p (.int j)] S = (if 0 < j ∧ j.natAbs.log2 < 9000 then some (PyData.int (i / j)) else none).map fun d => (.p d, S) := rfl
theorem pr_mod : prim C .mod [.p (.int i), .p (.int j)] S = (if 0 < j then some (PyData.int (i % j)) else none).map fun d => (.p d, S) := rfl
theorem pr_pow : prim C .pow [.p (.int i), .p (.int j)] S = (if 0 ≤ j ∧ j ≤ 100 ∧ i.natAbs.log2 < 250 then some (PyData.int (i ^ j.toNat)) else none).map fun d => (.p d, S) := rfl
theorem pr_neg : prim C .neg [.p (.int i)] S = some (.p (.int (-i)), S) := rfl
theorem pr_eq : prim C .eq [.p x, .p y] S = (bl (eqP x y)).map fun d => (.p d, S) := rfl
theorem pr_ne : prim C .ne [.p x, .p y] S = (bl ((eqP x y).map not)).map fun d => (.p d, S) := rfl
theorem pr_lt : prim C .lt [.p x, .p y] S = (bl (ltP x y)).map fun d => (.p d, S) := rfl
theorem pr_gt : prim C .gt [.p (.int i), .p (.int j)] S = some (.p (.bool (decide (j < i))), S) := rfl
theorem pr_le : prim C .le [.p (.int i), .p (.int j)] S = some (.p (.bool (decide (i ≤ j))), S) := rfl
theorem pr_ge : prim C .ge [.p (.int i), .p (.int j)] S = some (.p (.bool (decide (j ≤ i))), S) := rfl
theorem pr_isin : prim C .isin [.p x, .p y] S = (bl (inP x y)).map fun d => (.p d, S) := rfl
theorem pr_notin : prim C .notin [.p x, .p y] S = (bl ((inP x y).map not)).map fun d => (.p d, S) := rfl
theorem pr_ix : prim C .ix [.p x, .p y] S = (ixP x y).map fun d => (.p d, S) := rfl
theorem pr_sl00 : prim C (.sl false false) [.p x] S = (slP x none none).map fun d => (.p d, S) := rfl
theorem pr_sl10 : prim C (.sl true false) [.p x, .p (.int i)] S = (slP x (some i) none).map fun d => (.p d, S) := rfl
theorem pr_sl01 : prim C (.sl false true) [.p x, .p (.int i)] S = (slP x none (some i)).map fun d => (.p d, S) := rfl
theorem pr_sl11 : prim C (.sl true true) [.p x, .p (.int i), .p (.int j)] S = (slP x (some i) (some j)).map fun d => (.p d, S) := rfl
theorem pr_bi {b : Bi} : prim C (.bi b) [.p x] S = (biP b [x]).map fun d => (.p d, S) := rfl
theorem pr_bi2 {b : Bi} : prim C (.bi b) [.p x, .p y] S = (biP b [x, y]).map fun d => (.p d, S) := rfl
theorem pr_isnone {v : Val} : prim C .isnone [v] S = (nonV v).map fun b => (.p (.bool b), S) := rfl
theorem pr_notnone {v : Val} : prim C .notnone [v] S = (nonV v).map fun b => (.p (.bool !b), S) := rfl
theorem pr_isi {n : String} : prim C (.isi (.bt n)) [.p x] S = (isaP n x).map fun b => (.p (.bool b), S) := rfl
theorem pr_isic {k : Nat} {v : Val} : prim C (.isi (.cls k)) [v] S = (isiV C S (.cls k) v).map fun b => (.p (.bool b), S) := rfl
theorem pr_tup {vs : List Val} : prim C .tup vs S = if vs.length ≤ big then some (mkSeq true vs, S) else none := rfl
theorem pr_lst {vs : List Val} : prim C .lst vs S = if vs.length ≤ big then some (mkSeq false vs, S) else none := rfl
theorem isa_tuple : isaP "tuple" x = some x.isTuple := by unfold isaP; simp
theorem isa_str : isaP "str" x = some x.isStr := by unfold isaP; simp
theorem isa_int : isaP "int" x = some x.isInt := by unfold isaP; simp
theorem isa_bool : isaP "bool" x = some x.isBool := by unfold isaP; simp
theorem isa_list : isaP "list" x = some x.isList := by unfold isaP; simp
theorem bind_nm {i : Nat} {v : Val} {env : Slots} : bindTg S (.nm i) v env = some (env.set i (some v)) := rfl
theorem bind_tp {is : List Nat} {ds : List PyData} {env : Slots} : bindTg S (.tp is) (.p (.tuple ds)) env = setAll is (ds.map .p) env := rfl
theorem bind_tpl {is : List Nat} {ds : List PyData} {env : Slots} : bindTg S (.tp is) (.p (.list ds)) env = setAll is (ds.map .p) env := rfl
theorem setAll_nil {env : Slots} : setAll [] [] env = some env := rfl
theorem setAll_cons {i : Nat} {is : List Nat} {v : Val} {vs : List Val} {env : Slots} : setAll (i :: is) (v :: vs) env = setAll is vs (env.set i (some v)) := rfl
theorem biP_len_str {a : Str} : biP .len [.str a] = if a.length ≤ big then some (.int a.length) else none := rfl
theorem biP_len_list {xs : List PyData} : biP .len [.list xs] = some (.int xs.length) := rfl
theorem biP_len_tuple {xs : List PyData} : biP .len [.tuple xs] = some (.int xs.length) := rfl
theorem biP_tuple {xs : List PyData} : biP .tuple [.list xs] = some (.tuple xs) := rfl
theorem biP_list {xs : List PyData} : biP .list [.tuple xs] = some (.list xs) := rfl
theorem pm_index : primM .index [.p x, .p y] S = (meP .index [x, y]).map fun d => (.p d, S) := rfl
theorem pm_count : primM .count [.p x, .p y] S = (meP .count [x, y]).map fun d => (.p d, S) := rfl
theorem pm_join : primM .join [.p x, .p y] S = (meP .join [x, y]).map fun d => (.p d, S) := rfl
theorem pm_split : primM .split [.p x, .p y] S = (meP .split [x, y]).map fun d => (.p d, S) := rfl
theorem pm_replace : primM .replace [.p x, .p y, .p z] S = (meP .replace [x, y, z]).map fun d => (.p d, S) := rfl
theorem pm_upper : primM .upper [.p x] S = (meP .upper [x]).map fun d => (.p d, S) := rfl
section
variable {a : Str}
theorem rv_index : recvOk S .index (.p (.str a)) = true := rfl
theorem rv_count : recvOk S .count (.p (.str a)) = true := rfl
theorem rv_join : recvOk S .join (.p (.str a)) = true := rfl
theorem rv_split : recvOk S .split (.p (.str a)) = true := rfl
theorem rv_upper : recvOk S .upper (.p (.str a)) = true := rfl
theorem rv_replace : recvOk S .replace (.p (.str a)) = true := rfl
theorem rv_indexL {xs : List PyData} : recvOk S .index (.p (.list xs)) = true := rfl
theorem rv_countL {xs : List PyData} : recvOk S .count (.p (.list xs)) = true := rfl
end
theorem mul_l {i j : Int} (h : i.natAbs < 2 ^ 64) : mulP (.int i) (.int j) = some (.int (i * j)) := if_pos (.inl h)
theorem mul_r {i j : Int} (h : j.natAbs < 2 ^ 64) : mulP (.int i) (.int j) = some (.int (i * j)) := if_pos (.inr h)
theorem addP_int {i j : Int} : addP (.int i) (.int j) = some (.int (i + j)) := rfl
theorem biP_abs {i : Int} : biP .abs [.int i] = some (.int i.natAbs) := rfl
theorem biP_intb {b : Bool} : biP .int [.bool b] = some (.int (if b then 1 else 0)) := rfl
theorem bl_some {b : Bool} : bl (some b) = some (.bool b) := rfl
theorem tru_p : truV S (.p x) = truP x := rfl
theorem truP_bool {b : Bool} : truP (.bool b) = some b := rfl
theorem truP_int : truP (.int i) = some (i != 0) := rfl
theorem truP_none : truP .none = some false := rfl
theorem truP_tuple {xs : List PyData} : truP (.tuple xs) = some (!xs.isEmpty) := rfl
theorem truP_list {xs : List PyData} : truP (.list xs) = some (!xs.isEmpty) := rfl
theorem eqP_int : eqP (.int i) (.int j) = some (i == j) := rfl
theorem eqP_str {a b : Str} : eqP (.str a) (.str b) = some (a == b) := rfl
theorem ltP_str {a b : Str} : ltP (.str a) (.str b) = some (decide (a.cps.toList < b.cps.toList)) := rfl
theorem ltP_int : ltP (.int i) (.int j) = some (decide (i < j)) := rfl
theorem mkSeq_p (t : Bool) (ds : List PyData) : mkSeq t (ds.map .p) = .p (if t then .tuple ds else .list ds) := by
  have e : pures (ds.map .p) = some ds := by
    induction ds with
    | nil => rfl
    | cons d ds ih => show (pures (ds.map .p)).map (d :: ·) = _; rw [ih]; rfl
  unfold mkSeq
  rw [e]
end
theorem pures_p (ds : List PyData) : pures (ds.map .p) = some ds := by
  induction ds with
  | nil => rfl
  | cons d ds ih => show (pures (ds.map .p)).map (d :: ·) = _; rw [ih]; rfl
theorem locs_p (ds : List PyData) : locsOf (ds.map .p) = some [] := by
  induction ds with
  | nil => rfl
  | cons d ds ih => show locsOf (ds.map .p) = _; rw [ih]

/-! ### calls -/
theorem inV_p (ls : List Nat) (d : PyData) : inV ls (.p d) = .p d := rfl
/-- a call of no cell, by its body's end -/
theorem callP {k f : Nat} {d : DefI} {vs : List Val} {S : Store} {env0 : Slots} (hd : C.defs[f]? = some d) (hl : vs.length = d.ps.length) (hp : locsOf vs = some []) (hk : d.keep = false)
    (he : (vs.map fun v => some (inV [] v)) ++ List.replicate (d.N.length - d.ps.length) none = env0) :
    callN C (k + 1) f vs S = match evB C (callN C k) d.body env0 [] with
      | .nx _ _ => Res.ok (.p .none) S
      | .rt v S1 => match outT false 0 S.length [] S1 v with
        | some w => .ok w S
        | none => .bad
      | .ex c as _ S1 => match outVs false 0 S.length [] S1 as with
        | some bs => .ex c bs S
        | none => .bad
      | _ => .bad := by
  unfold callN
  rw [hd]
  dsimp only
  unfold callD
  rw [if_neg (by simp [hl]), hp]
  dsimp only
  rw [if_pos List.nodup_nil]
  show (match evB C (callN C k) d.body ((vs.map fun v => some (inV [] v)) ++ List.replicate (d.N.length - d.ps.length) none) [] with
      | .nx _ S1 => Res.ok (.p .none) (after d.keep [] S S1)
      | .rt v S1 => match outT d.keep 0 S.length [] S1 v with
        | some w => .ok w (after d.keep [] S S1)
        | none => .bad
      | .ex c as _ S1 => match outVs d.keep 0 S.length [] S1 as with
        | some bs => .ex c bs (after d.keep [] S S1)
        | none => .bad
      | _ => .bad) = _
  rw [he, hk]
  rfl
/-- a call of data that hands back data -/
theorem call_rt {k f : Nat} {d : DefI} {vs : List Val} {S S1 : Store} {r : PyData} (env0 : Slots) (hd : C.defs[f]? = some d) (hb : evB C (callN C k) d.body env0 [] = .rt (.p r) S1)
    (hl : vs.length = d.ps.length := by rfl) (hp : locsOf vs = some [] := by rfl) (hk : d.keep = false := by rfl) (he : (vs.map fun v => some (inV [] v)) ++ List.replicate (d.N.length - d.ps.length) none = env0 := by rfl) : callN C (k + 1) f vs S = .ok (.p r) S := by
  rw [callP hd hl hp hk he, hb]
  rfl
theorem call_nx {k f : Nat} {d : DefI} {vs : List Val} {S S1 : Store} {env1 : Slots} (env0 : Slots) (hd : C.defs[f]? = some d) (hb : evB C (callN C k) d.body env0 [] = .nx env1 S1)
    (hl : vs.length = d.ps.length := by rfl) (hp : locsOf vs = some [] := by rfl) (hk : d.keep = false := by rfl) (he : (vs.map fun v => some (inV [] v)) ++ List.replicate (d.N.length - d.ps.length) none = env0 := by rfl) : callN C (k + 1) f vs S = .ok (.p .none) S := by
  rw [callP hd hl hp hk he, hb]
theorem call_ex {k f c : Nat} {d : DefI} {vs : List Val} {S S1 : Store} {env1 : Slots} (env0 : Slots) (hd : C.defs[f]? = some d) (hb : evB C (callN C k) d.body env0 [] = .ex c [] env1 S1)
    (hl : vs.length = d.ps.length := by rfl) (hp : locsOf vs = some [] := by rfl) (hk : d.keep = false := by rfl) (he : (vs.map fun v => some (inV [] v)) ++ List.replicate (d.N.length - d.ps.length) none = env0 := by rfl) : callN C (k + 1) f vs S = .ex c [] S := by
  rw [callP hd hl hp hk he, hb]
  rfl
/-- a call whose first argument is a cell; cells of its own are left behind -/
theorem call_cell {k f : Nat} {d : DefI} {i : Nat} {c c1 : Cell} {ps : List PyData} {S rest : Store} {v : Val} {r : PyData} (env0 : Slots) (hd : C.defs[f]? = some d) (hi : S[i]? = some c) (hb : evB C (callN C k) d.body env0 [c] = .rt v (c1 :: rest)) (ho : outT false 1 S.length [i] (c1 :: rest) v = some (.p r))
    (hl : ps.length + 1 = d.ps.length := by rfl) (hk : d.keep = false := by rfl) (he : some (.loc 0) :: ((ps.map fun d => some (.p d)) ++ List.replicate (d.N.length - d.ps.length) none) = env0 := by rfl) : callN C (k + 1) f (.loc i :: ps.map .p) S = .ok (.p r) (S.set i c1) := by
  unfold callN
  rw [hd]
  dsimp only
  unfold callD
  have hp : locsOf (.loc i :: ps.map .p) = some [i] := by
    show (locsOf (ps.map .p)).map (i :: ·) = _
    rw [locs_p]
    rfl
  rw [if_neg (by simp [← hl]), hp]
  dsimp only
  rw [if_pos (by simp)]
  have hc : cellsAt S [i] = some [c] := by
    unfold cellsAt
    rw [hi]
    rfl
  rw [hc]
  dsimp only
  have e : ((Val.loc i :: ps.map .p).map fun v => some (inV [i] v)) ++ List.replicate (d.N.length - d.ps.length) none = env0 := by
    rw [← he, List.map_cons, List.map_map]
    show some (inV [i] (.loc i)) :: _ = _
    have e0 : inV [i] (.loc i) = .loc 0 := by
      show Val.loc ([i].idxOf i) = _
      simp
    rw [e0]
    rfl
  rw [e, hb, hk]
  dsimp only
  show (match outT false 1 S.length [i] (c1 :: rest) v with
        | some w => Res.ok w (after false [i] S (c1 :: rest))
        | none => .bad) = _
  rw [ho]
  rfl

/-! ### walks of data -/
theorem evC_none {F : Nat → List Val → Store → Res} {env : Slots} {S : Store} : evC C F none env S = (some true, S) := by unfold evC; rfl
theorem evC_some {F : Nat → List Val → Store → Res} {e : E} {env : Slots} {S : Store} : evC C F (some e) env S = asTest (ev C F e env S) := by rw [evC]
theorem compGo_map {α : Type} {F : Nat → List Val → Store → Res} {elt : E} {cond : Option E} {tg : Tg} {env : Slots} {S : Store} {it : α → Val} {p : α → Bool} {g : α → PyData} : ∀ (xs : List α),
    (∀ a ∈ xs, ∃ env1, bindTg S tg (it a) env = some env1 ∧ evC C F cond env1 S = (some (p a), S) ∧ (p a = true → ev C F elt env1 S = .ok (.p (g a)) S)) →
    compGo (ckS none) (ev C F elt) (evC C F cond) tg env (xs.map it) S = .ok (((xs.filter p).map g).map .p) S
  | [], _ => rfl
  | a :: xs, h => by
    obtain ⟨env1, h1, h2, h3⟩ := h a List.mem_cons_self
    have ih := compGo_map xs fun u hu => h u (List.mem_cons_of_mem _ hu)
    show compGo _ _ _ tg env (it a :: xs.map it) S = _
    unfold compGo
    rw [if_pos (show ckS none S = true from rfl), h1]
    dsimp only
    rw [h2, List.filter_cons]
    cases hp : p a with
    | false =>
      dsimp only
      rw [ih]
      rfl
    | true =>
      dsimp only
      rw [h3 hp]
      dsimp only
      rw [ih]
      rfl
theorem ev_compIf {α : Type} {F : Nat → List Val → Store → Res} {elt cond : E} {own : List Nat} {tg : Tg} {ik : IK} {its : List E} {env : Slots} {S : Store} {vs : List Val} (it : α → Val) (p : α → Bool) (g : α → PyData) (xs : List α) (h1 : evL C F its env S = .ok vs S) (h2 : items S ik vs = some (xs.map it, none)) (h3 : xs.length ≤ big)
    (h : ∀ a ∈ xs, ∃ env1 v, bindTg S tg (it a) (wipeE env own) = some env1 ∧ ev C F cond env1 S = .ok v S ∧ truV S v = some (p a) ∧ (p a = true → ev C F elt env1 S = .ok (.p (g a)) S)) : ev C F (.comp false own elt tg ik its (some cond)) env S = .ok (.p (.list ((xs.filter p).map g))) S := by
  unfold ev
  rw [h1]
  dsimp only
  rw [h2]
  dsimp only
  rw [if_neg (by rw [List.length_map]; omega), compGo_map (p := p) (g := g) xs (fun d hd => by
    obtain ⟨env1, v, a, b, c, e⟩ := h d hd
    refine ⟨env1, a, ?_, e⟩
    rw [evC_some, b]
    show (truV S v, S) = _
    rw [c])]
  dsimp only
  rw [pures_p]
  rfl
theorem ev_comp {α : Type} {F : Nat → List Val → Store → Res} {elt : E} {own : List Nat} {tg : Tg} {ik : IK} {its : List E} {env : Slots} {S : Store} {vs : List Val} (it : α → Val) (g : α → PyData) (xs : List α) (h1 : evL C F its env S = .ok vs S) (h2 : items S ik vs = some (xs.map it, none)) (h3 : xs.length ≤ big)
    (h : ∀ a ∈ xs, ∃ env1, bindTg S tg (it a) (wipeE env own) = some env1 ∧ ev C F elt env1 S = .ok (.p (g a)) S) : ev C F (.comp false own elt tg ik its none) env S = .ok (.p (.list (xs.map g))) S := by
  unfold ev
  rw [h1]
  dsimp only
  rw [h2]
  dsimp only
  rw [if_neg (by rw [List.length_map]; omega), compGo_map (p := fun _ => true) (g := g) xs (fun d hd => by
    obtain ⟨env1, a, e⟩ := h d hd
    exact ⟨env1, a, evC_none, fun _ => e⟩)]
  dsimp only
  rw [pures_p, List.filter_eq_self.mpr (by simp)]
  rfl
theorem ev_scomp {α : Type} {F : Nat → List Val → Store → Res} {elt : E} {own : List Nat} {tg : Tg} {ik : IK} {its : List E} {env : Slots} {S : Store} {vs : List Val} (it : α → Val) (g : α → PyData) (ks : List (Sum Int Str)) (xs : List α) (h1 : evL C F its env S = .ok vs S) (h2 : items S ik vs = some (xs.map it, none)) (h3 : xs.length ≤ 4000)
    (h : ∀ a ∈ xs, ∃ env1, bindTg S tg (it a) (wipeE env own) = some env1 ∧ ev C F elt env1 S = .ok (.p (g a)) S) (hk : keysOf ((xs.map g).map .p) = some ks) : ev C F (.scomp own elt tg ik its none) env S = .ok (.p (.int ((ks.foldl kins []).length : Nat))) S := by
  unfold ev
  rw [h1]
  dsimp only
  rw [h2]
  dsimp only
  rw [if_neg (by rw [List.length_map]; omega), compGo_map (p := fun _ => true) (g := g) xs (fun d hd => by
    obtain ⟨env1, a, e⟩ := h d hd
    exact ⟨env1, a, evC_none, fun _ => e⟩)]
  dsimp only
  rw [List.filter_eq_self.mpr (by simp), hk]
inductive F2 {α β : Type} (P : α → β → Prop) : List α → List β → Prop
  | nil : F2 P [] []
  | cons {a : α} {b : β} {as : List α} {bs : List β} : P a b → F2 P as bs → F2 P (a :: as) (b :: bs)
theorem F2.length {α β : Type} {P : α → β → Prop} {as : List α} {bs : List β} (h : F2 P as bs) : as.length = bs.length := by
  induction h with
  | nil => rfl
  | cons _ _ ih => simp [ih]
theorem F2.right {α β : Type} {P : α → β → Prop} {as : List α} {bs : List β} (h : F2 P as bs) : ∀ b ∈ bs, ∃ a ∈ as, P a b := by
  induction h with
  | nil => intro b hb; cases hb
  | cons p _ ih =>
    intro b hb
    rcases List.mem_cons.mp hb with rfl | hb
    · exact ⟨_, List.mem_cons_self, p⟩
    · obtain ⟨a, h1, h2⟩ := ih b hb
      exact ⟨a, List.mem_cons_of_mem _ h1, h2⟩
/-- a walk whose turns change the store -/
theorem compGo_inv {α : Type} {F : Nat → List Val → Store → Res} {elt : E} {tg : Tg} {env : Slots} {ck : Store → Bool} {it : α → Val} (J : Store → Prop) (P : α → PyData → Prop) (hck : ∀ S, J S → ck S = true) : ∀ (xs : List α),
    (∀ a ∈ xs, ∀ S, J S → ∃ env1 d S', bindTg S tg (it a) env = some env1 ∧ ev C F elt env1 S = .ok (.p d) S' ∧ J S' ∧ P a d) → ∀ S, J S →
    ∃ ds S', compGo ck (ev C F elt) (evC C F none) tg env (xs.map it) S = .ok (ds.map .p) S' ∧ J S' ∧ F2 P xs ds
  | [], _, S, hS => ⟨[], S, by show compGo _ _ _ _ _ [] S = _; unfold compGo; rw [if_pos (hck S hS)]; rfl, hS, .nil⟩
  | a :: xs, h, S, hS => by
    obtain ⟨env1, d, S1, h1, h2, h3, h4⟩ := h a List.mem_cons_self S hS
    obtain ⟨ds, S2, i1, i2, i3⟩ := compGo_inv J P hck xs (fun u hu => h u (List.mem_cons_of_mem _ hu)) S1 h3
    refine ⟨d :: ds, S2, ?_, i2, .cons h4 i3⟩
    show compGo _ _ _ tg env (it a :: xs.map it) S = _
    unfold compGo
    rw [if_pos (hck S hS), h1]
    dsimp only
    rw [evC_none]
    dsimp only
    rw [h2]
    dsimp only
    rw [i1]
    rfl
theorem ev_compJ {α : Type} {F : Nat → List Val → Store → Res} {elt : E} {own : List Nat} {tg : Tg} {ik : IK} {its : List E} {env : Slots} {S : Store} {vs : List Val} (it : α → Val) (xs : List α) (J : Store → Prop) (P : α → PyData → Prop) (h1 : evL C F its env S = .ok vs S) (h2 : items S ik vs = some (xs.map it, none)) (h3 : xs.length ≤ big)
    (h : ∀ a ∈ xs, ∀ S, J S → ∃ env1 d S', bindTg S tg (it a) (wipeE env own) = some env1 ∧ ev C F elt env1 S = .ok (.p d) S' ∧ J S' ∧ P a d) (hS : J S) : ∃ ds S', ev C F (.comp false own elt tg ik its none) env S = .ok (.p (.list ds)) S' ∧ J S' ∧ F2 P xs ds := by
  obtain ⟨ds, S', e, j, f⟩ := compGo_inv (ck := ckS none) (it := it) J P (fun _ _ => rfl) xs h S hS
  refine ⟨ds, S', ?_, j, f⟩
  unfold ev
  rw [h1]
  dsimp only
  rw [h2]
  dsimp only
  rw [if_neg (by rw [List.length_map]; omega), e]
  dsimp only
  rw [pures_p]
  rfl
theorem forGo_inv {α : Type} {ck : Store → Bool} {fb : Slots → Store → SRes} {tg : Tg} {it : α → Val} (I : List α → Slots → Store → Prop) (hck : ∀ xs env S, I xs env S → ck S = true)
    (step : ∀ a as env S, I (a :: as) env S → ∃ env1 env2 S2, bindTg S tg (it a) env = some env1 ∧ fb env1 S = .nx env2 S2 ∧ I as env2 S2) : ∀ (xs : List α) (env : Slots) (S : Store), I xs env S → ∃ env' S', forGo ck fb tg (xs.map it) env S = .nx env' S' ∧ I [] env' S'
  | [], env, S, h => ⟨env, S, by show forGo _ _ _ [] _ _ = _; unfold forGo; rw [if_pos (hck _ _ _ h)], h⟩
  | a :: as, env, S, h => by
    obtain ⟨env1, env2, S2, h1, h2, h3⟩ := step a as env S h
    obtain ⟨env', S', i1, i2⟩ := forGo_inv I hck step as env2 S2 h3
    refine ⟨env', S', ?_, i2⟩
    show forGo _ _ _ (it a :: as.map it) _ _ = _
    unfold forGo
    rw [if_pos (hck _ _ _ h), h1]
    dsimp only
    rw [h2]
    exact i1
theorem trus_bools (bs : List Bool) : trusOf (bs.map .bool) = some bs := by
  induction bs with
  | nil => rfl
  | cons b bs ih =>
    show (match truF (.bool b) with
      | some b => (trusOf (bs.map .bool)).map (b :: ·)
      | none => none) = _
    rw [ih]
    rfl
/-- all over a list of Booleans -/
theorem bi_all {α : Type} (f : α → Bool) (xs : List α) : biP .all [.list (xs.map fun x => .bool (f x))] = some (.bool (xs.all f)) := by
  show (trusOf (xs.map fun x => PyData.bool (f x))).map _ = _
  have e := trus_bools (xs.map f)
  rw [List.map_map] at e
  rw [show (xs.map fun x => PyData.bool (f x)) = xs.map (PyData.bool ∘ f) from rfl, e]
  simp [List.all_map]
theorem bi_any {α : Type} (f : α → Bool) (xs : List α) : biP .any [.list (xs.map fun x => .bool (f x))] = some (.bool (xs.any f)) := by
  show (trusOf (xs.map fun x => PyData.bool (f x))).map _ = _
  have e := trus_bools (xs.map f)
  rw [List.map_map] at e
  rw [show (xs.map fun x => PyData.bool (f x)) = xs.map (PyData.bool ∘ f) from rfl, e]
  simp [List.any_map]
theorem strs_map (xs : List Str) : strsOf (xs.map .str) = some xs := by
  induction xs with
  | nil => rfl
  | cons x xs ih => show (strsOf (xs.map .str)).map (x :: ·) = _; rw [ih]; rfl
end Mb

namespace I
open PySem Ev
abbrev f_is_whole : Nat := 0
abbrev f_is_between : Nat := 1
abbrev f_is_name : Nat := 2
abbrev f_is_ascending : Nat := 3
abbrev f_are_values : Nat := 4
abbrev f_is_row : Nat := 5
abbrev f_have_one_width : Nat := 6
abbrev f_are_rows : Nat := 7
abbrev f_is_rowset : Nat := 8
abbrev f_parse_integer : Nat := 9
abbrev f_parse_values : Nat := 10
abbrev f_write_row : Nat := 11
abbrev f_write_rowset : Nat := 12
abbrev f_require_string : Nat := 13
abbrev f_format_row : Nat := 14
abbrev f_format_rowset : Nat := 15
abbrev f_scan_row : Nat := 16
abbrev f_parse_row : Nat := 17
abbrev f_parse_rowset : Nat := 18
abbrev f__law_stream : Nat := 19
abbrev f__law_draw : Nat := 20
abbrev f__law_name : Nat := 21
abbrev f__law_rowset : Nat := 22
abbrev f__law_integer : Nat := 23
abbrev f__law_row_text : Nat := 24
abbrev f__law_rowset_text : Nat := 25
abbrev f__law_scan_row : Nat := 26
abbrev f__law_parsed : Nat := 27
abbrev f__law_changed_text : Nat := 28
abbrev f__law_call_result : Nat := 29
abbrev f__law_texts_correct : Nat := 30
abbrev f_law : Nat := 31
abbrev cl_SparesError : Nat := 0
abbrev cl_InvalidRow : Nat := 1
abbrev cl_InvalidRowset : Nat := 2
abbrev cl_ParseError : Nat := 3
def sLetters : Str := ⟨#[97, 98, 99, 100, 101, 102, 103, 104, 105, 106, 107, 108, 109, 110, 111, 112, 113, 114, 115, 116, 117, 118, 119, 120, 121, 122]⟩
def sDigits : Str := ⟨#[48, 49, 50, 51, 52, 53, 54, 55, 56, 57]⟩
def d_is_whole : DefI := ⟨⟨#[105, 115, 95, 119, 104, 111, 108, 101]⟩, [⟨#[118, 97, 108, 117, 101]⟩], [⟨#[118, 97, 108, 117, 101]⟩], false, [.ret (.and (.op (.isi (.bt "int")) [(.var 0)]) (.not (.op (.isi (.bt "bool")) [(.var 0)])))]⟩
def d_is_between : DefI := ⟨⟨#[105, 115, 95, 98, 101, 116, 119, 101, 101, 110]⟩, [⟨#[118, 97, 108, 117, 101]⟩, ⟨#[108, 111, 119]⟩, ⟨#[104, 105, 103, 104]⟩], [⟨#[118, 97, 108, 117, 101]⟩, ⟨#[108, 111, 119]⟩, ⟨#[104, 105, 103, 104]⟩], false, [.ret (.and (.call f_is_whole [(.var 0)]) (.chain .le .le (.var 1) (.var 0) (.var 2)))]⟩
def c_is_name_0 : E := .comp false [1] (.op .isin [(.var 1), (.gcon ⟨#[76, 69, 84, 84, 69, 82, 83]⟩ (.str sLetters))]) (.nm 1) .val [(.var 0)] none
def d_is_name : DefI := ⟨⟨#[105, 115, 95, 110, 97, 109, 101]⟩, [⟨#[118, 97, 108, 117, 101]⟩], [⟨#[118, 97, 108, 117, 101]⟩, ⟨#[108, 101, 116, 116, 101, 114]⟩], false, [.ret (.and (.op (.isi (.bt "str")) [(.var 0)]) (.and (.chain .le .le (.lit (.int 1)) (.op (.bi .len) [(.var 0)]) (.gcon ⟨#[77, 65, 88, 95, 76, 69, 84, 84, 69, 82, 83]⟩ (.int 8))) (.op (.bi .all) [c_is_name_0])))]⟩
def c_is_ascending_0 : E := .comp false [1, 2] (.op .lt [(.var 1), (.var 2)]) (.tp [1, 2]) .zip [(.var 0), (.op (.sl true false) [(.var 0), (.lit (.int 1))])] none
def d_is_ascending : DefI := ⟨⟨#[105, 115, 95, 97, 115, 99, 101, 110, 100, 105, 110, 103]⟩, [⟨#[118, 97, 108, 117, 101, 115]⟩], [⟨#[118, 97, 108, 117, 101, 115]⟩, ⟨#[111, 110, 101]⟩, ⟨#[111, 116, 104, 101, 114]⟩], false, [.ret (.op (.bi .all) [c_is_ascending_0])]⟩
def c_are_values_0 : E := .comp false [1] (.call f_is_between [(.var 1), (.op .neg [(.gcon ⟨#[77, 65, 88, 95, 86, 65, 76, 85, 69]⟩ (.int 1000000000))]), (.gcon ⟨#[77, 65, 88, 95, 86, 65, 76, 85, 69]⟩ (.int 1000000000))]) (.nm 1) .val [(.var 0)] none
def d_are_values : DefI := ⟨⟨#[97, 114, 101, 95, 118, 97, 108, 117, 101, 115]⟩, [⟨#[118, 97, 108, 117, 101]⟩], [⟨#[118, 97, 108, 117, 101]⟩, ⟨#[105, 116, 101, 109]⟩], false, [.ifs (.or (.not (.op (.isi (.bt "tuple")) [(.var 0)])) (.not (.chain .le .le (.lit (.int 1)) (.op (.bi .len) [(.var 0)]) (.gcon ⟨#[77, 65, 88, 95, 87, 73, 68, 84, 72]⟩ (.int 4)))))
    [.ret (.lit (.bool false))]
    [],
    .ret (.op (.bi .all) [c_are_values_0])]⟩
def d_is_row : DefI := ⟨⟨#[105, 115, 95, 114, 111, 119]⟩, [⟨#[118, 97, 108, 117, 101]⟩], [⟨#[118, 97, 108, 117, 101]⟩, ⟨#[110, 97, 109, 101]⟩, ⟨#[99, 111, 115, 116]⟩, ⟨#[118, 97, 108, 117, 101, 115]⟩, ⟨#[101, 120, 112, 105, 114, 121]⟩], false, [.ifs (.or (.not (.op (.isi (.bt "tuple")) [(.var 0)])) (.op .ne [(.op (.bi .len) [(.var 0)]), (.lit (.int 4))]))
    [.ret (.lit (.bool false))]
    [],
    .asg (.tp [1, 2, 3, 4]) (.var 0),
    .ifs (.or (.not (.call f_is_name [(.var 1)])) (.not (.call f_is_between [(.var 2), (.lit (.int 1)), (.gcon ⟨#[77, 65, 88, 95, 67, 79, 83, 84]⟩ (.int 1000000))])))
    [.ret (.lit (.bool false))]
    [],
    .ret (.and (.call f_are_values [(.var 3)]) (.call f_is_between [(.var 4), (.lit (.int 1)), (.gcon ⟨#[77, 65, 88, 95, 69, 88, 80, 73, 82, 89]⟩ (.int 1000000000))]))]⟩
def c_have_one_width_0 : E := .scomp [1] (.op (.bi .len) [(.op .ix [(.var 1), (.lit (.int 2))])]) (.nm 1) .val [(.var 0)] none
def d_have_one_width : DefI := ⟨⟨#[104, 97, 118, 101, 95, 111, 110, 101, 95, 119, 105, 100, 116, 104]⟩, [⟨#[114, 111, 119, 115]⟩], [⟨#[114, 111, 119, 115]⟩, ⟨#[114, 111, 119]⟩], false, [.ret (.op .lt [c_have_one_width_0, (.lit (.int 2))])]⟩
def c_are_rows_0 : E := .comp false [1] (.call f_is_row [(.var 1)]) (.nm 1) .val [(.var 0)] none
def d_are_rows : DefI := ⟨⟨#[97, 114, 101, 95, 114, 111, 119, 115]⟩, [⟨#[118, 97, 108, 117, 101]⟩], [⟨#[118, 97, 108, 117, 101]⟩, ⟨#[114, 111, 119]⟩], false, [.ret (.and (.op (.isi (.bt "tuple")) [(.var 0)]) (.and (.op (.bi .all) [c_are_rows_0]) (.call f_have_one_width [(.var 0)])))]⟩
def c_is_rowset_0 : E := .comp false [1] (.op .ix [(.var 1), (.lit (.int 0))]) (.nm 1) .val [(.var 0)] none
def d_is_rowset : DefI := ⟨⟨#[105, 115, 95, 114, 111, 119, 115, 101, 116]⟩, [⟨#[118, 97, 108, 117, 101]⟩], [⟨#[118, 97, 108, 117, 101]⟩, ⟨#[114, 111, 119]⟩], false, [.ret (.and (.call f_are_rows [(.var 0)]) (.and (.op .le [(.op (.bi .len) [(.var 0)]), (.gcon ⟨#[77, 65, 88, 95, 82, 79, 87, 83]⟩ (.int 60))]) (.call f_is_ascending [c_is_rowset_0])))]⟩
def c_parse_integer_0 : E := .comp false [2] (.op .isin [(.var 2), (.gcon ⟨#[68, 73, 71, 73, 84, 83]⟩ (.str sDigits))]) (.nm 2) .val [(.var 1)] none
def d_parse_integer : DefI := ⟨⟨#[112, 97, 114, 115, 101, 95, 105, 110, 116, 101, 103, 101, 114]⟩, [⟨#[119, 111, 114, 100]⟩], [⟨#[119, 111, 114, 100]⟩, ⟨#[100, 105, 103, 105, 116, 115]⟩, ⟨#[115, 105, 103, 110]⟩], false, [.asg (.nm 1) (.ite (.op .eq [(.op (.sl false true) [(.var 0), (.lit (.int 1))]), (.lit (.str ⟨#[45]⟩))]) (.op (.sl true false) [(.var 0), (.lit (.int 1))]) (.var 0)),
    .ifs (.or (.not (.chain .le .le (.lit (.int 1)) (.op (.bi .len) [(.var 1)]) (.gcon ⟨#[77, 65, 88, 95, 68, 73, 71, 73, 84, 83]⟩ (.int 40)))) (.not (.op (.bi .all) [c_parse_integer_0])))
    [.ret (.lit .none)]
    [],
    .ret (.ite (.op .eq [(.op (.bi .str) [(.op (.bi .int) [(.var 0)])]), (.var 0)]) (.op (.bi .int) [(.var 0)]) (.lit .none))]⟩
def c_parse_values_0 : E := .comp false [2] (.call f_parse_integer [(.var 2)]) (.nm 2) .val [(.meth false .split (.var 0) [(.lit (.str ⟨#[44]⟩))])] none
def d_parse_values : DefI := ⟨⟨#[112, 97, 114, 115, 101, 95, 118, 97, 108, 117, 101, 115]⟩, [⟨#[119, 111, 114, 100]⟩], [⟨#[119, 111, 114, 100]⟩, ⟨#[118, 97, 108, 117, 101, 115]⟩, ⟨#[112, 97, 114, 116]⟩], false, [.asg (.nm 1) (.op (.bi .tuple) [c_parse_values_0]),
    .ret (.ite (.op .isin [(.lit .none), (.var 1)]) (.lit .none) (.var 1))]⟩
def c_write_row_0 : E := .comp false [5] (.op (.bi .str) [(.var 5)]) (.nm 5) .val [(.var 3)] none
def d_write_row : DefI := ⟨⟨#[119, 114, 105, 116, 101, 95, 114, 111, 119]⟩, [⟨#[114, 111, 119]⟩], [⟨#[114, 111, 119]⟩, ⟨#[110, 97, 109, 101]⟩, ⟨#[99, 111, 115, 116]⟩, ⟨#[118, 97, 108, 117, 101, 115]⟩, ⟨#[101, 120, 112, 105, 114, 121]⟩, ⟨#[118, 97, 108, 117, 101]⟩], false, [.asg (.tp [1, 2, 3, 4]) (.var 0),
    .ret (.fstr [true, false, true, false, true, false, true] [(.var 1), (.lit (.str ⟨#[32]⟩)), (.var 2), (.lit (.str ⟨#[32]⟩)), (.meth false .join (.lit (.str ⟨#[44]⟩)) [c_write_row_0]), (.lit (.str ⟨#[32]⟩)), (.var 4)])]⟩
def c_write_rowset_0 : E := .comp false [1] (.call f_write_row [(.var 1)]) (.nm 1) .val [(.var 0)] none
def d_write_rowset : DefI := ⟨⟨#[119, 114, 105, 116, 101, 95, 114, 111, 119, 115, 101, 116]⟩, [⟨#[114, 111, 119, 115, 101, 116]⟩], [⟨#[114, 111, 119, 115, 101, 116]⟩, ⟨#[114, 111, 119]⟩], false, [.ret (.or (.meth false .join (.gcon ⟨#[82, 79, 87, 95, 83, 69, 80, 65, 82, 65, 84, 79, 82]⟩ (.str ⟨#[32, 59, 32]⟩)) [c_write_rowset_0]) (.gcon ⟨#[78, 79, 78, 69]⟩ (.str ⟨#[45]⟩)))]⟩
def d_require_string : DefI := ⟨⟨#[114, 101, 113, 117, 105, 114, 101, 95, 115, 116, 114, 105, 110, 103]⟩, [⟨#[118, 97, 108, 117, 101]⟩], [⟨#[118, 97, 108, 117, 101]⟩], false, [.ifs (.not (.op (.isi (.bt "str")) [(.var 0)]))
    [.raise cl_ParseError []]
    []]⟩
def d_format_row : DefI := ⟨⟨#[102, 111, 114, 109, 97, 116, 95, 114, 111, 119]⟩, [⟨#[114, 111, 119]⟩], [⟨#[114, 111, 119]⟩], false, [.ifs (.not (.call f_is_row [(.var 0)]))
    [.raise cl_InvalidRow []]
    [],
    .ret (.call f_write_row [(.var 0)])]⟩
def d_format_rowset : DefI := ⟨⟨#[102, 111, 114, 109, 97, 116, 95, 114, 111, 119, 115, 101, 116]⟩, [⟨#[114, 111, 119, 115, 101, 116]⟩], [⟨#[114, 111, 119, 115, 101, 116]⟩], false, [.ifs (.not (.call f_is_rowset [(.var 0)]))
    [.raise cl_InvalidRowset []]
    [],
    .ret (.call f_write_rowset [(.var 0)])]⟩
def d_scan_row : DefI := ⟨⟨#[115, 99, 97, 110, 95, 114, 111, 119]⟩, [⟨#[116, 101, 120, 116]⟩], [⟨#[116, 101, 120, 116]⟩, ⟨#[119, 111, 114, 100, 115]⟩, ⟨#[110, 97, 109, 101]⟩, ⟨#[99, 111, 115, 116]⟩, ⟨#[118, 97, 108, 117, 101, 115]⟩, ⟨#[101, 120, 112, 105, 114, 121]⟩], false, [.asg (.nm 1) (.meth false .split (.var 0) [(.lit (.str ⟨#[32]⟩))]),
    .ifs (.op .ne [(.op (.bi .len) [(.var 1)]), (.lit (.int 4))])
    [.ret (.lit .none)]
    [],
    .asg (.tp [2, 3, 4, 5]) (.var 1),
    .ret (.op .tup [(.var 2), (.call f_parse_integer [(.var 3)]), (.call f_parse_values [(.var 4)]), (.call f_parse_integer [(.var 5)])])]⟩
def d_parse_row : DefI := ⟨⟨#[112, 97, 114, 115, 101, 95, 114, 111, 119]⟩, [⟨#[116, 101, 120, 116]⟩], [⟨#[116, 101, 120, 116]⟩, ⟨#[114, 111, 119]⟩], false, [.expr (.call f_require_string [(.var 0)]),
    .asg (.nm 1) (.call f_scan_row [(.var 0)]),
    .ifs (.or (.not (.call f_is_row [(.var 1)])) (.op .ne [(.call f_write_row [(.var 1)]), (.var 0)]))
    [.raise cl_ParseError []]
    [],
    .ret (.var 1)]⟩
def c_parse_rowset_0 : E := .comp false [2] (.call f_scan_row [(.var 2)]) (.nm 2) .val [(.meth false .split (.var 0) [(.gcon ⟨#[82, 79, 87, 95, 83, 69, 80, 65, 82, 65, 84, 79, 82]⟩ (.str ⟨#[32, 59, 32]⟩))])] none
def d_parse_rowset : DefI := ⟨⟨#[112, 97, 114, 115, 101, 95, 114, 111, 119, 115, 101, 116]⟩, [⟨#[116, 101, 120, 116]⟩], [⟨#[116, 101, 120, 116]⟩, ⟨#[114, 111, 119, 115, 101, 116]⟩, ⟨#[112, 97, 114, 116]⟩], false, [.expr (.call f_require_string [(.var 0)]),
    .asg (.nm 1) (.ite (.op .eq [(.var 0), (.gcon ⟨#[78, 79, 78, 69]⟩ (.str ⟨#[45]⟩))]) (.op .tup []) (.op (.bi .tuple) [c_parse_rowset_0])),
    .ifs (.or (.not (.call f_is_rowset [(.var 1)])) (.op .ne [(.call f_write_rowset [(.var 1)]), (.var 0)]))
    [.raise cl_ParseError []]
    [],
    .ret (.var 1)]⟩
def d__law_stream : DefI := ⟨⟨#[95, 108, 97, 119, 95, 115, 116, 114, 101, 97, 109]⟩, [⟨#[115, 99, 114, 105, 112, 116]⟩, ⟨#[97, 116]⟩], [⟨#[115, 99, 114, 105, 112, 116]⟩, ⟨#[97, 116]⟩, ⟨#[99, 101, 108, 108]⟩, ⟨#[103, 114, 101, 97, 116]⟩], true, [.asg (.nm 2) (.op .add [(.op .mul [(.lit (.int 5)), (.var 1)]), (.lit (.int 3))]),
    .ifs (.op .lt [(.var 1), (.op (.bi .len) [(.var 0)])])
    [.asg (.nm 2) (.op .ix [(.var 0), (.var 1)])]
    [],
    .asg (.nm 3) (.op .mod [(.op (.bi .abs) [(.var 2)]), (.op .pow [(.op .pow [(.lit (.int 10)), (.lit (.int 60))]), (.lit (.int 12))])]),
    .ret (.op (.mk .lst) [(.op (.bi .max) [(.lit (.int 0)), (.op .sub [(.var 3), (.op .pow [(.lit (.int 10)), (.lit (.int 17))])])]), (.op .mod [(.op .add [(.op .add [(.op .add [(.op .mul [(.var 3), (.lit (.int 9576890767))]), (.op .mul [(.lit (.int 611953)), (.var 1)])]), (.op .mul [(.lit (.int 2)), (.op (.bi .int) [(.op .lt [(.var 2), (.lit (.int 0))])])])]), (.lit (.int 7))]), (.lit (.int 4294967291))]), (.lit (.int 0))])]⟩
def d__law_draw : DefI := ⟨⟨#[95, 108, 97, 119, 95, 100, 114, 97, 119]⟩, [⟨#[115, 116, 114, 101, 97, 109]⟩, ⟨#[116, 111, 116, 97, 108]⟩], [⟨#[115, 116, 114, 101, 97, 109]⟩, ⟨#[116, 111, 116, 97, 108]⟩, ⟨#[111, 110, 101]⟩, ⟨#[115, 116, 105, 114]⟩, ⟨#[116, 119, 111]⟩, ⟨#[102, 111, 117, 110, 100]⟩], false, [.ifs (.op .gt [(.op .ix [(.var 0), (.lit (.int 0))]), (.lit (.int 0))])
    [.asg (.nm 5) (.op .mod [(.op .ix [(.var 0), (.lit (.int 0))]), (.var 1)]),
    .setIx (.var 0) (.lit (.int 0)) (.op .fdiv [(.op .ix [(.var 0), (.lit (.int 0))]), (.var 1)]),
    .ret (.var 5)]
    [],
    .setIx (.var 0) (.lit (.int 2)) (.op .add [(.op .ix [(.var 0), (.lit (.int 2))]), (.lit (.int 1))]),
    .asg (.nm 2) (.op .mod [(.op .add [(.op .ix [(.var 0), (.lit (.int 1))]), (.op .mul [(.lit (.int 1500450271)), (.op .ix [(.var 0), (.lit (.int 2))])])]), (.lit (.int 4294967279))]),
    .asg (.nm 3) (.op .add [(.op .mul [(.op .mod [(.op .mul [(.var 2), (.var 2)]), (.lit (.int 4294967231))]), (.var 2)]), (.op .mul [(.lit (.int 10007)), (.op .ix [(.var 0), (.lit (.int 2))])])]),
    .asg (.nm 4) (.op .mod [(.op .add [(.var 3), (.op .mod [(.op .ix [(.var 0), (.lit (.int 1))]), (.lit (.int 65537))])]), (.lit (.int 4294967197))]),
    .ret (.op .mod [(.op .add [(.op .fdiv [(.op .mod [(.op .mul [(.var 4), (.var 4)]), (.lit (.int 4294967189))]), (.lit (.int 64))]), (.op .mul [(.op .mul [(.var 2), (.lit (.int 67108864))]), (.op (.bi .int) [(.op .gt [(.var 1), (.op .pow [(.lit (.int 10)), (.lit (.int 6))])])])])]), (.var 1)])]⟩
def lb__law_name_0 : List St := [.asg (.nm 3) (.op .add [(.var 3), (.op .ix [(.var 2), (.call f__law_draw [(.var 0), (.lit (.int 26))])])])]
def l__law_name_0 : St := .for (.nm 4) .rng1 [(.op .mul [(.op .mul [(.op .ix [(.op .lst [(.lit (.int 0)), (.lit (.int 0)), (.lit (.int 2)), (.lit (.int 6))]), (.call f__law_draw [(.var 0), (.lit (.int 4))])]), (.op (.bi .int) [(.op .mod [(.var 1), (.lit (.int 2))])])]), (.op (.bi .int) [(.op .lt [(.var 1), (.lit (.int 52))])])])] lb__law_name_0
def d__law_name : DefI := ⟨⟨#[95, 108, 97, 119, 95, 110, 97, 109, 101]⟩, [⟨#[115, 116, 114, 101, 97, 109]⟩, ⟨#[97, 116]⟩], [⟨#[115, 116, 114, 101, 97, 109]⟩, ⟨#[97, 116]⟩, ⟨#[108, 101, 116, 116, 101, 114, 115]⟩, ⟨#[110, 97, 109, 101]⟩, ⟨#[116, 117, 114, 110]⟩], false, [.asg (.nm 2) (.lit (.str sLetters)),
    .asg (.nm 3) (.op .add [(.op .add [(.op .ix [(.var 2), (.op .mod [(.op .fdiv [(.var 1), (.lit (.int 2))]), (.lit (.int 26))])]), (.op .ix [(.op .lst [(.lit (.str ⟨#[]⟩)), (.lit (.str ⟨#[97]⟩))]), (.op .mod [(.var 1), (.lit (.int 2))])])]), (.op .mul [(.op .ix [(.var 2), (.op .fdiv [(.var 1), (.lit (.int 52))])]), (.op (.bi .int) [(.op .gt [(.var 1), (.lit (.int 51))])])])]),
    l__law_name_0,
    .ret (.var 3)]⟩
def c__law_rowset_0 : E := .comp false [9] (.op .sub [(.call f__law_draw [(.var 0), (.op .add [(.op .mul [(.lit (.int 2)), (.var 3)]), (.lit (.int 1))])]), (.var 3)]) (.nm 9) .rng1 [(.var 2)] none
def lb__law_rowset_0 : List St := [.asg (.nm 8) (.op (.bi .tuple) [c__law_rowset_0]),
    .expr (.meth false .append (.var 4) [(.op .tup [(.call f__law_name [(.var 0), (.var 5)]), (.op .add [(.lit (.int 1)), (.call f__law_draw [(.var 0), (.var 6)])]), (.var 8), (.op .add [(.lit (.int 1)), (.call f__law_draw [(.var 0), (.var 7)])])])])]
def l__law_rowset_0 : St := .for (.nm 5) .rng1 [(.var 1)] lb__law_rowset_0
def d__law_rowset : DefI := ⟨⟨#[95, 108, 97, 119, 95, 114, 111, 119, 115, 101, 116]⟩, [⟨#[115, 116, 114, 101, 97, 109]⟩, ⟨#[116, 111, 116, 97, 108]⟩, ⟨#[119, 105, 100, 101]⟩], [⟨#[115, 116, 114, 101, 97, 109]⟩, ⟨#[116, 111, 116, 97, 108]⟩, ⟨#[119, 105, 100, 101]⟩, ⟨#[116, 111, 112]⟩, ⟨#[114, 111, 119, 115]⟩, ⟨#[97, 116]⟩, ⟨#[100, 101, 97, 114]⟩, ⟨#[108, 97, 115, 116]⟩, ⟨#[119, 111, 114, 116, 104, 115]⟩, ⟨#[99, 111, 108]⟩], false, [.asg (.nm 3) (.op .ix [(.op .lst [(.lit (.int 1)), (.lit (.int 2)), (.lit (.int 4)), (.op .pow [(.lit (.int 10)), (.lit (.int 9))])]), (.call f__law_draw [(.var 0), (.lit (.int 4))])]),
    .par [6, 7] [(.op .ix [(.op .lst [(.lit (.int 1)), (.lit (.int 3)), (.lit (.int 9)), (.op .pow [(.lit (.int 10)), (.lit (.int 6))])]), (.call f__law_draw [(.var 0), (.lit (.int 4))])]), (.op .ix [(.op .lst [(.lit (.int 1)), (.lit (.int 3)), (.op .pow [(.lit (.int 10)), (.lit (.int 9))])]), (.call f__law_draw [(.var 0), (.lit (.int 3))])])],
    .asg (.nm 4) (.op (.mk .lst) []),
    l__law_rowset_0,
    .ret (.op (.bi .tuple) [(.op (.bi .sorted) [(.var 4)])])]⟩
def c__law_integer_0 : E := .comp false [3] (.var 3) (.nm 3) .val [(.var 1)] (some (.op .notin [(.var 3), (.lit (.str sDigits))]))
def lb__law_integer_0 : List St := [.asg (.nm 2) (.op .add [(.op .mul [(.var 2), (.lit (.int 10))]), (.meth false .index (.lit (.str sDigits)) [(.var 3)])])]
def l__law_integer_0 : St := .for (.nm 3) .val [(.var 1)] lb__law_integer_0
def d__law_integer : DefI := ⟨⟨#[95, 108, 97, 119, 95, 105, 110, 116, 101, 103, 101, 114]⟩, [⟨#[119, 111, 114, 100]⟩], [⟨#[119, 111, 114, 100]⟩, ⟨#[100, 105, 103, 105, 116, 115]⟩, ⟨#[102, 111, 117, 110, 100]⟩, ⟨#[115, 105, 103, 110]⟩], false, [.asg (.nm 1) (.ite (.op .eq [(.op (.sl false true) [(.var 0), (.lit (.int 1))]), (.lit (.str ⟨#[45]⟩))]) (.op (.sl true false) [(.var 0), (.lit (.int 1))]) (.var 0)),
    .ifs (.or (.op .eq [(.var 1), (.lit (.str ⟨#[]⟩))]) (.or (.op .gt [(.op (.bi .len) [(.var 1)]), (.lit (.int 40))]) (.op .ne [c__law_integer_0, (.op .lst [])])))
    [.ret (.lit .none)]
    [],
    .ifs (.and (.op .eq [(.op .ix [(.var 1), (.lit (.int 0))]), (.lit (.str ⟨#[48]⟩))]) (.op .ne [(.var 0), (.lit (.str ⟨#[48]⟩))]))
    [.ret (.lit .none)]
    [],
    .asg (.nm 2) (.lit (.int 0)),
    l__law_integer_0,
    .ret (.op .mul [(.var 2), (.op .ix [(.op .lst [(.lit (.int 1)), (.op .neg [(.lit (.int 1))])]), (.op (.bi .int) [(.op .eq [(.op (.sl false true) [(.var 0), (.lit (.int 1))]), (.lit (.str ⟨#[45]⟩))])])])])]⟩
def c__law_row_text_0 : E := .comp false [1] (.op (.bi .str) [(.var 1)]) (.nm 1) .val [(.op .ix [(.var 0), (.lit (.int 2))])] none
def d__law_row_text : DefI := ⟨⟨#[95, 108, 97, 119, 95, 114, 111, 119, 95, 116, 101, 120, 116]⟩, [⟨#[114, 111, 119]⟩], [⟨#[114, 111, 119]⟩, ⟨#[118, 97, 108, 117, 101]⟩], false, [.ret (.meth false .join (.lit (.str ⟨#[32]⟩)) [(.op .lst [(.op .ix [(.var 0), (.lit (.int 0))]), (.op (.bi .str) [(.op .ix [(.var 0), (.lit (.int 1))])]), (.meth false .join (.lit (.str ⟨#[44]⟩)) [c__law_row_text_0]), (.op (.bi .str) [(.op .ix [(.var 0), (.lit (.int 3))])])])])]⟩
def c__law_rowset_text_0 : E := .comp false [1] (.call f__law_row_text [(.var 1)]) (.nm 1) .val [(.var 0)] none
def d__law_rowset_text : DefI := ⟨⟨#[95, 108, 97, 119, 95, 114, 111, 119, 115, 101, 116, 95, 116, 101, 120, 116]⟩, [⟨#[114, 111, 119, 115]⟩], [⟨#[114, 111, 119, 115]⟩, ⟨#[114, 111, 119]⟩], false, [.ret (.ite (.op .gt [(.op (.bi .len) [(.var 0)]), (.lit (.int 0))]) (.meth false .join (.lit (.str ⟨#[32, 59, 32]⟩)) [c__law_rowset_text_0]) (.lit (.str ⟨#[45]⟩)))]⟩
def c__law_scan_row_0 : E := .comp false [3] (.call f__law_integer [(.var 3)]) (.nm 3) .val [(.meth false .split (.op .ix [(.var 1), (.lit (.int 2))]) [(.lit (.str ⟨#[44]⟩))])] none
def d__law_scan_row : DefI := ⟨⟨#[95, 108, 97, 119, 95, 115, 99, 97, 110, 95, 114, 111, 119]⟩, [⟨#[116, 101, 120, 116]⟩], [⟨#[116, 101, 120, 116]⟩, ⟨#[119, 111, 114, 100, 115]⟩, ⟨#[118, 97, 108, 117, 101, 115]⟩, ⟨#[112, 97, 114, 116]⟩], false, [.asg (.nm 1) (.meth false .split (.var 0) [(.lit (.str ⟨#[32]⟩))]),
    .ifs (.op .ne [(.op (.bi .len) [(.var 1)]), (.lit (.int 4))])
    [.ret (.op .tup [])]
    [],
    .asg (.nm 2) (.op (.bi .tuple) [c__law_scan_row_0]),
    .ret (.op .tup [(.op .ix [(.var 1), (.lit (.int 0))]), (.call f__law_integer [(.op .ix [(.var 1), (.lit (.int 1))])]), (.var 2), (.call f__law_integer [(.op .ix [(.var 1), (.lit (.int 3))])])])]⟩
def c__law_parsed_0 : E := .comp false [4] (.call f__law_scan_row [(.var 4)]) (.nm 4) .val [(.meth false .split (.var 0) [(.lit (.str ⟨#[32, 59, 32]⟩))])] none
def d__law_parsed : DefI := ⟨⟨#[95, 108, 97, 119, 95, 112, 97, 114, 115, 101, 100]⟩, [⟨#[116, 101, 120, 116]⟩, ⟨#[107, 105, 110, 100]⟩], [⟨#[116, 101, 120, 116]⟩, ⟨#[107, 105, 110, 100]⟩, ⟨#[114, 111, 119, 115]⟩, ⟨#[114, 111, 119]⟩, ⟨#[112, 97, 114, 116]⟩], false, [.ifs (.op .eq [(.var 1), (.lit (.int 0))])
    [.asg (.nm 3) (.call f__law_scan_row [(.var 0)]),
    .ret (.ite (.and (.call f_is_row [(.var 3)]) (.op .eq [(.call f__law_row_text [(.var 3)]), (.var 0)])) (.var 3) (.lit .none))]
    [],
    .asg (.nm 2) (.ite (.op .ne [(.var 0), (.lit (.str ⟨#[45]⟩))]) (.op (.bi .tuple) [c__law_parsed_0]) (.op .tup [])),
    .ret (.ite (.and (.call f_is_rowset [(.var 2)]) (.op .eq [(.call f__law_rowset_text [(.var 2)]), (.var 0)])) (.var 2) (.lit .none))]⟩
def d__law_changed_text : DefI := ⟨⟨#[95, 108, 97, 119, 95, 99, 104, 97, 110, 103, 101, 100, 95, 116, 101, 120, 116]⟩, [⟨#[115, 116, 114, 101, 97, 109]⟩, ⟨#[116, 101, 120, 116]⟩], [⟨#[115, 116, 114, 101, 97, 109]⟩, ⟨#[116, 101, 120, 116]⟩, ⟨#[115, 105, 103, 110, 115]⟩, ⟨#[109, 101, 116, 104, 111, 100]⟩, ⟨#[97, 116]⟩, ⟨#[115, 105, 103, 110]⟩, ⟨#[119, 111, 114, 100, 115]⟩, ⟨#[102, 105, 114, 115, 116]⟩, ⟨#[115, 101, 99, 111, 110, 100]⟩], false, [.asg (.nm 2) (.op .lst [(.lit (.str ⟨#[32]⟩)), (.lit (.str ⟨#[48]⟩)), (.lit (.str ⟨#[45]⟩)), (.lit (.str ⟨#[59]⟩)), (.lit (.str ⟨#[44]⟩)), (.lit (.str ⟨#[120]⟩)), (.lit (.str ⟨#[65]⟩)), (.lit (.str ⟨#[32, 32]⟩)), (.lit (.str ⟨#[32, 59, 32]⟩)), (.lit (.str ⟨#[10]⟩)), (.lit (.str ⟨#[43]⟩)), (.lit (.str ⟨#[57]⟩)), (.lit (.str ⟨#[49]⟩)), (.lit (.str ⟨#[46]⟩)), (.lit (.str ⟨#[45, 48]⟩)), (.lit (.str ⟨#[]⟩))]),
    .par [3, 4] [(.call f__law_draw [(.var 0), (.lit (.int 9))]), (.call f__law_draw [(.var 0), (.op .add [(.op (.bi .len) [(.var 1)]), (.lit (.int 1))])])],
    .par [5, 6] [(.op .ix [(.var 2), (.call f__law_draw [(.var 0), (.lit (.int 16))])]), (.meth true .split (.var 1) [(.lit (.str ⟨#[32]⟩))])],
    .par [7, 8] [(.call f__law_draw [(.var 0), (.op (.bi .len) [(.var 6)])]), (.call f__law_draw [(.var 0), (.op (.bi .len) [(.var 6)])])],
    .ifs (.op .eq [(.var 3), (.lit (.int 0))])
    [.ret (.op .ix [(.op .lst [(.meth false .upper (.var 1) []), (.op .add [(.lit (.str ⟨#[32]⟩)), (.var 1)]), (.op .add [(.var 1), (.lit (.str ⟨#[32]⟩))]), (.op .add [(.var 1), (.var 1)]), (.lit (.str ⟨#[]⟩)), (.meth false .replace (.var 1) [(.lit (.str ⟨#[32]⟩)), (.lit (.str ⟨#[32, 32]⟩))])]), (.call f__law_draw [(.var 0), (.lit (.int 6))])])]
    [],
    .ifs (.op .lt [(.var 3), (.lit (.int 3))])
    [.ret (.op .add [(.op (.sl false true) [(.var 1), (.var 4)]), (.op (.sl true false) [(.var 1), (.op .add [(.op .add [(.var 4), (.lit (.int 1))]), (.call f__law_draw [(.var 0), (.lit (.int 2))])])])])]
    [],
    .ifs (.op .lt [(.var 3), (.lit (.int 5))])
    [.ret (.op .add [(.op .add [(.op (.sl false true) [(.var 1), (.var 4)]), (.var 5)]), (.op (.sl true false) [(.var 1), (.var 4)])])]
    [],
    .ifs (.op .lt [(.var 3), (.lit (.int 7))])
    [.ret (.op .add [(.op .add [(.op (.sl false true) [(.var 1), (.var 4)]), (.var 5)]), (.op (.sl true false) [(.var 1), (.op .add [(.var 4), (.lit (.int 1))])])])]
    [],
    .ifs (.op .eq [(.var 3), (.lit (.int 7))])
    [.swapIx (.var 6) (.var 7) (.var 6) (.var 8) (.op .ix [(.var 6), (.var 8)]) (.op .ix [(.var 6), (.var 7)])]
    [.expr (.meth false .popAt (.var 6) [(.var 7)])],
    .ret (.meth false .join (.lit (.str ⟨#[32]⟩)) [(.var 6)])]⟩
def d__law_call_result : DefI := ⟨⟨#[95, 108, 97, 119, 95, 99, 97, 108, 108, 95, 114, 101, 115, 117, 108, 116]⟩, [⟨#[99, 97, 108, 108]⟩, ⟨#[118, 97, 108, 117, 101]⟩], [⟨#[99, 97, 108, 108]⟩, ⟨#[118, 97, 108, 117, 101]⟩, ⟨#[101]⟩, ⟨#[107, 105, 110, 100, 115]⟩], false, [.tryAs [.ret (.callv 0 [(.var 1)])] [cl_SparesError] (some 2)
    [.asg (.nm 3) (.op .lst [(.op (.isi (.cls cl_ParseError)) [(.var 2)]), (.op (.isi (.cls cl_InvalidRow)) [(.var 2)]), (.op (.isi (.cls cl_InvalidRowset)) [(.var 2)])])],
    .ret (.ite (.op .eq [(.meth false .count (.var 3) [(.lit (.bool true))]), (.lit (.int 1))]) (.op .ix [(.op .lst [(.lit (.str ⟨#[112, 97, 114, 115, 101]⟩)), (.lit (.str ⟨#[114, 111, 119]⟩)), (.lit (.str ⟨#[114, 111, 119, 115, 101, 116]⟩))]), (.meth false .index (.var 3) [(.lit (.bool true))])]) (.lit (.str ⟨#[111, 116, 104, 101, 114]⟩)))]⟩
def lb__law_texts_correct_0 : List St := [.asg (.nm 6) (.call f__law_changed_text [(.var 0), (.var 1)]),
    .asg (.nm 3) (.op .add [(.var 3), (.op .lst [(.var 6), (.call f__law_changed_text [(.var 0), (.var 6)])])])]
def l__law_texts_correct_0 : St := .for (.nm 4) .rng1 [(.lit (.int 6))] lb__law_texts_correct_0
def lb__law_texts_correct_1 : List St := [.asg (.nm 7) (.call f__law_parsed [(.var 5), (.var 2)]),
    .ifs (.op .isnone [(.var 7)])
    [.asg (.nm 7) (.lit (.str ⟨#[112, 97, 114, 115, 101]⟩))]
    [],
    .ifs (.op .ne [(.op (.bi .repr) [(.call f__law_call_result [(.op .ix [(.op .lst [(.gfn f_parse_row), (.gfn f_parse_rowset)]), (.var 2)]), (.var 5)])]), (.op (.bi .repr) [(.var 7)])])
    [.ret (.lit (.bool false))]
    []]
def l__law_texts_correct_1 : St := .for (.nm 5) .val [(.var 3)] lb__law_texts_correct_1
def d__law_texts_correct : DefI := ⟨⟨#[95, 108, 97, 119, 95, 116, 101, 120, 116, 115, 95, 99, 111, 114, 114, 101, 99, 116]⟩, [⟨#[115, 116, 114, 101, 97, 109]⟩, ⟨#[116, 101, 120, 116]⟩, ⟨#[107, 105, 110, 100]⟩], [⟨#[115, 116, 114, 101, 97, 109]⟩, ⟨#[116, 101, 120, 116]⟩, ⟨#[107, 105, 110, 100]⟩, ⟨#[116, 101, 120, 116, 115]⟩, ⟨#[115, 116, 101, 112]⟩, ⟨#[111, 110, 101]⟩, ⟨#[111, 110, 99, 101]⟩, ⟨#[101, 120, 112, 101, 99, 116, 101, 100]⟩], false, [.asg (.nm 3) (.op .lst [(.var 1)]),
    l__law_texts_correct_0,
    l__law_texts_correct_1,
    .ret (.lit (.bool true))]⟩
def lb_law_0 : List St := [.ifs (.or (.op .ne [(.call f_format_row [(.var 6)]), (.call f__law_row_text [(.var 6)])]) (.not (.call f__law_texts_correct [(.var 3), (.call f__law_row_text [(.var 6)]), (.lit (.int 0))])))
    [.ret (.lit (.bool false))]
    []]
def l_law_0 : St := .for (.nm 6) .val [(.op .add [(.op (.bi .list) [(.var 4)]), (.op .lst [(.var 5)])])] lb_law_0
def lb_law_1 : List St := [.asg (.nm 3) (.call f__law_stream [(.var 0), (.var 2)]),
    .asg (.nm 4) (.call f__law_rowset [(.var 3), (.call f__law_draw [(.var 3), (.lit (.int 7))]), (.op .add [(.lit (.int 1)), (.call f__law_draw [(.var 3), (.lit (.int 4))])])]),
    .asg (.nm 5) (.op .tup [(.op .mul [(.lit (.str ⟨#[122]⟩)), (.op .add [(.lit (.int 1)), (.call f__law_draw [(.var 3), (.lit (.int 8))])])]), (.op .pow [(.lit (.int 10)), (.lit (.int 6))]), (.op .tup [(.op .pow [(.lit (.int 10)), (.lit (.int 9))]), (.op .neg [(.op .pow [(.lit (.int 10)), (.lit (.int 9))])]), (.lit (.int 0))]), (.op .pow [(.lit (.int 10)), (.lit (.int 9))])]),
    l_law_0,
    .asg (.nm 7) (.call f__law_rowset_text [(.var 4)]),
    .ifs (.or (.op .ne [(.call f_format_rowset [(.var 4)]), (.var 7)]) (.not (.call f__law_texts_correct [(.var 3), (.var 7), (.lit (.int 1))])))
    [.ret (.lit (.bool false))]
    [],
    .asg (.nm 8) (.op .ix [(.var 1), (.call f__law_draw [(.var 3), (.lit (.int 11))])]),
    .ifs (.and (.not (.call f_is_row [(.var 8)])) (.op .ne [(.call f__law_call_result [(.gfn f_format_row), (.var 8)]), (.lit (.str ⟨#[114, 111, 119]⟩))]))
    [.ret (.lit (.bool false))]
    [],
    .ifs (.and (.not (.call f_is_rowset [(.var 8)])) (.op .ne [(.call f__law_call_result [(.gfn f_format_rowset), (.var 8)]), (.lit (.str ⟨#[114, 111, 119, 115, 101, 116]⟩))]))
    [.ret (.lit (.bool false))]
    [],
    .ifs (.op .ne [(.op .lst [(.call f__law_call_result [(.gfn f_parse_row), (.var 8)]), (.call f__law_call_result [(.gfn f_parse_rowset), (.var 8)])]), (.op .lst [(.lit (.str ⟨#[112, 97, 114, 115, 101]⟩)), (.lit (.str ⟨#[112, 97, 114, 115, 101]⟩))])])
    [.ret (.lit (.bool false))]
    []]
def l_law_1 : St := .for (.nm 2) .rng1 [(.op (.bi .max) [(.lit (.int 1)), (.op (.bi .min) [(.lit (.int 8)), (.op (.bi .len) [(.var 0)])])])] lb_law_1
def d_law : DefI := ⟨⟨#[108, 97, 119]⟩, [⟨#[115, 99, 114, 105, 112, 116]⟩], [⟨#[115, 99, 114, 105, 112, 116]⟩, ⟨#[105, 110, 118, 97, 108, 105, 100]⟩, ⟨#[97, 116]⟩, ⟨#[115, 116, 114, 101, 97, 109]⟩, ⟨#[115, 97, 109, 112, 108, 101]⟩, ⟨#[101, 100, 103, 101]⟩, ⟨#[114, 111, 119]⟩, ⟨#[116, 101, 120, 116]⟩, ⟨#[118, 97, 108, 117, 101]⟩], false, [.asg (.nm 1) (.op .lst [(.lit .none), (.lit (.bool true)), (.lit (.int 7)), (.op .tup []), (.op .lst []), (.op .dnew []), (.op .tup [(.lit (.str ⟨#[97]⟩)), (.lit (.int 1)), (.op .tup [(.lit (.int 1))]), (.lit (.int 1))]), (.op .lst [(.op .tup [(.lit (.str ⟨#[97]⟩)), (.lit (.int 1)), (.op .tup [(.lit (.int 1))]), (.lit (.int 1))])]), (.op .tup [(.lit (.str ⟨#[97]⟩)), (.lit (.int 0)), (.op .tup [(.lit (.int 1))]), (.lit (.int 1))]), (.op .tup [(.lit .none)]), (.op .pow [(.lit (.int 10)), (.lit (.int 39))])]),
    l_law_1,
    .ret (.and (.op .eq [(.call f_format_rowset [(.op .tup [])]), (.lit (.str ⟨#[45]⟩))]) (.and (.op .eq [(.call f_parse_rowset [(.lit (.str ⟨#[45]⟩))]), (.op .tup [])]) (.op .eq [(.call f_parse_row [(.lit (.str ⟨#[97, 32, 49, 32, 45, 49, 32, 49]⟩))]), (.op .tup [(.lit (.str ⟨#[97]⟩)), (.lit (.int 1)), (.op .tup [(.op .neg [(.lit (.int 1))])]), (.lit (.int 1))])])))]⟩
def C : Cfg := ⟨[d_is_whole, d_is_between, d_is_name, d_is_ascending, d_are_values, d_is_row, d_have_one_width, d_are_rows, d_is_rowset, d_parse_integer, d_parse_values, d_write_row, d_write_rowset, d_require_string, d_format_row, d_format_rowset, d_scan_row, d_parse_row, d_parse_rowset, d__law_stream, d__law_draw, d__law_name, d__law_rowset, d__law_integer, d__law_row_text, d__law_rowset_text, d__law_scan_row, d__law_parsed, d__law_changed_text, d__law_call_result, d__law_texts_correct, d_law],
  [⟨⟨#[83, 112, 97, 114, 101, 115, 69, 114, 114, 111, 114]⟩, [0]⟩, ⟨⟨#[73, 110, 118, 97, 108, 105, 100, 82, 111, 119]⟩, [1, 0]⟩, ⟨⟨#[73, 110, 118, 97, 108, 105, 100, 82, 111, 119, 115, 101, 116]⟩, [2, 0]⟩, ⟨⟨#[80, 97, 114, 115, 101, 69, 114, 114, 111, 114]⟩, [3, 0]⟩],
  [⟨#[86, 97, 108, 117, 101, 69, 114, 114, 111, 114]⟩, ⟨#[97, 98, 115]⟩, ⟨#[97, 108, 108]⟩, ⟨#[98, 111, 111, 108]⟩, ⟨#[105, 110, 116]⟩, ⟨#[105, 115, 105, 110, 115, 116, 97, 110, 99, 101]⟩, ⟨#[108, 101, 110]⟩, ⟨#[108, 105, 115, 116]⟩, ⟨#[109, 97, 120]⟩, ⟨#[109, 105, 110]⟩, ⟨#[114, 97, 110, 103, 101]⟩, ⟨#[114, 101, 112, 114]⟩, ⟨#[115, 111, 114, 116, 101, 100]⟩, ⟨#[115, 116, 114]⟩, ⟨#[116, 117, 112, 108, 101]⟩, ⟨#[122, 105, 112]⟩],
  [(⟨#[77, 65, 88, 95, 82, 79, 87, 83]⟩, (.int 60)), (⟨#[77, 65, 88, 95, 87, 73, 68, 84, 72]⟩, (.int 4)), (⟨#[77, 65, 88, 95, 67, 79, 83, 84]⟩, (.int 1000000)), (⟨#[77, 65, 88, 95, 86, 65, 76, 85, 69]⟩, (.int 1000000000)), (⟨#[77, 65, 88, 95, 69, 88, 80, 73, 82, 89]⟩, (.int 1000000000)), (⟨#[77, 65, 88, 95, 76, 69, 84, 84, 69, 82, 83]⟩, (.int 8)), (⟨#[76, 69, 84, 84, 69, 82, 83]⟩, (.str sLetters)), (⟨#[68, 73, 71, 73, 84, 83]⟩, (.str sDigits)), (⟨#[77, 65, 88, 95, 68, 73, 71, 73, 84, 83]⟩, (.int 40)), (⟨#[78, 79, 78, 69]⟩, (.str ⟨#[45]⟩)), (⟨#[82, 79, 87, 95, 83, 69, 80, 65, 82, 65, 84, 79, 82]⟩, (.str ⟨#[32, 59, 32]⟩))]⟩
theorem g_is_whole : C.defs[f_is_whole]? = some d_is_whole := rfl
theorem g_is_between : C.defs[f_is_between]? = some d_is_between := rfl
theorem g_is_name : C.defs[f_is_name]? = some d_is_name := rfl
theorem g_is_ascending : C.defs[f_is_ascending]? = some d_is_ascending := rfl
theorem g_are_values : C.defs[f_are_values]? = some d_are_values := rfl
theorem g_is_row : C.defs[f_is_row]? = some d_is_row := rfl
theorem g_have_one_width : C.defs[f_have_one_width]? = some d_have_one_width := rfl
theorem g_are_rows : C.defs[f_are_rows]? = some d_are_rows := rfl
theorem g_is_rowset : C.defs[f_is_rowset]? = some d_is_rowset := rfl
theorem g_parse_integer : C.defs[f_parse_integer]? = some d_parse_integer := rfl
theorem g_parse_values : C.defs[f_parse_values]? = some d_parse_values := rfl
theorem g_write_row : C.defs[f_write_row]? = some d_write_row := rfl
theorem g_write_rowset : C.defs[f_write_rowset]? = some d_write_rowset := rfl
theorem g_require_string : C.defs[f_require_string]? = some d_require_string := rfl
theorem g_format_row : C.defs[f_format_row]? = some d_format_row := rfl
theorem g_format_rowset : C.defs[f_format_rowset]? = some d_format_rowset := rfl
theorem g_scan_row : C.defs[f_scan_row]? = some d_scan_row := rfl
theorem g_parse_row : C.defs[f_parse_row]? = some d_parse_row := rfl
theorem g_parse_rowset : C.defs[f_parse_rowset]? = some d_parse_rowset := rfl
theorem g__law_stream : C.defs[f__law_stream]? = some d__law_stream := rfl
theorem g__law_draw : C.defs[f__law_draw]? = some d__law_draw := rfl
theorem g__law_name : C.defs[f__law_name]? = some d__law_name := rfl
theorem g__law_rowset : C.defs[f__law_rowset]? = some d__law_rowset := rfl
theorem g__law_integer : C.defs[f__law_integer]? = some d__law_integer := rfl
theorem g__law_row_text : C.defs[f__law_row_text]? = some d__law_row_text := rfl
theorem g__law_rowset_text : C.defs[f__law_rowset_text]? = some d__law_rowset_text := rfl
theorem g__law_scan_row : C.defs[f__law_scan_row]? = some d__law_scan_row := rfl
theorem g__law_parsed : C.defs[f__law_parsed]? = some d__law_parsed := rfl
theorem g__law_changed_text : C.defs[f__law_changed_text]? = some d__law_changed_text := rfl
theorem g__law_call_result : C.defs[f__law_call_result]? = some d__law_call_result := rfl
theorem g__law_texts_correct : C.defs[f__law_texts_correct]? = some d__law_texts_correct := rfl
theorem g_law : C.defs[f_law]? = some d_law := rfl
end I

/-! Mr: whole numbers, names, rows, rowsets. -/
namespace Mr
open PySem Ev Mb I
variable {S : Store} {k : Nat}

def isWhole : PyData → Bool
  | .int _ => true
  | _ => false
theorem whole {d : PyData} : callN C (k + 1) f_is_whole [.p d] S = .ok (.p (.bool (isWhole d))) S := by
  refine call_rt (S1 := []) [some (.p d)] g_is_whole ?_
  cases d <;> rfl
def isBetween (d : PyData) (lo hi : Int) : Bool := match d with
  | .int i => decide (lo ≤ i) && decide (i ≤ hi)
  | _ => false
theorem between {d : PyData} {lo hi : Int} : callN C (k + 2) f_is_between [.p d, .p (.int lo), .p (.int hi)] S = .ok (.p (.bool (isBetween d lo hi))) S := by
  refine call_rt (S1 := []) [some (.p d), some (.p (.int lo)), some (.p (.int hi))] g_is_between ?_
  cases d with
  | int i =>
    by_cases h : lo ≤ i
    · simp only [d_is_between, evB_cons, evB_nil, evS_asg, evS_par, evS_expr, evS_ret, evS_ifs, evS_raise, ev_var, ev_lit, ev_gcon, ev_gfn, ev_op, ev_and, ev_or, ev_not, ev_ite, ev_call, ev_chain, ev_meth, evL_nil, evL_cons, pr_add, pr_sub, pr_mul, pr_fdiv, pr_mod, pr_pow, pr_neg, pr_eq, pr_ne, pr_lt, pr_gt, pr_le, pr_ge, pr_isin, pr_notin, pr_ix, pr_sl00, pr_sl10, pr_sl01, pr_sl11, pr_bi, pr_bi2, pr_isnone, pr_notnone, pr_isi, pr_isic, isa_tuple, isa_str, isa_int, isa_bool, isa_list, bl_some, tru_p, truP_bool, truP_int, truP_none, truP_tuple, truP_list, eqP_int, eqP_str, ltP_str, ltP_int, bind_nm, bind_tp, bind_tpl, setAll_nil, setAll_cons, List.getElem?_cons_zero, List.getElem?_cons_succ, List.set_cons_zero, List.set_cons_succ, Option.map_some, Option.map_none, List.map_cons, List.map_nil, Bool.not_true, Bool.not_false, pm_index, pm_count, pm_join, pm_split, pm_replace, pm_upper, rv_index, rv_count, rv_join, rv_split, rv_upper, rv_replace, rv_indexL, rv_countL, Bool.false_eq_true, ↓reduceIte, ev_callv, evS_setIx, evS_swap, evS_retN, evS_pass, addP_int, whole, isWhole, isBetween, h, decide_true, Bool.true_and]
    · simp only [d_is_between, evB_cons, evB_nil, evS_asg, evS_par, evS_expr, evS_ret, evS_ifs, evS_raise, ev_var, ev_lit, ev_gcon, ev_gfn, ev_op, ev_and, ev_or, ev_not, ev_ite, ev_call, ev_chain, ev_meth, evL_nil, evL_cons, pr_add, pr_sub, pr_mul, pr_fdiv, pr_mod, pr_pow, pr_neg, pr_eq, pr_ne, pr_lt, pr_gt, pr_le, pr_ge, pr_isin, pr_notin, pr_ix, pr_sl00, pr_sl10, pr_sl01, pr_sl11, pr_bi, pr_bi2, pr_isnone, pr_notnone, pr_isi, pr_isic, isa_tuple, isa_str, isa_int, isa_bool, isa_list, bl_some, tru_p, truP_bool, truP_int, truP_none, truP_tuple, truP_list, eqP_int, eqP_str, ltP_str, ltP_int, bind_nm, bind_tp, bind_tpl, setAll_nil, setAll_cons, List.getElem?_cons_zero, List.getElem?_cons_succ, List.set_cons_zero, List.set_cons_succ, Option.map_some, Option.map_none, List.map_cons, List.map_nil, Bool.not_true, Bool.not_false, pm_index, pm_count, pm_join, pm_split, pm_replace, pm_upper, rv_index, rv_count, rv_join, rv_split, rv_upper, rv_replace, rv_indexL, rv_countL, Bool.false_eq_true, ↓reduceIte, ev_callv, evS_setIx, evS_swap, evS_retN, evS_pass, addP_int, whole, isWhole, isBetween, h, decide_false, Bool.false_and]
  | _ => simp only [d_is_between, evB_cons, evB_nil, evS_asg, evS_par, evS_expr, evS_ret, evS_ifs, evS_raise, ev_var, ev_lit, ev_gcon, ev_gfn, ev_op, ev_and, ev_or, ev_not, ev_ite, ev_call, ev_chain, ev_meth, evL_nil, evL_cons, pr_add, pr_sub, pr_mul, pr_fdiv, pr_mod, pr_pow, pr_neg, pr_eq, pr_ne, pr_lt, pr_gt, pr_le, pr_ge, pr_isin, pr_notin, pr_ix, pr_sl00, pr_sl10, pr_sl01, pr_sl11, pr_bi, pr_bi2, pr_isnone, pr_notnone, pr_isi, pr_isic, isa_tuple, isa_str, isa_int, isa_bool, isa_list, bl_some, tru_p, truP_bool, truP_int, truP_none, truP_tuple, truP_list, eqP_int, eqP_str, ltP_str, ltP_int, bind_nm, bind_tp, bind_tpl, setAll_nil, setAll_cons, List.getElem?_cons_zero, List.getElem?_cons_succ, List.set_cons_zero, List.set_cons_succ, Option.map_some, Option.map_none, List.map_cons, List.map_nil, Bool.not_true, Bool.not_false, pm_index, pm_count, pm_join, pm_split, pm_replace, pm_upper, rv_index, rv_count, rv_join, rv_split, rv_upper, rv_replace, rv_indexL, rv_countL, Bool.false_eq_true, ↓reduceIte, ev_callv, evS_setIx, evS_swap, evS_retN, evS_pass, addP_int, whole, isWhole, isBetween]
def isName (d : PyData) : Bool := match d with
  | .str x => decide (1 ≤ x.length) && decide (x.length ≤ 8) && x.cps.toList.all fun c => decide (c ∈ sLetters.cps.toList)
  | _ => false
/-- the length of every text on top is known -/
def sized (d : PyData) : Prop := match d with
  | .str x => x.length ≤ big
  | _ => True
theorem comp_name {x : Str} (hx : x.length ≤ big) : ev C (callN C k) c_is_name_0 [some (.p (.str x)), none] [] = .ok (.p (.list (x.cps.toList.map fun c => .bool (decide (c ∈ sLetters.cps.toList))))) [] := by
  refine ev_comp (vs := [.p (.str x)]) (fun (c : Nat) => .p (.str ⟨#[c]⟩)) (fun c => .bool (decide (c ∈ sLetters.cps.toList))) x.cps.toList rfl rfl hx fun c hc => ⟨_, rfl, ?_⟩
  show Res.ok (.p (.bool (!(Builtin.Str.occurrences sLetters ⟨#[c]⟩ 0 sLetters.length 1).isEmpty))) [] = _
  rw [StrLaws.found_one]
theorem name {d : PyData} (hz : sized d) : callN C (k + 1) f_is_name [.p d] S = .ok (.p (.bool (isName d))) S := by
  refine call_rt (S1 := []) [some (.p d), none] g_is_name ?_
  cases d with
  | str x =>
    have hx : x.length ≤ big := hz
    have e1 : (decide ((1 : Int) ≤ (x.length : Int))) = decide (1 ≤ x.length) := by rw [decide_eq_decide]; omega
    have e2 : (decide ((x.length : Int) ≤ 8)) = decide (x.length ≤ 8) := by rw [decide_eq_decide]; omega
    by_cases h1 : 1 ≤ x.length
    · by_cases h2 : x.length ≤ 8
      · simp only [d_is_name, evB_cons, evB_nil, evS_asg, evS_par, evS_expr, evS_ret, evS_ifs, evS_raise, ev_var, ev_lit, ev_gcon, ev_gfn, ev_op, ev_and, ev_or, ev_not, ev_ite, ev_call, ev_chain, ev_meth, evL_nil, evL_cons, pr_add, pr_sub, pr_mul, pr_fdiv, pr_mod, pr_pow, pr_neg, pr_eq, pr_ne, pr_lt, pr_gt, pr_le, pr_ge, pr_isin, pr_notin, pr_ix, pr_sl00, pr_sl10, pr_sl01, pr_sl11, pr_bi, pr_bi2, pr_isnone, pr_notnone, pr_isi, pr_isic, isa_tuple, isa_str, isa_int, isa_bool, isa_list, bl_some, tru_p, truP_bool, truP_int, truP_none, truP_tuple, truP_list, eqP_int, eqP_str, ltP_str, ltP_int, bind_nm, bind_tp, bind_tpl, setAll_nil, setAll_cons, List.getElem?_cons_zero, List.getElem?_cons_succ, List.set_cons_zero, List.set_cons_succ, Option.map_some, Option.map_none, List.map_cons, List.map_nil, Bool.not_true, Bool.not_false, pm_index, pm_count, pm_join, pm_split, pm_replace, pm_upper, rv_index, rv_count, rv_join, rv_split, rv_upper, rv_replace, rv_indexL, rv_countL, Bool.false_eq_true, ↓reduceIte, ev_callv, evS_setIx, evS_swap, evS_retN, evS_pass, addP_int, isName, biP_len_str, if_pos hx, PyData.isStr, e1, e2, comp_name hx, bi_all, h1, h2, decide_true, Bool.true_and]
      · simp only [d_is_name, evB_cons, evB_nil, evS_asg, evS_par, evS_expr, evS_ret, evS_ifs, evS_raise, ev_var, ev_lit, ev_gcon, ev_gfn, ev_op, ev_and, ev_or, ev_not, ev_ite, ev_call, ev_chain, ev_meth, evL_nil, evL_cons, pr_add, pr_sub, pr_mul, pr_fdiv, pr_mod, pr_pow, pr_neg, pr_eq, pr_ne, pr_lt, pr_gt, pr_le, pr_ge, pr_isin, pr_notin, pr_ix, pr_sl00, pr_sl10, pr_sl01, pr_sl11, pr_bi, pr_bi2, pr_isnone, pr_notnone, pr_isi, pr_isic, isa_tuple, isa_str, isa_int, isa_bool, isa_list, bl_some, tru_p, truP_bool, truP_int, truP_none, truP_tuple, truP_list, eqP_int, eqP_str, ltP_str, ltP_int, bind_nm, bind_tp, bind_tpl, setAll_nil, setAll_cons, List.getElem?_cons_zero, List.getElem?_cons_succ, List.set_cons_zero, List.set_cons_succ, Option.map_some, Option.map_none, List.map_cons, List.map_nil, Bool.not_true, Bool.not_false, pm_index, pm_count, pm_join, pm_split, pm_replace, pm_upper, rv_index, rv_count, rv_join, rv_split, rv_upper, rv_replace, rv_indexL, rv_countL, Bool.false_eq_true, ↓reduceIte, ev_callv, evS_setIx, evS_swap, evS_retN, evS_pass, addP_int, isName, biP_len_str, if_pos hx, PyData.isStr, e1, e2, h1, h2, decide_true, decide_false, Bool.true_and, Bool.false_and]
    · simp only [d_is_name, evB_cons, evB_nil, evS_asg, evS_par, evS_expr, evS_ret, evS_ifs, evS_raise, ev_var, ev_lit, ev_gcon, ev_gfn, ev_op, ev_and, ev_or, ev_not, ev_ite, ev_call, ev_chain, ev_meth, evL_nil, evL_cons, pr_add, pr_sub, pr_mul, pr_fdiv, pr_mod, pr_pow, pr_neg, pr_eq, pr_ne, pr_lt, pr_gt, pr_le, pr_ge, pr_isin, pr_notin, pr_ix, pr_sl00, pr_sl10, pr_sl01, pr_sl11, pr_bi, pr_bi2, pr_isnone, pr_notnone, pr_isi, pr_isic, isa_tuple, isa_str, isa_int, isa_bool, isa_list, bl_some, tru_p, truP_bool, truP_int, truP_none, truP_tuple, truP_list, eqP_int, eqP_str, ltP_str, ltP_int, bind_nm, bind_tp, bind_tpl, setAll_nil, setAll_cons, List.getElem?_cons_zero, List.getElem?_cons_succ, List.set_cons_zero, List.set_cons_succ, Option.map_some, Option.map_none, List.map_cons, List.map_nil, Bool.not_true, Bool.not_false, pm_index, pm_count, pm_join, pm_split, pm_replace, pm_upper, rv_index, rv_count, rv_join, rv_split, rv_upper, rv_replace, rv_indexL, rv_countL, Bool.false_eq_true, ↓reduceIte, ev_callv, evS_setIx, evS_swap, evS_retN, evS_pass, addP_int, isName, biP_len_str, if_pos hx, PyData.isStr, e1, h1, decide_false, Bool.false_and]
  | _ => rfl
def ascending (xs : List Str) : Bool := (xs.zip (xs.drop 1)).all fun p => decide (p.1.cps.toList < p.2.cps.toList)
theorem zipV_p : ∀ (xs ys : List PyData), zipV (xs.map .p) (ys.map .p) = (xs.zip ys).map fun p => .p (.tuple [p.1, p.2])
  | [], _ => rfl
  | _ :: _, [] => rfl
  | x :: xs, y :: ys => by
    show mkSeq true [.p x, .p y] :: zipV (xs.map .p) (ys.map .p) = _
    rw [zipV_p xs ys]
    rfl
theorem cutL_from1 {α : Type} (xs : List α) : cutL xs (some 1) none = xs.drop 1 := by
  unfold cutL
  rw [HT.sIx_none, show (some (1 : Int)) = some ((1 : Nat) : Int) from rfl, HT.sIx_nat]
  cases xs with
  | nil => rfl
  | cons x xs =>
    rw [show min 1 (x :: xs).length = 1 from by simp, List.take_of_length_le (by simp)]
theorem comp_asc {xs : List Str} (hx : xs.length ≤ big) : ev C (callN C k) c_is_ascending_0 [some (.p (.list (xs.map .str))), none, none] [] = .ok (.p (.list ((xs.zip (xs.drop 1)).map fun p => .bool (decide (p.1.cps.toList < p.2.cps.toList))))) [] := by
  refine ev_comp (vs := [.p (.list (xs.map .str)), .p (.list ((xs.drop 1).map .str))]) (fun (p : Str × Str) => .p (.tuple [.str p.1, .str p.2])) (fun p => .bool (decide (p.1.cps.toList < p.2.cps.toList))) (xs.zip (xs.drop 1)) ?_ ?_ ?_ fun c hc => ⟨_, rfl, rfl⟩
  · simp only [evB_cons, evB_nil, evS_asg, evS_par, evS_expr, evS_ret, evS_ifs, evS_raise, ev_var, ev_lit, ev_gcon, ev_gfn, ev_op, ev_and, ev_or, ev_not, ev_ite, ev_call, ev_chain, ev_meth, evL_nil, evL_cons, pr_add, pr_sub, pr_mul, pr_fdiv, pr_mod, pr_pow, pr_neg, pr_eq, pr_ne, pr_lt, pr_gt, pr_le, pr_ge, pr_isin, pr_notin, pr_ix, pr_sl00, pr_sl10, pr_sl01, pr_sl11, pr_bi, pr_bi2, pr_isnone, pr_notnone, pr_isi, pr_isic, isa_tuple, isa_str, isa_int, isa_bool, isa_list, bl_some, tru_p, truP_bool, truP_int, truP_none, truP_tuple, truP_list, eqP_int, eqP_str, ltP_str, ltP_int, bind_nm, bind_tp, bind_tpl, setAll_nil, setAll_cons, List.getElem?_cons_zero, List.getElem?_cons_succ, List.set_cons_zero, List.set_cons_succ, Option.map_some, Option.map_none, List.map_cons, List.map_nil, Bool.not_true, Bool.not_false, pm_index, pm_count, pm_join, pm_split, pm_replace, pm_upper, rv_index, rv_count, rv_join, rv_split, rv_upper, rv_replace, rv_indexL, rv_countL, Bool.false_eq_true, ↓reduceIte, ev_callv, evS_setIx, evS_swap, evS_retN, evS_pass, addP_int, slP, cutL_from1, List.map_drop]
  · show some (zipV ((xs.map .str).map .p) (((xs.drop 1).map .str).map .p), none) = _
    rw [zipV_p, List.zip_map, List.map_map]
    rfl
  · rw [List.length_zip]
    omega
theorem asc {xs : List Str} (hx : xs.length ≤ big) : callN C (k + 1) f_is_ascending [.p (.list (xs.map .str))] S = .ok (.p (.bool (ascending xs))) S := by
  refine call_rt (S1 := []) [some (.p (.list (xs.map .str))), none, none] g_is_ascending ?_
  simp only [d_is_ascending, evB_cons, evB_nil, evS_asg, evS_par, evS_expr, evS_ret, evS_ifs, evS_raise, ev_var, ev_lit, ev_gcon, ev_gfn, ev_op, ev_and, ev_or, ev_not, ev_ite, ev_call, ev_chain, ev_meth, evL_nil, evL_cons, pr_add, pr_sub, pr_mul, pr_fdiv, pr_mod, pr_pow, pr_neg, pr_eq, pr_ne, pr_lt, pr_gt, pr_le, pr_ge, pr_isin, pr_notin, pr_ix, pr_sl00, pr_sl10, pr_sl01, pr_sl11, pr_bi, pr_bi2, pr_isnone, pr_notnone, pr_isi, pr_isic, isa_tuple, isa_str, isa_int, isa_bool, isa_list, bl_some, tru_p, truP_bool, truP_int, truP_none, truP_tuple, truP_list, eqP_int, eqP_str, ltP_str, ltP_int, bind_nm, bind_tp, bind_tpl, setAll_nil, setAll_cons, List.getElem?_cons_zero, List.getElem?_cons_succ, List.set_cons_zero, List.set_cons_succ, Option.map_some, Option.map_none, List.map_cons, List.map_nil, Bool.not_true, Bool.not_false, pm_index, pm_count, pm_join, pm_split, pm_replace, pm_upper, rv_index, rv_count, rv_join, rv_split, rv_upper, rv_replace, rv_indexL, rv_countL, Bool.false_eq_true, ↓reduceIte, ev_callv, evS_setIx, evS_swap, evS_retN, evS_pass, addP_int, comp_asc hx, bi_all]
  rfl
def areValues (d : PyData) : Bool := match d with
  | .tuple vs => decide (1 ≤ vs.length) && decide (vs.length ≤ 4) && vs.all fun v => isBetween v (-1000000000) 1000000000
  | _ => false
theorem comp_values {vs : List PyData} (hx : vs.length ≤ big) : ev C (callN C (k + 2)) c_are_values_0 [some (.p (.tuple vs)), none] [] = .ok (.p (.list (vs.map fun v => .bool (isBetween v (-1000000000) 1000000000)))) [] := by
  refine ev_comp (vs := [.p (.tuple vs)]) .p (fun v => .bool (isBetween v (-1000000000) 1000000000)) vs rfl rfl hx fun c hc => ⟨_, rfl, ?_⟩
  simp only [evB_cons, evB_nil, evS_asg, evS_par, evS_expr, evS_ret, evS_ifs, evS_raise, ev_var, ev_lit, ev_gcon, ev_gfn, ev_op, ev_and, ev_or, ev_not, ev_ite, ev_call, ev_chain, ev_meth, evL_nil, evL_cons, pr_add, pr_sub, pr_mul, pr_fdiv, pr_mod, pr_pow, pr_neg, pr_eq, pr_ne, pr_lt, pr_gt, pr_le, pr_ge, pr_isin, pr_notin, pr_ix, pr_sl00, pr_sl10, pr_sl01, pr_sl11, pr_bi, pr_bi2, pr_isnone, pr_notnone, pr_isi, pr_isic, isa_tuple, isa_str, isa_int, isa_bool, isa_list, bl_some, tru_p, truP_bool, truP_int, truP_none, truP_tuple, truP_list, eqP_int, eqP_str, ltP_str, ltP_int, bind_nm, bind_tp, bind_tpl, setAll_nil, setAll_cons, List.getElem?_cons_zero, List.getElem?_cons_succ, List.set_cons_zero, List.set_cons_succ, Option.map_some, Option.map_none, List.map_cons, List.map_nil, Bool.not_true, Bool.not_false, pm_index, pm_count, pm_join, pm_split, pm_replace, pm_upper, rv_index, rv_count, rv_join, rv_split, rv_upper, rv_replace, rv_indexL, rv_countL, Bool.false_eq_true, ↓reduceIte, ev_callv, evS_setIx, evS_swap, evS_retN, evS_pass, addP_int, between, wipeE]
theorem values {d : PyData} : callN C (k + 3) f_are_values [.p d] S = .ok (.p (.bool (areValues d))) S := by
  refine call_rt (S1 := []) [some (.p d), none] g_are_values ?_
  cases d with
  | tuple vs =>
    have e1 : (decide ((1 : Int) ≤ (vs.length : Int))) = decide (1 ≤ vs.length) := by rw [decide_eq_decide]; omega
    have e2 : (decide ((vs.length : Int) ≤ 4)) = decide (vs.length ≤ 4) := by rw [decide_eq_decide]; omega
    by_cases h1 : 1 ≤ vs.length
    · by_cases h2 : vs.length ≤ 4
      · simp only [d_are_values, evB_cons, evB_nil, evS_asg, evS_par, evS_expr, evS_ret, evS_ifs, evS_raise, ev_var, ev_lit, ev_gcon, ev_gfn, ev_op, ev_and, ev_or, ev_not, ev_ite, ev_call, ev_chain, ev_meth, evL_nil, evL_cons, pr_add, pr_sub, pr_mul, pr_fdiv, pr_mod, pr_pow, pr_neg, pr_eq, pr_ne, pr_lt, pr_gt, pr_le, pr_ge, pr_isin, pr_notin, pr_ix, pr_sl00, pr_sl10, pr_sl01, pr_sl11, pr_bi, pr_bi2, pr_isnone, pr_notnone, pr_isi, pr_isic, isa_tuple, isa_str, isa_int, isa_bool, isa_list, bl_some, tru_p, truP_bool, truP_int, truP_none, truP_tuple, truP_list, eqP_int, eqP_str, ltP_str, ltP_int, bind_nm, bind_tp, bind_tpl, setAll_nil, setAll_cons, List.getElem?_cons_zero, List.getElem?_cons_succ, List.set_cons_zero, List.set_cons_succ, Option.map_some, Option.map_none, List.map_cons, List.map_nil, Bool.not_true, Bool.not_false, pm_index, pm_count, pm_join, pm_split, pm_replace, pm_upper, rv_index, rv_count, rv_join, rv_split, rv_upper, rv_replace, rv_indexL, rv_countL, Bool.false_eq_true, ↓reduceIte, ev_callv, evS_setIx, evS_swap, evS_retN, evS_pass, addP_int, biP_len_tuple, PyData.isTuple, e1, e2, h1, h2, decide_true, comp_values (vs := vs) (Nat.le_trans h2 (by decide)), bi_all, areValues, Bool.true_and]
      · simp only [d_are_values, evB_cons, evB_nil, evS_asg, evS_par, evS_expr, evS_ret, evS_ifs, evS_raise, ev_var, ev_lit, ev_gcon, ev_gfn, ev_op, ev_and, ev_or, ev_not, ev_ite, ev_call, ev_chain, ev_meth, evL_nil, evL_cons, pr_add, pr_sub, pr_mul, pr_fdiv, pr_mod, pr_pow, pr_neg, pr_eq, pr_ne, pr_lt, pr_gt, pr_le, pr_ge, pr_isin, pr_notin, pr_ix, pr_sl00, pr_sl10, pr_sl01, pr_sl11, pr_bi, pr_bi2, pr_isnone, pr_notnone, pr_isi, pr_isic, isa_tuple, isa_str, isa_int, isa_bool, isa_list, bl_some, tru_p, truP_bool, truP_int, truP_none, truP_tuple, truP_list, eqP_int, eqP_str, ltP_str, ltP_int, bind_nm, bind_tp, bind_tpl, setAll_nil, setAll_cons, List.getElem?_cons_zero, List.getElem?_cons_succ, List.set_cons_zero, List.set_cons_succ, Option.map_some, Option.map_none, List.map_cons, List.map_nil, Bool.not_true, Bool.not_false, pm_index, pm_count, pm_join, pm_split, pm_replace, pm_upper, rv_index, rv_count, rv_join, rv_split, rv_upper, rv_replace, rv_indexL, rv_countL, Bool.false_eq_true, ↓reduceIte, ev_callv, evS_setIx, evS_swap, evS_retN, evS_pass, addP_int, biP_len_tuple, PyData.isTuple, e1, e2, h1, h2, decide_true, decide_false, areValues, Bool.true_and, Bool.false_and]
    · simp only [d_are_values, evB_cons, evB_nil, evS_asg, evS_par, evS_expr, evS_ret, evS_ifs, evS_raise, ev_var, ev_lit, ev_gcon, ev_gfn, ev_op, ev_and, ev_or, ev_not, ev_ite, ev_call, ev_chain, ev_meth, evL_nil, evL_cons, pr_add, pr_sub, pr_mul, pr_fdiv, pr_mod, pr_pow, pr_neg, pr_eq, pr_ne, pr_lt, pr_gt, pr_le, pr_ge, pr_isin, pr_notin, pr_ix, pr_sl00, pr_sl10, pr_sl01, pr_sl11, pr_bi, pr_bi2, pr_isnone, pr_notnone, pr_isi, pr_isic, isa_tuple, isa_str, isa_int, isa_bool, isa_list, bl_some, tru_p, truP_bool, truP_int, truP_none, truP_tuple, truP_list, eqP_int, eqP_str, ltP_str, ltP_int, bind_nm, bind_tp, bind_tpl, setAll_nil, setAll_cons, List.getElem?_cons_zero, List.getElem?_cons_succ, List.set_cons_zero, List.set_cons_succ, Option.map_some, Option.map_none, List.map_cons, List.map_nil, Bool.not_true, Bool.not_false, pm_index, pm_count, pm_join, pm_split, pm_replace, pm_upper, rv_index, rv_count, rv_join, rv_split, rv_upper, rv_replace, rv_indexL, rv_countL, Bool.false_eq_true, ↓reduceIte, ev_callv, evS_setIx, evS_swap, evS_retN, evS_pass, addP_int, biP_len_tuple, PyData.isTuple, e1, e2, h1, decide_false, areValues, Bool.false_and]
  | _ => rfl
def isRow (d : PyData) : Bool := match d with
  | .tuple [n, c, vs, e] => isName n && isBetween c 1 1000000 && areValues vs && isBetween e 1 1000000000
  | _ => false
def sizedRow (d : PyData) : Prop := match d with
  | .tuple (n :: _) => sized n
  | _ => True
theorem row {d : PyData} (hz : sizedRow d) : callN C (k + 4) f_is_row [.p d] S = .ok (.p (.bool (isRow d))) S := by
  refine call_rt (S1 := []) [some (.p d), none, none, none, none] g_is_row ?_
  cases d with
  | tuple ds =>
    match ds, hz with
    | [], _ => rfl
    | [_], _ => rfl
    | [_, _], _ => rfl
    | [_, _, _], _ => rfl
    | a :: b :: c :: d :: e :: f, _ =>
      have h : ((((a :: b :: c :: d :: e :: f).length : Nat) : Int) == 4) = false := by simp; omega
      simp only [d_is_row, evB_cons, evB_nil, evS_asg, evS_par, evS_expr, evS_ret, evS_ifs, evS_raise, ev_var, ev_lit, ev_gcon, ev_gfn, ev_op, ev_and, ev_or, ev_not, ev_ite, ev_call, ev_chain, ev_meth, evL_nil, evL_cons, pr_add, pr_sub, pr_mul, pr_fdiv, pr_mod, pr_pow, pr_neg, pr_eq, pr_ne, pr_lt, pr_gt, pr_le, pr_ge, pr_isin, pr_notin, pr_ix, pr_sl00, pr_sl10, pr_sl01, pr_sl11, pr_bi, pr_bi2, pr_isnone, pr_notnone, pr_isi, pr_isic, isa_tuple, isa_str, isa_int, isa_bool, isa_list, bl_some, tru_p, truP_bool, truP_int, truP_none, truP_tuple, truP_list, eqP_int, eqP_str, ltP_str, ltP_int, bind_nm, bind_tp, bind_tpl, setAll_nil, setAll_cons, List.getElem?_cons_zero, List.getElem?_cons_succ, List.set_cons_zero, List.set_cons_succ, Option.map_some, Option.map_none, List.map_cons, List.map_nil, Bool.not_true, Bool.not_false, pm_index, pm_count, pm_join, pm_split, pm_replace, pm_upper, rv_index, rv_count, rv_join, rv_split, rv_upper, rv_replace, rv_indexL, rv_countL, Bool.false_eq_true, ↓reduceIte, ev_callv, evS_setIx, evS_swap, evS_retN, evS_pass, addP_int, biP_len_tuple, PyData.isTuple, h, isRow]
    | [n, c, vs, e], hz =>
      have hn : sized n := hz
      have h4 : ((([n, c, vs, e].length : Nat) : Int) == 4) = true := rfl
      cases h1 : isName n
      · simp only [d_is_row, evB_cons, evB_nil, evS_asg, evS_par, evS_expr, evS_ret, evS_ifs, evS_raise, ev_var, ev_lit, ev_gcon, ev_gfn, ev_op, ev_and, ev_or, ev_not, ev_ite, ev_call, ev_chain, ev_meth, evL_nil, evL_cons, pr_add, pr_sub, pr_mul, pr_fdiv, pr_mod, pr_pow, pr_neg, pr_eq, pr_ne, pr_lt, pr_gt, pr_le, pr_ge, pr_isin, pr_notin, pr_ix, pr_sl00, pr_sl10, pr_sl01, pr_sl11, pr_bi, pr_bi2, pr_isnone, pr_notnone, pr_isi, pr_isic, isa_tuple, isa_str, isa_int, isa_bool, isa_list, bl_some, tru_p, truP_bool, truP_int, truP_none, truP_tuple, truP_list, eqP_int, eqP_str, ltP_str, ltP_int, bind_nm, bind_tp, bind_tpl, setAll_nil, setAll_cons, List.getElem?_cons_zero, List.getElem?_cons_succ, List.set_cons_zero, List.set_cons_succ, Option.map_some, Option.map_none, List.map_cons, List.map_nil, Bool.not_true, Bool.not_false, pm_index, pm_count, pm_join, pm_split, pm_replace, pm_upper, rv_index, rv_count, rv_join, rv_split, rv_upper, rv_replace, rv_indexL, rv_countL, Bool.false_eq_true, ↓reduceIte, ev_callv, evS_setIx, evS_swap, evS_retN, evS_pass, addP_int, biP_len_tuple, PyData.isTuple, h4, name hn, h1, isRow, Bool.false_and]
      · cases h2 : isBetween c 1 1000000
        · simp only [d_is_row, evB_cons, evB_nil, evS_asg, evS_par, evS_expr, evS_ret, evS_ifs, evS_raise, ev_var, ev_lit, ev_gcon, ev_gfn, ev_op, ev_and, ev_or, ev_not, ev_ite, ev_call, ev_chain, ev_meth, evL_nil, evL_cons, pr_add, pr_sub, pr_mul, pr_fdiv, pr_mod, pr_pow, pr_neg, pr_eq, pr_ne, pr_lt, pr_gt, pr_le, pr_ge, pr_isin, pr_notin, pr_ix, pr_sl00, pr_sl10, pr_sl01, pr_sl11, pr_bi, pr_bi2, pr_isnone, pr_notnone, pr_isi, pr_isic, isa_tuple, isa_str, isa_int, isa_bool, isa_list, bl_some, tru_p, truP_bool, truP_int, truP_none, truP_tuple, truP_list, eqP_int, eqP_str, ltP_str, ltP_int, bind_nm, bind_tp, bind_tpl, setAll_nil, setAll_cons, List.getElem?_cons_zero, List.getElem?_cons_succ, List.set_cons_zero, List.set_cons_succ, Option.map_some, Option.map_none, List.map_cons, List.map_nil, Bool.not_true, Bool.not_false, pm_index, pm_count, pm_join, pm_split, pm_replace, pm_upper, rv_index, rv_count, rv_join, rv_split, rv_upper, rv_replace, rv_indexL, rv_countL, Bool.false_eq_true, ↓reduceIte, ev_callv, evS_setIx, evS_swap, evS_retN, evS_pass, addP_int, biP_len_tuple, PyData.isTuple, h4, name hn, h1, between, h2, isRow, Bool.true_and, Bool.false_and]
        · cases h3 : areValues vs <;> simp only [d_is_row, evB_cons, evB_nil, evS_asg, evS_par, evS_expr, evS_ret, evS_ifs, evS_raise, ev_var, ev_lit, ev_gcon, ev_gfn, ev_op, ev_and, ev_or, ev_not, ev_ite, ev_call, ev_chain, ev_meth, evL_nil, evL_cons, pr_add, pr_sub, pr_mul, pr_fdiv, pr_mod, pr_pow, pr_neg, pr_eq, pr_ne, pr_lt, pr_gt, pr_le, pr_ge, pr_isin, pr_notin, pr_ix, pr_sl00, pr_sl10, pr_sl01, pr_sl11, pr_bi, pr_bi2, pr_isnone, pr_notnone, pr_isi, pr_isic, isa_tuple, isa_str, isa_int, isa_bool, isa_list, bl_some, tru_p, truP_bool, truP_int, truP_none, truP_tuple, truP_list, eqP_int, eqP_str, ltP_str, ltP_int, bind_nm, bind_tp, bind_tpl, setAll_nil, setAll_cons, List.getElem?_cons_zero, List.getElem?_cons_succ, List.set_cons_zero, List.set_cons_succ, Option.map_some, Option.map_none, List.map_cons, List.map_nil, Bool.not_true, Bool.not_false, pm_index, pm_count, pm_join, pm_split, pm_replace, pm_upper, rv_index, rv_count, rv_join, rv_split, rv_upper, rv_replace, rv_indexL, rv_countL, Bool.false_eq_true, ↓reduceIte, ev_callv, evS_setIx, evS_swap, evS_retN, evS_pass, addP_int, biP_len_tuple, PyData.isTuple, h4, name hn, h1, between, h2, values, h3, isRow, Bool.true_and, Bool.false_and]
  | _ => rfl
end Mr

/-! Mi: integers as texts. -/
namespace Mi
open PySem Ev Mb I Mr NumText L2
variable {S : Store} {k : Nat}
abbrev cs (x : Str) : List Nat := x.cps.toList
theorem str_ext {a b : Str} (h : cs a = cs b) : a = b := PySem.Str.ext' (Array.toList_inj.mp h)
theorem str_eqv (a b : Str) : (a == b) = decide (cs a = cs b) := by
  by_cases h : cs a = cs b
  · rw [decide_eq_true h, str_ext h, beq_self_eq_true]
  · rw [decide_eq_false h, beq_eq_false_iff_ne]
    exact fun e => h (congrArg cs e)
theorem len_cs (x : Str) : x.length = (cs x).length := Array.length_toList.symm
theorem cut_to1 (x : Str) : cs (cutS x none (some 1)) = (cs x).take 1 := by
  show ((x.cps.toList.drop (HT.sIx x.length 0 none)).take (HT.sIx x.length x.length (some ((1 : Nat) : Int)) - HT.sIx x.length 0 none)) = _
  rw [HT.sIx_none, HT.sIx_nat, len_cs]
  show ((cs x).drop 0).take (min 1 (cs x).length - 0) = _
  cases cs x with
  | nil => rfl
  | cons c l =>
    rw [show min 1 (c :: l).length = 1 from by simp]
    rfl
theorem cut_from1 (x : Str) : cs (cutS x (some 1) none) = (cs x).drop 1 := by
  show ((x.cps.toList.drop (HT.sIx x.length 0 (some ((1 : Nat) : Int)))).take (HT.sIx x.length x.length none - HT.sIx x.length 0 (some ((1 : Nat) : Int)))) = _
  rw [HT.sIx_none, HT.sIx_nat, len_cs]
  show ((cs x).drop (min 1 (cs x).length)).take ((cs x).length - min 1 (cs x).length) = _
  cases cs x with
  | nil => rfl
  | cons c l =>
    rw [show min 1 (c :: l).length = 1 from by simp, List.take_of_length_le (by simp)]
def neg (l : List Nat) : Bool := decide (l.take 1 = [45])
def dgs (l : List Nat) : List Nat := if neg l then l.drop 1 else l
def dig (c : Nat) : Bool := decide (c ∈ cs sDigits)
theorem dig_iff {c : Nat} : dig c = true ↔ 48 ≤ c ∧ c ≤ 57 := by
  unfold dig
  rw [decide_eq_true_eq]
  show c ∈ [48, 49, 50, 51, 52, 53, 54, 55, 56, 57] ↔ _
  simp only [List.mem_cons, List.not_mem_nil, or_false]
  omega
theorem all_dig {l : List Nat} : l.all dig = true ↔ AllDigits l := by
  rw [List.all_eq_true]
  exact ⟨fun h c hc => dig_iff.mp (h c hc), fun h c hc => dig_iff.mpr (h c hc)⟩
/-- the integer that a word denotes -/
def parseInt (x : Str) : PyData :=
  if 1 ≤ (dgs (cs x)).length ∧ (dgs (cs x)).length ≤ 40 ∧ (dgs (cs x)).all dig = true then
    if (dgs (cs x)).head? = some 48 ∧ cs x ≠ [48] then .none else .int (if neg (cs x) then -((digitsVal (dgs (cs x)) : Nat) : Int) else ((digitsVal (dgs (cs x)) : Nat) : Int))
  else .none
theorem nat_char {c : Nat} (h : 48 ≤ c ∧ c ≤ 57) : (Char.ofNat c).toNat = c := by
  have e : ∀ d : Nat, d < 10 → (Char.ofNat (48 + d)).toNat = 48 + d := by decide
  have := e (c - 48) (by omega)
  rwa [show 48 + (c - 48) = c from by omega] at this
theorem map_chars {l : List Nat} (h : AllDigits l) : (l.map Char.ofNat).map Char.toNat = l := by
  rw [List.map_map]
  conv => rhs; rw [← List.map_id l]
  refine List.map_congr_left fun c hc => nat_char (h c hc)
theorem drop_dig {l : List Nat} (h : AllDigits l) : AllDigits (l.dropWhile (· == 48)) := fun c hc => h c ((List.dropWhile_sublist _).subset hc)
theorem numL_all {l : List Nat} (h : AllDigits l) : TL.numL (digitsVal l) = match l.dropWhile (· == 48) with
    | [] => [48]
    | c :: r => c :: r := by
  unfold TL.numL
  rw [toDigits_all l h]
  have hd := drop_dig h
  cases e : l.dropWhile (· == 48) with
  | nil => rfl
  | cons c r =>
    rw [e] at hd
    exact map_chars hd
theorem drop_head {l : List Nat} {c : Nat} {r : List Nat} (e : l.dropWhile (· == 48) = c :: r) : c ≠ 48 := by
  induction l with
  | nil => cases e
  | cons a l ih =>
    rw [List.dropWhile_cons] at e
    by_cases ha : (a == 48) = true
    · rw [if_pos ha] at e; exact ih e
    · rw [if_neg ha] at e
      cases e
      simpa using ha
/-- the text of the value is the text read: no zeros ahead -/
theorem numL_back {l : List Nat} (h : AllDigits l) (hne : l ≠ []) : TL.numL (digitsVal l) = l ↔ ¬ (l.head? = some 48 ∧ l ≠ [48]) := by
  rw [numL_all h]
  match l, hne with
  | a :: r, _ =>
    by_cases ha : a = 48
    · subst ha
      rw [List.dropWhile_cons, if_pos (by rfl)]
      cases e : r.dropWhile (· == 48) with
      | nil =>
        show [48] = 48 :: r ↔ _
        constructor
        · intro z ⟨_, y⟩; exact y z.symm
        · intro z
          by_cases hr : r = []
          · rw [hr]
          · exact absurd ⟨rfl, by simpa using hr⟩ z
      | cons c q =>
        have hc := drop_head e
        show c :: q = 48 :: r ↔ _
        constructor
        · intro z; cases z; exact absurd rfl hc
        · intro z
          by_cases hr : r = []
          · rw [hr] at e; cases e
          · exact absurd ⟨rfl, by simpa using hr⟩ z
    · rw [List.dropWhile_cons, if_neg (by simpa using ha)]
      constructor
      · intro _ ⟨z, _⟩
        exact ha (Option.some.inj z)
      · intro _; rfl
theorem cs_nat (n : Nat) : cs (intStr (n : Int)) = TL.numL n := TL.tl_num n
theorem cs_neg {n : Nat} (h : 0 < n) : cs (intStr (-(n : Int))) = 45 :: TL.numL n := by
  have e : (-(n : Int)) = Int.negSucc (n - 1) := by
    rw [Int.negSucc_eq]
    omega
  have z := TL.tl_num n
  rw [e]
  show (Str.ofString (toString (Int.negSucc (n - 1)))).cps.toList = _
  rw [← z]
  have e2 : toString (Int.negSucc (n - 1)) = "-" ++ toString n := by
    show "-" ++ toString (Nat.succ (n - 1)) = _
    rw [show Nat.succ (n - 1) = n from by omega]
  have e3 : toString (n : Int) = toString n := rfl
  rw [e2, e3, Str.ofString_eq_toList, Str.ofString_eq_toList]
  simp
theorem parse_some {x : Str} (h : 1 ≤ (dgs (cs x)).length ∧ (dgs (cs x)).length ≤ 40 ∧ (dgs (cs x)).all dig = true) :
    ∃ v : Int, intText? x = some v ∧ v.natAbs.log2 < 1920 ∧ parseInt x = (if (intStr v == x) = true then .int v else .none) := by
  obtain ⟨h1, h2, h3⟩ := h
  have hd := all_dig.mp h3
  have hne : dgs (cs x) ≠ [] := by intro e; rw [e] at h1; simp at h1
  have hv : digitsVal (dgs (cs x)) < 10 ^ 41 := by
    have e : ∀ (l : List Nat) (a : Nat), AllDigits l → l.foldl (fun acc c => acc * 10 + (c - 48)) a < (a + 1) * 10 ^ l.length := by
      intro l
      induction l with
      | nil => intro a _; simp
      | cons c l ih =>
        intro a ha
        have hc := ha.head
        have := ih (a * 10 + (c - 48)) ha.tail
        rw [List.foldl_cons, List.length_cons, Nat.pow_succ]
        refine Nat.lt_of_lt_of_le this ?_
        rw [Nat.mul_comm (10 ^ l.length) 10, ← Nat.mul_assoc]
        exact Nat.mul_le_mul_right _ (by omega)
    have := e (dgs (cs x)) 0 hd
    have z : 10 ^ (dgs (cs x)).length ≤ 10 ^ 40 := Nat.pow_le_pow_right (by decide) h2
    unfold digitsVal
    have w : (10 : Nat) ^ 40 < 10 ^ 41 := by decide
    omega
  have hlog : (digitsVal (dgs (cs x))).log2 < 1920 := by
    by_cases z : digitsVal (dgs (cs x)) = 0
    · rw [z]; decide
    · rw [Nat.log2_lt z]
      exact Nat.lt_of_lt_of_le hv (by decide)
  cases hn : neg (cs x) with
  | false =>
    have el : dgs (cs x) = cs x := by unfold dgs; rw [hn]; rfl
    rw [el] at h1 h2 h3 hd hne hv hlog
    refine ⟨((digitsVal (cs x) : Nat) : Int), intText_digits hd hne (by rw [len_cs]; omega), by rw [Int.natAbs_natCast]; exact hlog, ?_⟩
    unfold parseInt
    rw [el, if_pos ⟨h1, h2, h3⟩, hn, str_eqv, cs_nat]
    have nb := numL_back hd hne
    by_cases hz : (cs x).head? = some 48 ∧ cs x ≠ [48]
    · rw [if_pos hz, if_neg (fun z => nb.mp (of_decide_eq_true z) hz)]
    · rw [if_neg hz, if_neg Bool.false_ne_true, if_pos (decide_eq_true (nb.mpr hz))]
  | true =>
    have el : cs x = 45 :: dgs (cs x) := by
      have : dgs (cs x) = (cs x).drop 1 := by unfold dgs; rw [hn]; rfl
      rw [this]
      unfold neg at hn
      rw [decide_eq_true_eq] at hn
      cases hc : cs x with
      | nil => rw [hc] at hn; cases hn
      | cons c l =>
        rw [hc] at hn
        have : c = 45 := by simpa using hn
        rw [this]
        rfl
    refine ⟨-((digitsVal (dgs (cs x)) : Nat) : Int), intText_neg el hd hne (by rw [len_cs, el, List.length_cons]; omega), by rw [Int.natAbs_neg, Int.natAbs_natCast]; exact hlog, ?_⟩
    unfold parseInt
    rw [if_pos ⟨h1, h2, h3⟩, hn, str_eqv]
    have h48 : cs x ≠ [48] := by rw [el]; intro z; cases z
    have nb := numL_back hd hne
    by_cases hz : (dgs (cs x)).head? = some 48
    · rw [if_pos ⟨hz, h48⟩, if_neg]
      intro z
      replace z := of_decide_eq_true z
      by_cases hp : 0 < digitsVal (dgs (cs x))
      · rw [cs_neg hp, el] at z
        have z2 := nb.mp (List.cons.inj z).2
        have z3 : dgs (cs x) = [48] := by
          by_cases q : dgs (cs x) = [48]
          · exact q
          · exact absurd ⟨hz, q⟩ z2
        rw [z3] at hp
        exact absurd hp (by decide)
      · have : digitsVal (dgs (cs x)) = 0 := by omega
        rw [this] at z
        rw [el] at z
        have e0 : cs (intStr (-((0 : Nat) : Int))) = [48] := by decide +kernel
        rw [e0] at z
        cases z
    · have hp : 0 < digitsVal (dgs (cs x)) := by
        cases hc : dgs (cs x) with
        | nil => exact absurd hc hne
        | cons c l =>
          rw [hc] at hd hz
          have := hd.head
          refine digitsVal_pos ?_
          have : c ≠ 48 := fun e => hz (by rw [e]; rfl)
          omega
      have z : cs (intStr (-((digitsVal (dgs (cs x)) : Nat) : Int))) = cs x := by
        rw [cs_neg hp]
        conv => rhs; rw [el]
        rw [nb.mpr fun q => hz q.1]
      rw [if_neg (fun q => hz q.1), if_pos rfl, if_pos (decide_eq_true z)]
theorem parse_none {x : Str} (h : ¬ (1 ≤ (dgs (cs x)).length ∧ (dgs (cs x)).length ≤ 40 ∧ (dgs (cs x)).all dig = true)) : parseInt x = .none := by
  unfold parseInt
  rw [if_neg h]
/-- the digits' text -/
def dtx (x : Str) : Str := if neg (cs x) then cutS x (some 1) none else x
theorem cs_dtx (x : Str) : cs (dtx x) = dgs (cs x) := by
  unfold dtx dgs
  cases neg (cs x) with
  | true => exact cut_from1 x
  | false => rfl
theorem minus_eq (x : Str) : (cutS x none (some 1) == (⟨#[45]⟩ : Str)) = neg (cs x) := by
  rw [str_eqv, cut_to1]
  rfl
theorem comp_digits {x d : Str} (hd : d.length ≤ big) : ev C (callN C k) c_parse_integer_0 [some (.p (.str x)), some (.p (.str d)), none] [] = .ok (.p (.list ((cs d).map fun c => .bool (dig c)))) [] := by
  refine ev_comp (vs := [.p (.str d)]) (fun (c : Nat) => .p (.str ⟨#[c]⟩)) (fun c => .bool (dig c)) (cs d) rfl rfl (by rw [← len_cs]; exact hd) fun c hc => ⟨_, rfl, ?_⟩
  show Res.ok (.p (.bool (!(Builtin.Str.occurrences sDigits ⟨#[c]⟩ 0 sDigits.length 1).isEmpty))) [] = _
  rw [StrLaws.found_one]
  rfl
theorem asg_digits {F : Nat → List Val → Store → Res} {x : Str} {a : Option Val} {r : Slots} (hx : x.length ≤ big) : evS C F (.asg (.nm 1) (.ite (.op .eq [(.op (.sl false true) [(.var 0), (.lit (.int 1))]), (.lit (.str ⟨#[45]⟩))]) (.op (.sl true false) [(.var 0), (.lit (.int 1))]) (.var 0))) (some (.p (.str x)) :: a :: r) [] = .nx (some (.p (.str x)) :: some (.p (.str (dtx x))) :: r) [] := by
  have e1 : slP (.str x) none (some 1) = some (.str (cutS x none (some 1))) := if_pos hx
  have e2 : slP (.str x) (some 1) none = some (.str (cutS x (some 1) none)) := if_pos hx
  cases h : neg (cs x) <;> simp only [evB_cons, evB_nil, evS_asg, evS_par, evS_expr, evS_ret, evS_ifs, evS_raise, ev_var, ev_lit, ev_gcon, ev_gfn, ev_op, ev_and, ev_or, ev_not, ev_ite, ev_call, ev_chain, ev_meth, evL_nil, evL_cons, pr_add, pr_sub, pr_mul, pr_fdiv, pr_mod, pr_pow, pr_neg, pr_eq, pr_ne, pr_lt, pr_gt, pr_le, pr_ge, pr_isin, pr_notin, pr_ix, pr_sl00, pr_sl10, pr_sl01, pr_sl11, pr_bi, pr_bi2, pr_isnone, pr_notnone, pr_isi, pr_isic, isa_tuple, isa_str, isa_int, isa_bool, isa_list, bl_some, tru_p, truP_bool, truP_int, truP_none, truP_tuple, truP_list, eqP_int, eqP_str, ltP_str, ltP_int, bind_nm, bind_tp, bind_tpl, setAll_nil, setAll_cons, List.getElem?_cons_zero, List.getElem?_cons_succ, List.set_cons_zero, List.set_cons_succ, Option.map_some, Option.map_none, List.map_cons, List.map_nil, Bool.not_true, Bool.not_false, pm_index, pm_count, pm_join, pm_split, pm_replace, pm_upper, rv_index, rv_count, rv_join, rv_split, rv_upper, rv_replace, rv_indexL, rv_countL, Bool.false_eq_true, ↓reduceIte, ev_callv, evS_setIx, evS_swap, evS_retN, evS_pass, addP_int, e1, e2, minus_eq, h, dtx] <;> rfl
theorem len_dtx {x : Str} : (dtx x).length ≤ x.length := by
  unfold dtx
  cases neg (cs x) with
  | true => exact cutS_length x _ _
  | false => exact Nat.le_refl _
theorem parse_int {x : Str} (hx : x.length ≤ 5000) : callN C (k + 1) f_parse_integer [.p (.str x)] S = .ok (.p (parseInt x)) S := by
  have hb : x.length ≤ big := Nat.le_trans hx (by decide)
  have hd : (dtx x).length ≤ big := Nat.le_trans len_dtx hb
  refine call_rt (S1 := []) [some (.p (.str x)), none, none] g_parse_integer ?_
  have e1 : (decide ((1 : Int) ≤ ((dtx x).length : Int))) = decide (1 ≤ (dgs (cs x)).length) := by rw [decide_eq_decide, len_cs, cs_dtx]; omega
  have e2 : (decide (((dtx x).length : Int) ≤ 40)) = decide ((dgs (cs x)).length ≤ 40) := by rw [decide_eq_decide, len_cs, cs_dtx]; omega
  have e3 : biP .all [.list ((cs (dtx x)).map fun c => .bool (dig c))] = some (.bool ((dgs (cs x)).all dig)) := by rw [bi_all, cs_dtx]
  by_cases h : 1 ≤ (dgs (cs x)).length ∧ (dgs (cs x)).length ≤ 40 ∧ (dgs (cs x)).all dig = true
  · obtain ⟨v, hv, hl, hp⟩ := parse_some h
    have e4 : biP .int [.str x] = some (.int v) := by
      show (if x.length ≤ 640 then (PySem.intText? x).map PyData.int else none) = _
      rw [if_pos, hv]
      · rfl
      · have := h.2.1
        rw [← cs_dtx, ← len_cs] at this
        have : x.length ≤ (dtx x).length + 1 := by
          rw [len_cs, len_cs, cs_dtx]
          unfold dgs
          cases neg (cs x) <;> simp <;> omega
        omega
    have e5 : biP .str [.int v] = some (.str (intStr v)) := if_pos hl
    rw [hp]
    cases hq : (intStr v == x) <;> simp only [d_parse_integer] <;> rw [evB_cons, asg_digits hb] <;> simp only [evB_cons, evB_nil, evS_asg, evS_par, evS_expr, evS_ret, evS_ifs, evS_raise, ev_var, ev_lit, ev_gcon, ev_gfn, ev_op, ev_and, ev_or, ev_not, ev_ite, ev_call, ev_chain, ev_meth, evL_nil, evL_cons, pr_add, pr_sub, pr_mul, pr_fdiv, pr_mod, pr_pow, pr_neg, pr_eq, pr_ne, pr_lt, pr_gt, pr_le, pr_ge, pr_isin, pr_notin, pr_ix, pr_sl00, pr_sl10, pr_sl01, pr_sl11, pr_bi, pr_bi2, pr_isnone, pr_notnone, pr_isi, pr_isic, isa_tuple, isa_str, isa_int, isa_bool, isa_list, bl_some, tru_p, truP_bool, truP_int, truP_none, truP_tuple, truP_list, eqP_int, eqP_str, ltP_str, ltP_int, bind_nm, bind_tp, bind_tpl, setAll_nil, setAll_cons, List.getElem?_cons_zero, List.getElem?_cons_succ, List.set_cons_zero, List.set_cons_succ, Option.map_some, Option.map_none, List.map_cons, List.map_nil, Bool.not_true, Bool.not_false, pm_index, pm_count, pm_join, pm_split, pm_replace, pm_upper, rv_index, rv_count, rv_join, rv_split, rv_upper, rv_replace, rv_indexL, rv_countL, Bool.false_eq_true, ↓reduceIte, ev_callv, evS_setIx, evS_swap, evS_retN, evS_pass, addP_int, biP_len_str, if_pos hd, e1, e2, h.1, h.2.1, decide_true, comp_digits hd, e3, h.2.2, e4, e5, hq] <;> rfl
  · rw [parse_none h]
    by_cases h1 : 1 ≤ (dgs (cs x)).length
    · by_cases h2 : (dgs (cs x)).length ≤ 40
      · have h3 : (dgs (cs x)).all dig = false := by
          cases q : (dgs (cs x)).all dig with
          | false => rfl
          | true => exact absurd ⟨h1, h2, q⟩ h
        simp only [d_parse_integer] <;> rw [evB_cons, asg_digits hb] <;> simp only [evB_cons, evB_nil, evS_asg, evS_par, evS_expr, evS_ret, evS_ifs, evS_raise, ev_var, ev_lit, ev_gcon, ev_gfn, ev_op, ev_and, ev_or, ev_not, ev_ite, ev_call, ev_chain, ev_meth, evL_nil, evL_cons, pr_add, pr_sub, pr_mul, pr_fdiv, pr_mod, pr_pow, pr_neg, pr_eq, pr_ne, pr_lt, pr_gt, pr_le, pr_ge, pr_isin, pr_notin, pr_ix, pr_sl00, pr_sl10, pr_sl01, pr_sl11, pr_bi, pr_bi2, pr_isnone, pr_notnone, pr_isi, pr_isic, isa_tuple, isa_str, isa_int, isa_bool, isa_list, bl_some, tru_p, truP_bool, truP_int, truP_none, truP_tuple, truP_list, eqP_int, eqP_str, ltP_str, ltP_int, bind_nm, bind_tp, bind_tpl, setAll_nil, setAll_cons, List.getElem?_cons_zero, List.getElem?_cons_succ, List.set_cons_zero, List.set_cons_succ, Option.map_some, Option.map_none, List.map_cons, List.map_nil, Bool.not_true, Bool.not_false, pm_index, pm_count, pm_join, pm_split, pm_replace, pm_upper, rv_index, rv_count, rv_join, rv_split, rv_upper, rv_replace, rv_indexL, rv_countL, Bool.false_eq_true, ↓reduceIte, ev_callv, evS_setIx, evS_swap, evS_retN, evS_pass, addP_int, biP_len_str, if_pos hd, e1, e2, h1, h2, decide_true, comp_digits hd, e3, h3]
      · simp only [d_parse_integer] <;> rw [evB_cons, asg_digits hb] <;> simp only [evB_cons, evB_nil, evS_asg, evS_par, evS_expr, evS_ret, evS_ifs, evS_raise, ev_var, ev_lit, ev_gcon, ev_gfn, ev_op, ev_and, ev_or, ev_not, ev_ite, ev_call, ev_chain, ev_meth, evL_nil, evL_cons, pr_add, pr_sub, pr_mul, pr_fdiv, pr_mod, pr_pow, pr_neg, pr_eq, pr_ne, pr_lt, pr_gt, pr_le, pr_ge, pr_isin, pr_notin, pr_ix, pr_sl00, pr_sl10, pr_sl01, pr_sl11, pr_bi, pr_bi2, pr_isnone, pr_notnone, pr_isi, pr_isic, isa_tuple, isa_str, isa_int, isa_bool, isa_list, bl_some, tru_p, truP_bool, truP_int, truP_none, truP_tuple, truP_list, eqP_int, eqP_str, ltP_str, ltP_int, bind_nm, bind_tp, bind_tpl, setAll_nil, setAll_cons, List.getElem?_cons_zero, List.getElem?_cons_succ, List.set_cons_zero, List.set_cons_succ, Option.map_some, Option.map_none, List.map_cons, List.map_nil, Bool.not_true, Bool.not_false, pm_index, pm_count, pm_join, pm_split, pm_replace, pm_upper, rv_index, rv_count, rv_join, rv_split, rv_upper, rv_replace, rv_indexL, rv_countL, Bool.false_eq_true, ↓reduceIte, ev_callv, evS_setIx, evS_swap, evS_retN, evS_pass, addP_int, biP_len_str, if_pos hd, e1, e2, h1, h2, decide_true, decide_false]
    · simp only [d_parse_integer] <;> rw [evB_cons, asg_digits hb] <;> simp only [evB_cons, evB_nil, evS_asg, evS_par, evS_expr, evS_ret, evS_ifs, evS_raise, ev_var, ev_lit, ev_gcon, ev_gfn, ev_op, ev_and, ev_or, ev_not, ev_ite, ev_call, ev_chain, ev_meth, evL_nil, evL_cons, pr_add, pr_sub, pr_mul, pr_fdiv, pr_mod, pr_pow, pr_neg, pr_eq, pr_ne, pr_lt, pr_gt, pr_le, pr_ge, pr_isin, pr_notin, pr_ix, pr_sl00, pr_sl10, pr_sl01, pr_sl11, pr_bi, pr_bi2, pr_isnone, pr_notnone, pr_isi, pr_isic, isa_tuple, isa_str, isa_int, isa_bool, isa_list, bl_some, tru_p, truP_bool, truP_int, truP_none, truP_tuple, truP_list, eqP_int, eqP_str, ltP_str, ltP_int, bind_nm, bind_tp, bind_tpl, setAll_nil, setAll_cons, List.getElem?_cons_zero, List.getElem?_cons_succ, List.set_cons_zero, List.set_cons_succ, Option.map_some, Option.map_none, List.map_cons, List.map_nil, Bool.not_true, Bool.not_false, pm_index, pm_count, pm_join, pm_split, pm_replace, pm_upper, rv_index, rv_count, rv_join, rv_split, rv_upper, rv_replace, rv_indexL, rv_countL, Bool.false_eq_true, ↓reduceIte, ev_callv, evS_setIx, evS_swap, evS_retN, evS_pass, addP_int, biP_len_str, if_pos hd, e1, h1, decide_false]
theorem comp_nodigits {x d : Str} {a : Option Val} (hd : d.length ≤ big) : ev C (callN C k) c__law_integer_0 [some (.p (.str x)), some (.p (.str d)), a, none] [] = .ok (.p (.list (((cs d).filter fun c => !dig c).map fun c => .str ⟨#[c]⟩))) [] := by
  refine ev_compIf (vs := [.p (.str d)]) (fun (c : Nat) => .p (.str ⟨#[c]⟩)) (fun c => !dig c) (fun c => .str ⟨#[c]⟩) (cs d) rfl rfl (by rw [← len_cs]; exact hd) fun c hc => ⟨_, _, rfl, rfl, ?_, fun _ => rfl⟩
  show some (!(!(Builtin.Str.occurrences sDigits ⟨#[c]⟩ 0 sDigits.length 1).isEmpty)) = _
  rw [StrLaws.found_one]
  rfl
theorem index_digit {c : Nat} (h : 48 ≤ c ∧ c ≤ 57) : meP .index [.str sDigits, .str ⟨#[c]⟩] = some (.int ((c - 48 : Nat) : Int)) := by
  have e : ∀ d : Nat, d < 10 → Txt.index0 sDigits ⟨#[48 + d]⟩ = some d := by decide +kernel
  have z := e (c - 48) (by omega)
  rw [show 48 + (c - 48) = c from by omega] at z
  simp only [meP, z]
  rfl
theorem loop_digits {x d : Str} {l : List Nat} (hl : AllDigits l) (he : cs d = l) (y : Option Val) : ∃ y', evS C (callN C k) l__law_integer_0 [some (.p (.str x)), some (.p (.str d)), some (.p (.int 0)), y] [] = .nx [some (.p (.str x)), some (.p (.str d)), some (.p (.int ((digitsVal l : Nat) : Int))), y'] [] := by
  have z := forGo_inv (ck := ckS none) (fb := evB C (callN C k) lb__law_integer_0) (tg := .nm 3) (it := fun (c : Nat) => .p (.str ⟨#[c]⟩))
    (fun as env S => ∃ (acc : Nat) (y : Option Val), env = [some (.p (.str x)), some (.p (.str d)), some (.p (.int acc)), y] ∧ S = [] ∧ AllDigits as ∧ as.foldl (fun a c => a * 10 + (c - 48)) acc = digitsVal l) (fun _ _ _ _ => rfl) (fun a as env S h => ?_) l _ [] ⟨0, y, rfl, rfl, hl, rfl⟩
  · obtain ⟨env', S', h1, acc, y', rfl, rfl, _, h2⟩ := z
    refine ⟨y', ?_⟩
    rw [l__law_integer_0, evS_for, evL_cons, ev_var]
    dsimp only [List.getElem?_cons_succ, List.getElem?_cons_zero]
    rw [evL_nil]
    dsimp only
    have e : items [] .val [.p (.str d)] = some (l.map (fun (c : Nat) => Val.p (.str ⟨#[c]⟩)), none) := by
      rw [← he]
      rfl
    rw [e]
    dsimp only
    rw [← h2]
    exact h1
  · obtain ⟨acc, y, rfl, rfl, hd, h2⟩ := h
    refine ⟨_, [some (.p (.str x)), some (.p (.str d)), some (.p (.int ((acc * 10 + (a - 48) : Nat) : Int))), some (.p (.str ⟨#[a]⟩))], [], rfl, ?_, acc * 10 + (a - 48), _, rfl, rfl, hd.tail, h2⟩
    have em : mulP (.int acc) (.int 10) = some (.int ((acc * 10 : Nat) : Int)) := by
      show (if (acc : Int).natAbs < 2 ^ 64 ∨ (10 : Int).natAbs < 2 ^ 64 then some (PyData.int ((acc : Int) * 10)) else none) = _
      rw [if_pos (Or.inr (by decide))]
      simp
    have ea : addP (.int ((acc * 10 : Nat) : Int)) (.int ((a - 48 : Nat) : Int)) = some (.int ((acc * 10 + (a - 48) : Nat) : Int)) := by
      show some (PyData.int _) = _
      simp
    simp only [lb__law_integer_0, evB_cons, evB_nil, evS_asg, evS_par, evS_expr, evS_ret, evS_ifs, evS_raise, ev_var, ev_lit, ev_gcon, ev_gfn, ev_op, ev_and, ev_or, ev_not, ev_ite, ev_call, ev_chain, ev_meth, evL_nil, evL_cons, pr_add, pr_sub, pr_mul, pr_fdiv, pr_mod, pr_pow, pr_neg, pr_eq, pr_ne, pr_lt, pr_gt, pr_le, pr_ge, pr_isin, pr_notin, pr_ix, pr_sl00, pr_sl10, pr_sl01, pr_sl11, pr_bi, pr_bi2, pr_isnone, pr_notnone, pr_isi, pr_isic, isa_tuple, isa_str, isa_int, isa_bool, isa_list, bl_some, tru_p, truP_bool, truP_int, truP_none, truP_tuple, truP_list, eqP_int, eqP_str, ltP_str, ltP_int, bind_nm, bind_tp, bind_tpl, setAll_nil, setAll_cons, List.getElem?_cons_zero, List.getElem?_cons_succ, List.set_cons_zero, List.set_cons_succ, Option.map_some, Option.map_none, List.map_cons, List.map_nil, Bool.not_true, Bool.not_false, pm_index, pm_count, pm_join, pm_split, pm_replace, pm_upper, rv_index, rv_count, rv_join, rv_split, rv_upper, rv_replace, rv_indexL, rv_countL, Bool.false_eq_true, ↓reduceIte, ev_callv, evS_setIx, evS_swap, evS_retN, evS_pass, addP_int, em, index_digit hd.head, ea]
theorem law_int {x : Str} (hx : x.length ≤ 5000) : callN C (k + 1) f__law_integer [.p (.str x)] S = .ok (.p (parseInt x)) S := by
  have hb : x.length ≤ big := Nat.le_trans hx (by decide)
  have hd : (dtx x).length ≤ big := Nat.le_trans len_dtx hb
  refine call_rt (S1 := []) [some (.p (.str x)), none, none, none] g__law_integer ?_
  have e0 : (dtx x == (⟨#[]⟩ : Str)) = decide ((dgs (cs x)).length = 0) := by
    rw [str_eqv, cs_dtx, decide_eq_decide]
    show dgs (cs x) = [] ↔ _
    exact List.length_eq_zero_iff.symm
  have e2 : (decide ((40 : Int) < ((dtx x).length : Int))) = decide (40 < (dgs (cs x)).length) := by rw [decide_eq_decide, len_cs, cs_dtx]; omega
  have e3 : eqP (.list (((cs (dtx x)).filter fun c => !dig c).map fun c => .str ⟨#[c]⟩)) (.list []) = some ((dgs (cs x)).all dig) := by
    rw [cs_dtx]
    show (if PyData.depth _ ≤ 64 ∨ PyData.depth (.list []) ≤ 64 then some (PyData.eqv _ _) else none) = _
    rw [if_pos (Or.inr (by decide))]
    cases q : (dgs (cs x)).all dig with
    | true =>
      have : (dgs (cs x)).filter (fun c => !dig c) = [] := by
        rw [List.filter_eq_nil_iff]
        intro c hc
        rw [List.all_eq_true.mp q c hc]
        simp
      rw [this]
      rfl
    | false =>
      cases z : (dgs (cs x)).filter (fun c => !dig c) with
      | nil =>
        rw [List.filter_eq_nil_iff] at z
        have : (dgs (cs x)).all dig = true := List.all_eq_true.mpr fun c hc => by simpa using z c hc
        rw [this] at q
        cases q
      | cons a b => rfl
  have emp : prim C .lst [] [] = some (.p (.list []), []) := rfl
  by_cases h1 : (dgs (cs x)).length = 0
  · rw [parse_none (by omega)]
    simp only [d__law_integer] <;> rw [evB_cons, asg_digits hb] <;> simp only [evB_cons, evB_nil, evS_asg, evS_par, evS_expr, evS_ret, evS_ifs, evS_raise, ev_var, ev_lit, ev_gcon, ev_gfn, ev_op, ev_and, ev_or, ev_not, ev_ite, ev_call, ev_chain, ev_meth, evL_nil, evL_cons, pr_add, pr_sub, pr_mul, pr_fdiv, pr_mod, pr_pow, pr_neg, pr_eq, pr_ne, pr_lt, pr_gt, pr_le, pr_ge, pr_isin, pr_notin, pr_ix, pr_sl00, pr_sl10, pr_sl01, pr_sl11, pr_bi, pr_bi2, pr_isnone, pr_notnone, pr_isi, pr_isic, isa_tuple, isa_str, isa_int, isa_bool, isa_list, bl_some, tru_p, truP_bool, truP_int, truP_none, truP_tuple, truP_list, eqP_int, eqP_str, ltP_str, ltP_int, bind_nm, bind_tp, bind_tpl, setAll_nil, setAll_cons, List.getElem?_cons_zero, List.getElem?_cons_succ, List.set_cons_zero, List.set_cons_succ, Option.map_some, Option.map_none, List.map_cons, List.map_nil, Bool.not_true, Bool.not_false, pm_index, pm_count, pm_join, pm_split, pm_replace, pm_upper, rv_index, rv_count, rv_join, rv_split, rv_upper, rv_replace, rv_indexL, rv_countL, Bool.false_eq_true, ↓reduceIte, ev_callv, evS_setIx, evS_swap, evS_retN, evS_pass, addP_int, e0, h1, decide_true]
  · by_cases h2 : 40 < (dgs (cs x)).length
    · rw [parse_none (by omega)]
      simp only [d__law_integer] <;> rw [evB_cons, asg_digits hb] <;> simp only [evB_cons, evB_nil, evS_asg, evS_par, evS_expr, evS_ret, evS_ifs, evS_raise, ev_var, ev_lit, ev_gcon, ev_gfn, ev_op, ev_and, ev_or, ev_not, ev_ite, ev_call, ev_chain, ev_meth, evL_nil, evL_cons, pr_add, pr_sub, pr_mul, pr_fdiv, pr_mod, pr_pow, pr_neg, pr_eq, pr_ne, pr_lt, pr_gt, pr_le, pr_ge, pr_isin, pr_notin, pr_ix, pr_sl00, pr_sl10, pr_sl01, pr_sl11, pr_bi, pr_bi2, pr_isnone, pr_notnone, pr_isi, pr_isic, isa_tuple, isa_str, isa_int, isa_bool, isa_list, bl_some, tru_p, truP_bool, truP_int, truP_none, truP_tuple, truP_list, eqP_int, eqP_str, ltP_str, ltP_int, bind_nm, bind_tp, bind_tpl, setAll_nil, setAll_cons, List.getElem?_cons_zero, List.getElem?_cons_succ, List.set_cons_zero, List.set_cons_succ, Option.map_some, Option.map_none, List.map_cons, List.map_nil, Bool.not_true, Bool.not_false, pm_index, pm_count, pm_join, pm_split, pm_replace, pm_upper, rv_index, rv_count, rv_join, rv_split, rv_upper, rv_replace, rv_indexL, rv_countL, Bool.false_eq_true, ↓reduceIte, ev_callv, evS_setIx, evS_swap, evS_retN, evS_pass, addP_int, e0, h1, decide_false, biP_len_str, if_pos hd, e2, h2, decide_true]
    · cases h3 : (dgs (cs x)).all dig with
      | false =>
        rw [parse_none (by rw [h3]; simp)]
        simp only [d__law_integer] <;> rw [evB_cons, asg_digits hb] <;> simp only [evB_cons, evB_nil, evS_asg, evS_par, evS_expr, evS_ret, evS_ifs, evS_raise, ev_var, ev_lit, ev_gcon, ev_gfn, ev_op, ev_and, ev_or, ev_not, ev_ite, ev_call, ev_chain, ev_meth, evL_nil, evL_cons, pr_add, pr_sub, pr_mul, pr_fdiv, pr_mod, pr_pow, pr_neg, pr_eq, pr_ne, pr_lt, pr_gt, pr_le, pr_ge, pr_isin, pr_notin, pr_ix, pr_sl00, pr_sl10, pr_sl01, pr_sl11, pr_bi, pr_bi2, pr_isnone, pr_notnone, pr_isi, pr_isic, isa_tuple, isa_str, isa_int, isa_bool, isa_list, bl_some, tru_p, truP_bool, truP_int, truP_none, truP_tuple, truP_list, eqP_int, eqP_str, ltP_str, ltP_int, bind_nm, bind_tp, bind_tpl, setAll_nil, setAll_cons, List.getElem?_cons_zero, List.getElem?_cons_succ, List.set_cons_zero, List.set_cons_succ, Option.map_some, Option.map_none, List.map_cons, List.map_nil, Bool.not_true, Bool.not_false, pm_index, pm_count, pm_join, pm_split, pm_replace, pm_upper, rv_index, rv_count, rv_join, rv_split, rv_upper, rv_replace, rv_indexL, rv_countL, Bool.false_eq_true, ↓reduceIte, ev_callv, evS_setIx, evS_swap, evS_retN, evS_pass, addP_int, e0, h1, decide_false, biP_len_str, if_pos hd, e2, h2, comp_nodigits hd, e3, h3, emp]
      | true =>
        have hda := all_dig.mp h3
        have e4 : ixP (.str (dtx x)) (.int 0) = some (.str ⟨#[(dgs (cs x)).headD 0]⟩) := by
          show (if (dtx x).length ≤ big then (atI (dtx x).cps.toList 0).map fun c => PyData.str ⟨#[c]⟩ else none) = _
          rw [if_pos hd]
          have : (dtx x).cps.toList = dgs (cs x) := cs_dtx x
          rw [this]
          cases q : dgs (cs x) with
          | nil => rw [q] at h1; exact absurd rfl h1
          | cons a b =>
            have : atI (a :: b) 0 = some a := by
              unfold atI ixN
              simp
            rw [this]
            rfl
        have e5 : ((⟨#[(dgs (cs x)).headD 0]⟩ : Str) == ⟨#[48]⟩) = decide ((dgs (cs x)).head? = some 48) := by
          rw [str_eqv, decide_eq_decide]
          cases q : dgs (cs x) with
          | nil => rw [q] at h1; exact absurd rfl h1
          | cons a b =>
            show [a] = [48] ↔ some a = some 48
            simp
        have e6 : (x == (⟨#[48]⟩ : Str)) = decide (cs x = [48]) := str_eqv x _
        obtain ⟨y, hloop⟩ := loop_digits (k := k) (x := x) hda (cs_dtx x) none
        have hp : parseInt x = if (dgs (cs x)).head? = some 48 ∧ cs x ≠ [48] then .none else .int (if neg (cs x) then -((digitsVal (dgs (cs x)) : Nat) : Int) else ((digitsVal (dgs (cs x)) : Nat) : Int)) := by
          unfold parseInt
          rw [if_pos ⟨by omega, by omega, h3⟩]
        rw [hp]
        have e7 : slP (.str x) none (some 1) = some (.str (cutS x none (some 1))) := if_pos hb
        have e8 : mulP (.int ((digitsVal (dgs (cs x)) : Nat) : Int)) (.int 1) = some (.int ((digitsVal (dgs (cs x)) : Nat) : Int)) := by
          show (if _ ∨ (1 : Int).natAbs < 2 ^ 64 then some (PyData.int (_ * 1)) else none) = _
          rw [if_pos (Or.inr (by decide)), Int.mul_one]
        have e9 : mulP (.int ((digitsVal (dgs (cs x)) : Nat) : Int)) (.int (-1)) = some (.int (-((digitsVal (dgs (cs x)) : Nat) : Int))) := by
          show (if _ ∨ (-1 : Int).natAbs < 2 ^ 64 then some (PyData.int (_ * (-1))) else none) = _
          rw [if_pos (Or.inr (by decide)), Int.mul_neg_one]
        have two : prim C .lst [.p (.int 1), .p (.int (-1))] [] = some (.p (.list [.int 1, .int (-1)]), []) := rfl
        have bt : biP .int [.bool true] = some (.int 1) := rfl
        have bf : biP .int [.bool false] = some (.int 0) := rfl
        have i0 : ixP (.list [.int 1, .int (-1)]) (.int 0) = some (.int 1) := rfl
        have i1 : ixP (.list [.int 1, .int (-1)]) (.int 1) = some (.int (-1)) := rfl
        have fin : ∀ env1 : Slots, (env1 = [some (.p (.str x)), some (.p (.str (dtx x))), none, none]) → (¬ ((dgs (cs x)).head? = some 48 ∧ cs x ≠ [48])) → True := fun _ _ _ => trivial
        by_cases h4 : (dgs (cs x)).head? = some 48
        · by_cases h5 : cs x = [48]
          · rw [if_neg (fun z => z.2 h5)]
            have e6 : (x == (⟨#[48]⟩ : Str)) = true := by rw [str_eqv]; exact decide_eq_true h5
            cases hn : neg (cs x) <;> simp only [d__law_integer] <;> rw [evB_cons, asg_digits hb] <;> simp only [evB_cons, evB_nil, evS_asg, evS_par, evS_expr, evS_ret, evS_ifs, evS_raise, ev_var, ev_lit, ev_gcon, ev_gfn, ev_op, ev_and, ev_or, ev_not, ev_ite, ev_call, ev_chain, ev_meth, evL_nil, evL_cons, pr_add, pr_sub, pr_mul, pr_fdiv, pr_mod, pr_pow, pr_neg, pr_eq, pr_ne, pr_lt, pr_gt, pr_le, pr_ge, pr_isin, pr_notin, pr_ix, pr_sl00, pr_sl10, pr_sl01, pr_sl11, pr_bi, pr_bi2, pr_isnone, pr_notnone, pr_isi, pr_isic, isa_tuple, isa_str, isa_int, isa_bool, isa_list, bl_some, tru_p, truP_bool, truP_int, truP_none, truP_tuple, truP_list, eqP_int, eqP_str, ltP_str, ltP_int, bind_nm, bind_tp, bind_tpl, setAll_nil, setAll_cons, List.getElem?_cons_zero, List.getElem?_cons_succ, List.set_cons_zero, List.set_cons_succ, Option.map_some, Option.map_none, List.map_cons, List.map_nil, Bool.not_true, Bool.not_false, pm_index, pm_count, pm_join, pm_split, pm_replace, pm_upper, rv_index, rv_count, rv_join, rv_split, rv_upper, rv_replace, rv_indexL, rv_countL, Bool.false_eq_true, ↓reduceIte, ev_callv, evS_setIx, evS_swap, evS_retN, evS_pass, addP_int, e0, h1, decide_false, biP_len_str, if_pos hd, e2, h2, comp_nodigits hd, e3, h3, emp, e4, e5, h4, decide_true, e6, hloop, e7, minus_eq, hn, bt, bf, two, i0, i1, e8, e9] <;> rfl
          · rw [if_pos ⟨h4, h5⟩]
            simp only [d__law_integer] <;> rw [evB_cons, asg_digits hb] <;> simp only [evB_cons, evB_nil, evS_asg, evS_par, evS_expr, evS_ret, evS_ifs, evS_raise, ev_var, ev_lit, ev_gcon, ev_gfn, ev_op, ev_and, ev_or, ev_not, ev_ite, ev_call, ev_chain, ev_meth, evL_nil, evL_cons, pr_add, pr_sub, pr_mul, pr_fdiv, pr_mod, pr_pow, pr_neg, pr_eq, pr_ne, pr_lt, pr_gt, pr_le, pr_ge, pr_isin, pr_notin, pr_ix, pr_sl00, pr_sl10, pr_sl01, pr_sl11, pr_bi, pr_bi2, pr_isnone, pr_notnone, pr_isi, pr_isic, isa_tuple, isa_str, isa_int, isa_bool, isa_list, bl_some, tru_p, truP_bool, truP_int, truP_none, truP_tuple, truP_list, eqP_int, eqP_str, ltP_str, ltP_int, bind_nm, bind_tp, bind_tpl, setAll_nil, setAll_cons, List.getElem?_cons_zero, List.getElem?_cons_succ, List.set_cons_zero, List.set_cons_succ, Option.map_some, Option.map_none, List.map_cons, List.map_nil, Bool.not_true, Bool.not_false, pm_index, pm_count, pm_join, pm_split, pm_replace, pm_upper, rv_index, rv_count, rv_join, rv_split, rv_upper, rv_replace, rv_indexL, rv_countL, Bool.false_eq_true, ↓reduceIte, ev_callv, evS_setIx, evS_swap, evS_retN, evS_pass, addP_int, e0, h1, decide_false, biP_len_str, if_pos hd, e2, h2, comp_nodigits hd, e3, h3, emp, e4, e5, h4, decide_true, e6, h5]
        · rw [if_neg (fun z => h4 z.1)]
          cases hn : neg (cs x) <;> simp only [d__law_integer] <;> rw [evB_cons, asg_digits hb] <;> simp only [evB_cons, evB_nil, evS_asg, evS_par, evS_expr, evS_ret, evS_ifs, evS_raise, ev_var, ev_lit, ev_gcon, ev_gfn, ev_op, ev_and, ev_or, ev_not, ev_ite, ev_call, ev_chain, ev_meth, evL_nil, evL_cons, pr_add, pr_sub, pr_mul, pr_fdiv, pr_mod, pr_pow, pr_neg, pr_eq, pr_ne, pr_lt, pr_gt, pr_le, pr_ge, pr_isin, pr_notin, pr_ix, pr_sl00, pr_sl10, pr_sl01, pr_sl11, pr_bi, pr_bi2, pr_isnone, pr_notnone, pr_isi, pr_isic, isa_tuple, isa_str, isa_int, isa_bool, isa_list, bl_some, tru_p, truP_bool, truP_int, truP_none, truP_tuple, truP_list, eqP_int, eqP_str, ltP_str, ltP_int, bind_nm, bind_tp, bind_tpl, setAll_nil, setAll_cons, List.getElem?_cons_zero, List.getElem?_cons_succ, List.set_cons_zero, List.set_cons_succ, Option.map_some, Option.map_none, List.map_cons, List.map_nil, Bool.not_true, Bool.not_false, pm_index, pm_count, pm_join, pm_split, pm_replace, pm_upper, rv_index, rv_count, rv_join, rv_split, rv_upper, rv_replace, rv_indexL, rv_countL, Bool.false_eq_true, ↓reduceIte, ev_callv, evS_setIx, evS_swap, evS_retN, evS_pass, addP_int, e0, h1, decide_false, biP_len_str, if_pos hd, e2, h2, comp_nodigits hd, e3, h3, emp, e4, e5, h4, decide_true, hloop, e7, minus_eq, hn, bt, bf, two, i0, i1, e8, e9] <;> rfl
end Mi

/-! Mw: rows and rowsets, their texts. -/
namespace Mw
open PySem Ev Mb I Mr Mi NumText L2
variable {S : Store} {k : Nat}
structure Row where
  n : Str
  c : Int
  vs : List Int
  e : Int
def Row.d (r : Row) : PyData := .tuple [.str r.n, .int r.c, .tuple (r.vs.map .int), .int r.e]
structure Row.Ok (r : Row) : Prop where
  n1 : 1 ≤ r.n.length
  n2 : r.n.length ≤ 8
  n3 : ∀ c ∈ cs r.n, c ∈ cs sLetters
  c1 : 1 ≤ r.c
  c2 : r.c ≤ 1000000
  v1 : 1 ≤ r.vs.length
  v2 : r.vs.length ≤ 4
  v3 : ∀ v ∈ r.vs, -1000000000 ≤ v ∧ v ≤ 1000000000
  e1 : 1 ≤ r.e
  e2 : r.e ≤ 1000000000
theorem between_inv {d : PyData} {lo hi : Int} (h : isBetween d lo hi = true) : ∃ i, d = .int i ∧ lo ≤ i ∧ i ≤ hi := by
  cases d with
  | int i =>
    have h' : (decide (lo ≤ i) && decide (i ≤ hi)) = true := h
    simp only [Bool.and_eq_true, decide_eq_true_eq] at h'
    exact ⟨i, rfl, h'.1, h'.2⟩
  | _ => cases h
theorem ints_of {lo hi : Int} : ∀ {ds : List PyData}, (∀ d ∈ ds, isBetween d lo hi = true) → ∃ vs : List Int, ds = vs.map .int ∧ ∀ v ∈ vs, lo ≤ v ∧ v ≤ hi
  | [], _ => ⟨[], rfl, by simp⟩
  | d :: ds, h => by
    obtain ⟨i, rfl, h1, h2⟩ := between_inv (h d List.mem_cons_self)
    obtain ⟨vs, rfl, h3⟩ := ints_of fun u hu => h u (List.mem_cons_of_mem _ hu)
    exact ⟨i :: vs, rfl, fun v hv => by
      rcases List.mem_cons.mp hv with rfl | hv
      · exact ⟨h1, h2⟩
      · exact h3 v hv⟩
theorem of_row {d : PyData} (h : isRow d = true) : ∃ r : Row, d = r.d ∧ r.Ok := by
  unfold isRow at h
  split at h
  · rename_i n c vs e
    simp only [Bool.and_eq_true] at h
    obtain ⟨⟨⟨h1, h2⟩, h3⟩, h4⟩ := h
    obtain ⟨c, rfl, c1, c2⟩ := between_inv h2
    obtain ⟨e, rfl, e1, e2⟩ := between_inv h4
    unfold isName at h1
    split at h1
    · rename_i x
      simp only [Bool.and_eq_true, decide_eq_true_eq, List.all_eq_true] at h1
      unfold areValues at h3
      split at h3
      · rename_i ds
        simp only [Bool.and_eq_true, decide_eq_true_eq, List.all_eq_true] at h3
        obtain ⟨vs, rfl, hv⟩ := ints_of h3.2
        exact ⟨⟨x, c, vs, e⟩, rfl, ⟨h1.1.1, h1.1.2, h1.2, c1, c2, by simpa using h3.1.1, by simpa using h3.1.2, hv, e1, e2⟩⟩
      · cases h3
    · cases h1
  · cases h
theorem between_ok {i lo hi : Int} (h1 : lo ≤ i) (h2 : i ≤ hi) : isBetween (.int i) lo hi = true := by
  show (decide (lo ≤ i) && decide (i ≤ hi)) = true
  simp [h1, h2]
theorem Row.Ok.is {r : Row} (h : r.Ok) : isRow r.d = true := by
  show (isName (.str r.n) && isBetween (.int r.c) 1 1000000 && areValues (.tuple (r.vs.map .int)) && isBetween (.int r.e) 1 1000000000) = true
  rw [between_ok h.c1 h.c2, between_ok h.e1 h.e2]
  have e1 : isName (.str r.n) = true := by
    show (decide (1 ≤ r.n.length) && decide (r.n.length ≤ 8) && r.n.cps.toList.all fun c => decide (c ∈ sLetters.cps.toList)) = true
    simp only [h.n1, h.n2, decide_true, Bool.true_and, List.all_eq_true, decide_eq_true_eq]
    exact h.n3
  have e2 : areValues (.tuple (r.vs.map .int)) = true := by
    show (decide (1 ≤ (r.vs.map PyData.int).length) && decide ((r.vs.map PyData.int).length ≤ 4) && (r.vs.map PyData.int).all fun v => isBetween v (-1000000000) 1000000000) = true
    rw [List.length_map]
    simp only [h.v1, h.v2, decide_true, Bool.true_and, List.all_eq_true, List.mem_map, forall_exists_index, and_imp, forall_apply_eq_imp_iff₂]
    exact fun v hv => between_ok (h.v3 v hv).1 (h.v3 v hv).2
  rw [e1, e2]
  rfl
theorem rows_of : ∀ {ds : List PyData}, ds.all isRow = true → ∃ rs : List Row, ds = rs.map Row.d ∧ ∀ r ∈ rs, r.Ok
  | [], _ => ⟨[], rfl, by simp⟩
  | d :: ds, h => by
    rw [List.all_cons, Bool.and_eq_true] at h
    obtain ⟨r, rfl, hr⟩ := of_row h.1
    obtain ⟨rs, rfl, hs⟩ := rows_of h.2
    exact ⟨r :: rs, rfl, fun v hv => by
      rcases List.mem_cons.mp hv with rfl | hv
      · exact hr
      · exact hs v hv⟩
/-! ### lengths -/
theorem int_len {i : Int} {n : Nat} (hn : 0 < n) (h : i.natAbs < 10 ^ n) : (intStr i).length ≤ n + 1 := by
  rw [len_cs]
  by_cases h0 : 0 ≤ i
  · have : i = ((i.natAbs : Nat) : Int) := by omega
    rw [this, cs_nat]
    have := TL.numL_len hn h
    omega
  · have : i = -((i.natAbs : Nat) : Int) := by omega
    rw [this, cs_neg (by omega), List.length_cons]
    have := TL.numL_len hn h
    omega
theorem log_ok {i : Int} (h : i.natAbs < 10 ^ 10) : i.natAbs.log2 < 1920 := by
  by_cases z : i.natAbs = 0
  · rw [z]; decide
  · rw [Nat.log2_lt z]
    exact Nat.lt_of_lt_of_le h (by decide)
theorem pr_str_int {i : Int} (h : i.natAbs < 10 ^ 10) : biP .str [.int i] = some (.str (intStr i)) := if_pos (log_ok h)
/-! ### texts -/
abbrev sp : Str := ⟨#[32]⟩
abbrev comma : Str := ⟨#[44]⟩
abbrev semi : Str := ⟨#[32, 59, 32]⟩
abbrev dash : Str := ⟨#[45]⟩
def Row.vt (r : Row) : Str := Txt.join comma (r.vs.map intStr)
def Row.txt (r : Row) : Str := r.n ++ sp ++ intStr r.c ++ sp ++ r.vt ++ sp ++ intStr r.e
theorem sum_len {α : Type} (f : α → Nat) (b : Nat) : ∀ (xs : List α), (∀ x ∈ xs, f x ≤ b) → (xs.map f).sum ≤ xs.length * b
  | [], _ => by simp
  | x :: xs, h => by
    have h1 := h x List.mem_cons_self
    have h2 := sum_len f b xs fun y hy => h y (List.mem_cons_of_mem _ hy)
    rw [List.map_cons, List.sum_cons, List.length_cons, Nat.succ_mul]
    omega
theorem join_len (s : Str) (xs : List Str) (b : Nat) (h : ∀ x ∈ xs, x.length ≤ b) : (Txt.join s xs).length ≤ xs.length * (b + s.length) := by
  have e : Txt.join s xs = Str.join s xs := StrLaws.glued_eq_join s xs
  rw [e]
  have h1 := StrLaws.join_length_le s xs
  have h2 := sum_len (fun x : Str => x.length) b xs h
  rw [Nat.mul_add]
  omega
theorem Row.Ok.vi {r : Row} (h : r.Ok) {v : Int} (hv : v ∈ r.vs) : v.natAbs < 10 ^ 10 := by
  have := h.v3 v hv
  omega
theorem Row.Ok.ci {r : Row} (h : r.Ok) : r.c.natAbs < 10 ^ 10 := by
  have := h.c1; have := h.c2
  omega
theorem Row.Ok.ei {r : Row} (h : r.Ok) : r.e.natAbs < 10 ^ 10 := by
  have := h.e1; have := h.e2
  omega
theorem Row.Ok.vtlen {r : Row} (h : r.Ok) : r.vt.length ≤ 48 := by
  have := join_len comma (r.vs.map intStr) 11 (fun x hx => by
    obtain ⟨v, hv, rfl⟩ := List.mem_map.mp hx
    exact int_len (n := 10) (by decide) (h.vi hv))
  rw [List.length_map] at this
  have h2 := h.v2
  have : r.vs.length * (11 + comma.length) ≤ 4 * 12 := Nat.mul_le_mul h2 (by decide)
  unfold Row.vt
  omega
theorem Row.Ok.tlen {r : Row} (h : r.Ok) : r.txt.length ≤ 81 := by
  unfold Row.txt
  simp only [Str.length_append]
  have := h.vtlen
  have := h.n2
  have h1 := int_len (i := r.c) (n := 10) (by decide) h.ci
  have h2 := int_len (i := r.e) (n := 10) (by decide) h.ei
  have : sp.length = 1 := rfl
  omega
theorem Row.Ok.tpos {r : Row} (h : r.Ok) : 1 ≤ r.txt.length := by
  unfold Row.txt
  simp only [Str.length_append]
  have := h.n1
  omega
theorem join_strs {s : Str} {xs : List Str} (h : (xs.map (·.length)).sum + xs.length * s.length ≤ big) : meP .join [.str s, .list (xs.map .str)] = some (.str (Txt.join s xs)) := by
  simp only [meP, strs_map]
  exact if_pos h
theorem vals_ok {r : Row} (h : r.Ok) : ((r.vs.map intStr).map (·.length)).sum + (r.vs.map intStr).length * comma.length ≤ big := by
  have := sum_len (fun x : Str => x.length) 11 (r.vs.map intStr) (fun x hx => by
    obtain ⟨v, hv, rfl⟩ := List.mem_map.mp hx
    exact int_len (n := 10) (by decide) (h.vi hv))
  rw [List.length_map] at *
  have h2 := h.v2
  have e : comma.length = 1 := rfl
  rw [e]
  unfold big
  omega
theorem comp_write {r : Row} (h : r.Ok) {e0 e1 e2 e4 e5 : Option Val} : ev C (callN C k) c_write_row_0 [e0, e1, e2, some (.p (.tuple (r.vs.map .int))), e4, e5] [] = .ok (.p (.list (r.vs.map fun v => .str (intStr v)))) [] := by
  refine ev_comp (vs := [.p (.tuple (r.vs.map .int))]) (fun (v : Int) => .p (.int v)) (fun v => .str (intStr v)) r.vs rfl ?_ ?_ fun v hv => ⟨_, rfl, ?_⟩
  · show some ((r.vs.map PyData.int).map Val.p, none) = _
    rw [List.map_map]
    rfl
  · have := h.v2
    unfold big
    omega
  · simp only [evB_cons, evB_nil, evS_asg, evS_par, evS_expr, evS_ret, evS_ifs, evS_raise, ev_var, ev_lit, ev_gcon, ev_gfn, ev_op, ev_and, ev_or, ev_not, ev_ite, ev_call, ev_chain, ev_meth, evL_nil, evL_cons, pr_add, pr_sub, pr_mul, pr_fdiv, pr_mod, pr_pow, pr_neg, pr_eq, pr_ne, pr_lt, pr_gt, pr_le, pr_ge, pr_isin, pr_notin, pr_ix, pr_sl00, pr_sl10, pr_sl01, pr_sl11, pr_bi, pr_bi2, pr_isnone, pr_notnone, pr_isi, pr_isic, isa_tuple, isa_str, isa_int, isa_bool, isa_list, bl_some, tru_p, truP_bool, truP_int, truP_none, truP_tuple, truP_list, eqP_int, eqP_str, ltP_str, ltP_int, bind_nm, bind_tp, bind_tpl, setAll_nil, setAll_cons, List.getElem?_cons_zero, List.getElem?_cons_succ, List.set_cons_zero, List.set_cons_succ, Option.map_some, Option.map_none, List.map_cons, List.map_nil, Bool.not_true, Bool.not_false, pm_index, pm_count, pm_join, pm_split, pm_replace, pm_upper, rv_index, rv_count, rv_join, rv_split, rv_upper, rv_replace, rv_indexL, rv_countL, Bool.false_eq_true, ↓reduceIte, ev_callv, evS_setIx, evS_swap, evS_retN, evS_pass, addP_int, wipeE, pr_str_int (h.vi hv)]
theorem fmt_str {y : Str} (b : Bool) (h : y.length ≤ big) : fmtP b (.p (.str y)) = some y := if_pos h
theorem fmt_int {i : Int} (h : i.natAbs < 10 ^ 10) : fmtP true (.p (.int i)) = some (intStr i) := if_pos ⟨rfl, log_ok h⟩
theorem evF_nil {F : Nat → List Val → Store → Res} {env : Slots} {acc : Str} : evF C F [] [] env S acc = .ok (.p (.str acc)) S := by rw [evF] <;> rfl
theorem evF_cons {F : Nat → List Val → Store → Res} {e : E} {es : List E} {b : Bool} {bs : List Bool} {env : Slots} {acc : Str} : evF C F (e :: es) (b :: bs) env S acc = (match ev C F e env S with
    | .ok v S1 => match fmtP b v with
      | some y => if (acc ++ y).length ≤ big then evF C F es bs env S1 (acc ++ y) else .bad
      | none => .bad
    | r => r) := by rw [evF] <;> rfl
theorem ev_fstr {F : Nat → List Val → Store → Res} {fs : List Bool} {es : List E} {env : Slots} : ev C F (.fstr fs es) env S = evF C F es fs env S Str.empty := by rw [ev]
theorem write_row {r : Row} (h : r.Ok) : callN C (k + 1) f_write_row [.p r.d] S = .ok (.p (.str r.txt)) S := by
  refine call_rt (S1 := []) [some (.p r.d), none, none, none, none, none] g_write_row ?_
  have hj : meP .join [.str comma, .list (r.vs.map fun v => .str (intStr v))] = some (.str r.vt) := by
    have := join_strs (vals_ok h)
    rw [List.map_map] at this
    exact this
  have l0 : r.n.length ≤ big := Nat.le_trans h.n2 (by decide)
  have l1 : r.vt.length ≤ big := Nat.le_trans h.vtlen (by decide)
  have hl := h.tlen
  have key : ∀ y : Str, y.length ≤ 81 → y.length ≤ big := fun y hy => Nat.le_trans hy (by decide)
  have t := hl
  unfold Row.txt at t
  simp only [Str.length_append] at t
  have a1 : (r.n).length ≤ big := l0
  have a2 : (r.n ++ sp).length ≤ big := key _ (by simp only [Str.length_append]; omega)
  have a3 : (r.n ++ sp ++ intStr r.c).length ≤ big := key _ (by simp only [Str.length_append]; omega)
  have a4 : (r.n ++ sp ++ intStr r.c ++ sp).length ≤ big := key _ (by simp only [Str.length_append]; omega)
  have a5 : (r.n ++ sp ++ intStr r.c ++ sp ++ r.vt).length ≤ big := key _ (by simp only [Str.length_append]; omega)
  have a6 : (r.n ++ sp ++ intStr r.c ++ sp ++ r.vt ++ sp).length ≤ big := key _ (by simp only [Str.length_append]; omega)
  have a7 : (r.n ++ sp ++ intStr r.c ++ sp ++ r.vt ++ sp ++ intStr r.e).length ≤ big := key _ hl
  have hsp : fmtP false (.p (.str sp)) = some sp := fmt_str false (by decide)
  simp only [d_write_row, Row.d, evB_cons, evB_nil, evS_asg, evS_par, evS_expr, evS_ret, evS_ifs, evS_raise, ev_var, ev_lit, ev_gcon, ev_gfn, ev_op, ev_and, ev_or, ev_not, ev_ite, ev_call, ev_chain, ev_meth, evL_nil, evL_cons, pr_add, pr_sub, pr_mul, pr_fdiv, pr_mod, pr_pow, pr_neg, pr_eq, pr_ne, pr_lt, pr_gt, pr_le, pr_ge, pr_isin, pr_notin, pr_ix, pr_sl00, pr_sl10, pr_sl01, pr_sl11, pr_bi, pr_bi2, pr_isnone, pr_notnone, pr_isi, pr_isic, isa_tuple, isa_str, isa_int, isa_bool, isa_list, bl_some, tru_p, truP_bool, truP_int, truP_none, truP_tuple, truP_list, eqP_int, eqP_str, ltP_str, ltP_int, bind_nm, bind_tp, bind_tpl, setAll_nil, setAll_cons, List.getElem?_cons_zero, List.getElem?_cons_succ, List.set_cons_zero, List.set_cons_succ, Option.map_some, Option.map_none, List.map_cons, List.map_nil, Bool.not_true, Bool.not_false, pm_index, pm_count, pm_join, pm_split, pm_replace, pm_upper, rv_index, rv_count, rv_join, rv_split, rv_upper, rv_replace, rv_indexL, rv_countL, Bool.false_eq_true, ↓reduceIte, ev_callv, evS_setIx, evS_swap, evS_retN, evS_pass, addP_int, ev_fstr, evF_cons, evF_nil, comp_write h, hj, fmt_str true l0, fmt_str true l1, hsp, fmt_int h.ci, fmt_int h.ei, PySem.Str.empty_append, if_pos a1, if_pos a2, if_pos a3, if_pos a4, if_pos a5, if_pos a6, if_pos a7]
  rfl
end Mw

/-! Mx: rowsets; the law's texts; reading. -/
namespace Mx
open PySem Ev Mb I Mr Mi Mw NumText L2
variable {S : Store} {k : Nat}
theorem comp_ltext {r : Row} (h : r.Ok) {e0 : Option Val} : ev C (callN C k) c__law_row_text_0 [some (.p r.d), e0] [] = .ok (.p (.list (r.vs.map fun v => .str (intStr v)))) [] := by
  refine ev_comp (vs := [.p (.tuple (r.vs.map .int))]) (fun (v : Int) => .p (.int v)) (fun v => .str (intStr v)) r.vs rfl ?_ ?_ fun v hv => ⟨_, rfl, ?_⟩
  · show some ((r.vs.map PyData.int).map Val.p, none) = _
    rw [List.map_map]
    rfl
  · have := h.v2
    unfold big
    omega
  · simp only [evB_cons, evB_nil, evS_asg, evS_par, evS_expr, evS_ret, evS_ifs, evS_raise, ev_var, ev_lit, ev_gcon, ev_gfn, ev_op, ev_and, ev_or, ev_not, ev_ite, ev_call, ev_chain, ev_meth, evL_nil, evL_cons, pr_add, pr_sub, pr_mul, pr_fdiv, pr_mod, pr_pow, pr_neg, pr_eq, pr_ne, pr_lt, pr_gt, pr_le, pr_ge, pr_isin, pr_notin, pr_ix, pr_sl00, pr_sl10, pr_sl01, pr_sl11, pr_bi, pr_bi2, pr_isnone, pr_notnone, pr_isi, pr_isic, isa_tuple, isa_str, isa_int, isa_bool, isa_list, bl_some, tru_p, truP_bool, truP_int, truP_none, truP_tuple, truP_list, eqP_int, eqP_str, ltP_str, ltP_int, bind_nm, bind_tp, bind_tpl, setAll_nil, setAll_cons, List.getElem?_cons_zero, List.getElem?_cons_succ, List.set_cons_zero, List.set_cons_succ, Option.map_some, Option.map_none, List.map_cons, List.map_nil, Bool.not_true, Bool.not_false, pm_index, pm_count, pm_join, pm_split, pm_replace, pm_upper, rv_index, rv_count, rv_join, rv_split, rv_upper, rv_replace, rv_indexL, rv_countL, Bool.false_eq_true, ↓reduceIte, ev_callv, evS_setIx, evS_swap, evS_retN, evS_pass, addP_int, wipeE, pr_str_int (h.vi hv)]
theorem txt_join (r : Row) : Txt.join sp [r.n, intStr r.c, r.vt, intStr r.e] = r.txt := rfl
theorem law_row_text {r : Row} (h : r.Ok) : callN C (k + 1) f__law_row_text [.p r.d] S = .ok (.p (.str r.txt)) S := by
  refine call_rt (S1 := []) [some (.p r.d), none] g__law_row_text ?_
  have hj : meP .join [.str comma, .list (r.vs.map fun v => .str (intStr v))] = some (.str r.vt) := by
    have := join_strs (vals_ok h)
    rw [List.map_map] at this
    exact this
  have i0 : ixP r.d (.int 0) = some (.str r.n) := rfl
  have i1 : ixP r.d (.int 1) = some (.int r.c) := rfl
  have i3 : ixP r.d (.int 3) = some (.int r.e) := rfl
  have hl : prim C .lst [.p (.str r.n), .p (.str (intStr r.c)), .p (.str r.vt), .p (.str (intStr r.e))] [] = some (.p (.list [.str r.n, .str (intStr r.c), .str r.vt, .str (intStr r.e)]), []) := rfl
  have hj2 : meP .join [.str sp, .list [.str r.n, .str (intStr r.c), .str r.vt, .str (intStr r.e)]] = some (.str r.txt) := by
    have := join_strs (s := sp) (xs := [r.n, intStr r.c, r.vt, intStr r.e]) (by
      have t := h.tlen
      unfold Row.txt at t
      simp only [Str.length_append] at t
      simp only [List.map_cons, List.map_nil, List.sum_cons, List.sum_nil, List.length_cons, List.length_nil]
      have e : sp.length = 1 := rfl
      rw [e]
      unfold big
      omega)
    rw [txt_join] at this
    exact this
  simp only [d__law_row_text, evB_cons, evB_nil, evS_asg, evS_par, evS_expr, evS_ret, evS_ifs, evS_raise, ev_var, ev_lit, ev_gcon, ev_gfn, ev_op, ev_and, ev_or, ev_not, ev_ite, ev_call, ev_chain, ev_meth, evL_nil, evL_cons, pr_add, pr_sub, pr_mul, pr_fdiv, pr_mod, pr_pow, pr_neg, pr_eq, pr_ne, pr_lt, pr_gt, pr_le, pr_ge, pr_isin, pr_notin, pr_ix, pr_sl00, pr_sl10, pr_sl01, pr_sl11, pr_bi, pr_bi2, pr_isnone, pr_notnone, pr_isi, pr_isic, isa_tuple, isa_str, isa_int, isa_bool, isa_list, bl_some, tru_p, truP_bool, truP_int, truP_none, truP_tuple, truP_list, eqP_int, eqP_str, ltP_str, ltP_int, bind_nm, bind_tp, bind_tpl, setAll_nil, setAll_cons, List.getElem?_cons_zero, List.getElem?_cons_succ, List.set_cons_zero, List.set_cons_succ, Option.map_some, Option.map_none, List.map_cons, List.map_nil, Bool.not_true, Bool.not_false, pm_index, pm_count, pm_join, pm_split, pm_replace, pm_upper, rv_index, rv_count, rv_join, rv_split, rv_upper, rv_replace, rv_indexL, rv_countL, Bool.false_eq_true, ↓reduceIte, ev_callv, evS_setIx, evS_swap, evS_retN, evS_pass, addP_int, comp_ltext h, hj, i0, i1, i3, pr_str_int h.ci, pr_str_int h.ei, hl, hj2]
/-! ### rowsets -/
def rsd (rs : List Row) : PyData := .tuple (rs.map Row.d)
def rstxt (rs : List Row) : Str := if rs.isEmpty then dash else Txt.join semi (rs.map Row.txt)
theorem sized_row (r : Row) (h : r.Ok) : sizedRow r.d := Nat.le_trans h.n2 (by decide)
theorem comp_wrs {rs : List Row} (h : ∀ r ∈ rs, r.Ok) (hl : rs.length ≤ 4000) : ev C (callN C (k + 1)) c_write_rowset_0 [some (.p (rsd rs)), none] [] = .ok (.p (.list ((rs.map Row.txt).map .str))) [] := by
  rw [List.map_map]
  refine ev_comp (vs := [.p (rsd rs)]) (fun (r : Row) => .p r.d) (fun r => .str r.txt) rs rfl ?_ (Nat.le_trans hl (by decide)) fun r hr => ⟨_, rfl, ?_⟩
  · show some ((rs.map Row.d).map Val.p, none) = _
    rw [List.map_map]
    rfl
  · simp only [evB_cons, evB_nil, evS_asg, evS_par, evS_expr, evS_ret, evS_ifs, evS_raise, ev_var, ev_lit, ev_gcon, ev_gfn, ev_op, ev_and, ev_or, ev_not, ev_ite, ev_call, ev_chain, ev_meth, evL_nil, evL_cons, pr_add, pr_sub, pr_mul, pr_fdiv, pr_mod, pr_pow, pr_neg, pr_eq, pr_ne, pr_lt, pr_gt, pr_le, pr_ge, pr_isin, pr_notin, pr_ix, pr_sl00, pr_sl10, pr_sl01, pr_sl11, pr_bi, pr_bi2, pr_isnone, pr_notnone, pr_isi, pr_isic, isa_tuple, isa_str, isa_int, isa_bool, isa_list, bl_some, tru_p, truP_bool, truP_int, truP_none, truP_tuple, truP_list, eqP_int, eqP_str, ltP_str, ltP_int, bind_nm, bind_tp, bind_tpl, setAll_nil, setAll_cons, List.getElem?_cons_zero, List.getElem?_cons_succ, List.set_cons_zero, List.set_cons_succ, Option.map_some, Option.map_none, List.map_cons, List.map_nil, Bool.not_true, Bool.not_false, pm_index, pm_count, pm_join, pm_split, pm_replace, pm_upper, rv_index, rv_count, rv_join, rv_split, rv_upper, rv_replace, rv_indexL, rv_countL, Bool.false_eq_true, ↓reduceIte, ev_callv, evS_setIx, evS_swap, evS_retN, evS_pass, addP_int, wipeE, write_row (h r hr)]
theorem comp_lrs {rs : List Row} (h : ∀ r ∈ rs, r.Ok) (hl : rs.length ≤ 4000) : ev C (callN C (k + 1)) c__law_rowset_text_0 [some (.p (rsd rs)), none] [] = .ok (.p (.list ((rs.map Row.txt).map .str))) [] := by
  rw [List.map_map]
  refine ev_comp (vs := [.p (rsd rs)]) (fun (r : Row) => .p r.d) (fun r => .str r.txt) rs rfl ?_ (Nat.le_trans hl (by decide)) fun r hr => ⟨_, rfl, ?_⟩
  · show some ((rs.map Row.d).map Val.p, none) = _
    rw [List.map_map]
    rfl
  · simp only [evB_cons, evB_nil, evS_asg, evS_par, evS_expr, evS_ret, evS_ifs, evS_raise, ev_var, ev_lit, ev_gcon, ev_gfn, ev_op, ev_and, ev_or, ev_not, ev_ite, ev_call, ev_chain, ev_meth, evL_nil, evL_cons, pr_add, pr_sub, pr_mul, pr_fdiv, pr_mod, pr_pow, pr_neg, pr_eq, pr_ne, pr_lt, pr_gt, pr_le, pr_ge, pr_isin, pr_notin, pr_ix, pr_sl00, pr_sl10, pr_sl01, pr_sl11, pr_bi, pr_bi2, pr_isnone, pr_notnone, pr_isi, pr_isic, isa_tuple, isa_str, isa_int, isa_bool, isa_list, bl_some, tru_p, truP_bool, truP_int, truP_none, truP_tuple, truP_list, eqP_int, eqP_str, ltP_str, ltP_int, bind_nm, bind_tp, bind_tpl, setAll_nil, setAll_cons, List.getElem?_cons_zero, List.getElem?_cons_succ, List.set_cons_zero, List.set_cons_succ, Option.map_some, Option.map_none, List.map_cons, List.map_nil, Bool.not_true, Bool.not_false, pm_index, pm_count, pm_join, pm_split, pm_replace, pm_upper, rv_index, rv_count, rv_join, rv_split, rv_upper, rv_replace, rv_indexL, rv_countL, Bool.false_eq_true, ↓reduceIte, ev_callv, evS_setIx, evS_swap, evS_retN, evS_pass, addP_int, wipeE, law_row_text (h r hr)]
theorem txts_ok {rs : List Row} (h : ∀ r ∈ rs, r.Ok) (hl : rs.length ≤ 4000) : ((rs.map Row.txt).map (·.length)).sum + (rs.map Row.txt).length * semi.length ≤ big := by
  have := sum_len (fun x : Str => x.length) 81 (rs.map Row.txt) (fun x hx => by
    obtain ⟨r, hr, rfl⟩ := List.mem_map.mp hx
    exact (h r hr).tlen)
  rw [List.length_map] at *
  have e : semi.length = 3 := rfl
  rw [e]
  unfold big
  omega
theorem join_pos {rs : List Row} (h : ∀ r ∈ rs, r.Ok) (hn : rs ≠ []) : 1 ≤ (Txt.join semi (rs.map Row.txt)).length := by
  have e : Txt.join semi (rs.map Row.txt) = Str.join semi (rs.map Row.txt) := StrLaws.glued_eq_join _ _
  rw [e]
  match rs, hn with
  | [r], _ => exact (h r List.mem_cons_self).tpos
  | r :: q :: rs, _ =>
    show 1 ≤ (r.txt ++ semi ++ Str.join semi _).length
    rw [Str.length_append, Str.length_append]
    have := (h r List.mem_cons_self).tpos
    omega
theorem join_le {rs : List Row} (h : ∀ r ∈ rs, r.Ok) : (Txt.join semi (rs.map Row.txt)).length ≤ rs.length * 84 := by
  have := join_len semi (rs.map Row.txt) 81 (fun x hx => by
    obtain ⟨r, hr, rfl⟩ := List.mem_map.mp hx
    exact (h r hr).tlen)
  rw [List.length_map] at this
  exact this
theorem write_rowset {rs : List Row} (h : ∀ r ∈ rs, r.Ok) (hl : rs.length ≤ 4000) : callN C (k + 2) f_write_rowset [.p (rsd rs)] S = .ok (.p (.str (rstxt rs))) S := by
  refine call_rt (S1 := []) [some (.p (rsd rs)), none] g_write_rowset ?_
  have hj := join_strs (txts_ok h hl)
  have ht : truP (.str (Txt.join semi (rs.map Row.txt))) = some (!rs.isEmpty) := by
    have := join_le h
    show (if (Txt.join semi (rs.map Row.txt)).length ≤ big then some ((((Txt.join semi (rs.map Row.txt)).length : Nat) : Int) != 0) else none) = _
    rw [if_pos (by unfold big; omega)]
    cases rs with
    | nil => rfl
    | cons r rs =>
      have := join_pos h (by simp)
      have z : ((((Txt.join semi ((r :: rs).map Row.txt)).length : Nat) : Int) != 0) = true := by
        rw [bne_iff_ne]
        omega
      rw [z]
      rfl
  unfold rstxt
  cases hq : rs.isEmpty <;> simp only [d_write_rowset, evB_cons, evB_nil, evS_asg, evS_par, evS_expr, evS_ret, evS_ifs, evS_raise, ev_var, ev_lit, ev_gcon, ev_gfn, ev_op, ev_and, ev_or, ev_not, ev_ite, ev_call, ev_chain, ev_meth, evL_nil, evL_cons, pr_add, pr_sub, pr_mul, pr_fdiv, pr_mod, pr_pow, pr_neg, pr_eq, pr_ne, pr_lt, pr_gt, pr_le, pr_ge, pr_isin, pr_notin, pr_ix, pr_sl00, pr_sl10, pr_sl01, pr_sl11, pr_bi, pr_bi2, pr_isnone, pr_notnone, pr_isi, pr_isic, isa_tuple, isa_str, isa_int, isa_bool, isa_list, bl_some, tru_p, truP_bool, truP_int, truP_none, truP_tuple, truP_list, eqP_int, eqP_str, ltP_str, ltP_int, bind_nm, bind_tp, bind_tpl, setAll_nil, setAll_cons, List.getElem?_cons_zero, List.getElem?_cons_succ, List.set_cons_zero, List.set_cons_succ, Option.map_some, Option.map_none, List.map_cons, List.map_nil, Bool.not_true, Bool.not_false, pm_index, pm_count, pm_join, pm_split, pm_replace, pm_upper, rv_index, rv_count, rv_join, rv_split, rv_upper, rv_replace, rv_indexL, rv_countL, Bool.false_eq_true, ↓reduceIte, ev_callv, evS_setIx, evS_swap, evS_retN, evS_pass, addP_int, comp_wrs h hl, hj, ev_or, tru_p, ht, hq] <;> rfl
theorem law_rowset_text {rs : List Row} (h : ∀ r ∈ rs, r.Ok) (hl : rs.length ≤ 4000) : callN C (k + 2) f__law_rowset_text [.p (rsd rs)] S = .ok (.p (.str (rstxt rs))) S := by
  refine call_rt (S1 := []) [some (.p (rsd rs)), none] g__law_rowset_text ?_
  have hj := join_strs (txts_ok h hl)
  have hb : biP .len [rsd rs] = some (.int rs.length) := by
    show some (PyData.int ((rs.map Row.d).length : Nat)) = _
    rw [List.length_map]
  unfold rstxt
  have z : decide ((0 : Int) < ((rs.length : Nat) : Int)) = !rs.isEmpty := by
    cases rs with
    | nil => rfl
    | cons r rs =>
      rw [List.length_cons]
      show _ = true
      rw [decide_eq_true_eq]
      omega
  cases hq : rs.isEmpty <;> simp only [d__law_rowset_text, evB_cons, evB_nil, evS_asg, evS_par, evS_expr, evS_ret, evS_ifs, evS_raise, ev_var, ev_lit, ev_gcon, ev_gfn, ev_op, ev_and, ev_or, ev_not, ev_ite, ev_call, ev_chain, ev_meth, evL_nil, evL_cons, pr_add, pr_sub, pr_mul, pr_fdiv, pr_mod, pr_pow, pr_neg, pr_eq, pr_ne, pr_lt, pr_gt, pr_le, pr_ge, pr_isin, pr_notin, pr_ix, pr_sl00, pr_sl10, pr_sl01, pr_sl11, pr_bi, pr_bi2, pr_isnone, pr_notnone, pr_isi, pr_isic, isa_tuple, isa_str, isa_int, isa_bool, isa_list, bl_some, tru_p, truP_bool, truP_int, truP_none, truP_tuple, truP_list, eqP_int, eqP_str, ltP_str, ltP_int, bind_nm, bind_tp, bind_tpl, setAll_nil, setAll_cons, List.getElem?_cons_zero, List.getElem?_cons_succ, List.set_cons_zero, List.set_cons_succ, Option.map_some, Option.map_none, List.map_cons, List.map_nil, Bool.not_true, Bool.not_false, pm_index, pm_count, pm_join, pm_split, pm_replace, pm_upper, rv_index, rv_count, rv_join, rv_split, rv_upper, rv_replace, rv_indexL, rv_countL, Bool.false_eq_true, ↓reduceIte, ev_callv, evS_setIx, evS_swap, evS_retN, evS_pass, addP_int, hb, z, hq, comp_lrs h hl, hj] <;> rfl
/-! ### is_rowset -/
def keysW (rs : List Row) : List (Sum Int Str) := rs.map fun r => .inl (r.vs.length : Nat)
def oneWidth (rs : List Row) : Bool := decide (((((keysW rs).foldl kins []).length : Nat) : Int) < 2)
theorem one_width {rs : List Row} (h : ∀ r ∈ rs, r.Ok) (hl : rs.length ≤ 4000) : callN C (k + 1) f_have_one_width [.p (rsd rs)] S = .ok (.p (.bool (oneWidth rs))) S := by
  refine call_rt (S1 := []) [some (.p (rsd rs)), none] g_have_one_width ?_
  have hc : ev C (callN C k) c_have_one_width_0 [some (.p (rsd rs)), none] [] = .ok (.p (.int (((keysW rs).foldl kins []).length : Nat))) [] := by
    refine ev_scomp (vs := [.p (rsd rs)]) (fun (r : Row) => .p r.d) (fun r => .int (r.vs.length : Nat)) (keysW rs) rs rfl ?_ hl (fun r hr => ⟨_, rfl, ?_⟩) ?_
    · show some ((rs.map Row.d).map Val.p, none) = _
      rw [List.map_map]
      rfl
    · have i2 : ixP r.d (.int 2) = some (.tuple (r.vs.map .int)) := rfl
      simp only [evB_cons, evB_nil, evS_asg, evS_par, evS_expr, evS_ret, evS_ifs, evS_raise, ev_var, ev_lit, ev_gcon, ev_gfn, ev_op, ev_and, ev_or, ev_not, ev_ite, ev_call, ev_chain, ev_meth, evL_nil, evL_cons, pr_add, pr_sub, pr_mul, pr_fdiv, pr_mod, pr_pow, pr_neg, pr_eq, pr_ne, pr_lt, pr_gt, pr_le, pr_ge, pr_isin, pr_notin, pr_ix, pr_sl00, pr_sl10, pr_sl01, pr_sl11, pr_bi, pr_bi2, pr_isnone, pr_notnone, pr_isi, pr_isic, isa_tuple, isa_str, isa_int, isa_bool, isa_list, bl_some, tru_p, truP_bool, truP_int, truP_none, truP_tuple, truP_list, eqP_int, eqP_str, ltP_str, ltP_int, bind_nm, bind_tp, bind_tpl, setAll_nil, setAll_cons, List.getElem?_cons_zero, List.getElem?_cons_succ, List.set_cons_zero, List.set_cons_succ, Option.map_some, Option.map_none, List.map_cons, List.map_nil, Bool.not_true, Bool.not_false, pm_index, pm_count, pm_join, pm_split, pm_replace, pm_upper, rv_index, rv_count, rv_join, rv_split, rv_upper, rv_replace, rv_indexL, rv_countL, Bool.false_eq_true, ↓reduceIte, ev_callv, evS_setIx, evS_swap, evS_retN, evS_pass, addP_int, wipeE, i2, biP_len_tuple, List.length_map]
    · unfold keysW
      clear h hl
      induction rs with
      | nil => rfl
      | cons r rs ih =>
        show (match keyOf (.p (.int _)) with
          | some k => (keysOf ((rs.map _).map .p)).map (k :: ·)
          | none => none) = _
        rw [ih]
        rfl
  simp only [d_have_one_width, evB_cons, evB_nil, evS_asg, evS_par, evS_expr, evS_ret, evS_ifs, evS_raise, ev_var, ev_lit, ev_gcon, ev_gfn, ev_op, ev_and, ev_or, ev_not, ev_ite, ev_call, ev_chain, ev_meth, evL_nil, evL_cons, pr_add, pr_sub, pr_mul, pr_fdiv, pr_mod, pr_pow, pr_neg, pr_eq, pr_ne, pr_lt, pr_gt, pr_le, pr_ge, pr_isin, pr_notin, pr_ix, pr_sl00, pr_sl10, pr_sl01, pr_sl11, pr_bi, pr_bi2, pr_isnone, pr_notnone, pr_isi, pr_isic, isa_tuple, isa_str, isa_int, isa_bool, isa_list, bl_some, tru_p, truP_bool, truP_int, truP_none, truP_tuple, truP_list, eqP_int, eqP_str, ltP_str, ltP_int, bind_nm, bind_tp, bind_tpl, setAll_nil, setAll_cons, List.getElem?_cons_zero, List.getElem?_cons_succ, List.set_cons_zero, List.set_cons_succ, Option.map_some, Option.map_none, List.map_cons, List.map_nil, Bool.not_true, Bool.not_false, pm_index, pm_count, pm_join, pm_split, pm_replace, pm_upper, rv_index, rv_count, rv_join, rv_split, rv_upper, rv_replace, rv_indexL, rv_countL, Bool.false_eq_true, ↓reduceIte, ev_callv, evS_setIx, evS_swap, evS_retN, evS_pass, addP_int, hc] <;> rfl
/-- rows of valid form, or one that has none -/
theorem rows_cases (ds : List PyData) : (∃ rs : List Row, ds = rs.map Row.d ∧ ∀ r ∈ rs, r.Ok) ∨ ds.all isRow = false := by
  cases h : ds.all isRow with
  | false => exact .inr rfl
  | true => exact .inl (rows_of h)
theorem all_is {rs : List Row} (h : ∀ r ∈ rs, r.Ok) : (rs.map Row.d).all isRow = true := by
  rw [List.all_eq_true]
  intro d hd
  obtain ⟨r, hr, rfl⟩ := List.mem_map.mp hd
  exact (h r hr).is
theorem comp_rows {ds : List PyData} (hz : ∀ d ∈ ds, sizedRow d) (hl : ds.length ≤ big) : ev C (callN C (k + 4)) c_are_rows_0 [some (.p (.tuple ds)), none] [] = .ok (.p (.list (ds.map fun d => .bool (isRow d)))) [] := by
  refine ev_comp (vs := [.p (.tuple ds)]) (fun (d : PyData) => .p d) (fun d => .bool (isRow d)) ds rfl rfl hl fun d hd => ⟨_, rfl, ?_⟩
  simp only [evB_cons, evB_nil, evS_asg, evS_par, evS_expr, evS_ret, evS_ifs, evS_raise, ev_var, ev_lit, ev_gcon, ev_gfn, ev_op, ev_and, ev_or, ev_not, ev_ite, ev_call, ev_chain, ev_meth, evL_nil, evL_cons, pr_add, pr_sub, pr_mul, pr_fdiv, pr_mod, pr_pow, pr_neg, pr_eq, pr_ne, pr_lt, pr_gt, pr_le, pr_ge, pr_isin, pr_notin, pr_ix, pr_sl00, pr_sl10, pr_sl01, pr_sl11, pr_bi, pr_bi2, pr_isnone, pr_notnone, pr_isi, pr_isic, isa_tuple, isa_str, isa_int, isa_bool, isa_list, bl_some, tru_p, truP_bool, truP_int, truP_none, truP_tuple, truP_list, eqP_int, eqP_str, ltP_str, ltP_int, bind_nm, bind_tp, bind_tpl, setAll_nil, setAll_cons, List.getElem?_cons_zero, List.getElem?_cons_succ, List.set_cons_zero, List.set_cons_succ, Option.map_some, Option.map_none, List.map_cons, List.map_nil, Bool.not_true, Bool.not_false, pm_index, pm_count, pm_join, pm_split, pm_replace, pm_upper, rv_index, rv_count, rv_join, rv_split, rv_upper, rv_replace, rv_indexL, rv_countL, Bool.false_eq_true, ↓reduceIte, ev_callv, evS_setIx, evS_swap, evS_retN, evS_pass, addP_int, wipeE, row (hz d hd)]
theorem are_rows_ok {rs : List Row} (h : ∀ r ∈ rs, r.Ok) (hl : rs.length ≤ 4000) : callN C (k + 5) f_are_rows [.p (rsd rs)] S = .ok (.p (.bool (oneWidth rs))) S := by
  refine call_rt (S1 := []) [some (.p (rsd rs)), none] g_are_rows ?_
  have hc : ev C (callN C (k + 4)) c_are_rows_0 [some (.p (rsd rs)), none] [] = _ := comp_rows (k := k) (ds := rs.map Row.d) (fun d hd => by
    obtain ⟨r, hr, rfl⟩ := List.mem_map.mp hd
    exact sized_row r (h r hr)) (by rw [List.length_map]; exact Nat.le_trans hl (by decide))
  have ht : (rsd rs).isTuple = true := rfl
  simp only [d_are_rows, evB_cons, evB_nil, evS_asg, evS_par, evS_expr, evS_ret, evS_ifs, evS_raise, ev_var, ev_lit, ev_gcon, ev_gfn, ev_op, ev_and, ev_or, ev_not, ev_ite, ev_call, ev_chain, ev_meth, evL_nil, evL_cons, pr_add, pr_sub, pr_mul, pr_fdiv, pr_mod, pr_pow, pr_neg, pr_eq, pr_ne, pr_lt, pr_gt, pr_le, pr_ge, pr_isin, pr_notin, pr_ix, pr_sl00, pr_sl10, pr_sl01, pr_sl11, pr_bi, pr_bi2, pr_isnone, pr_notnone, pr_isi, pr_isic, isa_tuple, isa_str, isa_int, isa_bool, isa_list, bl_some, tru_p, truP_bool, truP_int, truP_none, truP_tuple, truP_list, eqP_int, eqP_str, ltP_str, ltP_int, bind_nm, bind_tp, bind_tpl, setAll_nil, setAll_cons, List.getElem?_cons_zero, List.getElem?_cons_succ, List.set_cons_zero, List.set_cons_succ, Option.map_some, Option.map_none, List.map_cons, List.map_nil, Bool.not_true, Bool.not_false, pm_index, pm_count, pm_join, pm_split, pm_replace, pm_upper, rv_index, rv_count, rv_join, rv_split, rv_upper, rv_replace, rv_indexL, rv_countL, Bool.false_eq_true, ↓reduceIte, ev_callv, evS_setIx, evS_swap, evS_retN, evS_pass, addP_int, ht, hc, bi_all, all_is h, one_width h hl]
theorem are_rows_bad {ds : List PyData} (hz : ∀ d ∈ ds, sizedRow d) (hl : ds.length ≤ big) (h : ds.all isRow = false) : callN C (k + 5) f_are_rows [.p (.tuple ds)] S = .ok (.p (.bool false)) S := by
  refine call_rt (S1 := []) [some (.p (.tuple ds)), none] g_are_rows ?_
  simp only [d_are_rows, evB_cons, evB_nil, evS_asg, evS_par, evS_expr, evS_ret, evS_ifs, evS_raise, ev_var, ev_lit, ev_gcon, ev_gfn, ev_op, ev_and, ev_or, ev_not, ev_ite, ev_call, ev_chain, ev_meth, evL_nil, evL_cons, pr_add, pr_sub, pr_mul, pr_fdiv, pr_mod, pr_pow, pr_neg, pr_eq, pr_ne, pr_lt, pr_gt, pr_le, pr_ge, pr_isin, pr_notin, pr_ix, pr_sl00, pr_sl10, pr_sl01, pr_sl11, pr_bi, pr_bi2, pr_isnone, pr_notnone, pr_isi, pr_isic, isa_tuple, isa_str, isa_int, isa_bool, isa_list, bl_some, tru_p, truP_bool, truP_int, truP_none, truP_tuple, truP_list, eqP_int, eqP_str, ltP_str, ltP_int, bind_nm, bind_tp, bind_tpl, setAll_nil, setAll_cons, List.getElem?_cons_zero, List.getElem?_cons_succ, List.set_cons_zero, List.set_cons_succ, Option.map_some, Option.map_none, List.map_cons, List.map_nil, Bool.not_true, Bool.not_false, pm_index, pm_count, pm_join, pm_split, pm_replace, pm_upper, rv_index, rv_count, rv_join, rv_split, rv_upper, rv_replace, rv_indexL, rv_countL, Bool.false_eq_true, ↓reduceIte, ev_callv, evS_setIx, evS_swap, evS_retN, evS_pass, addP_int, PyData.isTuple, comp_rows (k := k) hz hl, bi_all, h]
def isRowset (rs : List Row) : Bool := oneWidth rs && (decide (rs.length ≤ 60) && ascending (rs.map Row.n))
theorem rowset_ok {rs : List Row} (h : ∀ r ∈ rs, r.Ok) (hl : rs.length ≤ 4000) : callN C (k + 6) f_is_rowset [.p (rsd rs)] S = .ok (.p (.bool (isRowset rs))) S := by
  refine call_rt (S1 := []) [some (.p (rsd rs)), none] g_is_rowset ?_
  have hc : ev C (callN C (k + 5)) c_is_rowset_0 [some (.p (rsd rs)), none] [] = .ok (.p (.list ((rs.map Row.n).map .str))) [] := by
    rw [List.map_map]
    refine ev_comp (vs := [.p (rsd rs)]) (fun (r : Row) => .p r.d) (fun r => .str r.n) rs rfl ?_ (Nat.le_trans hl (by decide)) fun r hr => ⟨_, rfl, ?_⟩
    · show some ((rs.map Row.d).map Val.p, none) = _
      rw [List.map_map]
      rfl
    · have i0 : ixP r.d (.int 0) = some (.str r.n) := rfl
      simp only [evB_cons, evB_nil, evS_asg, evS_par, evS_expr, evS_ret, evS_ifs, evS_raise, ev_var, ev_lit, ev_gcon, ev_gfn, ev_op, ev_and, ev_or, ev_not, ev_ite, ev_call, ev_chain, ev_meth, evL_nil, evL_cons, pr_add, pr_sub, pr_mul, pr_fdiv, pr_mod, pr_pow, pr_neg, pr_eq, pr_ne, pr_lt, pr_gt, pr_le, pr_ge, pr_isin, pr_notin, pr_ix, pr_sl00, pr_sl10, pr_sl01, pr_sl11, pr_bi, pr_bi2, pr_isnone, pr_notnone, pr_isi, pr_isic, isa_tuple, isa_str, isa_int, isa_bool, isa_list, bl_some, tru_p, truP_bool, truP_int, truP_none, truP_tuple, truP_list, eqP_int, eqP_str, ltP_str, ltP_int, bind_nm, bind_tp, bind_tpl, setAll_nil, setAll_cons, List.getElem?_cons_zero, List.getElem?_cons_succ, List.set_cons_zero, List.set_cons_succ, Option.map_some, Option.map_none, List.map_cons, List.map_nil, Bool.not_true, Bool.not_false, pm_index, pm_count, pm_join, pm_split, pm_replace, pm_upper, rv_index, rv_count, rv_join, rv_split, rv_upper, rv_replace, rv_indexL, rv_countL, Bool.false_eq_true, ↓reduceIte, ev_callv, evS_setIx, evS_swap, evS_retN, evS_pass, addP_int, wipeE, i0]
  have hb : biP .len [rsd rs] = some (.int rs.length) := by
    show some (PyData.int ((rs.map Row.d).length : Nat)) = _
    rw [List.length_map]
  have e2 : (decide ((rs.length : Int) ≤ 60)) = decide (rs.length ≤ 60) := by rw [decide_eq_decide]; omega
  have ha := asc (k := k + 4) (S := []) (xs := rs.map Row.n) (by rw [List.length_map]; exact Nat.le_trans hl (by decide))
  unfold isRowset
  cases h1 : oneWidth rs
  · simp only [d_is_rowset, evB_cons, evB_nil, evS_asg, evS_par, evS_expr, evS_ret, evS_ifs, evS_raise, ev_var, ev_lit, ev_gcon, ev_gfn, ev_op, ev_and, ev_or, ev_not, ev_ite, ev_call, ev_chain, ev_meth, evL_nil, evL_cons, pr_add, pr_sub, pr_mul, pr_fdiv, pr_mod, pr_pow, pr_neg, pr_eq, pr_ne, pr_lt, pr_gt, pr_le, pr_ge, pr_isin, pr_notin, pr_ix, pr_sl00, pr_sl10, pr_sl01, pr_sl11, pr_bi, pr_bi2, pr_isnone, pr_notnone, pr_isi, pr_isic, isa_tuple, isa_str, isa_int, isa_bool, isa_list, bl_some, tru_p, truP_bool, truP_int, truP_none, truP_tuple, truP_list, eqP_int, eqP_str, ltP_str, ltP_int, bind_nm, bind_tp, bind_tpl, setAll_nil, setAll_cons, List.getElem?_cons_zero, List.getElem?_cons_succ, List.set_cons_zero, List.set_cons_succ, Option.map_some, Option.map_none, List.map_cons, List.map_nil, Bool.not_true, Bool.not_false, pm_index, pm_count, pm_join, pm_split, pm_replace, pm_upper, rv_index, rv_count, rv_join, rv_split, rv_upper, rv_replace, rv_indexL, rv_countL, Bool.false_eq_true, ↓reduceIte, ev_callv, evS_setIx, evS_swap, evS_retN, evS_pass, addP_int, are_rows_ok h hl, h1, Bool.false_and]
  · cases h2 : decide (rs.length ≤ 60) <;> simp only [d_is_rowset, evB_cons, evB_nil, evS_asg, evS_par, evS_expr, evS_ret, evS_ifs, evS_raise, ev_var, ev_lit, ev_gcon, ev_gfn, ev_op, ev_and, ev_or, ev_not, ev_ite, ev_call, ev_chain, ev_meth, evL_nil, evL_cons, pr_add, pr_sub, pr_mul, pr_fdiv, pr_mod, pr_pow, pr_neg, pr_eq, pr_ne, pr_lt, pr_gt, pr_le, pr_ge, pr_isin, pr_notin, pr_ix, pr_sl00, pr_sl10, pr_sl01, pr_sl11, pr_bi, pr_bi2, pr_isnone, pr_notnone, pr_isi, pr_isic, isa_tuple, isa_str, isa_int, isa_bool, isa_list, bl_some, tru_p, truP_bool, truP_int, truP_none, truP_tuple, truP_list, eqP_int, eqP_str, ltP_str, ltP_int, bind_nm, bind_tp, bind_tpl, setAll_nil, setAll_cons, List.getElem?_cons_zero, List.getElem?_cons_succ, List.set_cons_zero, List.set_cons_succ, Option.map_some, Option.map_none, List.map_cons, List.map_nil, Bool.not_true, Bool.not_false, pm_index, pm_count, pm_join, pm_split, pm_replace, pm_upper, rv_index, rv_count, rv_join, rv_split, rv_upper, rv_replace, rv_indexL, rv_countL, Bool.false_eq_true, ↓reduceIte, ev_callv, evS_setIx, evS_swap, evS_retN, evS_pass, addP_int, are_rows_ok h hl, h1, hb, e2, h2, hc, ha, Bool.true_and, Bool.false_and]
theorem rowset_bad {ds : List PyData} (hz : ∀ d ∈ ds, sizedRow d) (hl : ds.length ≤ big) (h : ds.all isRow = false) : callN C (k + 6) f_is_rowset [.p (.tuple ds)] S = .ok (.p (.bool false)) S := by
  refine call_rt (S1 := []) [some (.p (.tuple ds)), none] g_is_rowset ?_
  simp only [d_is_rowset, evB_cons, evB_nil, evS_asg, evS_par, evS_expr, evS_ret, evS_ifs, evS_raise, ev_var, ev_lit, ev_gcon, ev_gfn, ev_op, ev_and, ev_or, ev_not, ev_ite, ev_call, ev_chain, ev_meth, evL_nil, evL_cons, pr_add, pr_sub, pr_mul, pr_fdiv, pr_mod, pr_pow, pr_neg, pr_eq, pr_ne, pr_lt, pr_gt, pr_le, pr_ge, pr_isin, pr_notin, pr_ix, pr_sl00, pr_sl10, pr_sl01, pr_sl11, pr_bi, pr_bi2, pr_isnone, pr_notnone, pr_isi, pr_isic, isa_tuple, isa_str, isa_int, isa_bool, isa_list, bl_some, tru_p, truP_bool, truP_int, truP_none, truP_tuple, truP_list, eqP_int, eqP_str, ltP_str, ltP_int, bind_nm, bind_tp, bind_tpl, setAll_nil, setAll_cons, List.getElem?_cons_zero, List.getElem?_cons_succ, List.set_cons_zero, List.set_cons_succ, Option.map_some, Option.map_none, List.map_cons, List.map_nil, Bool.not_true, Bool.not_false, pm_index, pm_count, pm_join, pm_split, pm_replace, pm_upper, rv_index, rv_count, rv_join, rv_split, rv_upper, rv_replace, rv_indexL, rv_countL, Bool.false_eq_true, ↓reduceIte, ev_callv, evS_setIx, evS_swap, evS_retN, evS_pass, addP_int, are_rows_bad hz hl h]
end Mx

/-! Md: draws. -/
namespace Md
open PySem Ev Mb I Mr Mi Mw NumText L2
variable {S : Store} {k : Nat}
abbrev SC (a b c : Int) : Cell := .lst [.int a, .int b, .int c]
/-- a stream of draws stands at i -/
def Stm (i : Nat) (S : Store) : Prop := ∃ a b c, S[i]? = some (SC a b c)
/-- nothing but the stream at i is changed -/
def Adv (i : Nat) (S S' : Store) : Prop := ∃ a b c, S' = S.set i (SC a b c)
theorem Adv.refl {i : Nat} (h : Stm i S) : Adv i S S := by
  obtain ⟨a, b, c, h⟩ := h
  refine ⟨a, b, c, ?_⟩
  obtain ⟨hi, e⟩ := List.getElem?_eq_some_iff.mp h
  rw [← e, List.set_getElem_self]
theorem Adv.trans {i : Nat} {S1 S2 : Store} (h : Adv i S S1) (g : Adv i S1 S2) : Adv i S S2 := by
  obtain ⟨a, b, c, rfl⟩ := h
  obtain ⟨d, e, f, rfl⟩ := g
  exact ⟨d, e, f, List.set_set ..⟩
theorem Adv.stm {i : Nat} {S1 : Store} (h : Adv i S S1) (s : Stm i S) : Stm i S1 := by
  obtain ⟨a, b, c, rfl⟩ := h
  obtain ⟨_, _, _, s⟩ := s
  exact ⟨a, b, c, by rw [List.getElem?_set_self (List.getElem?_eq_some_iff.mp s).1]⟩
theorem Adv.one {a b c : Int} {S1 : Store} (h : Adv 0 [SC a b c] S1) : ∃ a' b' c', S1 = [SC a' b' c'] := by
  obtain ⟨a', b', c', rfl⟩ := h
  exact ⟨a', b', c', rfl⟩
theorem Adv.two {a b c : Int} {x : Cell} {S1 : Store} (h : Adv 0 [SC a b c, x] S1) : ∃ a' b' c', S1 = [SC a' b' c', x] := by
  obtain ⟨a', b', c', rfl⟩ := h
  exact ⟨a', b', c', rfl⟩
theorem stm0 {a b c : Int} {S : Store} : Stm 0 (SC a b c :: S) := ⟨a, b, c, rfl⟩
theorem small {i m : Int} (h : 0 < m) (h2 : m < 2 ^ 64) : (i % m).natAbs < 2 ^ 64 := by
  have h3 := Int.emod_nonneg i (show m ≠ 0 by omega)
  have h4 := Int.emod_lt_of_pos i h
  omega
/-- a call on a stream -/
theorem call_stm {f i : Nat} {d : DefI} {a b c a' b' c' : Int} {ps : List PyData} {rest : Store} {v : Val} {r : PyData} (env0 : Slots) (hd : C.defs[f]? = some d) (hi : S[i]? = some (SC a b c)) (hb : evB C (callN C k) d.body env0 [SC a b c] = .rt v (SC a' b' c' :: rest)) (ho : outT false 1 S.length [i] (SC a' b' c' :: rest) v = some (.p r))
    (hl : ps.length + 1 = d.ps.length := by rfl) (hk : d.keep = false := by rfl) (he : some (.loc 0) :: ((ps.map fun d => some (.p d)) ++ List.replicate (d.N.length - d.ps.length) none) = env0 := by rfl) : ∃ S', callN C (k + 1) f (.loc i :: ps.map .p) S = .ok (.p r) S' ∧ Adv i S S' :=
  ⟨_, call_cell env0 hd hi hb ho hl hk he, a', b', c', rfl⟩
theorem draw {i : Nat} {t : Int} (h : Stm i S) (h1 : 0 < t) (h2 : t < 2 ^ 64) : ∃ r S', callN C (k + 1) f__law_draw [.loc i, .p (.int t)] S = .ok (.p (.int r)) S' ∧ Adv i S S' ∧ 0 ≤ r ∧ r < t := by
  obtain ⟨a, b, c, hs⟩ := h
  have ix0 : ∀ (x y z : PyData), prim C .ix [.loc 0, .p (.int 0)] [.lst [x, y, z]] = some (.p x, [.lst [x, y, z]]) := fun _ _ _ => rfl
  have ix1 : ∀ (x y z : PyData), prim C .ix [.loc 0, .p (.int 1)] [.lst [x, y, z]] = some (.p y, [.lst [x, y, z]]) := fun _ _ _ => rfl
  have ix2 : ∀ (x y z : PyData), prim C .ix [.loc 0, .p (.int 2)] [.lst [x, y, z]] = some (.p z, [.lst [x, y, z]]) := fun _ _ _ => rfl
  have s0 : ∀ (x y z d : PyData), setIxV [.lst [x, y, z]] (.loc 0) (.p (.int 0)) (.p d) = some [.lst [d, y, z]] := fun _ _ _ _ => rfl
  have s2 : ∀ (x y z d : PyData), setIxV [.lst [x, y, z]] (.loc 0) (.p (.int 2)) (.p d) = some [.lst [x, y, d]] := fun _ _ _ _ => rfl
  have hl : t.natAbs.log2 < 9000 := by
    rw [Nat.log2_lt (by omega)]
    exact Nat.lt_of_lt_of_le (show t.natAbs < 2 ^ 64 by omega) (Nat.pow_le_pow_right (by decide) (by decide))
  by_cases ha : 0 < a
  · obtain ⟨S', e, g⟩ := call_stm (k := k) (S := S) (i := i) (a' := a / t) (b' := b) (c' := c) (rest := []) (v := .p (.int (a % t))) (ps := [.int t]) (r := .int (a % t)) [some (.loc 0), some (.p (.int t)), none, none, none, none] g__law_draw hs (by
      simp only [d__law_draw, evB_cons, evB_nil, evS_asg, evS_par, evS_expr, evS_ret, evS_ifs, evS_raise, ev_var, ev_lit, ev_gcon, ev_gfn, ev_op, ev_and, ev_or, ev_not, ev_ite, ev_call, ev_chain, ev_meth, evL_nil, evL_cons, pr_add, pr_sub, pr_mul, pr_neg, pr_eq, pr_ne, pr_lt, pr_gt, pr_le, pr_ge, pr_isin, pr_notin, pr_ix, pr_sl00, pr_sl10, pr_sl01, pr_sl11, pr_bi, pr_bi2, pr_isnone, pr_notnone, pr_isi, pr_isic, isa_tuple, isa_str, isa_int, isa_bool, isa_list, bl_some, tru_p, truP_bool, truP_int, truP_none, truP_tuple, truP_list, eqP_int, eqP_str, ltP_str, ltP_int, bind_nm, bind_tp, bind_tpl, setAll_nil, setAll_cons, List.getElem?_cons_zero, List.getElem?_cons_succ, List.set_cons_zero, List.set_cons_succ, Option.map_some, Option.map_none, List.map_cons, List.map_nil, Bool.not_true, Bool.not_false, pm_index, pm_count, pm_join, pm_split, pm_replace, pm_upper, rv_index, rv_count, rv_join, rv_split, rv_upper, rv_replace, rv_indexL, rv_countL, Bool.false_eq_true, ↓reduceIte, ev_callv, evS_setIx, evS_swap, evS_retN, evS_pass, addP_int, pr_mod, pr_fdiv, pr_pow, ix0, ha, decide_true, if_pos h1, if_pos (And.intro h1 hl), s0]) rfl
    exact ⟨a % t, S', e, g, Int.emod_nonneg a (by omega), Int.emod_lt_of_pos a h1⟩
  · have m1 : ((0 : Int) < 4294967279) = True := by simp
    have m2 : ((0 : Int) < 4294967231) = True := by simp
    have m3 : ((0 : Int) < 65537) = True := by simp
    have m4 : ((0 : Int) < 4294967197) = True := by simp
    have m5 : ((0 : Int) < 4294967189) = True := by simp
    have l1 : ∀ x : Int, mulP (.int 1500450271) (.int x) = some (.int (1500450271 * x)) := fun x => mul_l (by decide)
    have l2 : ∀ x : Int, mulP (.int 10007) (.int x) = some (.int (10007 * x)) := fun x => mul_l (by decide)
    have l3 : ∀ x y : Int, mulP (.int (x % 4294967279)) (.int y) = some (.int (x % 4294967279 * y)) := fun x y => mul_l (small (by decide) (by decide))
    have l4 : ∀ x y : Int, mulP (.int (x % 4294967231)) (.int y) = some (.int (x % 4294967231 * y)) := fun x y => mul_l (small (by decide) (by decide))
    have l5 : ∀ x y : Int, mulP (.int (x % 4294967197)) (.int y) = some (.int (x % 4294967197 * y)) := fun x y => mul_l (small (by decide) (by decide))
    have l6 : ∀ (x : Int) (b : Bool), mulP (.int x) (.int (if b then 1 else 0)) = some (.int (x * (if b then 1 else 0))) := fun x b => mul_r (by cases b <;> decide)
    have p6 : ((0 : Int) ≤ 6 ∧ (6 : Int) ≤ 100 ∧ (10 : Int).natAbs.log2 < 250) = True := by simp; decide
    have p6e : ((10 : Int) ^ (6 : Int).toNat) = 1000000 := by decide
    have f64 : ((0 : Int) < 64 ∧ (64 : Int).natAbs.log2 < 9000) = True := by simp; decide
    have hb : ∀ env0 : Slots, env0 = [some (.loc 0), some (.p (.int t)), none, none, none, none] → ∃ r, evB C (callN C k) d__law_draw.body env0 [SC a b c] = .rt (.p (.int (r % t))) [SC a b (c + 1)] := by
      rintro _ rfl
      refine ⟨?_, ?_⟩
      rotate_left
      · simp only [d__law_draw, evB_cons, evB_nil, evS_asg, evS_par, evS_expr, evS_ret, evS_ifs, evS_raise, ev_var, ev_lit, ev_gcon, ev_gfn, ev_op, ev_and, ev_or, ev_not, ev_ite, ev_call, ev_chain, ev_meth, evL_nil, evL_cons, pr_add, pr_sub, pr_mul, pr_neg, pr_eq, pr_ne, pr_lt, pr_gt, pr_le, pr_ge, pr_isin, pr_notin, pr_ix, pr_sl00, pr_sl10, pr_sl01, pr_sl11, pr_bi, pr_bi2, pr_isnone, pr_notnone, pr_isi, pr_isic, isa_tuple, isa_str, isa_int, isa_bool, isa_list, bl_some, tru_p, truP_bool, truP_int, truP_none, truP_tuple, truP_list, eqP_int, eqP_str, ltP_str, ltP_int, bind_nm, bind_tp, bind_tpl, setAll_nil, setAll_cons, List.getElem?_cons_zero, List.getElem?_cons_succ, List.set_cons_zero, List.set_cons_succ, Option.map_some, Option.map_none, List.map_cons, List.map_nil, Bool.not_true, Bool.not_false, pm_index, pm_count, pm_join, pm_split, pm_replace, pm_upper, rv_index, rv_count, rv_join, rv_split, rv_upper, rv_replace, rv_indexL, rv_countL, Bool.false_eq_true, ↓reduceIte, ev_callv, evS_setIx, evS_swap, evS_retN, evS_pass, addP_int, pr_mod, pr_fdiv, pr_pow, ix0, ix1, ix2, ha, decide_false, s2, m1, m2, m3, m4, m5, l1, l2, l3, l4, l5, l6, p6, p6e, f64, if_true, biP_intb, h1, mul_r (show (67108864 : Int).natAbs < 2 ^ 64 by decide)]
        rfl
    obtain ⟨r, hb⟩ := hb _ rfl
    obtain ⟨S', e, g⟩ := call_stm (k := k) (S := S) (i := i) (ps := [.int t]) (rest := []) (r := .int (r % t)) [some (.loc 0), some (.p (.int t)), none, none, none, none] g__law_draw hs hb rfl
    exact ⟨r % t, S', e, g, Int.emod_nonneg r (by omega), Int.emod_lt_of_pos r h1⟩
end Md

/-! Mn: the law's streams, names, rowsets. -/
namespace Mn
open PySem Ev Mb I Mr Mi Mw Mx Md NumText L2
variable {S : Store} {k : Nat}
theorem cs_app (a b : Str) : cs (a ++ b) = cs a ++ cs b := by
  show (a.cps ++ b.cps).toList = _
  rw [Array.toList_append]
/-- a call that keeps the cells it made -/
theorem call_keep {f : Nat} {d : DefI} {vs : List Val} {S1 : Store} (env0 : Slots) (hd : C.defs[f]? = some d) (hb : evB C (callN C k) d.body env0 [] = .rt (.loc 0) S1)
    (hl : vs.length = d.ps.length := by rfl) (hp : locsOf vs = some [] := by rfl) (hk : d.keep = true := by rfl) (he : (vs.map fun v => some (inV [] v)) ++ List.replicate (d.N.length - d.ps.length) none = env0 := by rfl) : callN C (k + 1) f vs S = .ok (.loc S.length) (S ++ S1) := by
  unfold callN
  rw [hd]
  dsimp only
  unfold callD
  rw [if_neg (by simp [hl]), hp]
  dsimp only
  rw [if_pos List.nodup_nil]
  show (match evB C (callN C k) d.body ((vs.map fun v => some (inV [] v)) ++ List.replicate (d.N.length - d.ps.length) none) [] with
      | .nx _ S1 => Res.ok (.p .none) (after d.keep [] S S1)
      | .rt v S1 => match outT d.keep 0 S.length [] S1 v with
        | some w => .ok w (after d.keep [] S S1)
        | none => .bad
      | .ex c as _ S1 => match outVs d.keep 0 S.length [] S1 as with
        | some bs => .ex c bs (after d.keep [] S S1)
        | none => .bad
      | _ => .bad) = _
  rw [he, hk, hb]
  rfl
theorem ix_nat {ds : List PyData} {i : Nat} {d : PyData} (h : ds[i]? = some d) : ixP (.list ds) (.int (i : Int)) = some d := by
  show atI ds (i : Int) = _
  have hi : i < ds.length := (List.getElem?_eq_some_iff.mp h).1
  unfold atI ixN
  rw [if_pos (by omega), if_pos (by omega)]
  simpa using h
theorem pow60 {S : Store} : prim C .pow [.p (.int 10), .p (.int 60)] S = some (.p (.int ((10 : Int) ^ 60)), S) := by
  rw [pr_pow, if_pos (by decide +kernel)] <;> rfl
theorem pow12 {S : Store} : prim C .pow [.p (.int ((10 : Int) ^ 60)), .p (.int 12)] S = some (.p (.int (((10 : Int) ^ 60) ^ 12)), S) := by
  rw [pr_pow, if_pos (by decide +kernel)] <;> rfl
theorem pow17 {S : Store} : prim C .pow [.p (.int 10), .p (.int 17)] S = some (.p (.int 100000000000000000), S) := by
  rw [pr_pow, if_pos (by decide +kernel)] <;> rfl
theorem stream {ns : List Int} {i : Nat} : ∃ a b, callN C (k + 1) f__law_stream [.p (.list (ns.map .int)), .p (.int (i : Int))] S = .ok (.loc S.length) (S ++ [SC a b 0]) := by
  have hm : ∀ x : Int, prim C .mod [.p (.int x), .p (.int (((10 : Int) ^ 60) ^ 12))] [] = some (.p (.int (x % (((10 : Int) ^ 60) ^ 12))), []) := fun x => by
    rw [pr_mod, if_pos (by decide +kernel)] <;> rfl
  have hm2 : ∀ x : Int, prim C .mod [.p (.int x), .p (.int 4294967291)] [] = some (.p (.int (x % 4294967291)), []) := fun x => by
    rw [pr_mod, if_pos (by decide)] <;> rfl
  have hx : ∀ x : Int, biP .max [.int 0, .int x] = some (.int (if x > 0 then x else 0)) := fun x => rfl
  have hq : ∀ x : Int, mulP (.int x) (.int 9576890767) = some (.int (x * 9576890767)) := fun x => mul_r (by decide)
  have l1 : ∀ x : Int, mulP (.int 611953) (.int x) = some (.int (611953 * x)) := fun x => mul_l (by decide)
  have l2 : ∀ x : Int, mulP (.int 2) (.int x) = some (.int (2 * x)) := fun x => mul_l (by decide)
  have l3 : ∀ x : Int, mulP (.int 5) (.int x) = some (.int (5 * x)) := fun x => mul_l (by decide)
  have mk : ∀ (x y z : PyData), prim C (.mk .lst) [.p x, .p y, .p z] [] = some (.loc 0, [.lst [x, y, z]]) := fun _ _ _ => rfl
  have lt1 : ltP (.int (i : Int)) (.int (ns.length : Nat)) = some (decide (i < ns.length)) := by
    show some (decide ((i : Int) < (ns.length : Nat))) = _
    congr 1
    rw [decide_eq_decide]
    omega
  by_cases hi : i < ns.length
  · have hx0 : ixP (.list (ns.map .int)) (.int (i : Int)) = some (.int ns[i]) := ix_nat (by rw [List.getElem?_map, List.getElem?_eq_getElem hi]; rfl)
    refine ⟨?_, ?_, call_keep [some (.p (.list (ns.map .int))), some (.p (.int (i : Int))), none, none] g__law_stream ?_⟩
    rotate_left 2
    · simp only [d__law_stream, evB_cons, evB_nil, evS_asg, evS_par, evS_expr, evS_ret, evS_ifs, evS_raise, ev_var, ev_lit, ev_gcon, ev_gfn, ev_op, ev_and, ev_or, ev_not, ev_ite, ev_call, ev_chain, ev_meth, evL_nil, evL_cons, pr_add, pr_sub, pr_mul, pr_neg, pr_eq, pr_ne, pr_lt, pr_gt, pr_le, pr_ge, pr_isin, pr_notin, pr_ix, pr_sl00, pr_sl10, pr_sl01, pr_sl11, pr_bi, pr_bi2, pr_isnone, pr_notnone, pr_isi, pr_isic, isa_tuple, isa_str, isa_int, isa_bool, isa_list, bl_some, tru_p, truP_bool, truP_int, truP_none, truP_tuple, truP_list, eqP_int, eqP_str, ltP_str, ltP_int, bind_nm, bind_tp, bind_tpl, setAll_nil, setAll_cons, List.getElem?_cons_zero, List.getElem?_cons_succ, List.set_cons_zero, List.set_cons_succ, Option.map_some, Option.map_none, List.map_cons, List.map_nil, Bool.not_true, Bool.not_false, pm_index, pm_count, pm_join, pm_split, pm_replace, pm_upper, rv_index, rv_count, rv_join, rv_split, rv_upper, rv_replace, rv_indexL, rv_countL, Bool.false_eq_true, ↓reduceIte, ev_callv, evS_setIx, evS_swap, evS_retN, evS_pass, addP_int, l3, biP_len_list, List.length_map, lt1, hi, decide_true, hx0, biP_abs, pow60, pow12, pow17, hm, hm2, hx, hq, l1, l2, biP_intb, mk]
      rfl
  · refine ⟨?_, ?_, call_keep [some (.p (.list (ns.map .int))), some (.p (.int (i : Int))), none, none] g__law_stream ?_⟩
    rotate_left 2
    · simp only [d__law_stream, evB_cons, evB_nil, evS_asg, evS_par, evS_expr, evS_ret, evS_ifs, evS_raise, ev_var, ev_lit, ev_gcon, ev_gfn, ev_op, ev_and, ev_or, ev_not, ev_ite, ev_call, ev_chain, ev_meth, evL_nil, evL_cons, pr_add, pr_sub, pr_mul, pr_neg, pr_eq, pr_ne, pr_lt, pr_gt, pr_le, pr_ge, pr_isin, pr_notin, pr_ix, pr_sl00, pr_sl10, pr_sl01, pr_sl11, pr_bi, pr_bi2, pr_isnone, pr_notnone, pr_isi, pr_isic, isa_tuple, isa_str, isa_int, isa_bool, isa_list, bl_some, tru_p, truP_bool, truP_int, truP_none, truP_tuple, truP_list, eqP_int, eqP_str, ltP_str, ltP_int, bind_nm, bind_tp, bind_tpl, setAll_nil, setAll_cons, List.getElem?_cons_zero, List.getElem?_cons_succ, List.set_cons_zero, List.set_cons_succ, Option.map_some, Option.map_none, List.map_cons, List.map_nil, Bool.not_true, Bool.not_false, pm_index, pm_count, pm_join, pm_split, pm_replace, pm_upper, rv_index, rv_count, rv_join, rv_split, rv_upper, rv_replace, rv_indexL, rv_countL, Bool.false_eq_true, ↓reduceIte, ev_callv, evS_setIx, evS_swap, evS_retN, evS_pass, addP_int, l3, biP_len_list, List.length_map, lt1, hi, decide_false, biP_abs, pow60, pow12, pow17, hm, hm2, hx, hq, l1, l2, biP_intb, mk]
      rfl
/-! ### names -/
def NameAt (i : Nat) (x : Str) : Prop := ∃ ex, cs x = (97 + i / 2) :: (if i % 2 = 1 then 97 :: ex else []) ∧ ex.length ≤ 6 ∧ ∀ c ∈ ex, 97 ≤ c ∧ c ≤ 122
theorem letter {j : Nat} (h : j < 26) : ixP (.str sLetters) (.int (j : Int)) = some (.str ⟨#[97 + j]⟩) := by
  have e : ∀ j : Nat, j < 26 → atI sLetters.cps.toList (j : Int) = some (97 + j) := by decide +kernel
  show (if sLetters.length ≤ big then (atI sLetters.cps.toList (j : Int)).map fun c => PyData.str ⟨#[c]⟩ else none) = _
  rw [if_pos (by decide), e j h]
  rfl
theorem letterI {r : Int} (h0 : 0 ≤ r) (h : r < 26) : ∃ c, ixP (.str sLetters) (.int r) = some (.str ⟨#[c]⟩) ∧ 97 ≤ c ∧ c ≤ 122 := by
  have e := letter (j := r.toNat) (by omega)
  rw [show ((r.toNat : Nat) : Int) = r from by omega] at e
  exact ⟨_, e, by omega, by omega⟩
/-- one of a list -/
theorem pick {xs : List PyData} {r : Int} (h0 : 0 ≤ r) (h : r < xs.length) : ∃ d ∈ xs, ixP (.list xs) (.int r) = some d := by
  have hr : r.toNat < xs.length := by omega
  have e := ix_nat (List.getElem?_eq_getElem hr)
  rw [show ((r.toNat : Nat) : Int) = r from by omega] at e
  exact ⟨_, List.getElem_mem hr, e⟩
theorem rng1 {n : Int} {S : Store} (h : n ≤ big) (h0 : 0 ≤ n) : items S .rng1 [.p (.int n)] = some ((List.range n.toNat).map fun (j : Nat) => Val.p (.int (j : Int)), none) := if_pos ⟨h, by omega⟩
theorem add_str {a b : Str} (h : a.length + b.length ≤ big) : addP (.str a) (.str b) = some (.str (a ++ b)) := if_pos h
theorem loop_name {i m : Nat} {a b c : Int} {base : Str} {e1 e2 e4 : Option Val} {F : Nat → List Val → Store → Res} (hF : F = callN C (k + 1)) (hm : m ≤ 6) (hb : base.length ≤ 100) :
    ∃ nm t a' b' c', forGo (ckS none) (evB C F lb__law_name_0) (.nm 4) ((List.range m).map fun (j : Nat) => Val.p (.int (j : Int))) [some (.loc 0), e1, some (.p (.str sLetters)), some (.p (.str base)), e4] [SC a b c] = .nx [some (.loc 0), e1, some (.p (.str sLetters)), some (.p (.str nm)), t] [SC a' b' c'] ∧ ∃ ex, cs nm = cs base ++ ex ∧ ex.length ≤ m ∧ ∀ c ∈ ex, 97 ≤ c ∧ c ≤ 122 := by
  subst hF
  have z := forGo_inv (ck := ckS none) (fb := evB C (callN C (k + 1)) lb__law_name_0) (tg := .nm 4) (it := fun (j : Nat) => Val.p (.int (j : Int)))
    (fun as env S => ∃ (nm : Str) (t : Option Val) (a b c : Int), env = [some (.loc 0), e1, some (.p (.str sLetters)), some (.p (.str nm)), t] ∧ S = [SC a b c] ∧ ∃ ex, cs nm = cs base ++ ex ∧ ex.length + as.length ≤ m ∧ ∀ c ∈ ex, 97 ≤ c ∧ c ≤ 122) (fun _ _ _ _ => rfl) (fun j as env S h => ?_) (List.range m) _ _ ⟨base, e4, a, b, c, rfl, rfl, [], by simp, by simp, by simp⟩
  · obtain ⟨env', S', h1, nm, t, a', b', c', rfl, rfl, ex, h2, h3, h4⟩ := z
    exact ⟨nm, t, a', b', c', h1, ex, h2, by simpa using h3, h4⟩
  · obtain ⟨nm, t, a, b, c, rfl, rfl, ex, h2, h3, h4⟩ := h
    obtain ⟨r, S1, d1, g1, r0, r1⟩ := draw (k := k) (S := [SC a b c]) (i := 0) (t := 26) stm0 (by decide) (by decide)
    obtain ⟨a', b', c', rfl⟩ := g1.one
    obtain ⟨q, hq, q1, q2⟩ := letterI r0 r1
    have hl : nm.length + (⟨#[q]⟩ : Str).length ≤ big := by
      have : nm.length ≤ 106 := by
        rw [len_cs, h2, List.length_append, ← len_cs]
        omega
      have e : (⟨#[q]⟩ : Str).length = 1 := rfl
      rw [e]
      unfold big
      omega
    refine ⟨_, [some (.loc 0), e1, some (.p (.str sLetters)), some (.p (.str (nm ++ ⟨#[q]⟩))), some (.p (.int (j : Int)))], [SC a' b' c'], rfl, ?_, nm ++ ⟨#[q]⟩, _, a', b', c', rfl, rfl, ex ++ [q], ?_, ?_, ?_⟩
    · simp only [lb__law_name_0, evB_cons, evB_nil, evS_asg, evS_par, evS_expr, evS_ret, evS_ifs, evS_raise, ev_var, ev_lit, ev_gcon, ev_gfn, ev_op, ev_and, ev_or, ev_not, ev_ite, ev_call, ev_chain, ev_meth, evL_nil, evL_cons, pr_add, pr_sub, pr_mul, pr_neg, pr_eq, pr_ne, pr_lt, pr_gt, pr_le, pr_ge, pr_isin, pr_notin, pr_ix, pr_sl00, pr_sl10, pr_sl01, pr_sl11, pr_bi, pr_bi2, pr_isnone, pr_notnone, pr_isi, pr_isic, isa_tuple, isa_str, isa_int, isa_bool, isa_list, bl_some, tru_p, truP_bool, truP_int, truP_none, truP_tuple, truP_list, eqP_int, eqP_str, ltP_str, ltP_int, bind_nm, bind_tp, bind_tpl, setAll_nil, setAll_cons, List.getElem?_cons_zero, List.getElem?_cons_succ, List.set_cons_zero, List.set_cons_succ, Option.map_some, Option.map_none, List.map_cons, List.map_nil, Bool.not_true, Bool.not_false, pm_index, pm_count, pm_join, pm_split, pm_replace, pm_upper, rv_index, rv_count, rv_join, rv_split, rv_upper, rv_replace, rv_indexL, rv_countL, Bool.false_eq_true, ↓reduceIte, ev_callv, evS_setIx, evS_swap, evS_retN, evS_pass, addP_int, d1, hq, add_str hl]
    · rw [cs_app, h2, List.append_assoc]
    · rw [List.length_append]
      rw [List.length_cons] at h3
      simp only [List.length_cons, List.length_nil]
      omega
    · intro c hc
      rcases List.mem_append.mp hc with hc | hc
      · exact h4 c hc
      · simp only [List.mem_cons, List.not_mem_nil, or_false] at hc
        subst hc
        exact ⟨q1, q2⟩
theorem law_name {i n : Nat} (h : Stm i S) (hn : n < 52) : ∃ x S', callN C (k + 2) f__law_name [.loc i, .p (.int (n : Int))] S = .ok (.p (.str x)) S' ∧ Adv i S S' ∧ NameAt n x := by
  obtain ⟨a, b, c, hs⟩ := h
  have f2 : prim C .fdiv [.p (.int (n : Int)), .p (.int 2)] [SC a b c] = some (.p (.int ((n / 2 : Nat) : Int)), [SC a b c]) := by
    rw [pr_fdiv, if_pos (by decide)] <;> rfl
  have f52 : prim C .fdiv [.p (.int (n : Int)), .p (.int 52)] [SC a b c] = some (.p (.int ((0 : Nat) : Int)), [SC a b c]) := by
    rw [pr_fdiv, if_pos (by decide), show ((n : Int) / 52) = ((0 : Nat) : Int) from by omega] <;> rfl
  have m26 : prim C .mod [.p (.int ((n / 2 : Nat) : Int)), .p (.int 26)] [SC a b c] = some (.p (.int ((n / 2 : Nat) : Int)), [SC a b c]) := by
    rw [pr_mod, if_pos (by decide), show (((n / 2 : Nat) : Int) % 26) = ((n / 2 : Nat) : Int) from by omega] <;> rfl
  have m2 : ∀ S, prim C .mod [.p (.int (n : Int)), .p (.int 2)] S = some (.p (.int ((n % 2 : Nat) : Int)), S) := fun S => by
    rw [pr_mod, if_pos (by decide), show ((n : Int) % 2) = ((n % 2 : Nat) : Int) from by omega] <;> rfl
  have l1 := letter (j := n / 2) (by omega)
  have l0 := letter (j := 0) (by decide)
  have lst2 : prim C .lst [.p (.str ⟨#[]⟩), .p (.str ⟨#[97]⟩)] [SC a b c] = some (.p (.list [.str ⟨#[]⟩, .str ⟨#[97]⟩]), [SC a b c]) := rfl
  have i2 : ixP (.list [.str ⟨#[]⟩, .str ⟨#[97]⟩]) (.int ((n % 2 : Nat) : Int)) = some (.str (if n % 2 = 1 then ⟨#[97]⟩ else ⟨#[]⟩)) := by
    rcases Nat.mod_two_eq_zero_or_one n with e | e <;> rw [e] <;> rfl
  have gt : decide ((51 : Int) < (n : Int)) = false := by rw [decide_eq_false_iff_not]; omega
  have lt : ltP (.int (n : Int)) (.int 52) = some true := by
    show some (decide _) = _
    congr 1
    rw [decide_eq_true_eq]
    omega
  have mz : mulP (.str ⟨#[97 + 0]⟩) (.int 0) = some (.str ⟨#[]⟩) := rfl
  have a1 : addP (.str ⟨#[97 + n / 2]⟩) (.str (if n % 2 = 1 then ⟨#[97]⟩ else ⟨#[]⟩)) = some (.str (⟨#[97 + n / 2]⟩ ++ (if n % 2 = 1 then ⟨#[97]⟩ else ⟨#[]⟩))) := add_str (by split <;> first | exact (show 1 + 1 ≤ big by decide) | exact (show 1 + 0 ≤ big by decide))
  have a2 : ∀ y : Str, y.length ≤ 10 → addP (.str y) (.str ⟨#[]⟩) = some (.str y) := fun y hy => by
    rw [add_str (by
      have e : (⟨#[]⟩ : Str).length = 0 := rfl
      rw [e]
      unfold big
      omega)]
    exact congrArg (fun z => some (PyData.str z)) (PySem.Str.append_empty y)
  have hbl : ((⟨#[97 + n / 2]⟩ : Str) ++ (if n % 2 = 1 then ⟨#[97]⟩ else ⟨#[]⟩)).length ≤ 10 := by
    rw [PySem.Str.length_append]
    split <;> first | exact (show 1 + 1 ≤ 10 by decide) | exact (show 1 + 0 ≤ 10 by decide)
  have lst4 : ∀ S, prim C .lst [.p (.int 0), .p (.int 0), .p (.int 2), .p (.int 6)] S = some (.p (.list [.int 0, .int 0, .int 2, .int 6]), S) := fun _ => rfl
  obtain ⟨r, S1, d1, g1, r0, r1⟩ := draw (k := k) (S := [SC a b c]) (i := 0) (t := 4) stm0 (by decide) (by decide)
  obtain ⟨a', b', c', rfl⟩ := g1.one
  obtain ⟨d, hd, e4⟩ := pick (xs := [.int 0, .int 0, .int 2, .int 6]) r0 r1
  obtain ⟨w, rfl, w0, w6⟩ : ∃ w : Int, d = .int w ∧ 0 ≤ w ∧ w ≤ 6 := by
    simp only [List.mem_cons, List.not_mem_nil, or_false] at hd
    rcases hd with rfl | rfl | rfl | rfl
    · exact ⟨0, rfl, by decide, by decide⟩
    · exact ⟨0, rfl, by decide, by decide⟩
    · exact ⟨2, rfl, by decide, by decide⟩
    · exact ⟨6, rfl, by decide, by decide⟩
  have bi1 : biP .int [.int ((n % 2 : Nat) : Int)] = some (.int ((n % 2 : Nat) : Int)) := rfl
  have mw : mulP (.int w) (.int ((n % 2 : Nat) : Int)) = some (.int (w * ((n % 2 : Nat) : Int))) := mul_l (by omega)
  have mw2 : mulP (.int (w * ((n % 2 : Nat) : Int))) (.int 1) = some (.int (w * ((n % 2 : Nat) : Int))) := by
    rw [mul_r (by decide), Int.mul_one]
  have hw : 0 ≤ w * ((n % 2 : Nat) : Int) ∧ w * ((n % 2 : Nat) : Int) ≤ 6 := by
    rcases Nat.mod_two_eq_zero_or_one n with e | e <;> rw [e]
    · simp
    · simp [w0, w6]
  obtain ⟨nm, t, a2', b2', c2', hf, ex, x1, x2, x3⟩ := loop_name (k := k) (i := i) (m := (w * ((n % 2 : Nat) : Int)).toNat) (a := a') (b := b') (c := c') (e1 := some (.p (.int (n : Int)))) (e2 := none) (e4 := none) (base := ⟨#[97 + n / 2]⟩ ++ (if n % 2 = 1 then ⟨#[97]⟩ else ⟨#[]⟩)) rfl (by omega) (by omega)
  have bt : biP .int [.bool true] = some (.int 1) := rfl
  have bf : biP .int [.bool false] = some (.int 0) := rfl
  obtain ⟨S', e, g⟩ := call_stm (k := k + 1) (S := S) (i := i) (ps := [.int (n : Int)]) (rest := []) (v := .p (.str nm)) (r := .str nm) [some (.loc 0), some (.p (.int (n : Int))), none, none, none] g__law_name hs (by
    simp only [d__law_name, evB_cons, evB_nil, evS_asg, evS_par, evS_expr, evS_ret, evS_ifs, evS_raise, ev_var, ev_lit, ev_gcon, ev_gfn, ev_op, ev_and, ev_or, ev_not, ev_ite, ev_call, ev_chain, ev_meth, evL_nil, evL_cons, pr_add, pr_sub, pr_mul, pr_neg, pr_eq, pr_ne, pr_lt, pr_gt, pr_le, pr_ge, pr_isin, pr_notin, pr_ix, pr_sl00, pr_sl10, pr_sl01, pr_sl11, pr_bi, pr_bi2, pr_isnone, pr_notnone, pr_isi, pr_isic, isa_tuple, isa_str, isa_int, isa_bool, isa_list, bl_some, tru_p, truP_bool, truP_int, truP_none, truP_tuple, truP_list, eqP_int, eqP_str, ltP_str, ltP_int, bind_nm, bind_tp, bind_tpl, setAll_nil, setAll_cons, List.getElem?_cons_zero, List.getElem?_cons_succ, List.set_cons_zero, List.set_cons_succ, Option.map_some, Option.map_none, List.map_cons, List.map_nil, Bool.not_true, Bool.not_false, pm_index, pm_count, pm_join, pm_split, pm_replace, pm_upper, rv_index, rv_count, rv_join, rv_split, rv_upper, rv_replace, rv_indexL, rv_countL, Bool.false_eq_true, ↓reduceIte, ev_callv, evS_setIx, evS_swap, evS_retN, evS_pass, addP_int, f2, f52, m26, l1, l0, lst2, m2, i2, a1, gt, bf, mz, a2 _ hbl, l__law_name_0, evS_for, lst4, d1, e4, bi1, mw, lt, bt, mw2, rng1 (show w * ((n % 2 : Nat) : Int) ≤ big by unfold big; omega) hw.1, hf]
    rfl) rfl
  refine ⟨nm, S', e, g, ?_⟩
  have xb : cs ((⟨#[97 + n / 2]⟩ : Str) ++ (if n % 2 = 1 then ⟨#[97]⟩ else ⟨#[]⟩)) = (97 + n / 2) :: (if n % 2 = 1 then [97] else []) := by
    rw [cs_app]
    split <;> rfl
  rw [xb] at x1
  refine ⟨ex, ?_, by omega, x3⟩
  rw [x1]
  rcases Nat.mod_two_eq_zero_or_one n with e | e
  · have : ex = [] := by
      rw [e] at x2
      simp at x2
      exact x2
    rw [e, this]
    rfl
  · rw [e]
    rfl
end Mn

/-! Mp: texts of rows read. -/
namespace Mp
open PySem Ev Mb I Mr Mi Mw Mx NumText L2
variable {S : Store} {k : Nat}
theorem split_p {x y : Str} (hy : (y.length == 0) = false) (hx : x.length + 2 ≤ big) : meP .split [.str x, .str y] = some (.list ((Txt.split x y).map .str)) := if_pos ⟨hy, hx⟩
theorem part_len {x y a : Str} (h : a ∈ Txt.split x y) : a.length ≤ x.length := PyProof.Rows.part_short h
def valsL (c : Str) : List PyData := (Txt.split c comma).map parseInt
def lawScan (x : Str) : PyData := match Txt.split x sp with
  | [a, b, c, d] => .tuple [.str a, parseInt b, .tuple (valsL c), parseInt d]
  | _ => .tuple []
def valsP (c : Str) : PyData := if (valsL c).any (fun y => PyData.eqv y .none) then .none else .tuple (valsL c)
def progScan (x : Str) : PyData := match Txt.split x sp with
  | [a, b, c, d] => .tuple [.str a, parseInt b, valsP c, parseInt d]
  | _ => .none
theorem comp_pvals {x : Str} (hx : x.length ≤ 5000) {e1 e2 : Option Val} : ev C (callN C (k + 1)) c_parse_values_0 [some (.p (.str x)), e1, e2] [] = .ok (.p (.list (valsL x))) [] := by
  refine ev_comp (vs := [.p (.list ((Txt.split x comma).map .str))]) (fun (y : Str) => .p (.str y)) parseInt (Txt.split x comma) ?_ ?_ ?_ fun y hy => ⟨_, rfl, ?_⟩
  · have hs := split_p (x := x) (y := comma) rfl (by unfold big; omega)
    simp only [evB_cons, evB_nil, evS_asg, evS_par, evS_expr, evS_ret, evS_ifs, evS_raise, ev_var, ev_lit, ev_gcon, ev_gfn, ev_op, ev_and, ev_or, ev_not, ev_ite, ev_call, ev_chain, ev_meth, evL_nil, evL_cons, pr_add, pr_sub, pr_mul, pr_fdiv, pr_mod, pr_pow, pr_neg, pr_eq, pr_ne, pr_lt, pr_gt, pr_le, pr_ge, pr_isin, pr_notin, pr_ix, pr_sl00, pr_sl10, pr_sl01, pr_sl11, pr_bi, pr_bi2, pr_isnone, pr_notnone, pr_isi, pr_isic, isa_tuple, isa_str, isa_int, isa_bool, isa_list, bl_some, tru_p, truP_bool, truP_int, truP_none, truP_tuple, truP_list, eqP_int, eqP_str, ltP_str, ltP_int, bind_nm, bind_tp, bind_tpl, setAll_nil, setAll_cons, List.getElem?_cons_zero, List.getElem?_cons_succ, List.set_cons_zero, List.set_cons_succ, Option.map_some, Option.map_none, List.map_cons, List.map_nil, Bool.not_true, Bool.not_false, pm_index, pm_count, pm_join, pm_split, pm_replace, pm_upper, rv_index, rv_count, rv_join, rv_split, rv_upper, rv_replace, rv_indexL, rv_countL, Bool.false_eq_true, ↓reduceIte, hs]
  · show some (((Txt.split x comma).map PyData.str).map Val.p, none) = _
    rw [List.map_map]
    rfl
  · have := PyProof.Rows.split_le x comma
    unfold big
    omega
  · have := part_len hy
    simp only [evB_cons, evB_nil, evS_asg, evS_par, evS_expr, evS_ret, evS_ifs, evS_raise, ev_var, ev_lit, ev_gcon, ev_gfn, ev_op, ev_and, ev_or, ev_not, ev_ite, ev_call, ev_chain, ev_meth, evL_nil, evL_cons, pr_add, pr_sub, pr_mul, pr_fdiv, pr_mod, pr_pow, pr_neg, pr_eq, pr_ne, pr_lt, pr_gt, pr_le, pr_ge, pr_isin, pr_notin, pr_ix, pr_sl00, pr_sl10, pr_sl01, pr_sl11, pr_bi, pr_bi2, pr_isnone, pr_notnone, pr_isi, pr_isic, isa_tuple, isa_str, isa_int, isa_bool, isa_list, bl_some, tru_p, truP_bool, truP_int, truP_none, truP_tuple, truP_list, eqP_int, eqP_str, ltP_str, ltP_int, bind_nm, bind_tp, bind_tpl, setAll_nil, setAll_cons, List.getElem?_cons_zero, List.getElem?_cons_succ, List.set_cons_zero, List.set_cons_succ, Option.map_some, Option.map_none, List.map_cons, List.map_nil, Bool.not_true, Bool.not_false, pm_index, pm_count, pm_join, pm_split, pm_replace, pm_upper, rv_index, rv_count, rv_join, rv_split, rv_upper, rv_replace, rv_indexL, rv_countL, Bool.false_eq_true, ↓reduceIte, wipeE, parse_int (x := y) (by omega)]
theorem comp_lvals {x : Str} {ws : List PyData} (hw : ixP (.list ws) (.int 2) = some (.str x)) (hx : x.length ≤ 5000) {e0 e2 e3 : Option Val} : ev C (callN C (k + 1)) c__law_scan_row_0 [e0, some (.p (.list ws)), e2, e3] [] = .ok (.p (.list (valsL x))) [] := by
  refine ev_comp (vs := [.p (.list ((Txt.split x comma).map .str))]) (fun (y : Str) => .p (.str y)) parseInt (Txt.split x comma) ?_ ?_ ?_ fun y hy => ⟨_, rfl, ?_⟩
  · have hs := split_p (x := x) (y := comma) rfl (by unfold big; omega)
    simp only [evB_cons, evB_nil, evS_asg, evS_par, evS_expr, evS_ret, evS_ifs, evS_raise, ev_var, ev_lit, ev_gcon, ev_gfn, ev_op, ev_and, ev_or, ev_not, ev_ite, ev_call, ev_chain, ev_meth, evL_nil, evL_cons, pr_add, pr_sub, pr_mul, pr_fdiv, pr_mod, pr_pow, pr_neg, pr_eq, pr_ne, pr_lt, pr_gt, pr_le, pr_ge, pr_isin, pr_notin, pr_ix, pr_sl00, pr_sl10, pr_sl01, pr_sl11, pr_bi, pr_bi2, pr_isnone, pr_notnone, pr_isi, pr_isic, isa_tuple, isa_str, isa_int, isa_bool, isa_list, bl_some, tru_p, truP_bool, truP_int, truP_none, truP_tuple, truP_list, eqP_int, eqP_str, ltP_str, ltP_int, bind_nm, bind_tp, bind_tpl, setAll_nil, setAll_cons, List.getElem?_cons_zero, List.getElem?_cons_succ, List.set_cons_zero, List.set_cons_succ, Option.map_some, Option.map_none, List.map_cons, List.map_nil, Bool.not_true, Bool.not_false, pm_index, pm_count, pm_join, pm_split, pm_replace, pm_upper, rv_index, rv_count, rv_join, rv_split, rv_upper, rv_replace, rv_indexL, rv_countL, Bool.false_eq_true, ↓reduceIte, hw, hs]
  · show some (((Txt.split x comma).map PyData.str).map Val.p, none) = _
    rw [List.map_map]
    rfl
  · have := PyProof.Rows.split_le x comma
    unfold big
    omega
  · have := part_len hy
    simp only [evB_cons, evB_nil, evS_asg, evS_par, evS_expr, evS_ret, evS_ifs, evS_raise, ev_var, ev_lit, ev_gcon, ev_gfn, ev_op, ev_and, ev_or, ev_not, ev_ite, ev_call, ev_chain, ev_meth, evL_nil, evL_cons, pr_add, pr_sub, pr_mul, pr_fdiv, pr_mod, pr_pow, pr_neg, pr_eq, pr_ne, pr_lt, pr_gt, pr_le, pr_ge, pr_isin, pr_notin, pr_ix, pr_sl00, pr_sl10, pr_sl01, pr_sl11, pr_bi, pr_bi2, pr_isnone, pr_notnone, pr_isi, pr_isic, isa_tuple, isa_str, isa_int, isa_bool, isa_list, bl_some, tru_p, truP_bool, truP_int, truP_none, truP_tuple, truP_list, eqP_int, eqP_str, ltP_str, ltP_int, bind_nm, bind_tp, bind_tpl, setAll_nil, setAll_cons, List.getElem?_cons_zero, List.getElem?_cons_succ, List.set_cons_zero, List.set_cons_succ, Option.map_some, Option.map_none, List.map_cons, List.map_nil, Bool.not_true, Bool.not_false, pm_index, pm_count, pm_join, pm_split, pm_replace, pm_upper, rv_index, rv_count, rv_join, rv_split, rv_upper, rv_replace, rv_indexL, rv_countL, Bool.false_eq_true, ↓reduceIte, wipeE, law_int (x := y) (by omega)]
theorem parse_values {x : Str} (hx : x.length ≤ 5000) : callN C (k + 2) f_parse_values [.p (.str x)] S = .ok (.p (valsP x)) S := by
  refine call_rt (S1 := []) [some (.p (.str x)), none, none] g_parse_values ?_
  have hi : inP .none (.tuple (valsL x)) = some ((valsL x).any fun y => PyData.eqv y .none) := by
    simp only [inP]
    exact if_pos (by decide)
  unfold valsP
  cases hq : (valsL x).any (fun y => PyData.eqv y .none) <;> simp only [d_parse_values, evB_cons, evB_nil, evS_asg, evS_par, evS_expr, evS_ret, evS_ifs, evS_raise, ev_var, ev_lit, ev_gcon, ev_gfn, ev_op, ev_and, ev_or, ev_not, ev_ite, ev_call, ev_chain, ev_meth, evL_nil, evL_cons, pr_add, pr_sub, pr_mul, pr_fdiv, pr_mod, pr_pow, pr_neg, pr_eq, pr_ne, pr_lt, pr_gt, pr_le, pr_ge, pr_isin, pr_notin, pr_ix, pr_sl00, pr_sl10, pr_sl01, pr_sl11, pr_bi, pr_bi2, pr_isnone, pr_notnone, pr_isi, pr_isic, isa_tuple, isa_str, isa_int, isa_bool, isa_list, bl_some, tru_p, truP_bool, truP_int, truP_none, truP_tuple, truP_list, eqP_int, eqP_str, ltP_str, ltP_int, bind_nm, bind_tp, bind_tpl, setAll_nil, setAll_cons, List.getElem?_cons_zero, List.getElem?_cons_succ, List.set_cons_zero, List.set_cons_succ, Option.map_some, Option.map_none, List.map_cons, List.map_nil, Bool.not_true, Bool.not_false, pm_index, pm_count, pm_join, pm_split, pm_replace, pm_upper, rv_index, rv_count, rv_join, rv_split, rv_upper, rv_replace, rv_indexL, rv_countL, Bool.false_eq_true, ↓reduceIte, comp_pvals hx, biP_tuple, hi, hq] <;> rfl
theorem scan_row {x : Str} (hx : x.length ≤ 5000) : callN C (k + 3) f_scan_row [.p (.str x)] S = .ok (.p (progScan x)) S := by
  refine call_rt (S1 := []) [some (.p (.str x)), none, none, none, none, none] g_scan_row ?_
  have hs := split_p (x := x) (y := sp) rfl (by unfold big; omega)
  have hp : ∀ a ∈ Txt.split x sp, a.length ≤ 5000 := fun a ha => Nat.le_trans (part_len ha) hx
  unfold progScan
  revert hs hp
  generalize Txt.split x sp = ws
  intro hs hp
  match ws with
  | [] => simp only [d_scan_row, evB_cons, evB_nil, evS_asg, evS_par, evS_expr, evS_ret, evS_ifs, evS_raise, ev_var, ev_lit, ev_gcon, ev_gfn, ev_op, ev_and, ev_or, ev_not, ev_ite, ev_call, ev_chain, ev_meth, evL_nil, evL_cons, pr_add, pr_sub, pr_mul, pr_fdiv, pr_mod, pr_pow, pr_neg, pr_eq, pr_ne, pr_lt, pr_gt, pr_le, pr_ge, pr_isin, pr_notin, pr_ix, pr_sl00, pr_sl10, pr_sl01, pr_sl11, pr_bi, pr_bi2, pr_isnone, pr_notnone, pr_isi, pr_isic, isa_tuple, isa_str, isa_int, isa_bool, isa_list, bl_some, tru_p, truP_bool, truP_int, truP_none, truP_tuple, truP_list, eqP_int, eqP_str, ltP_str, ltP_int, bind_nm, bind_tp, bind_tpl, setAll_nil, setAll_cons, List.getElem?_cons_zero, List.getElem?_cons_succ, List.set_cons_zero, List.set_cons_succ, Option.map_some, Option.map_none, List.map_cons, List.map_nil, Bool.not_true, Bool.not_false, pm_index, pm_count, pm_join, pm_split, pm_replace, pm_upper, rv_index, rv_count, rv_join, rv_split, rv_upper, rv_replace, rv_indexL, rv_countL, Bool.false_eq_true, ↓reduceIte, hs, biP_len_list] <;> rfl
  | [_] => simp only [d_scan_row, evB_cons, evB_nil, evS_asg, evS_par, evS_expr, evS_ret, evS_ifs, evS_raise, ev_var, ev_lit, ev_gcon, ev_gfn, ev_op, ev_and, ev_or, ev_not, ev_ite, ev_call, ev_chain, ev_meth, evL_nil, evL_cons, pr_add, pr_sub, pr_mul, pr_fdiv, pr_mod, pr_pow, pr_neg, pr_eq, pr_ne, pr_lt, pr_gt, pr_le, pr_ge, pr_isin, pr_notin, pr_ix, pr_sl00, pr_sl10, pr_sl01, pr_sl11, pr_bi, pr_bi2, pr_isnone, pr_notnone, pr_isi, pr_isic, isa_tuple, isa_str, isa_int, isa_bool, isa_list, bl_some, tru_p, truP_bool, truP_int, truP_none, truP_tuple, truP_list, eqP_int, eqP_str, ltP_str, ltP_int, bind_nm, bind_tp, bind_tpl, setAll_nil, setAll_cons, List.getElem?_cons_zero, List.getElem?_cons_succ, List.set_cons_zero, List.set_cons_succ, Option.map_some, Option.map_none, List.map_cons, List.map_nil, Bool.not_true, Bool.not_false, pm_index, pm_count, pm_join, pm_split, pm_replace, pm_upper, rv_index, rv_count, rv_join, rv_split, rv_upper, rv_replace, rv_indexL, rv_countL, Bool.false_eq_true, ↓reduceIte, hs, biP_len_list] <;> rfl
  | [_, _] => simp only [d_scan_row, evB_cons, evB_nil, evS_asg, evS_par, evS_expr, evS_ret, evS_ifs, evS_raise, ev_var, ev_lit, ev_gcon, ev_gfn, ev_op, ev_and, ev_or, ev_not, ev_ite, ev_call, ev_chain, ev_meth, evL_nil, evL_cons, pr_add, pr_sub, pr_mul, pr_fdiv, pr_mod, pr_pow, pr_neg, pr_eq, pr_ne, pr_lt, pr_gt, pr_le, pr_ge, pr_isin, pr_notin, pr_ix, pr_sl00, pr_sl10, pr_sl01, pr_sl11, pr_bi, pr_bi2, pr_isnone, pr_notnone, pr_isi, pr_isic, isa_tuple, isa_str, isa_int, isa_bool, isa_list, bl_some, tru_p, truP_bool, truP_int, truP_none, truP_tuple, truP_list, eqP_int, eqP_str, ltP_str, ltP_int, bind_nm, bind_tp, bind_tpl, setAll_nil, setAll_cons, List.getElem?_cons_zero, List.getElem?_cons_succ, List.set_cons_zero, List.set_cons_succ, Option.map_some, Option.map_none, List.map_cons, List.map_nil, Bool.not_true, Bool.not_false, pm_index, pm_count, pm_join, pm_split, pm_replace, pm_upper, rv_index, rv_count, rv_join, rv_split, rv_upper, rv_replace, rv_indexL, rv_countL, Bool.false_eq_true, ↓reduceIte, hs, biP_len_list] <;> rfl
  | [_, _, _] => simp only [d_scan_row, evB_cons, evB_nil, evS_asg, evS_par, evS_expr, evS_ret, evS_ifs, evS_raise, ev_var, ev_lit, ev_gcon, ev_gfn, ev_op, ev_and, ev_or, ev_not, ev_ite, ev_call, ev_chain, ev_meth, evL_nil, evL_cons, pr_add, pr_sub, pr_mul, pr_fdiv, pr_mod, pr_pow, pr_neg, pr_eq, pr_ne, pr_lt, pr_gt, pr_le, pr_ge, pr_isin, pr_notin, pr_ix, pr_sl00, pr_sl10, pr_sl01, pr_sl11, pr_bi, pr_bi2, pr_isnone, pr_notnone, pr_isi, pr_isic, isa_tuple, isa_str, isa_int, isa_bool, isa_list, bl_some, tru_p, truP_bool, truP_int, truP_none, truP_tuple, truP_list, eqP_int, eqP_str, ltP_str, ltP_int, bind_nm, bind_tp, bind_tpl, setAll_nil, setAll_cons, List.getElem?_cons_zero, List.getElem?_cons_succ, List.set_cons_zero, List.set_cons_succ, Option.map_some, Option.map_none, List.map_cons, List.map_nil, Bool.not_true, Bool.not_false, pm_index, pm_count, pm_join, pm_split, pm_replace, pm_upper, rv_index, rv_count, rv_join, rv_split, rv_upper, rv_replace, rv_indexL, rv_countL, Bool.false_eq_true, ↓reduceIte, hs, biP_len_list] <;> rfl
  | [a, b, c, d] =>
    have h4 : ((([PyData.str a, .str b, .str c, .str d].length : Nat) : Int) == 4) = true := rfl
    have ht : ∀ (u v w z : PyData), prim C .tup [.p u, .p v, .p w, .p z] [] = some (.p (.tuple [u, v, w, z]), []) := fun _ _ _ _ => rfl
    simp only [d_scan_row, evB_cons, evB_nil, evS_asg, evS_par, evS_expr, evS_ret, evS_ifs, evS_raise, ev_var, ev_lit, ev_gcon, ev_gfn, ev_op, ev_and, ev_or, ev_not, ev_ite, ev_call, ev_chain, ev_meth, evL_nil, evL_cons, pr_add, pr_sub, pr_mul, pr_fdiv, pr_mod, pr_pow, pr_neg, pr_eq, pr_ne, pr_lt, pr_gt, pr_le, pr_ge, pr_isin, pr_notin, pr_ix, pr_sl00, pr_sl10, pr_sl01, pr_sl11, pr_bi, pr_bi2, pr_isnone, pr_notnone, pr_isi, pr_isic, isa_tuple, isa_str, isa_int, isa_bool, isa_list, bl_some, tru_p, truP_bool, truP_int, truP_none, truP_tuple, truP_list, eqP_int, eqP_str, ltP_str, ltP_int, bind_nm, bind_tp, bind_tpl, setAll_nil, setAll_cons, List.getElem?_cons_zero, List.getElem?_cons_succ, List.set_cons_zero, List.set_cons_succ, Option.map_some, Option.map_none, List.map_cons, List.map_nil, Bool.not_true, Bool.not_false, pm_index, pm_count, pm_join, pm_split, pm_replace, pm_upper, rv_index, rv_count, rv_join, rv_split, rv_upper, rv_replace, rv_indexL, rv_countL, Bool.false_eq_true, ↓reduceIte, hs, biP_len_list, h4, parse_int (x := b) (hp b (by simp)), parse_int (x := d) (hp d (by simp)), parse_values (x := c) (hp c (by simp)), ht]
  | a :: b :: c :: d :: e :: f =>
    have h : (((((a :: b :: c :: d :: e :: f).map PyData.str).length : Nat) : Int) == 4) = false := by simp; omega
    simp only [d_scan_row, ev_meth, evB_cons, evS_asg, ev_var, ev_lit, List.getElem?_cons_zero, evL_cons, evL_nil, pm_split, rv_split, ↓reduceIte, Option.map_some, hs, bind_nm, evS_ifs, ev_op, List.set_cons_succ, List.set_cons_zero, List.getElem?_cons_succ, pr_bi, biP_len_list, pr_ne, eqP_int, h, bl_some, tru_p, truP_bool, Bool.not_false, Bool.false_eq_true]
    simp only [evB_cons, evB_nil, evS_asg, evS_par, evS_expr, evS_ret, evS_ifs, evS_raise, ev_var, ev_lit, ev_gcon, ev_gfn, ev_op, ev_and, ev_or, ev_not, ev_ite, ev_call, ev_chain, ev_meth, evL_nil, evL_cons, pr_add, pr_sub, pr_mul, pr_fdiv, pr_mod, pr_pow, pr_neg, pr_eq, pr_ne, pr_lt, pr_gt, pr_le, pr_ge, pr_isin, pr_notin, pr_ix, pr_sl00, pr_sl10, pr_sl01, pr_sl11, pr_bi, pr_bi2, pr_isnone, pr_notnone, pr_isi, pr_isic, isa_tuple, isa_str, isa_int, isa_bool, isa_list, bl_some, tru_p, truP_bool, truP_int, truP_none, truP_tuple, truP_list, eqP_int, eqP_str, ltP_str, ltP_int, bind_nm, bind_tp, bind_tpl, setAll_nil, setAll_cons, List.getElem?_cons_zero, List.getElem?_cons_succ, List.set_cons_zero, List.set_cons_succ, Option.map_some, Option.map_none, List.map_cons, List.map_nil, Bool.not_true, Bool.not_false, pm_index, pm_count, pm_join, pm_split, pm_replace, pm_upper, rv_index, rv_count, rv_join, rv_split, rv_upper, rv_replace, rv_indexL, rv_countL, Bool.false_eq_true, ↓reduceIte]
theorem law_scan_row {x : Str} (hx : x.length ≤ 5000) : callN C (k + 2) f__law_scan_row [.p (.str x)] S = .ok (.p (lawScan x)) S := by
  refine call_rt (S1 := []) [some (.p (.str x)), none, none, none] g__law_scan_row ?_
  have hs := split_p (x := x) (y := sp) rfl (by unfold big; omega)
  have hp : ∀ a ∈ Txt.split x sp, a.length ≤ 5000 := fun a ha => Nat.le_trans (part_len ha) hx
  have h0 : prim C .tup [] [] = some (.p (.tuple []), []) := rfl
  unfold lawScan
  revert hs hp
  generalize Txt.split x sp = ws
  intro hs hp
  match ws with
  | [] => simp only [d__law_scan_row, evB_cons, evB_nil, evS_asg, evS_par, evS_expr, evS_ret, evS_ifs, evS_raise, ev_var, ev_lit, ev_gcon, ev_gfn, ev_op, ev_and, ev_or, ev_not, ev_ite, ev_call, ev_chain, ev_meth, evL_nil, evL_cons, pr_add, pr_sub, pr_mul, pr_fdiv, pr_mod, pr_pow, pr_neg, pr_eq, pr_ne, pr_lt, pr_gt, pr_le, pr_ge, pr_isin, pr_notin, pr_ix, pr_sl00, pr_sl10, pr_sl01, pr_sl11, pr_bi, pr_bi2, pr_isnone, pr_notnone, pr_isi, pr_isic, isa_tuple, isa_str, isa_int, isa_bool, isa_list, bl_some, tru_p, truP_bool, truP_int, truP_none, truP_tuple, truP_list, eqP_int, eqP_str, ltP_str, ltP_int, bind_nm, bind_tp, bind_tpl, setAll_nil, setAll_cons, List.getElem?_cons_zero, List.getElem?_cons_succ, List.set_cons_zero, List.set_cons_succ, Option.map_some, Option.map_none, List.map_cons, List.map_nil, Bool.not_true, Bool.not_false, pm_index, pm_count, pm_join, pm_split, pm_replace, pm_upper, rv_index, rv_count, rv_join, rv_split, rv_upper, rv_replace, rv_indexL, rv_countL, Bool.false_eq_true, ↓reduceIte, hs, biP_len_list] <;> rfl
  | [_] => simp only [d__law_scan_row, evB_cons, evB_nil, evS_asg, evS_par, evS_expr, evS_ret, evS_ifs, evS_raise, ev_var, ev_lit, ev_gcon, ev_gfn, ev_op, ev_and, ev_or, ev_not, ev_ite, ev_call, ev_chain, ev_meth, evL_nil, evL_cons, pr_add, pr_sub, pr_mul, pr_fdiv, pr_mod, pr_pow, pr_neg, pr_eq, pr_ne, pr_lt, pr_gt, pr_le, pr_ge, pr_isin, pr_notin, pr_ix, pr_sl00, pr_sl10, pr_sl01, pr_sl11, pr_bi, pr_bi2, pr_isnone, pr_notnone, pr_isi, pr_isic, isa_tuple, isa_str, isa_int, isa_bool, isa_list, bl_some, tru_p, truP_bool, truP_int, truP_none, truP_tuple, truP_list, eqP_int, eqP_str, ltP_str, ltP_int, bind_nm, bind_tp, bind_tpl, setAll_nil, setAll_cons, List.getElem?_cons_zero, List.getElem?_cons_succ, List.set_cons_zero, List.set_cons_succ, Option.map_some, Option.map_none, List.map_cons, List.map_nil, Bool.not_true, Bool.not_false, pm_index, pm_count, pm_join, pm_split, pm_replace, pm_upper, rv_index, rv_count, rv_join, rv_split, rv_upper, rv_replace, rv_indexL, rv_countL, Bool.false_eq_true, ↓reduceIte, hs, biP_len_list] <;> rfl
  | [_, _] => simp only [d__law_scan_row, evB_cons, evB_nil, evS_asg, evS_par, evS_expr, evS_ret, evS_ifs, evS_raise, ev_var, ev_lit, ev_gcon, ev_gfn, ev_op, ev_and, ev_or, ev_not, ev_ite, ev_call, ev_chain, ev_meth, evL_nil, evL_cons, pr_add, pr_sub, pr_mul, pr_fdiv, pr_mod, pr_pow, pr_neg, pr_eq, pr_ne, pr_lt, pr_gt, pr_le, pr_ge, pr_isin, pr_notin, pr_ix, pr_sl00, pr_sl10, pr_sl01, pr_sl11, pr_bi, pr_bi2, pr_isnone, pr_notnone, pr_isi, pr_isic, isa_tuple, isa_str, isa_int, isa_bool, isa_list, bl_some, tru_p, truP_bool, truP_int, truP_none, truP_tuple, truP_list, eqP_int, eqP_str, ltP_str, ltP_int, bind_nm, bind_tp, bind_tpl, setAll_nil, setAll_cons, List.getElem?_cons_zero, List.getElem?_cons_succ, List.set_cons_zero, List.set_cons_succ, Option.map_some, Option.map_none, List.map_cons, List.map_nil, Bool.not_true, Bool.not_false, pm_index, pm_count, pm_join, pm_split, pm_replace, pm_upper, rv_index, rv_count, rv_join, rv_split, rv_upper, rv_replace, rv_indexL, rv_countL, Bool.false_eq_true, ↓reduceIte, hs, biP_len_list] <;> rfl
  | [_, _, _] => simp only [d__law_scan_row, evB_cons, evB_nil, evS_asg, evS_par, evS_expr, evS_ret, evS_ifs, evS_raise, ev_var, ev_lit, ev_gcon, ev_gfn, ev_op, ev_and, ev_or, ev_not, ev_ite, ev_call, ev_chain, ev_meth, evL_nil, evL_cons, pr_add, pr_sub, pr_mul, pr_fdiv, pr_mod, pr_pow, pr_neg, pr_eq, pr_ne, pr_lt, pr_gt, pr_le, pr_ge, pr_isin, pr_notin, pr_ix, pr_sl00, pr_sl10, pr_sl01, pr_sl11, pr_bi, pr_bi2, pr_isnone, pr_notnone, pr_isi, pr_isic, isa_tuple, isa_str, isa_int, isa_bool, isa_list, bl_some, tru_p, truP_bool, truP_int, truP_none, truP_tuple, truP_list, eqP_int, eqP_str, ltP_str, ltP_int, bind_nm, bind_tp, bind_tpl, setAll_nil, setAll_cons, List.getElem?_cons_zero, List.getElem?_cons_succ, List.set_cons_zero, List.set_cons_succ, Option.map_some, Option.map_none, List.map_cons, List.map_nil, Bool.not_true, Bool.not_false, pm_index, pm_count, pm_join, pm_split, pm_replace, pm_upper, rv_index, rv_count, rv_join, rv_split, rv_upper, rv_replace, rv_indexL, rv_countL, Bool.false_eq_true, ↓reduceIte, hs, biP_len_list] <;> rfl
  | [a, b, c, d] =>
    have h4 : ((([PyData.str a, .str b, .str c, .str d].length : Nat) : Int) == 4) = true := rfl
    have ht : ∀ (u v w z : PyData), prim C .tup [.p u, .p v, .p w, .p z] [] = some (.p (.tuple [u, v, w, z]), []) := fun _ _ _ _ => rfl
    have i0 : ixP (.list [.str a, .str b, .str c, .str d]) (.int 0) = some (.str a) := rfl
    have i1 : ixP (.list [.str a, .str b, .str c, .str d]) (.int 1) = some (.str b) := rfl
    have i2 : ixP (.list [.str a, .str b, .str c, .str d]) (.int 2) = some (.str c) := rfl
    have i3 : ixP (.list [.str a, .str b, .str c, .str d]) (.int 3) = some (.str d) := rfl
    simp only [d__law_scan_row, evB_cons, evB_nil, evS_asg, evS_par, evS_expr, evS_ret, evS_ifs, evS_raise, ev_var, ev_lit, ev_gcon, ev_gfn, ev_op, ev_and, ev_or, ev_not, ev_ite, ev_call, ev_chain, ev_meth, evL_nil, evL_cons, pr_add, pr_sub, pr_mul, pr_fdiv, pr_mod, pr_pow, pr_neg, pr_eq, pr_ne, pr_lt, pr_gt, pr_le, pr_ge, pr_isin, pr_notin, pr_ix, pr_sl00, pr_sl10, pr_sl01, pr_sl11, pr_bi, pr_bi2, pr_isnone, pr_notnone, pr_isi, pr_isic, isa_tuple, isa_str, isa_int, isa_bool, isa_list, bl_some, tru_p, truP_bool, truP_int, truP_none, truP_tuple, truP_list, eqP_int, eqP_str, ltP_str, ltP_int, bind_nm, bind_tp, bind_tpl, setAll_nil, setAll_cons, List.getElem?_cons_zero, List.getElem?_cons_succ, List.set_cons_zero, List.set_cons_succ, Option.map_some, Option.map_none, List.map_cons, List.map_nil, Bool.not_true, Bool.not_false, pm_index, pm_count, pm_join, pm_split, pm_replace, pm_upper, rv_index, rv_count, rv_join, rv_split, rv_upper, rv_replace, rv_indexL, rv_countL, Bool.false_eq_true, ↓reduceIte, hs, biP_len_list, h4, comp_lvals (x := c) i2 (hp c (by simp)), biP_tuple, i0, i1, i3, law_int (x := b) (hp b (by simp)), law_int (x := d) (hp d (by simp)), ht]
  | a :: b :: c :: d :: e :: f =>
    have h : (((((a :: b :: c :: d :: e :: f).map PyData.str).length : Nat) : Int) == 4) = false := by simp; omega
    simp only [d__law_scan_row, ev_meth, evB_cons, evS_asg, ev_var, ev_lit, List.getElem?_cons_zero, evL_cons, evL_nil, pm_split, rv_split, ↓reduceIte, Option.map_some, hs, bind_nm, evS_ifs, ev_op, List.set_cons_succ, List.set_cons_zero, List.getElem?_cons_succ, pr_bi, biP_len_list, pr_ne, eqP_int, h, bl_some, tru_p, truP_bool, Bool.not_false, Bool.false_eq_true]
    simp only [evB_cons, evB_nil, evS_asg, evS_par, evS_expr, evS_ret, evS_ifs, evS_raise, ev_var, ev_lit, ev_gcon, ev_gfn, ev_op, ev_and, ev_or, ev_not, ev_ite, ev_call, ev_chain, ev_meth, evL_nil, evL_cons, pr_add, pr_sub, pr_mul, pr_fdiv, pr_mod, pr_pow, pr_neg, pr_eq, pr_ne, pr_lt, pr_gt, pr_le, pr_ge, pr_isin, pr_notin, pr_ix, pr_sl00, pr_sl10, pr_sl01, pr_sl11, pr_bi, pr_bi2, pr_isnone, pr_notnone, pr_isi, pr_isic, isa_tuple, isa_str, isa_int, isa_bool, isa_list, bl_some, tru_p, truP_bool, truP_int, truP_none, truP_tuple, truP_list, eqP_int, eqP_str, ltP_str, ltP_int, bind_nm, bind_tp, bind_tpl, setAll_nil, setAll_cons, List.getElem?_cons_zero, List.getElem?_cons_succ, List.set_cons_zero, List.set_cons_succ, Option.map_some, Option.map_none, List.map_cons, List.map_nil, Bool.not_true, Bool.not_false, pm_index, pm_count, pm_join, pm_split, pm_replace, pm_upper, rv_index, rv_count, rv_join, rv_split, rv_upper, rv_replace, rv_indexL, rv_countL, Bool.false_eq_true, ↓reduceIte, h0]
/-! ### both readings agree -/
theorem vals_row {c : Str} : areValues (valsP c) = areValues (.tuple (valsL c)) ∧ (areValues (.tuple (valsL c)) = true → valsP c = .tuple (valsL c)) := by
  unfold valsP
  cases hq : (valsL c).any (fun y => PyData.eqv y .none) with
  | false => exact ⟨rfl, fun _ => rfl⟩
  | true =>
    have : areValues (.tuple (valsL c)) = false := by
      rw [List.any_eq_true] at hq
      obtain ⟨y, hy, e⟩ := hq
      have hz : isBetween y (-1000000000) 1000000000 = false := by
        cases y with
        | int i => cases e
        | _ => rfl
      show (_ && (valsL c).all fun v => isBetween v (-1000000000) 1000000000) = false
      have : ((valsL c).all fun v => isBetween v (-1000000000) 1000000000) = false := by
        rw [List.all_eq_false]
        exact ⟨y, hy, by rw [hz]; simp⟩
      rw [this, Bool.and_false]
    rw [this]
    exact ⟨rfl, fun h => by cases h⟩
theorem scan_same (x : Str) : isRow (progScan x) = isRow (lawScan x) ∧ (isRow (lawScan x) = true → progScan x = lawScan x) := by
  unfold progScan lawScan
  generalize Txt.split x sp = ws
  match ws with
  | [] => exact ⟨rfl, fun h => by cases h⟩
  | [_] => exact ⟨rfl, fun h => by cases h⟩
  | [_, _] => exact ⟨rfl, fun h => by cases h⟩
  | [_, _, _] => exact ⟨rfl, fun h => by cases h⟩
  | [a, b, c, d] =>
    obtain ⟨h1, h2⟩ := vals_row (c := c)
    constructor
    · show (_ && areValues (valsP c) && _) = (_ && areValues (.tuple (valsL c)) && _)
      rw [h1]
    · intro h
      have h' : (_ && areValues (.tuple (valsL c)) && _) = true := h
      simp only [Bool.and_eq_true] at h'
      show PyData.tuple [PyData.str a, parseInt b, valsP c, parseInt d] = _
      rw [h2 h'.1.2]
  | _ :: _ :: _ :: _ :: _ :: _ => exact ⟨rfl, fun h => by cases h⟩
theorem sized_scan {x : Str} (hx : x.length ≤ 5000) : sizedRow (lawScan x) ∧ sizedRow (progScan x) := by
  have hp : ∀ a ∈ Txt.split x sp, a.length ≤ 5000 := fun a ha => Nat.le_trans (part_len ha) hx
  unfold progScan lawScan
  revert hp
  generalize Txt.split x sp = ws
  intro hp
  match ws with
  | [] => exact ⟨trivial, trivial⟩
  | [_] => exact ⟨trivial, trivial⟩
  | [_, _] => exact ⟨trivial, trivial⟩
  | [_, _, _] => exact ⟨trivial, trivial⟩
  | [a, b, c, d] => exact ⟨Nat.le_trans (hp a (by simp)) (by decide), Nat.le_trans (hp a (by simp)) (by decide)⟩
  | _ :: _ :: _ :: _ :: _ :: _ => exact ⟨trivial, trivial⟩
theorem require_str {x : Str} : callN C (k + 1) f_require_string [.p (.str x)] S = .ok (.p .none) S := by
  refine call_nx (S1 := []) (env1 := [some (.p (.str x))]) [some (.p (.str x))] g_require_string ?_
  simp only [d_require_string, evB_cons, evB_nil, evS_asg, evS_par, evS_expr, evS_ret, evS_ifs, evS_raise, ev_var, ev_lit, ev_gcon, ev_gfn, ev_op, ev_and, ev_or, ev_not, ev_ite, ev_call, ev_chain, ev_meth, evL_nil, evL_cons, pr_add, pr_sub, pr_mul, pr_fdiv, pr_mod, pr_pow, pr_neg, pr_eq, pr_ne, pr_lt, pr_gt, pr_le, pr_ge, pr_isin, pr_notin, pr_ix, pr_sl00, pr_sl10, pr_sl01, pr_sl11, pr_bi, pr_bi2, pr_isnone, pr_notnone, pr_isi, pr_isic, isa_tuple, isa_str, isa_int, isa_bool, isa_list, bl_some, tru_p, truP_bool, truP_int, truP_none, truP_tuple, truP_list, eqP_int, eqP_str, ltP_str, ltP_int, bind_nm, bind_tp, bind_tpl, setAll_nil, setAll_cons, List.getElem?_cons_zero, List.getElem?_cons_succ, List.set_cons_zero, List.set_cons_succ, Option.map_some, Option.map_none, List.map_cons, List.map_nil, Bool.not_true, Bool.not_false, pm_index, pm_count, pm_join, pm_split, pm_replace, pm_upper, rv_index, rv_count, rv_join, rv_split, rv_upper, rv_replace, rv_indexL, rv_countL, Bool.false_eq_true, ↓reduceIte, PyData.isStr]
def outD (o : Option Row) : PyData := match o with
  | some r => r.d
  | none => .none
def outR (o : Option PyData) (S : Store) : Res := match o with
  | some d => .ok (.p d) S
  | none => .ex cl_ParseError [] S
theorem parsed0 {x : Str} (hx : x.length ≤ 5000) : ∃ o : Option Row, (∀ r, o = some r → r.Ok) ∧ ∀ (k : Nat) (S : Store), callN C (k + 5) f__law_parsed [.p (.str x), .p (.int 0)] S = .ok (.p (outD o)) S ∧ callN C (k + 5) f_parse_row [.p (.str x)] S = outR (o.map Row.d) S := by
  obtain ⟨s1, s2⟩ := scan_same x
  obtain ⟨z1, z2⟩ := sized_scan hx
  cases h : isRow (lawScan x) with
  | false =>
    refine ⟨none, ⟨fun r h => by simp at h, fun k S => ⟨?_, ?_⟩⟩⟩
    · refine call_rt (S1 := []) [some (.p (.str x)), some (.p (.int 0)), none, none, none] g__law_parsed ?_
      simp only [d__law_parsed, evB_cons, evB_nil, evS_asg, evS_par, evS_expr, evS_ret, evS_ifs, evS_raise, ev_var, ev_lit, ev_gcon, ev_gfn, ev_op, ev_and, ev_or, ev_not, ev_ite, ev_call, ev_chain, ev_meth, evL_nil, evL_cons, pr_add, pr_sub, pr_mul, pr_fdiv, pr_mod, pr_pow, pr_neg, pr_eq, pr_ne, pr_lt, pr_gt, pr_le, pr_ge, pr_isin, pr_notin, pr_ix, pr_sl00, pr_sl10, pr_sl01, pr_sl11, pr_bi, pr_bi2, pr_isnone, pr_notnone, pr_isi, pr_isic, isa_tuple, isa_str, isa_int, isa_bool, isa_list, bl_some, tru_p, truP_bool, truP_int, truP_none, truP_tuple, truP_list, eqP_int, eqP_str, ltP_str, ltP_int, bind_nm, bind_tp, bind_tpl, setAll_nil, setAll_cons, List.getElem?_cons_zero, List.getElem?_cons_succ, List.set_cons_zero, List.set_cons_succ, Option.map_some, Option.map_none, List.map_cons, List.map_nil, Bool.not_true, Bool.not_false, pm_index, pm_count, pm_join, pm_split, pm_replace, pm_upper, rv_index, rv_count, rv_join, rv_split, rv_upper, rv_replace, rv_indexL, rv_countL, Bool.false_eq_true, ↓reduceIte, law_scan_row hx, row z1, h, show ((0 : Int) == 0) = true from rfl] <;> rfl
    · refine call_ex (S1 := []) (env1 := [some (.p (.str x)), some (.p (progScan x))]) [some (.p (.str x)), none] g_parse_row ?_
      simp only [d_parse_row, evB_cons, evB_nil, evS_asg, evS_par, evS_expr, evS_ret, evS_ifs, evS_raise, ev_var, ev_lit, ev_gcon, ev_gfn, ev_op, ev_and, ev_or, ev_not, ev_ite, ev_call, ev_chain, ev_meth, evL_nil, evL_cons, pr_add, pr_sub, pr_mul, pr_fdiv, pr_mod, pr_pow, pr_neg, pr_eq, pr_ne, pr_lt, pr_gt, pr_le, pr_ge, pr_isin, pr_notin, pr_ix, pr_sl00, pr_sl10, pr_sl01, pr_sl11, pr_bi, pr_bi2, pr_isnone, pr_notnone, pr_isi, pr_isic, isa_tuple, isa_str, isa_int, isa_bool, isa_list, bl_some, tru_p, truP_bool, truP_int, truP_none, truP_tuple, truP_list, eqP_int, eqP_str, ltP_str, ltP_int, bind_nm, bind_tp, bind_tpl, setAll_nil, setAll_cons, List.getElem?_cons_zero, List.getElem?_cons_succ, List.set_cons_zero, List.set_cons_succ, Option.map_some, Option.map_none, List.map_cons, List.map_nil, Bool.not_true, Bool.not_false, pm_index, pm_count, pm_join, pm_split, pm_replace, pm_upper, rv_index, rv_count, rv_join, rv_split, rv_upper, rv_replace, rv_indexL, rv_countL, Bool.false_eq_true, ↓reduceIte, require_str, scan_row hx, row z2, s1, h]
  | true =>
    obtain ⟨r, hr, ok⟩ := of_row h
    have hq := s2 h
    rw [hr] at hq h
    rw [hr] at z1
    have hs : ∀ (k : Nat), callN C (k + 2) f__law_scan_row [.p (.str x)] [] = .ok (.p r.d) [] := fun k => by rw [law_scan_row hx, hr]
    have hs2 : ∀ (k : Nat), callN C (k + 3) f_scan_row [.p (.str x)] [] = .ok (.p r.d) [] := fun k => by rw [scan_row hx, hq]
    cases he : (r.txt == x) with
    | false =>
      refine ⟨none, ⟨fun r h => by simp at h, fun k S => ⟨?_, ?_⟩⟩⟩
      · refine call_rt (S1 := []) [some (.p (.str x)), some (.p (.int 0)), none, none, none] g__law_parsed ?_
        simp only [d__law_parsed, evB_cons, evB_nil, evS_asg, evS_par, evS_expr, evS_ret, evS_ifs, evS_raise, ev_var, ev_lit, ev_gcon, ev_gfn, ev_op, ev_and, ev_or, ev_not, ev_ite, ev_call, ev_chain, ev_meth, evL_nil, evL_cons, pr_add, pr_sub, pr_mul, pr_fdiv, pr_mod, pr_pow, pr_neg, pr_eq, pr_ne, pr_lt, pr_gt, pr_le, pr_ge, pr_isin, pr_notin, pr_ix, pr_sl00, pr_sl10, pr_sl01, pr_sl11, pr_bi, pr_bi2, pr_isnone, pr_notnone, pr_isi, pr_isic, isa_tuple, isa_str, isa_int, isa_bool, isa_list, bl_some, tru_p, truP_bool, truP_int, truP_none, truP_tuple, truP_list, eqP_int, eqP_str, ltP_str, ltP_int, bind_nm, bind_tp, bind_tpl, setAll_nil, setAll_cons, List.getElem?_cons_zero, List.getElem?_cons_succ, List.set_cons_zero, List.set_cons_succ, Option.map_some, Option.map_none, List.map_cons, List.map_nil, Bool.not_true, Bool.not_false, pm_index, pm_count, pm_join, pm_split, pm_replace, pm_upper, rv_index, rv_count, rv_join, rv_split, rv_upper, rv_replace, rv_indexL, rv_countL, Bool.false_eq_true, ↓reduceIte, hs, row z1, h, show ((0 : Int) == 0) = true from rfl, law_row_text ok, he] <;> rfl
      · refine call_ex (S1 := []) (env1 := [some (.p (.str x)), some (.p r.d)]) [some (.p (.str x)), none] g_parse_row ?_
        simp only [d_parse_row, evB_cons, evB_nil, evS_asg, evS_par, evS_expr, evS_ret, evS_ifs, evS_raise, ev_var, ev_lit, ev_gcon, ev_gfn, ev_op, ev_and, ev_or, ev_not, ev_ite, ev_call, ev_chain, ev_meth, evL_nil, evL_cons, pr_add, pr_sub, pr_mul, pr_fdiv, pr_mod, pr_pow, pr_neg, pr_eq, pr_ne, pr_lt, pr_gt, pr_le, pr_ge, pr_isin, pr_notin, pr_ix, pr_sl00, pr_sl10, pr_sl01, pr_sl11, pr_bi, pr_bi2, pr_isnone, pr_notnone, pr_isi, pr_isic, isa_tuple, isa_str, isa_int, isa_bool, isa_list, bl_some, tru_p, truP_bool, truP_int, truP_none, truP_tuple, truP_list, eqP_int, eqP_str, ltP_str, ltP_int, bind_nm, bind_tp, bind_tpl, setAll_nil, setAll_cons, List.getElem?_cons_zero, List.getElem?_cons_succ, List.set_cons_zero, List.set_cons_succ, Option.map_some, Option.map_none, List.map_cons, List.map_nil, Bool.not_true, Bool.not_false, pm_index, pm_count, pm_join, pm_split, pm_replace, pm_upper, rv_index, rv_count, rv_join, rv_split, rv_upper, rv_replace, rv_indexL, rv_countL, Bool.false_eq_true, ↓reduceIte, require_str, hs2, row z1, h, write_row ok, he]
    | true =>
      refine ⟨some r, ⟨fun q h => by cases h; exact ok, fun k S => ⟨?_, ?_⟩⟩⟩
      · refine call_rt (S1 := []) [some (.p (.str x)), some (.p (.int 0)), none, none, none] g__law_parsed ?_
        simp only [d__law_parsed, evB_cons, evB_nil, evS_asg, evS_par, evS_expr, evS_ret, evS_ifs, evS_raise, ev_var, ev_lit, ev_gcon, ev_gfn, ev_op, ev_and, ev_or, ev_not, ev_ite, ev_call, ev_chain, ev_meth, evL_nil, evL_cons, pr_add, pr_sub, pr_mul, pr_fdiv, pr_mod, pr_pow, pr_neg, pr_eq, pr_ne, pr_lt, pr_gt, pr_le, pr_ge, pr_isin, pr_notin, pr_ix, pr_sl00, pr_sl10, pr_sl01, pr_sl11, pr_bi, pr_bi2, pr_isnone, pr_notnone, pr_isi, pr_isic, isa_tuple, isa_str, isa_int, isa_bool, isa_list, bl_some, tru_p, truP_bool, truP_int, truP_none, truP_tuple, truP_list, eqP_int, eqP_str, ltP_str, ltP_int, bind_nm, bind_tp, bind_tpl, setAll_nil, setAll_cons, List.getElem?_cons_zero, List.getElem?_cons_succ, List.set_cons_zero, List.set_cons_succ, Option.map_some, Option.map_none, List.map_cons, List.map_nil, Bool.not_true, Bool.not_false, pm_index, pm_count, pm_join, pm_split, pm_replace, pm_upper, rv_index, rv_count, rv_join, rv_split, rv_upper, rv_replace, rv_indexL, rv_countL, Bool.false_eq_true, ↓reduceIte, hs, row z1, h, show ((0 : Int) == 0) = true from rfl, law_row_text ok, he] <;> rfl
      · refine call_rt (S1 := []) (r := r.d) [some (.p (.str x)), none] g_parse_row ?_
        simp only [d_parse_row, evB_cons, evB_nil, evS_asg, evS_par, evS_expr, evS_ret, evS_ifs, evS_raise, ev_var, ev_lit, ev_gcon, ev_gfn, ev_op, ev_and, ev_or, ev_not, ev_ite, ev_call, ev_chain, ev_meth, evL_nil, evL_cons, pr_add, pr_sub, pr_mul, pr_fdiv, pr_mod, pr_pow, pr_neg, pr_eq, pr_ne, pr_lt, pr_gt, pr_le, pr_ge, pr_isin, pr_notin, pr_ix, pr_sl00, pr_sl10, pr_sl01, pr_sl11, pr_bi, pr_bi2, pr_isnone, pr_notnone, pr_isi, pr_isic, isa_tuple, isa_str, isa_int, isa_bool, isa_list, bl_some, tru_p, truP_bool, truP_int, truP_none, truP_tuple, truP_list, eqP_int, eqP_str, ltP_str, ltP_int, bind_nm, bind_tp, bind_tpl, setAll_nil, setAll_cons, List.getElem?_cons_zero, List.getElem?_cons_succ, List.set_cons_zero, List.set_cons_succ, Option.map_some, Option.map_none, List.map_cons, List.map_nil, Bool.not_true, Bool.not_false, pm_index, pm_count, pm_join, pm_split, pm_replace, pm_upper, rv_index, rv_count, rv_join, rv_split, rv_upper, rv_replace, rv_indexL, rv_countL, Bool.false_eq_true, ↓reduceIte, require_str, hs2, row z1, h, write_row ok, he]
end Mp

/-! Mq: texts of rowsets read; the law's call. -/
namespace Mq
open PySem Ev Mb I Mr Mi Mw Mx Mp NumText L2
variable {S : Store} {k : Nat}
theorem join_ge (y : Str) : ∀ xs : List Str, xs.length * y.length ≤ (Str.join y xs).length + y.length
  | [] => by simp
  | [x] => by simp
  | x :: z :: xs => by
    have ih := join_ge y (z :: xs)
    show _ ≤ (x ++ y ++ Str.join y (z :: xs)).length + _
    rw [Str.length_append, Str.length_append]
    simp only [List.length_cons, Nat.succ_mul] at ih ⊢
    omega
theorem parts_few {x : Str} (hx : x.length ≤ 5000) : (Txt.split x semi).length ≤ 4000 := by
  have h1 := join_ge semi (Txt.split x semi)
  rw [StrLaws.join_split] at h1
  have e : semi.length = 3 := rfl
  rw [e] at h1
  omega
def lawL (x : Str) : List PyData := (Txt.split x semi).map lawScan
def progL (x : Str) : List PyData := (Txt.split x semi).map progScan
theorem comp_prs {x : Str} (hx : x.length ≤ 5000) {e1 e2 : Option Val} : ev C (callN C (k + 3)) c_parse_rowset_0 [some (.p (.str x)), e1, e2] [] = .ok (.p (.list (progL x))) [] := by
  refine ev_comp (vs := [.p (.list ((Txt.split x semi).map .str))]) (fun (y : Str) => .p (.str y)) progScan (Txt.split x semi) ?_ ?_ (Nat.le_trans (parts_few hx) (by decide)) fun y hy => ⟨_, rfl, ?_⟩
  · have hs := split_p (x := x) (y := semi) rfl (by unfold big; omega)
    simp only [evB_cons, evB_nil, evS_asg, evS_par, evS_expr, evS_ret, evS_ifs, evS_raise, ev_var, ev_lit, ev_gcon, ev_gfn, ev_op, ev_and, ev_or, ev_not, ev_ite, ev_call, ev_chain, ev_meth, evL_nil, evL_cons, pr_add, pr_sub, pr_mul, pr_fdiv, pr_mod, pr_pow, pr_neg, pr_eq, pr_ne, pr_lt, pr_gt, pr_le, pr_ge, pr_isin, pr_notin, pr_ix, pr_sl00, pr_sl10, pr_sl01, pr_sl11, pr_bi, pr_bi2, pr_isnone, pr_notnone, pr_isi, pr_isic, isa_tuple, isa_str, isa_int, isa_bool, isa_list, bl_some, tru_p, truP_bool, truP_int, truP_none, truP_tuple, truP_list, eqP_int, eqP_str, ltP_str, ltP_int, bind_nm, bind_tp, bind_tpl, setAll_nil, setAll_cons, List.getElem?_cons_zero, List.getElem?_cons_succ, List.set_cons_zero, List.set_cons_succ, Option.map_some, Option.map_none, List.map_cons, List.map_nil, Bool.not_true, Bool.not_false, pm_index, pm_count, pm_join, pm_split, pm_replace, pm_upper, rv_index, rv_count, rv_join, rv_split, rv_upper, rv_replace, rv_indexL, rv_countL, Bool.false_eq_true, ↓reduceIte, hs]
  · show some (((Txt.split x semi).map PyData.str).map Val.p, none) = _
    rw [List.map_map]
    rfl
  · have := part_len hy
    simp only [evB_cons, evB_nil, evS_asg, evS_par, evS_expr, evS_ret, evS_ifs, evS_raise, ev_var, ev_lit, ev_gcon, ev_gfn, ev_op, ev_and, ev_or, ev_not, ev_ite, ev_call, ev_chain, ev_meth, evL_nil, evL_cons, pr_add, pr_sub, pr_mul, pr_fdiv, pr_mod, pr_pow, pr_neg, pr_eq, pr_ne, pr_lt, pr_gt, pr_le, pr_ge, pr_isin, pr_notin, pr_ix, pr_sl00, pr_sl10, pr_sl01, pr_sl11, pr_bi, pr_bi2, pr_isnone, pr_notnone, pr_isi, pr_isic, isa_tuple, isa_str, isa_int, isa_bool, isa_list, bl_some, tru_p, truP_bool, truP_int, truP_none, truP_tuple, truP_list, eqP_int, eqP_str, ltP_str, ltP_int, bind_nm, bind_tp, bind_tpl, setAll_nil, setAll_cons, List.getElem?_cons_zero, List.getElem?_cons_succ, List.set_cons_zero, List.set_cons_succ, Option.map_some, Option.map_none, List.map_cons, List.map_nil, Bool.not_true, Bool.not_false, pm_index, pm_count, pm_join, pm_split, pm_replace, pm_upper, rv_index, rv_count, rv_join, rv_split, rv_upper, rv_replace, rv_indexL, rv_countL, Bool.false_eq_true, ↓reduceIte, wipeE, scan_row (x := y) (by omega)]
theorem comp_lpr {x : Str} (hx : x.length ≤ 5000) {e1 e2 e3 e4 : Option Val} : ev C (callN C (k + 2)) c__law_parsed_0 [some (.p (.str x)), e1, e2, e3, e4] [] = .ok (.p (.list (lawL x))) [] := by
  refine ev_comp (vs := [.p (.list ((Txt.split x semi).map .str))]) (fun (y : Str) => .p (.str y)) lawScan (Txt.split x semi) ?_ ?_ (Nat.le_trans (parts_few hx) (by decide)) fun y hy => ⟨_, rfl, ?_⟩
  · have hs := split_p (x := x) (y := semi) rfl (by unfold big; omega)
    simp only [evB_cons, evB_nil, evS_asg, evS_par, evS_expr, evS_ret, evS_ifs, evS_raise, ev_var, ev_lit, ev_gcon, ev_gfn, ev_op, ev_and, ev_or, ev_not, ev_ite, ev_call, ev_chain, ev_meth, evL_nil, evL_cons, pr_add, pr_sub, pr_mul, pr_fdiv, pr_mod, pr_pow, pr_neg, pr_eq, pr_ne, pr_lt, pr_gt, pr_le, pr_ge, pr_isin, pr_notin, pr_ix, pr_sl00, pr_sl10, pr_sl01, pr_sl11, pr_bi, pr_bi2, pr_isnone, pr_notnone, pr_isi, pr_isic, isa_tuple, isa_str, isa_int, isa_bool, isa_list, bl_some, tru_p, truP_bool, truP_int, truP_none, truP_tuple, truP_list, eqP_int, eqP_str, ltP_str, ltP_int, bind_nm, bind_tp, bind_tpl, setAll_nil, setAll_cons, List.getElem?_cons_zero, List.getElem?_cons_succ, List.set_cons_zero, List.set_cons_succ, Option.map_some, Option.map_none, List.map_cons, List.map_nil, Bool.not_true, Bool.not_false, pm_index, pm_count, pm_join, pm_split, pm_replace, pm_upper, rv_index, rv_count, rv_join, rv_split, rv_upper, rv_replace, rv_indexL, rv_countL, Bool.false_eq_true, ↓reduceIte, hs]
  · show some (((Txt.split x semi).map PyData.str).map Val.p, none) = _
    rw [List.map_map]
    rfl
  · have := part_len hy
    simp only [evB_cons, evB_nil, evS_asg, evS_par, evS_expr, evS_ret, evS_ifs, evS_raise, ev_var, ev_lit, ev_gcon, ev_gfn, ev_op, ev_and, ev_or, ev_not, ev_ite, ev_call, ev_chain, ev_meth, evL_nil, evL_cons, pr_add, pr_sub, pr_mul, pr_fdiv, pr_mod, pr_pow, pr_neg, pr_eq, pr_ne, pr_lt, pr_gt, pr_le, pr_ge, pr_isin, pr_notin, pr_ix, pr_sl00, pr_sl10, pr_sl01, pr_sl11, pr_bi, pr_bi2, pr_isnone, pr_notnone, pr_isi, pr_isic, isa_tuple, isa_str, isa_int, isa_bool, isa_list, bl_some, tru_p, truP_bool, truP_int, truP_none, truP_tuple, truP_list, eqP_int, eqP_str, ltP_str, ltP_int, bind_nm, bind_tp, bind_tpl, setAll_nil, setAll_cons, List.getElem?_cons_zero, List.getElem?_cons_succ, List.set_cons_zero, List.set_cons_succ, Option.map_some, Option.map_none, List.map_cons, List.map_nil, Bool.not_true, Bool.not_false, pm_index, pm_count, pm_join, pm_split, pm_replace, pm_upper, rv_index, rv_count, rv_join, rv_split, rv_upper, rv_replace, rv_indexL, rv_countL, Bool.false_eq_true, ↓reduceIte, wipeE, law_scan_row (x := y) (by omega)]
def outL (o : Option (List Row)) : PyData := match o with
  | some rs => rsd rs
  | none => .none
structure RsOk (rs : List Row) : Prop where
  rows : ∀ r ∈ rs, r.Ok
  is : isRowset rs = true
theorem RsOk.len {rs : List Row} (h : RsOk rs) : rs.length ≤ 60 := by
  have := h.is
  unfold isRowset at this
  simp only [Bool.and_eq_true, decide_eq_true_eq] at this
  exact this.2.1
theorem parsed1 {x : Str} (hx : x.length ≤ 5000) : ∃ o : Option (List Row), (∀ rs, o = some rs → RsOk rs) ∧ ∀ (k : Nat) (S : Store), callN C (k + 7) f__law_parsed [.p (.str x), .p (.int 1)] S = .ok (.p (outL o)) S ∧ callN C (k + 7) f_parse_rowset [.p (.str x)] S = outR (o.map rsd) S := by
  have t0 : ∀ S : Store, prim C .tup [] S = some (.p (.tuple []), S) := fun _ => rfl
  have one : ((1 : Int) == 0) = false := rfl
  cases hd : (x == dash) with
  | true =>
    have hx0 : x = dash := by simpa using hd
    subst hx0
    have w1 := fun (k : Nat) => rowset_ok (k := k) (S := []) (rs := []) (fun r hr => by cases hr) (by decide)
    have w2 := fun (k : Nat) => law_rowset_text (k := k) (S := []) (rs := []) (fun r hr => by cases hr) (by decide)
    have w3 := fun (k : Nat) => write_rowset (k := k) (S := []) (rs := []) (fun r hr => by cases hr) (by decide)
    have e1 : isRowset [] = true := rfl
    have e2 : (rstxt [] == dash) = true := rfl
    have e3 : rsd [] = .tuple [] := rfl
    rw [e3] at w1 w2 w3
    rw [e1] at w1
    refine ⟨some [], ⟨fun rs h => ?_, fun k S => ⟨?_, ?_⟩⟩⟩
    · cases h
      exact ⟨fun r hr => absurd hr List.not_mem_nil, e1⟩
    · refine call_rt (S1 := []) [some (.p (.str dash)), some (.p (.int 1)), none, none, none] g__law_parsed ?_
      simp only [d__law_parsed, evB_cons, evB_nil, evS_asg, evS_par, evS_expr, evS_ret, evS_ifs, evS_raise, ev_var, ev_lit, ev_gcon, ev_gfn, ev_op, ev_and, ev_or, ev_not, ev_ite, ev_call, ev_chain, ev_meth, evL_nil, evL_cons, pr_add, pr_sub, pr_mul, pr_fdiv, pr_mod, pr_pow, pr_neg, pr_eq, pr_ne, pr_lt, pr_gt, pr_le, pr_ge, pr_isin, pr_notin, pr_ix, pr_sl00, pr_sl10, pr_sl01, pr_sl11, pr_bi, pr_bi2, pr_isnone, pr_notnone, pr_isi, pr_isic, isa_tuple, isa_str, isa_int, isa_bool, isa_list, bl_some, tru_p, truP_bool, truP_int, truP_none, truP_tuple, truP_list, eqP_int, eqP_str, ltP_str, ltP_int, bind_nm, bind_tp, bind_tpl, setAll_nil, setAll_cons, List.getElem?_cons_zero, List.getElem?_cons_succ, List.set_cons_zero, List.set_cons_succ, Option.map_some, Option.map_none, List.map_cons, List.map_nil, Bool.not_true, Bool.not_false, pm_index, pm_count, pm_join, pm_split, pm_replace, pm_upper, rv_index, rv_count, rv_join, rv_split, rv_upper, rv_replace, rv_indexL, rv_countL, Bool.false_eq_true, ↓reduceIte, one, hd, t0, w1, w2, e2] <;> rfl
    · refine call_rt (S1 := []) (r := rsd []) [some (.p (.str dash)), none, none] g_parse_rowset ?_
      simp only [d_parse_rowset, evB_cons, evB_nil, evS_asg, evS_par, evS_expr, evS_ret, evS_ifs, evS_raise, ev_var, ev_lit, ev_gcon, ev_gfn, ev_op, ev_and, ev_or, ev_not, ev_ite, ev_call, ev_chain, ev_meth, evL_nil, evL_cons, pr_add, pr_sub, pr_mul, pr_fdiv, pr_mod, pr_pow, pr_neg, pr_eq, pr_ne, pr_lt, pr_gt, pr_le, pr_ge, pr_isin, pr_notin, pr_ix, pr_sl00, pr_sl10, pr_sl01, pr_sl11, pr_bi, pr_bi2, pr_isnone, pr_notnone, pr_isi, pr_isic, isa_tuple, isa_str, isa_int, isa_bool, isa_list, bl_some, tru_p, truP_bool, truP_int, truP_none, truP_tuple, truP_list, eqP_int, eqP_str, ltP_str, ltP_int, bind_nm, bind_tp, bind_tpl, setAll_nil, setAll_cons, List.getElem?_cons_zero, List.getElem?_cons_succ, List.set_cons_zero, List.set_cons_succ, Option.map_some, Option.map_none, List.map_cons, List.map_nil, Bool.not_true, Bool.not_false, pm_index, pm_count, pm_join, pm_split, pm_replace, pm_upper, rv_index, rv_count, rv_join, rv_split, rv_upper, rv_replace, rv_indexL, rv_countL, Bool.false_eq_true, ↓reduceIte, require_str, hd, t0, w1, w3, e2] <;> rfl
  | false =>
    have hl := parts_few hx
    have same : (progL x).all isRow = (lawL x).all isRow := by
      unfold progL lawL
      rw [List.all_map, List.all_map]
      congr 1
      funext y
      exact (scan_same y).1
    have pz : ∀ d ∈ progL x, sizedRow d := fun d hd => by
      obtain ⟨y, hy, rfl⟩ := List.mem_map.mp hd
      have := part_len hy
      exact (sized_scan (x := y) (by omega)).2
    have lz : ∀ d ∈ lawL x, sizedRow d := fun d hd => by
      obtain ⟨y, hy, rfl⟩ := List.mem_map.mp hd
      have := part_len hy
      exact (sized_scan (x := y) (by omega)).1
    have pl : (progL x).length ≤ 4000 := by unfold progL; rw [List.length_map]; exact hl
    have ll : (lawL x).length ≤ 4000 := by unfold lawL; rw [List.length_map]; exact hl
    rcases rows_cases (lawL x) with ⟨rs, hr, ok⟩ | hbad
    · have hall : (lawL x).all isRow = true := by rw [hr]; exact all_is ok
      have hp : progL x = rs.map Row.d := by
        rw [← hr]
        unfold progL lawL
        refine List.map_congr_left fun y hy => (scan_same y).2 ?_
        exact List.all_eq_true.mp hall _ (List.mem_map_of_mem hy)
      have rl : rs.length ≤ 4000 := by
        rw [hr, List.length_map] at ll
        exact ll
      have c1 := fun (k : Nat) (e1 e2 : Option Val) => comp_prs (k := k) (e1 := e1) (e2 := e2) hx
      have c2 := fun (k : Nat) (e1 e2 e3 e4 : Option Val) => comp_lpr (k := k) (e1 := e1) (e2 := e2) (e3 := e3) (e4 := e4) hx
      rw [hp] at c1
      rw [hr] at c2
      have bt : biP .tuple [.list (rs.map Row.d)] = some (rsd rs) := rfl
      cases hi : isRowset rs with
      | false =>
        refine ⟨none, ⟨fun r h => by simp at h, fun k S => ⟨?_, ?_⟩⟩⟩
        · refine call_rt (S1 := []) [some (.p (.str x)), some (.p (.int 1)), none, none, none] g__law_parsed ?_
          simp only [d__law_parsed, evB_cons, evB_nil, evS_asg, evS_par, evS_expr, evS_ret, evS_ifs, evS_raise, ev_var, ev_lit, ev_gcon, ev_gfn, ev_op, ev_and, ev_or, ev_not, ev_ite, ev_call, ev_chain, ev_meth, evL_nil, evL_cons, pr_add, pr_sub, pr_mul, pr_fdiv, pr_mod, pr_pow, pr_neg, pr_eq, pr_ne, pr_lt, pr_gt, pr_le, pr_ge, pr_isin, pr_notin, pr_ix, pr_sl00, pr_sl10, pr_sl01, pr_sl11, pr_bi, pr_bi2, pr_isnone, pr_notnone, pr_isi, pr_isic, isa_tuple, isa_str, isa_int, isa_bool, isa_list, bl_some, tru_p, truP_bool, truP_int, truP_none, truP_tuple, truP_list, eqP_int, eqP_str, ltP_str, ltP_int, bind_nm, bind_tp, bind_tpl, setAll_nil, setAll_cons, List.getElem?_cons_zero, List.getElem?_cons_succ, List.set_cons_zero, List.set_cons_succ, Option.map_some, Option.map_none, List.map_cons, List.map_nil, Bool.not_true, Bool.not_false, pm_index, pm_count, pm_join, pm_split, pm_replace, pm_upper, rv_index, rv_count, rv_join, rv_split, rv_upper, rv_replace, rv_indexL, rv_countL, Bool.false_eq_true, ↓reduceIte, one, hd, c2, bt, rowset_ok ok rl, hi] <;> rfl
        · refine call_ex (S1 := []) (env1 := [some (.p (.str x)), some (.p (rsd rs)), none]) [some (.p (.str x)), none, none] g_parse_rowset ?_
          simp only [d_parse_rowset, evB_cons, evB_nil, evS_asg, evS_par, evS_expr, evS_ret, evS_ifs, evS_raise, ev_var, ev_lit, ev_gcon, ev_gfn, ev_op, ev_and, ev_or, ev_not, ev_ite, ev_call, ev_chain, ev_meth, evL_nil, evL_cons, pr_add, pr_sub, pr_mul, pr_fdiv, pr_mod, pr_pow, pr_neg, pr_eq, pr_ne, pr_lt, pr_gt, pr_le, pr_ge, pr_isin, pr_notin, pr_ix, pr_sl00, pr_sl10, pr_sl01, pr_sl11, pr_bi, pr_bi2, pr_isnone, pr_notnone, pr_isi, pr_isic, isa_tuple, isa_str, isa_int, isa_bool, isa_list, bl_some, tru_p, truP_bool, truP_int, truP_none, truP_tuple, truP_list, eqP_int, eqP_str, ltP_str, ltP_int, bind_nm, bind_tp, bind_tpl, setAll_nil, setAll_cons, List.getElem?_cons_zero, List.getElem?_cons_succ, List.set_cons_zero, List.set_cons_succ, Option.map_some, Option.map_none, List.map_cons, List.map_nil, Bool.not_true, Bool.not_false, pm_index, pm_count, pm_join, pm_split, pm_replace, pm_upper, rv_index, rv_count, rv_join, rv_split, rv_upper, rv_replace, rv_indexL, rv_countL, Bool.false_eq_true, ↓reduceIte, require_str, hd, c1, bt, rowset_ok ok rl, hi]
      | true =>
        cases he : (rstxt rs == x) with
        | false =>
          refine ⟨none, ⟨fun r h => by simp at h, fun k S => ⟨?_, ?_⟩⟩⟩
          · refine call_rt (S1 := []) [some (.p (.str x)), some (.p (.int 1)), none, none, none] g__law_parsed ?_
            simp only [d__law_parsed, evB_cons, evB_nil, evS_asg, evS_par, evS_expr, evS_ret, evS_ifs, evS_raise, ev_var, ev_lit, ev_gcon, ev_gfn, ev_op, ev_and, ev_or, ev_not, ev_ite, ev_call, ev_chain, ev_meth, evL_nil, evL_cons, pr_add, pr_sub, pr_mul, pr_fdiv, pr_mod, pr_pow, pr_neg, pr_eq, pr_ne, pr_lt, pr_gt, pr_le, pr_ge, pr_isin, pr_notin, pr_ix, pr_sl00, pr_sl10, pr_sl01, pr_sl11, pr_bi, pr_bi2, pr_isnone, pr_notnone, pr_isi, pr_isic, isa_tuple, isa_str, isa_int, isa_bool, isa_list, bl_some, tru_p, truP_bool, truP_int, truP_none, truP_tuple, truP_list, eqP_int, eqP_str, ltP_str, ltP_int, bind_nm, bind_tp, bind_tpl, setAll_nil, setAll_cons, List.getElem?_cons_zero, List.getElem?_cons_succ, List.set_cons_zero, List.set_cons_succ, Option.map_some, Option.map_none, List.map_cons, List.map_nil, Bool.not_true, Bool.not_false, pm_index, pm_count, pm_join, pm_split, pm_replace, pm_upper, rv_index, rv_count, rv_join, rv_split, rv_upper, rv_replace, rv_indexL, rv_countL, Bool.false_eq_true, ↓reduceIte, one, hd, c2, bt, rowset_ok ok rl, hi, law_rowset_text ok rl, he] <;> rfl
          · refine call_ex (S1 := []) (env1 := [some (.p (.str x)), some (.p (rsd rs)), none]) [some (.p (.str x)), none, none] g_parse_rowset ?_
            simp only [d_parse_rowset, evB_cons, evB_nil, evS_asg, evS_par, evS_expr, evS_ret, evS_ifs, evS_raise, ev_var, ev_lit, ev_gcon, ev_gfn, ev_op, ev_and, ev_or, ev_not, ev_ite, ev_call, ev_chain, ev_meth, evL_nil, evL_cons, pr_add, pr_sub, pr_mul, pr_fdiv, pr_mod, pr_pow, pr_neg, pr_eq, pr_ne, pr_lt, pr_gt, pr_le, pr_ge, pr_isin, pr_notin, pr_ix, pr_sl00, pr_sl10, pr_sl01, pr_sl11, pr_bi, pr_bi2, pr_isnone, pr_notnone, pr_isi, pr_isic, isa_tuple, isa_str, isa_int, isa_bool, isa_list, bl_some, tru_p, truP_bool, truP_int, truP_none, truP_tuple, truP_list, eqP_int, eqP_str, ltP_str, ltP_int, bind_nm, bind_tp, bind_tpl, setAll_nil, setAll_cons, List.getElem?_cons_zero, List.getElem?_cons_succ, List.set_cons_zero, List.set_cons_succ, Option.map_some, Option.map_none, List.map_cons, List.map_nil, Bool.not_true, Bool.not_false, pm_index, pm_count, pm_join, pm_split, pm_replace, pm_upper, rv_index, rv_count, rv_join, rv_split, rv_upper, rv_replace, rv_indexL, rv_countL, Bool.false_eq_true, ↓reduceIte, require_str, hd, c1, bt, rowset_ok ok rl, hi, write_rowset ok rl, he]
        | true =>
          refine ⟨some rs, ⟨fun r h => by cases h; exact ⟨ok, hi⟩, fun k S => ⟨?_, ?_⟩⟩⟩
          · refine call_rt (S1 := []) [some (.p (.str x)), some (.p (.int 1)), none, none, none] g__law_parsed ?_
            simp only [d__law_parsed, evB_cons, evB_nil, evS_asg, evS_par, evS_expr, evS_ret, evS_ifs, evS_raise, ev_var, ev_lit, ev_gcon, ev_gfn, ev_op, ev_and, ev_or, ev_not, ev_ite, ev_call, ev_chain, ev_meth, evL_nil, evL_cons, pr_add, pr_sub, pr_mul, pr_fdiv, pr_mod, pr_pow, pr_neg, pr_eq, pr_ne, pr_lt, pr_gt, pr_le, pr_ge, pr_isin, pr_notin, pr_ix, pr_sl00, pr_sl10, pr_sl01, pr_sl11, pr_bi, pr_bi2, pr_isnone, pr_notnone, pr_isi, pr_isic, isa_tuple, isa_str, isa_int, isa_bool, isa_list, bl_some, tru_p, truP_bool, truP_int, truP_none, truP_tuple, truP_list, eqP_int, eqP_str, ltP_str, ltP_int, bind_nm, bind_tp, bind_tpl, setAll_nil, setAll_cons, List.getElem?_cons_zero, List.getElem?_cons_succ, List.set_cons_zero, List.set_cons_succ, Option.map_some, Option.map_none, List.map_cons, List.map_nil, Bool.not_true, Bool.not_false, pm_index, pm_count, pm_join, pm_split, pm_replace, pm_upper, rv_index, rv_count, rv_join, rv_split, rv_upper, rv_replace, rv_indexL, rv_countL, Bool.false_eq_true, ↓reduceIte, one, hd, c2, bt, rowset_ok ok rl, hi, law_rowset_text ok rl, he] <;> rfl
          · refine call_rt (S1 := []) (r := rsd rs) [some (.p (.str x)), none, none] g_parse_rowset ?_
            simp only [d_parse_rowset, evB_cons, evB_nil, evS_asg, evS_par, evS_expr, evS_ret, evS_ifs, evS_raise, ev_var, ev_lit, ev_gcon, ev_gfn, ev_op, ev_and, ev_or, ev_not, ev_ite, ev_call, ev_chain, ev_meth, evL_nil, evL_cons, pr_add, pr_sub, pr_mul, pr_fdiv, pr_mod, pr_pow, pr_neg, pr_eq, pr_ne, pr_lt, pr_gt, pr_le, pr_ge, pr_isin, pr_notin, pr_ix, pr_sl00, pr_sl10, pr_sl01, pr_sl11, pr_bi, pr_bi2, pr_isnone, pr_notnone, pr_isi, pr_isic, isa_tuple, isa_str, isa_int, isa_bool, isa_list, bl_some, tru_p, truP_bool, truP_int, truP_none, truP_tuple, truP_list, eqP_int, eqP_str, ltP_str, ltP_int, bind_nm, bind_tp, bind_tpl, setAll_nil, setAll_cons, List.getElem?_cons_zero, List.getElem?_cons_succ, List.set_cons_zero, List.set_cons_succ, Option.map_some, Option.map_none, List.map_cons, List.map_nil, Bool.not_true, Bool.not_false, pm_index, pm_count, pm_join, pm_split, pm_replace, pm_upper, rv_index, rv_count, rv_join, rv_split, rv_upper, rv_replace, rv_indexL, rv_countL, Bool.false_eq_true, ↓reduceIte, require_str, hd, c1, bt, rowset_ok ok rl, hi, write_rowset ok rl, he] <;> rfl
    · have pbad : (progL x).all isRow = false := by rw [same]; exact hbad
      refine ⟨none, ⟨fun r h => by simp at h, fun k S => ⟨?_, ?_⟩⟩⟩
      · refine call_rt (S1 := []) [some (.p (.str x)), some (.p (.int 1)), none, none, none] g__law_parsed ?_
        simp only [d__law_parsed, evB_cons, evB_nil, evS_asg, evS_par, evS_expr, evS_ret, evS_ifs, evS_raise, ev_var, ev_lit, ev_gcon, ev_gfn, ev_op, ev_and, ev_or, ev_not, ev_ite, ev_call, ev_chain, ev_meth, evL_nil, evL_cons, pr_add, pr_sub, pr_mul, pr_fdiv, pr_mod, pr_pow, pr_neg, pr_eq, pr_ne, pr_lt, pr_gt, pr_le, pr_ge, pr_isin, pr_notin, pr_ix, pr_sl00, pr_sl10, pr_sl01, pr_sl11, pr_bi, pr_bi2, pr_isnone, pr_notnone, pr_isi, pr_isic, isa_tuple, isa_str, isa_int, isa_bool, isa_list, bl_some, tru_p, truP_bool, truP_int, truP_none, truP_tuple, truP_list, eqP_int, eqP_str, ltP_str, ltP_int, bind_nm, bind_tp, bind_tpl, setAll_nil, setAll_cons, List.getElem?_cons_zero, List.getElem?_cons_succ, List.set_cons_zero, List.set_cons_succ, Option.map_some, Option.map_none, List.map_cons, List.map_nil, Bool.not_true, Bool.not_false, pm_index, pm_count, pm_join, pm_split, pm_replace, pm_upper, rv_index, rv_count, rv_join, rv_split, rv_upper, rv_replace, rv_indexL, rv_countL, Bool.false_eq_true, ↓reduceIte, one, hd, comp_lpr hx, biP_tuple, rowset_bad lz (Nat.le_trans ll (by decide)) hbad] <;> rfl
      · refine call_ex (S1 := []) (env1 := [some (.p (.str x)), some (.p (.tuple (progL x))), none]) [some (.p (.str x)), none, none] g_parse_rowset ?_
        simp only [d_parse_rowset, evB_cons, evB_nil, evS_asg, evS_par, evS_expr, evS_ret, evS_ifs, evS_raise, ev_var, ev_lit, ev_gcon, ev_gfn, ev_op, ev_and, ev_or, ev_not, ev_ite, ev_call, ev_chain, ev_meth, evL_nil, evL_cons, pr_add, pr_sub, pr_mul, pr_fdiv, pr_mod, pr_pow, pr_neg, pr_eq, pr_ne, pr_lt, pr_gt, pr_le, pr_ge, pr_isin, pr_notin, pr_ix, pr_sl00, pr_sl10, pr_sl01, pr_sl11, pr_bi, pr_bi2, pr_isnone, pr_notnone, pr_isi, pr_isic, isa_tuple, isa_str, isa_int, isa_bool, isa_list, bl_some, tru_p, truP_bool, truP_int, truP_none, truP_tuple, truP_list, eqP_int, eqP_str, ltP_str, ltP_int, bind_nm, bind_tp, bind_tpl, setAll_nil, setAll_cons, List.getElem?_cons_zero, List.getElem?_cons_succ, List.set_cons_zero, List.set_cons_succ, Option.map_some, Option.map_none, List.map_cons, List.map_nil, Bool.not_true, Bool.not_false, pm_index, pm_count, pm_join, pm_split, pm_replace, pm_upper, rv_index, rv_count, rv_join, rv_split, rv_upper, rv_replace, rv_indexL, rv_countL, Bool.false_eq_true, ↓reduceIte, require_str, hd, comp_prs hx, biP_tuple, rowset_bad pz (Nat.le_trans pl (by decide)) pbad]
end Mq

/-! Mo: the law's rowsets. -/
namespace Mo
open PySem Ev Mb I Mr Mi Mw Mx Md Mn Mq NumText L2
variable {S : Store} {k : Nat}
structure RowAt (w i : Nat) (r : Row) : Prop where
  name : NameAt i r.n
  ok : r.Ok
  wide : r.vs.length = w
/-- the rows made so far -/
def RowsAt (w : Nat) (rs : List Row) : Prop := ∀ (i : Nat) (r : Row), rs[i]? = some r → RowAt w i r
theorem name_ok {i : Nat} {x : Str} (h : NameAt i x) (hi : i < 52) : 1 ≤ x.length ∧ x.length ≤ 8 ∧ ∀ c ∈ cs x, c ∈ cs sLetters := by
  obtain ⟨ex, e, h1, h2⟩ := h
  have key : ∀ c, 97 ≤ c ∧ c ≤ 122 → c ∈ cs sLetters := fun c hc => by
    have z : ∀ d : Nat, d < 26 → 97 + d ∈ cs sLetters := by decide
    have := z (c - 97) (by omega)
    rwa [show 97 + (c - 97) = c from by omega] at this
  refine ⟨by rw [len_cs, e, List.length_cons]; omega, ?_, fun c hc => ?_⟩
  · rw [len_cs, e, List.length_cons]
    split
    · rw [List.length_cons]; omega
    · simp
  · rw [e] at hc
    refine key c ?_
    rcases List.mem_cons.mp hc with rfl | hc
    · omega
    · split at hc
      · rcases List.mem_cons.mp hc with rfl | hc
        · omega
        · exact h2 c hc
      · cases hc
theorem name_inj {i j : Nat} {x : Str} (h : NameAt i x) (g : NameAt j x) : i = j := by
  obtain ⟨ex, e, _, _⟩ := h
  obtain ⟨ex', e', _, _⟩ := g
  rw [e] at e'
  injection e' with e1 e2
  rcases Nat.mod_two_eq_zero_or_one i with p | p <;> rcases Nat.mod_two_eq_zero_or_one j with q | q <;> rw [p, q] at e2
  · omega
  · cases e2
  · cases e2
  · omega
/-! ### sorted -/
theorem lt_rows {r q : Row} (h : cs r.n ≠ cs q.n) : PySem.W.dataLt r.d q.d = decide (cs r.n < cs q.n) := by
  have hne : PyData.eqv (.str r.n) (.str q.n) = false := by
    show (r.n == q.n) = false
    rw [str_eqv]
    exact decide_eq_false h
  unfold Row.d
  rw [PySem.W.dataLt_tuple, PySem.W.dataLt_cons (by simp [PySem.W.alike]), hne, if_neg Bool.false_ne_true, PySem.W.dataLt_str]
theorem lt_self (d : PyData) : PySem.W.dataLt d d = false := PyProof.Rows.lex_irrefl _
def leN (r q : Row) : Bool := decide (cs r.n ≤ cs q.n)
theorem le_rows {l : List Row} (hd : ∀ r ∈ l, ∀ q ∈ l, r.n = q.n → r = q) : ∀ r ∈ l, ∀ q ∈ l, leN r q = PySem.W.dataLe false id r.d q.d := fun r hr q hq => by
  show _ = !PySem.W.dataLt q.d r.d
  unfold leN
  by_cases h : cs q.n = cs r.n
  · have := hd q hq r hr (str_ext h)
    subst this
    rw [lt_self, decide_eq_true (List.le_refl _)]
    rfl
  · rw [lt_rows h]
    by_cases z : cs q.n < cs r.n
    · rw [decide_eq_true z, decide_eq_false (fun y => List.not_lt.mpr y z)]
      rfl
    · rw [decide_eq_false z, decide_eq_true (List.not_lt.mp z)]
      rfl
theorem isort_rows {l : List Row} (hd : ∀ r ∈ l, ∀ q ∈ l, r.n = q.n → r = q) : isort (l.map Row.d) = (l.mergeSort leN).map Row.d := (List.map_mergeSort (le_rows hd)).symm
theorem sorted_asc : ∀ {l : List Row}, l.Pairwise (fun a b => leN a b = true) → (l.map Row.n).Nodup → ascending (l.map Row.n) = true
  | [], _, _ => rfl
  | [r], _, _ => rfl
  | r :: q :: l, h, hn => by
    have ih := sorted_asc (l := q :: l) (List.pairwise_cons.mp h).2 (List.nodup_cons.mp hn).2
    have h1 := (List.pairwise_cons.mp h).1 q List.mem_cons_self
    have h2 : cs r.n ≠ cs q.n := fun e => (List.nodup_cons.mp hn).1 (by rw [str_ext e]; exact List.mem_cons_self)
    have h3 : cs r.n < cs q.n := by
      have h4 : cs r.n ≤ cs q.n := of_decide_eq_true h1
      by_cases z : cs r.n < cs q.n
      · exact z
      · exact absurd (List.le_antisymm h4 (List.not_lt.mp z)) h2
    show (decide (r.n.cps.toList < q.n.cps.toList) && _) = true
    rw [Bool.and_eq_true]
    exact ⟨decide_eq_true h3, ih⟩
theorem sort_alike (r q : Row) : PySem.W.alike r.d q.d = true := by
  have h := PySem.W.alike_ints r.vs q.vs
  simp [Row.d, PySem.W.alike, PySem.W.alikeAll, h]
theorem depth_row (r : Row) : decide (r.d.depth ≤ 64) = true := by
  have h : ∀ vs : List Int, PyData.depthAll (vs.map .int) ≤ 1 := by
    intro vs
    induction vs with
    | nil => decide
    | cons v vs ih => simp only [List.map_cons, PyData.depthAll, PyData.depth] at *; omega
  have := h r.vs
  rw [decide_eq_true_eq]
  simp only [Row.d, PyData.depth, PyData.depthAll]
  omega
theorem sort_ok (l : List Row) : sortOk (l.map Row.d) = true := by
  unfold sortOk
  simp only [Bool.and_eq_true, Bool.or_eq_true, List.all_eq_true, List.mem_map, forall_exists_index, and_imp, forall_apply_eq_imp_iff₂]
  exact ⟨⟨fun r _ q _ => sort_alike r q, fun r _ => depth_row r⟩, .inl fun r _ => rfl⟩
theorem kins_same {n : Nat} : ∀ (l : List Row) (acc : List (Sum Int Str)), (∀ r ∈ l, r.vs.length = n) → (acc = [] ∨ acc = [.inl (n : Int)]) → ((keysW l).foldl kins acc = [] ∨ (keysW l).foldl kins acc = [.inl (n : Int)])
  | [], acc, _, h => h
  | r :: l, acc, h, ha => by
    have e : (keysW (r :: l)).foldl kins acc = (keysW l).foldl kins (kins acc (.inl (r.vs.length : Nat))) := rfl
    rw [e, h r List.mem_cons_self]
    refine kins_same l _ (fun q hq => h q (List.mem_cons_of_mem _ hq)) (.inr ?_)
    rcases ha with rfl | rfl
    · rfl
    · unfold kins
      rw [if_pos (by simp)]
theorem one_ok {n : Nat} {l : List Row} (h : ∀ r ∈ l, r.vs.length = n) : oneWidth l = true := by
  unfold oneWidth
  rcases kins_same l [] h (.inl rfl) with e | e <;> rw [e] <;> rfl
theorem sorted_rs {w : Nat} {l : List Row} (h : RowsAt w l) (hl : l.length ≤ 52) : RsOk (l.mergeSort leN) ∧ (l.mergeSort leN).length = l.length ∧ (∀ r ∈ l.mergeSort leN, r.vs.length = w) ∧ biP .sorted [.list (l.map Row.d)] = some (.list ((l.mergeSort leN).map Row.d)) := by
  have hm : ∀ r ∈ l, ∃ i, i < 52 ∧ RowAt w i r := fun r hr => by
    obtain ⟨i, hi⟩ := List.mem_iff_getElem?.mp hr
    have := (List.getElem?_eq_some_iff.mp hi).1
    exact ⟨i, by omega, h i r hi⟩
  have hn : (l.map Row.n).Nodup := by
    rw [List.nodup_iff_pairwise_ne, List.pairwise_map, List.pairwise_iff_getElem]
    intro i j hi hj hij e
    have a := (h i _ (List.getElem?_eq_getElem hi)).name
    have b := (h j _ (List.getElem?_eq_getElem hj)).name
    rw [e] at a
    have := name_inj a b
    omega
  have hd : ∀ r ∈ l, ∀ q ∈ l, r.n = q.n → r = q := fun r hr q hq e => by
    obtain ⟨i, hi⟩ := List.mem_iff_getElem?.mp hr
    obtain ⟨j, hj⟩ := List.mem_iff_getElem?.mp hq
    have a := (h i _ hi).name
    have b := (h j _ hj).name
    rw [e] at a
    have := name_inj a b
    subst this
    rw [hi] at hj
    exact Option.some.inj hj
  have hp : (l.mergeSort leN).Perm l := List.mergeSort_perm l leN
  have hs : (l.mergeSort leN).Pairwise (fun a b => leN a b = true) := by
    refine List.pairwise_mergeSort (fun a b c h1 h2 => ?_) (fun a b => ?_) l
    · exact decide_eq_true (List.le_trans (of_decide_eq_true h1) (of_decide_eq_true h2))
    · unfold leN
      rcases List.le_total (cs a.n) (cs b.n) with z | z
      · rw [decide_eq_true z]; rfl
      · rw [decide_eq_true z]; exact Bool.or_true _
  have ha := sorted_asc hs ((hp.map Row.n).nodup_iff.mpr hn)
  have hlen : (l.mergeSort leN).length = l.length := hp.length_eq
  have hw : ∀ r ∈ l.mergeSort leN, r.vs.length = w := fun r hr => by
    obtain ⟨i, _, q⟩ := hm r (hp.mem_iff.mp hr)
    exact q.wide
  refine ⟨⟨fun r hr => ?_, ?_⟩, hlen, hw, ?_⟩
  · obtain ⟨i, _, q⟩ := hm r (hp.mem_iff.mp hr)
    exact q.ok
  · unfold isRowset
    rw [one_ok hw, ha, decide_eq_true (show (l.mergeSort leN).length ≤ 60 by omega)]
    rfl
  · show (if sortOk (l.map Row.d) = true ∧ (l.map Row.d).length ≤ big then some (PyData.list (isort (l.map Row.d))) else none) = _
    rw [if_pos ⟨sort_ok l, by rw [List.length_map]; unfold big; omega⟩, isort_rows hd]
end Mo

/-! Mt: the law's rowsets, drawn. -/
namespace Mt
open PySem Ev Mb I Mr Mi Mw Mx Md Mn Mo Mq NumText L2
variable {S : Store} {k : Nat}
theorem pickI {xs : List Int} {r : Int} (h0 : 0 ≤ r) (h : r < xs.length) : ∃ d ∈ xs, ixP (.list (xs.map .int)) (.int r) = some (.int d) := by
  obtain ⟨d, hd, e⟩ := pick (xs := xs.map .int) h0 (by rw [List.length_map]; exact h)
  obtain ⟨v, hv, rfl⟩ := List.mem_map.mp hd
  exact ⟨v, hv, e⟩
theorem pw {S : Store} (n : Nat) (h : (n : Int) ≤ 100) : prim C .pow [.p (.int 10), .p (.int (n : Int))] S = some (.p (.int ((10 : Int) ^ n)), S) := by
  rw [pr_pow, if_pos ⟨by omega, h, by decide⟩] <;> rfl
theorem wide_ints : ∀ {xs : List Nat} {ds : List PyData} {t : Int}, F2 (fun _ d => ∃ v : Int, d = .int v ∧ -t ≤ v ∧ v ≤ t) xs ds → ∃ vs : List Int, ds = vs.map .int ∧ (∀ v ∈ vs, -t ≤ v ∧ v ≤ t) ∧ vs.length = xs.length
  | _, _, _, .nil => ⟨[], rfl, by simp, rfl⟩
  | _, _, _, .cons ⟨v, e, h1, h2⟩ r => by
    obtain ⟨vs, rfl, h3, h4⟩ := wide_ints r
    subst e
    refine ⟨v :: vs, rfl, fun u hu => ?_, by simp [h4]⟩
    rcases List.mem_cons.mp hu with rfl | hu
    · exact ⟨h1, h2⟩
    · exact h3 u hu
/-- the values of a row -/
theorem worths {top : Int} {w : Nat} (ht : 1 ≤ top) (ht2 : top ≤ 1000000000) (hw : w ≤ 4) {x : Cell} {a b c : Int} {e1 e4 e5 e6 e7 e8 e9 : Option Val} : ∃ (vs : List Int) (a' b' c' : Int), ev C (callN C (k + 1)) c__law_rowset_0 [some (.loc 0), e1, some (.p (.int (w : Int))), some (.p (.int top)), e4, e5, e6, e7, e8, e9] [SC a b c, x] = .ok (.p (.list (vs.map PyData.int))) [SC a' b' c', x] ∧ vs.length = w ∧ ∀ v ∈ vs, -1000000000 ≤ v ∧ v ≤ 1000000000 := by
  have z := ev_compJ (C := C) (F := callN C (k + 1)) (elt := .op .sub [(.call f__law_draw [(.var 0), (.op .add [(.op .mul [(.lit (.int 2)), (.var 3)]), (.lit (.int 1))])]), (.var 3)]) (own := [9]) (tg := .nm 9) (ik := .rng1) (its := [.var 2]) (env := [some (.loc 0), e1, some (.p (.int (w : Int))), some (.p (.int top)), e4, e5, e6, e7, e8, e9]) (S := [SC a b c, x]) (vs := [.p (.int (w : Int))]) (fun (j : Nat) => Val.p (.int (j : Int))) (List.range w) (fun S => ∃ a b c, S = [SC a b c, x]) (fun _ d => ∃ v : Int, d = .int v ∧ -top ≤ v ∧ v ≤ top) (by simp only [evB_cons, evB_nil, evS_asg, evS_par, evS_expr, evS_ret, evS_ifs, evS_raise, ev_var, ev_lit, ev_gcon, ev_gfn, ev_op, ev_and, ev_or, ev_not, ev_ite, ev_call, ev_chain, ev_meth, evL_nil, evL_cons, pr_add, pr_sub, pr_mul, pr_neg, pr_eq, pr_ne, pr_lt, pr_gt, pr_le, pr_ge, pr_isin, pr_notin, pr_ix, pr_sl00, pr_sl10, pr_sl01, pr_sl11, pr_bi, pr_bi2, pr_isnone, pr_notnone, pr_isi, pr_isic, isa_tuple, isa_str, isa_int, isa_bool, isa_list, bl_some, tru_p, truP_bool, truP_int, truP_none, truP_tuple, truP_list, eqP_int, eqP_str, ltP_str, ltP_int, bind_nm, bind_tp, bind_tpl, setAll_nil, setAll_cons, List.getElem?_cons_zero, List.getElem?_cons_succ, List.set_cons_zero, List.set_cons_succ, Option.map_some, Option.map_none, List.map_cons, List.map_nil, Bool.not_true, Bool.not_false, pm_index, pm_count, pm_join, pm_split, pm_replace, pm_upper, rv_index, rv_count, rv_join, rv_split, rv_upper, rv_replace, rv_indexL, rv_countL, Bool.false_eq_true, ↓reduceIte, ev_callv, evS_setIx, evS_swap, evS_retN, evS_pass, addP_int]) (by rw [rng1 (by unfold big; omega) (by omega)]; simp) (by rw [List.length_range]; unfold big; omega) (fun j _ S hS => by
      obtain ⟨a, b, c, rfl⟩ := hS
      obtain ⟨r, S1, d1, g1, r0, r1⟩ := draw (k := k) (S := [SC a b c, x]) (i := 0) (t := 2 * top + 1) stm0 (by omega) (by omega)
      obtain ⟨a', b', c', rfl⟩ := g1.two
      refine ⟨_, _, [SC a' b' c', x], rfl, ?_, ⟨_, _, _, rfl⟩, r - top, rfl, by omega, by omega⟩
      have l2 : mulP (.int 2) (.int top) = some (.int (2 * top)) := mul_l (by decide)
      simp only [evB_cons, evB_nil, evS_asg, evS_par, evS_expr, evS_ret, evS_ifs, evS_raise, ev_var, ev_lit, ev_gcon, ev_gfn, ev_op, ev_and, ev_or, ev_not, ev_ite, ev_call, ev_chain, ev_meth, evL_nil, evL_cons, pr_add, pr_sub, pr_mul, pr_neg, pr_eq, pr_ne, pr_lt, pr_gt, pr_le, pr_ge, pr_isin, pr_notin, pr_ix, pr_sl00, pr_sl10, pr_sl01, pr_sl11, pr_bi, pr_bi2, pr_isnone, pr_notnone, pr_isi, pr_isic, isa_tuple, isa_str, isa_int, isa_bool, isa_list, bl_some, tru_p, truP_bool, truP_int, truP_none, truP_tuple, truP_list, eqP_int, eqP_str, ltP_str, ltP_int, bind_nm, bind_tp, bind_tpl, setAll_nil, setAll_cons, List.getElem?_cons_zero, List.getElem?_cons_succ, List.set_cons_zero, List.set_cons_succ, Option.map_some, Option.map_none, List.map_cons, List.map_nil, Bool.not_true, Bool.not_false, pm_index, pm_count, pm_join, pm_split, pm_replace, pm_upper, rv_index, rv_count, rv_join, rv_split, rv_upper, rv_replace, rv_indexL, rv_countL, Bool.false_eq_true, ↓reduceIte, ev_callv, evS_setIx, evS_swap, evS_retN, evS_pass, addP_int, wipeE, l2, d1]) ⟨a, b, c, rfl⟩
  obtain ⟨ds, S', e, ⟨a', b', c', rfl⟩, f⟩ := z
  obtain ⟨vs, rfl, h1, h2⟩ := wide_ints f
  refine ⟨vs, a', b', c', e, by rw [h2, List.length_range], fun v hv => ?_⟩
  have := h1 v hv
  omega
theorem law_rowset {i n w : Nat} (h : Stm i S) (hn : n < 52) (hw1 : 1 ≤ w) (hw : w ≤ 4) : ∃ rs S', callN C (k + 3) f__law_rowset [.loc i, .p (.int (n : Int)), .p (.int (w : Int))] S = .ok (.p (rsd rs)) S' ∧ Adv i S S' ∧ RsOk rs ∧ rs.length = n ∧ ∀ r ∈ rs, r.vs.length = w := by
  obtain ⟨a, b, c, hs⟩ := h
  have L1 : ∀ S, prim C .lst [.p (.int 1), .p (.int 2), .p (.int 4), .p (.int ((10 : Int) ^ 9))] S = some (.p (.list [.int 1, .int 2, .int 4, .int ((10 : Int) ^ 9)]), S) := fun _ => rfl
  have L2 : ∀ S, prim C .lst [.p (.int 1), .p (.int 3), .p (.int 9), .p (.int ((10 : Int) ^ 6))] S = some (.p (.list [.int 1, .int 3, .int 9, .int ((10 : Int) ^ 6)]), S) := fun _ => rfl
  have L3 : ∀ S, prim C .lst [.p (.int 1), .p (.int 3), .p (.int ((10 : Int) ^ 9))] S = some (.p (.list [.int 1, .int 3, .int ((10 : Int) ^ 9)]), S) := fun _ => rfl
  have P9 : ∀ S, prim C .pow [.p (.int 10), .p (.int 9)] S = some (.p (.int ((10 : Int) ^ 9)), S) := fun _ => pw 9 (by decide)
  have P6 : ∀ S, prim C .pow [.p (.int 10), .p (.int 6)] S = some (.p (.int ((10 : Int) ^ 6)), S) := fun _ => pw 6 (by decide)
  obtain ⟨r1, S1, d1, g1, r10, r11⟩ := draw (k := k + 1) (S := [SC a b c]) (i := 0) (t := 4) stm0 (by decide) (by decide)
  obtain ⟨a1, b1, c1, rfl⟩ := g1.one
  obtain ⟨top, t1, t2⟩ := pickI (xs := [1, 2, 4, (10 : Int) ^ 9]) r10 r11
  obtain ⟨r2, S2, d2, g2, r20, r21⟩ := draw (k := k + 1) (S := [SC a1 b1 c1]) (i := 0) (t := 4) stm0 (by decide) (by decide)
  obtain ⟨a2, b2, c2, rfl⟩ := g2.one
  obtain ⟨dear, t3, t4⟩ := pickI (xs := [1, 3, 9, (10 : Int) ^ 6]) r20 r21
  obtain ⟨r3, S3, d3, g3, r30, r31⟩ := draw (k := k + 1) (S := [SC a2 b2 c2]) (i := 0) (t := 3) stm0 (by decide) (by decide)
  obtain ⟨a3, b3, c3, rfl⟩ := g3.one
  obtain ⟨last, t5, t6⟩ := pickI (xs := [1, 3, (10 : Int) ^ 9]) r30 r31
  replace t2 : ixP (.list [.int 1, .int 2, .int 4, .int ((10 : Int) ^ 9)]) (.int r1) = some (.int top) := t2
  replace t4 : ixP (.list [.int 1, .int 3, .int 9, .int ((10 : Int) ^ 6)]) (.int r2) = some (.int dear) := t4
  replace t6 : ixP (.list [.int 1, .int 3, .int ((10 : Int) ^ 9)]) (.int r3) = some (.int last) := t6
  have htop : 1 ≤ top ∧ top ≤ 1000000000 := by
    simp only [List.mem_cons, List.not_mem_nil, or_false] at t1
    rcases t1 with rfl | rfl | rfl | rfl <;> decide
  have hdear : 1 ≤ dear ∧ dear ≤ 1000000 := by
    simp only [List.mem_cons, List.not_mem_nil, or_false] at t3
    rcases t3 with rfl | rfl | rfl | rfl <;> decide
  have hlast : 1 ≤ last ∧ last ≤ 1000000000 := by
    simp only [List.mem_cons, List.not_mem_nil, or_false] at t5
    rcases t5 with rfl | rfl | rfl <;> decide
  have z := forGo_inv (ck := ckS none) (fb := evB C (callN C (k + 2)) lb__law_rowset_0) (tg := .nm 5) (it := fun (j : Nat) => Val.p (.int (j : Int)))
    (fun as env S => ∃ (rs : List Row) (e5 e8 e9 : Option Val) (a b c : Int), env = [some (.loc 0), some (.p (.int (n : Int))), some (.p (.int (w : Int))), some (.p (.int top)), some (.loc 1), e5, some (.p (.int dear)), some (.p (.int last)), e8, e9] ∧ S = [SC a b c, .lst (rs.map Row.d)] ∧ as = List.range' rs.length (n - rs.length) ∧ rs.length ≤ n ∧ RowsAt w rs) (fun _ _ _ _ => rfl) (fun j as env S h => ?_) (List.range n) [some (.loc 0), some (.p (.int (n : Int))), some (.p (.int (w : Int))), some (.p (.int top)), some (.loc 1), none, some (.p (.int dear)), some (.p (.int last)), none, none] [SC a3 b3 c3, .lst []] ⟨[], none, none, none, a3, b3, c3, rfl, rfl, by rw [List.range_eq_range']; rfl, Nat.zero_le _, fun i r e => by simp at e⟩
  · obtain ⟨env', S', h1, rs, e5, e8, e9, a', b', c', rfl, rfl, h2, h3, h4⟩ := z
    have hlen : rs.length = n := by
      have := congrArg List.length h2
      simp only [List.length_nil, List.length_range'] at this
      omega
    obtain ⟨q1, q2, q3, q4⟩ := sorted_rs h4 (by omega)
    have mk0 : ∀ x : Cell, prim C (.mk .lst) [] [x] = some (.loc 1, [x, .lst []]) := fun _ => rfl
    have hsort : prim C (.bi .sorted) [.loc 1] [SC a' b' c', .lst (rs.map Row.d)] = some (.p (.list ((rs.mergeSort leN).map Row.d)), [SC a' b' c', .lst (rs.map Row.d)]) := by
      show (biP .sorted [.list (rs.map Row.d)]).map (fun d => (Val.p d, _)) = _
      rw [q4]
      rfl
    obtain ⟨S', e, g⟩ := call_stm (k := k + 2) (S := S) (i := i) (ps := [.int (n : Int), .int (w : Int)]) (v := .p (rsd (rs.mergeSort leN))) (r := rsd (rs.mergeSort leN)) [some (.loc 0), some (.p (.int (n : Int))), some (.p (.int (w : Int))), none, none, none, none, none, none, none] g__law_rowset hs (by
      simp only [d__law_rowset, evB_cons, evB_nil, evS_asg, evS_par, evS_expr, evS_ret, evS_ifs, evS_raise, ev_var, ev_lit, ev_gcon, ev_gfn, ev_op, ev_and, ev_or, ev_not, ev_ite, ev_call, ev_chain, ev_meth, evL_nil, evL_cons, pr_add, pr_sub, pr_mul, pr_neg, pr_eq, pr_ne, pr_lt, pr_gt, pr_le, pr_ge, pr_isin, pr_notin, pr_ix, pr_sl00, pr_sl10, pr_sl01, pr_sl11, pr_bi, pr_bi2, pr_isnone, pr_notnone, pr_isi, pr_isic, isa_tuple, isa_str, isa_int, isa_bool, isa_list, bl_some, tru_p, truP_bool, truP_int, truP_none, truP_tuple, truP_list, eqP_int, eqP_str, ltP_str, ltP_int, bind_nm, bind_tp, bind_tpl, setAll_nil, setAll_cons, List.getElem?_cons_zero, List.getElem?_cons_succ, List.set_cons_zero, List.set_cons_succ, Option.map_some, Option.map_none, List.map_cons, List.map_nil, Bool.not_true, Bool.not_false, pm_index, pm_count, pm_join, pm_split, pm_replace, pm_upper, rv_index, rv_count, rv_join, rv_split, rv_upper, rv_replace, rv_indexL, rv_countL, Bool.false_eq_true, ↓reduceIte, ev_callv, evS_setIx, evS_swap, evS_retN, evS_pass, addP_int, L1, L2, L3, P9, P6, d1, t2, d2, t4, d3, t6, mk0, l__law_rowset_0, evS_for, rng1 (show (n : Int) ≤ big by unfold big; omega) (show (0 : Int) ≤ (n : Int) by omega), Int.toNat_natCast, h1, hsort, biP_tuple]
      rfl) rfl
    exact ⟨rs.mergeSort leN, S', e, g, q1, by rw [q2, hlen], q3⟩
  · obtain ⟨rs, e5, e8, e9, a, b, c, rfl, rfl, has, hle, hro⟩ := h
    have hlt : rs.length < n := by
      have := congrArg List.length has
      simp only [List.length_cons, List.length_range'] at this
      omega
    have hr : List.range' rs.length (n - rs.length) = rs.length :: List.range' (rs.length + 1) (n - rs.length - 1) := by
      rw [show n - rs.length = (n - rs.length - 1) + 1 from by omega, List.range'_succ]
      rfl
    rw [hr] at has
    injection has with ej eas
    subst ej
    obtain ⟨vs, a1, b1, c1, w1, w2, w3⟩ := worths (k := k + 1) (top := top) (w := w) htop.1 htop.2 hw (x := .lst (rs.map Row.d)) (a := a) (b := b) (c := c) (e1 := some (.p (.int (n : Int)))) (e4 := some (.loc 1)) (e5 := some (.p (.int (rs.length : Int)))) (e6 := some (.p (.int dear))) (e7 := some (.p (.int last))) (e8 := e8) (e9 := e9)
    obtain ⟨nm, S2, n1, n2, n3⟩ := law_name (k := k) (S := [SC a1 b1 c1, .lst (rs.map Row.d)]) (i := 0) (n := rs.length) stm0 (by omega)
    obtain ⟨a2, b2, c2, rfl⟩ := n2.two
    obtain ⟨p, S3, p1, p2, p3, p4⟩ := draw (k := k + 1) (S := [SC a2 b2 c2, .lst (rs.map Row.d)]) (i := 0) (t := dear) stm0 (by omega) (by omega)
    obtain ⟨a3, b3, c3, rfl⟩ := p2.two
    obtain ⟨q, S4, q1, q2, q3, q4⟩ := draw (k := k + 1) (S := [SC a3 b3 c3, .lst (rs.map Row.d)]) (i := 0) (t := last) stm0 (by omega) (by omega)
    obtain ⟨a4, b4, c4, rfl⟩ := q2.two
    have ht : ∀ (u v w z : PyData) (S : Store), prim C .tup [.p u, .p v, .p w, .p z] S = some (.p (.tuple [u, v, w, z]), S) := fun _ _ _ _ _ => rfl
    have rv : ∀ x y : Cell, recvOk [x, .lst (rs.map Row.d)] .append (.loc 1) = true := fun _ _ => rfl
    have hap : ∀ (d : PyData), primM .append [.loc 1, .p d] [SC a4 b4 c4, .lst (rs.map Row.d)] = some (.p .none, [SC a4 b4 c4, .lst (rs.map Row.d ++ [d])]) := fun d => by
      show (if (rs.map Row.d).length < big then some (Val.p .none, [SC a4 b4 c4, .lst (rs.map Row.d)].set 1 (.lst (rs.map Row.d ++ [d]))) else none) = _
      rw [if_pos (by rw [List.length_map]; unfold big; omega)]
      rfl
    refine ⟨_, [some (.loc 0), some (.p (.int (n : Int))), some (.p (.int (w : Int))), some (.p (.int top)), some (.loc 1), some (.p (.int (rs.length : Int))), some (.p (.int dear)), some (.p (.int last)), some (.p (.tuple (vs.map .int))), e9], [SC a4 b4 c4, .lst (rs.map Row.d ++ [PyData.tuple [.str nm, .int (1 + p), .tuple (vs.map .int), .int (1 + q)]])], rfl, ?_, rs ++ [⟨nm, 1 + p, vs, 1 + q⟩], _, _, _, a4, b4, c4, rfl, by rw [List.map_append]; rfl, ?_, ?_, ?_⟩
    · simp only [lb__law_rowset_0, evB_cons, evB_nil, evS_asg, evS_par, evS_expr, evS_ret, evS_ifs, evS_raise, ev_var, ev_lit, ev_gcon, ev_gfn, ev_op, ev_and, ev_or, ev_not, ev_ite, ev_call, ev_chain, ev_meth, evL_nil, evL_cons, pr_add, pr_sub, pr_mul, pr_neg, pr_eq, pr_ne, pr_lt, pr_gt, pr_le, pr_ge, pr_isin, pr_notin, pr_ix, pr_sl00, pr_sl10, pr_sl01, pr_sl11, pr_bi, pr_bi2, pr_isnone, pr_notnone, pr_isi, pr_isic, isa_tuple, isa_str, isa_int, isa_bool, isa_list, bl_some, tru_p, truP_bool, truP_int, truP_none, truP_tuple, truP_list, eqP_int, eqP_str, ltP_str, ltP_int, bind_nm, bind_tp, bind_tpl, setAll_nil, setAll_cons, List.getElem?_cons_zero, List.getElem?_cons_succ, List.set_cons_zero, List.set_cons_succ, Option.map_some, Option.map_none, List.map_cons, List.map_nil, Bool.not_true, Bool.not_false, pm_index, pm_count, pm_join, pm_split, pm_replace, pm_upper, rv_index, rv_count, rv_join, rv_split, rv_upper, rv_replace, rv_indexL, rv_countL, Bool.false_eq_true, ↓reduceIte, ev_callv, evS_setIx, evS_swap, evS_retN, evS_pass, addP_int, w1, biP_tuple, rv (SC a1 b1 c1) (SC a1 b1 c1), n1, p1, q1, ht, hap]
    · rw [eas, List.length_append]
      show List.range' _ _ = List.range' (rs.length + 1) (n - (rs.length + 1))
      rw [show n - rs.length - 1 = n - (rs.length + 1) from by omega]
    · rw [List.length_append]
      show rs.length + 1 ≤ n
      omega
    · intro i r hi
      by_cases hlt2 : i < rs.length
      · rw [List.getElem?_append_left hlt2] at hi
        exact hro i r hi
      · rw [List.getElem?_append_right (by omega)] at hi
        have : i = rs.length := by
          have := (List.getElem?_eq_some_iff.mp hi).1
          simp only [List.length_cons, List.length_nil] at this
          omega
        subst this
        rw [Nat.sub_self] at hi
        simp only [List.getElem?_cons_zero, Option.some.injEq] at hi
        subst hi
        obtain ⟨x1, x2, x3⟩ := name_ok n3 (by omega)
        exact ⟨n3, ⟨x1, x2, x3, by show 1 ≤ 1 + p; omega, by show 1 + p ≤ _; omega, by show 1 ≤ vs.length; omega, by show vs.length ≤ 4; omega, w3, by show 1 ≤ 1 + q; omega, by show 1 + q ≤ _; omega⟩, w2⟩
end Mt

/-! Mc: changed texts. -/
namespace Mc
open PySem Ev Mb I Mr Mi Mw Mx Md Mn Mo Mp Mq Mt NumText L2
variable {S : Store} {k : Nat}
theorem sum_set : ∀ (l : List Nat) (i v : Nat) (h : i < l.length), (l.set i v).sum + l[i] = l.sum + v
  | x :: l, 0, v, _ => by simp; omega
  | x :: l, i + 1, v, h => by
    have := sum_set l i v (by simpa using h)
    simp only [List.set_cons_succ, List.sum_cons, List.getElem_cons_succ]
    omega
theorem sum_swap (l : List Nat) (i j : Nat) (hi : i < l.length) (hj : j < l.length) : ((l.set i l[j]).set j l[i]).sum = l.sum := by
  have h1 := sum_set l i l[j] hi
  have h2 := sum_set (l.set i l[j]) j l[i] (by rw [List.length_set]; exact hj)
  have h3 : (l.set i l[j])[j]'(by rw [List.length_set]; exact hj) = l[j] := by
    rw [List.getElem_set]
    split
    · rfl
    · rfl
  omega
theorem sum_erase : ∀ (l : List Nat) (i : Nat), (l.eraseIdx i).sum ≤ l.sum
  | [], _ => by simp
  | x :: l, 0 => by simp
  | x :: l, i + 1 => by
    have := sum_erase l i
    simp only [List.eraseIdx_cons_succ, List.sum_cons]
    omega
def wsum (l : List Str) : Nat := (l.map (·.length)).sum
theorem wswap (l : List Str) (i j : Nat) (hi : i < l.length) (hj : j < l.length) : wsum ((l.set i l[j]).set j l[i]) = wsum l := by
  unfold wsum
  rw [List.map_set, List.map_set]
  have := sum_swap (l.map (·.length)) i j (by simpa using hi) (by simpa using hj)
  simpa using this
theorem werase : ∀ (l : List Str) (i : Nat), wsum (l.eraseIdx i) ≤ wsum l
  | [], _ => by simp
  | x :: l, 0 => by simp [wsum]
  | x :: l, i + 1 => by
    have := werase l i
    simp only [wsum, List.eraseIdx_cons_succ, List.map_cons, List.sum_cons] at *
    omega
theorem map_erase : ∀ (l : List Str) (i : Nat), (l.map PyData.str).eraseIdx i = (l.eraseIdx i).map .str
  | [], _ => rfl
  | x :: l, 0 => rfl
  | x :: l, i + 1 => by
    show PyData.str x :: (l.map PyData.str).eraseIdx i = .str x :: (l.eraseIdx i).map .str
    rw [map_erase l i]
theorem split_w (x : Str) : wsum (Txt.split x sp) + (Txt.split x sp).length ≤ x.length + 1 := PyProof.Rows.split_weight x sp (by decide)
theorem joinw {l : List Str} {n : Nat} (h : wsum l + l.length ≤ n) (hn : n ≤ 100000) : meP .join [.str sp, .list (l.map .str)] = some (.str (Txt.join sp l)) ∧ (Txt.join sp l).length ≤ n := by
  have e : sp.length = 1 := rfl
  constructor
  · exact join_strs (by
      rw [e]
      unfold wsum at h
      unfold big
      omega)
  · have e2 : Txt.join sp l = Str.join sp l := StrLaws.glued_eq_join _ _
    rw [e2]
    have := StrLaws.join_length_le sp l
    rw [e] at this
    unfold wsum at h
    omega
/-- a text of bounded length -/
def Short (n : Nat) (d : PyData) : Prop := ∃ y : Str, d = .str y ∧ y.length ≤ n
theorem cut_p {x : Str} {lo hi : Option Int} (h : x.length ≤ big) : slP (.str x) lo hi = some (.str (cutS x lo hi)) := if_pos h
theorem short_ix {xs : List PyData} {n : Nat} {r : Int} (h : ∀ d ∈ xs, Short n d) (h0 : 0 ≤ r) (h1 : r < xs.length) : ∃ y : Str, ixP (.list xs) (.int r) = some (.str y) ∧ y.length ≤ n := by
  obtain ⟨d, hd, e⟩ := pick h0 h1
  obtain ⟨y, rfl, hy⟩ := h d hd
  exact ⟨y, e, hy⟩
def signs : List PyData := [.str ⟨#[32]⟩, .str ⟨#[48]⟩, .str ⟨#[45]⟩, .str ⟨#[59]⟩, .str ⟨#[44]⟩, .str ⟨#[120]⟩, .str ⟨#[65]⟩, .str ⟨#[32, 32]⟩, .str ⟨#[32, 59, 32]⟩, .str ⟨#[10]⟩, .str ⟨#[43]⟩, .str ⟨#[57]⟩, .str ⟨#[49]⟩, .str ⟨#[46]⟩, .str ⟨#[45, 48]⟩, .str ⟨#[]⟩]
theorem signs_short : ∀ d ∈ signs, Short 3 d := by
  intro d hd
  unfold signs at hd
  simp only [List.mem_cons, List.not_mem_nil, or_false] at hd
  rcases hd with rfl | rfl | rfl | rfl | rfl | rfl | rfl | rfl | rfl | rfl | rfl | rfl | rfl | rfl | rfl | rfl <;> exact ⟨_, rfl, by decide⟩
theorem ixN_in {n : Nat} {r : Int} (h0 : 0 ≤ r) (h : r < n) : ixN n r = some r.toNat := by
  unfold ixN
  rw [if_pos h0, if_pos h]
theorem seq_in {n : Nat} {r : Int} (h0 : 0 ≤ r) (h : r < n) : seqIndex? r n = some r.toNat := by
  unfold seqIndex?
  simp only
  rw [if_neg (show ¬ r < 0 by omega), if_pos (by simp [h0, h])]
theorem cell_ix {ds : List PyData} {x : Cell} {d : PyData} {r : Int} (h0 : 0 ≤ r) (h : r < ds.length) (hd : ds[r.toNat]? = some d) : prim C .ix [.loc 1, .p (.int r)] [x, .lst ds] = some (.p d, [x, .lst ds]) := by
  show (atI ds r).map (fun d => (Val.p d, [x, Cell.lst ds])) = _
  unfold atI
  rw [ixN_in h0 h]
  show (ds[r.toNat]?).map _ = _
  rw [hd]
  rfl
theorem cell_set {ds : List PyData} {x : Cell} {d : PyData} {r : Int} (h0 : 0 ≤ r) (h : r < ds.length) : setIxV [x, .lst ds] (.loc 1) (.p (.int r)) (.p d) = some [x, .lst (ds.set r.toNat d)] := by
  show (match ixN ds.length r with
      | some n => some ([x, Cell.lst ds].set 1 (.lst (ds.set n d)))
      | none => none) = _
  rw [ixN_in h0 h]
  rfl
theorem cell_pop {ds : List PyData} {x : Cell} {d : PyData} {r : Int} (h0 : 0 ≤ r) (h : r < ds.length) (hl : ds.length ≤ 100000) (hd : ds[r.toNat]? = some d) : primM .popAt [.loc 1, .p (.int r)] [x, .lst ds] = some (.p d, [x, .lst (ds.eraseIdx r.toNat)]) := by
  show (if -(2 ^ 63) ≤ r ∧ r < 2 ^ 63 then match seqIndex? r ds.length with
      | some j => match ds[j]? with
        | some d => some (Val.p d, [x, Cell.lst ds].set 1 (.lst (ds.eraseIdx j)))
        | none => none
      | none => none else none) = _
  rw [if_pos (by omega), seq_in h0 h]
  dsimp only
  rw [hd]
  rfl
set_option maxRecDepth 100000 in
theorem changed {i : Nat} {x : Str} (h : Stm i S) (hx : x.length ≤ 2000) : ∃ y S', callN C (k + 2) f__law_changed_text [.loc i, .p (.str x)] S = .ok (.p (.str y)) S' ∧ Adv i S S' ∧ y.length ≤ 3 * x.length + 3 := by
  obtain ⟨a, b, c, hs⟩ := h
  have hb : x.length ≤ big := by unfold big; omega
  have L16 : ∀ S, prim C .lst [.p (.str ⟨#[32]⟩), .p (.str ⟨#[48]⟩), .p (.str ⟨#[45]⟩), .p (.str ⟨#[59]⟩), .p (.str ⟨#[44]⟩), .p (.str ⟨#[120]⟩), .p (.str ⟨#[65]⟩), .p (.str ⟨#[32, 32]⟩), .p (.str ⟨#[32, 59, 32]⟩), .p (.str ⟨#[10]⟩), .p (.str ⟨#[43]⟩), .p (.str ⟨#[57]⟩), .p (.str ⟨#[49]⟩), .p (.str ⟨#[46]⟩), .p (.str ⟨#[45, 48]⟩), .p (.str ⟨#[]⟩)] S = some (.p (.list signs), S) := fun _ => rfl
  obtain ⟨m, S1, d1, g1, m0, m9⟩ := draw (k := k) (S := [SC a b c]) (i := 0) (t := 9) stm0 (by decide) (by decide)
  obtain ⟨a1, b1, c1, rfl⟩ := g1.one
  obtain ⟨at_, S2, d2, g2, at0, at1⟩ := draw (k := k) (S := [SC a1 b1 c1]) (i := 0) (t := (x.length : Int) + 1) stm0 (by omega) (by omega)
  obtain ⟨a2, b2, c2, rfl⟩ := g2.one
  obtain ⟨r3, S3, d3, g3, r30, r31⟩ := draw (k := k) (S := [SC a2 b2 c2]) (i := 0) (t := 16) stm0 (by decide) (by decide)
  obtain ⟨a3, b3, c3, rfl⟩ := g3.one
  obtain ⟨sg, hsg, hsl⟩ := short_ix signs_short r30 r31
  have hsp := split_p (x := x) (y := sp) rfl (by unfold big; omega)
  have hpos := PyProof.Rows.split_pos x sp
  have hle := PyProof.Rows.split_le x sp
  have hww := split_w x
  obtain ⟨ws, hws⟩ : ∃ ws, Txt.split x sp = ws := ⟨_, rfl⟩
  rw [hws] at hsp hpos hle hww
  have hlen : ∀ y : Cell, prim C (.bi .len) [.loc 1] [y, .lst (ws.map .str)] = some (.p (.int (ws.length : Nat)), [y, .lst (ws.map .str)]) := fun y => by
    show some (Val.p (PyData.int ((ws.map PyData.str).length : Nat)), [y, Cell.lst (ws.map .str)]) = _
    rw [List.length_map]
  obtain ⟨fi, S4, d4, g4, fi0, fi1⟩ := draw (k := k) (S := [SC a3 b3 c3, .lst (ws.map .str)]) (i := 0) (t := (ws.length : Nat)) stm0 (by omega) (by omega)
  obtain ⟨a4, b4, c4, rfl⟩ := g4.two
  obtain ⟨se, S5, d5, g5, se0, se1⟩ := draw (k := k) (S := [SC a4 b4 c4, .lst (ws.map .str)]) (i := 0) (t := (ws.length : Nat)) stm0 (by omega) (by omega)
  obtain ⟨a5, b5, c5, rfl⟩ := g5.two
  obtain ⟨r6, S6, d6, g6, r60, r61⟩ := draw (k := k) (S := [SC a5 b5 c5, .lst (ws.map .str)]) (i := 0) (t := 6) stm0 (by decide) (by decide)
  obtain ⟨a6, b6, c6, rfl⟩ := g6.two
  obtain ⟨r7, S7, d7, g7, r70, r71⟩ := draw (k := k) (S := [SC a5 b5 c5, .lst (ws.map .str)]) (i := 0) (t := 2) stm0 (by decide) (by decide)
  obtain ⟨a7, b7, c7, rfl⟩ := g7.two
  have done : ∀ (env0 : Slots) (v : Val) (y : Str) (a' b' c' : Int) (rest : Store), env0 = [some (.loc 0), some (.p (.str x)), none, none, none, none, none, none, none] → evB C (callN C (k + 1)) d__law_changed_text.body env0 [SC a b c] = .rt v (SC a' b' c' :: rest) → v = .p (.str y) → y.length ≤ 3 * x.length + 3 →
      ∃ y S', callN C (k + 2) f__law_changed_text [.loc i, .p (.str x)] S = .ok (.p (.str y)) S' ∧ Adv i S S' ∧ y.length ≤ 3 * x.length + 3 := by
    rintro _ v y a' b' c' rest rfl hbody rfl hy
    obtain ⟨S', e, g⟩ := call_stm (k := k + 1) (S := S) (i := i) (ps := [.str x]) (rest := rest) (v := .p (.str y)) (r := .str y) [some (.loc 0), some (.p (.str x)), none, none, none, none, none, none, none] g__law_changed_text hs hbody rfl
    exact ⟨y, S', e, g, hy⟩
  have bl1 : biP .len [.str x] = some (.int (x.length : Nat)) := if_pos hb
  have rvL : ∀ y : Cell, recvOk [y, .lst (ws.map .str)] .popAt (.loc 1) = true := fun _ => rfl
  have cut : ∀ lo hi, slP (.str x) lo hi = some (.str (cutS x lo hi)) := fun lo hi => if_pos hb
  have cl : ∀ lo hi, (cutS x lo hi).length ≤ x.length := fun lo hi => cutS_length x lo hi
  have ad : ∀ y z : Str, y.length + z.length ≤ 10000 → addP (.str y) (.str z) = some (.str (y ++ z)) := fun y z h => add_str (by unfold big; omega)
  have hget : ∀ r : Int, 0 ≤ r → r < (ws.length : Nat) → ∃ w, (ws.map PyData.str)[r.toNat]? = some (.str w) ∧ ws[r.toNat]? = some w := fun r h0 h1 => by
    have : r.toNat < ws.length := by omega
    exact ⟨ws[r.toNat], by rw [List.getElem?_map, List.getElem?_eq_getElem this]; rfl, List.getElem?_eq_getElem this⟩
  have hlm : (ws.map PyData.str).length = ws.length := List.length_map _
  by_cases e0 : m = 0
  · subst e0
    have u1 : meP .upper [.str x] = some (.str (Txt.upper x)) := if_pos hb
    have R : meP .replace [.str x, .str sp, .str ⟨#[32, 32]⟩] = some (.str (Txt.replace x sp ⟨#[32, 32]⟩)) := if_pos ⟨by
      have e : (⟨#[32, 32]⟩ : Str).length = 2 := rfl
      rw [e]
      omega, by decide⟩
    have es : sp.length = 1 := rfl
    have L6 : ∀ (u v w z p q : PyData) S, prim C .lst [.p u, .p v, .p w, .p z, .p p, .p q] S = some (.p (.list [u, v, w, z, p, q]), S) := fun _ _ _ _ _ _ _ => rfl
    obtain ⟨y, hy, hyl⟩ := short_ix (xs := [.str (Txt.upper x), .str (sp ++ x), .str (x ++ sp), .str (x ++ x), .str ⟨#[]⟩, .str (Txt.replace x sp ⟨#[32, 32]⟩)]) (n := 3 * x.length + 3) (fun d hd => by
      simp only [List.mem_cons, List.not_mem_nil, or_false] at hd
      rcases hd with rfl | rfl | rfl | rfl | rfl | rfl
      · exact ⟨_, rfl, by have := PyProof.Rows.len_upper x; omega⟩
      · exact ⟨_, rfl, by rw [PySem.Str.length_append]; omega⟩
      · exact ⟨_, rfl, by rw [PySem.Str.length_append]; omega⟩
      · exact ⟨_, rfl, by rw [PySem.Str.length_append]; omega⟩
      · exact ⟨_, rfl, Nat.zero_le _⟩
      · exact ⟨_, rfl, by
          have := TK.replace_len x sp ⟨#[32, 32]⟩
          have e : (⟨#[32, 32]⟩ : Str).length = 2 := rfl
          rw [e] at this
          omega⟩) r60 r61
    refine done _ (.p (.str y)) y a6 b6 c6 [.lst (ws.map .str)] rfl ?_ rfl hyl
    simp only [d__law_changed_text, evB_cons, evB_nil, evS_asg, evS_par, evS_expr, evS_ret, evS_ifs, evS_raise, ev_var, ev_lit, ev_gcon, ev_gfn, ev_op, ev_and, ev_or, ev_not, ev_ite, ev_call, ev_chain, ev_meth, evL_nil, evL_cons, pr_add, pr_sub, pr_mul, pr_neg, pr_eq, pr_ne, pr_lt, pr_gt, pr_le, pr_ge, pr_isin, pr_notin, pr_ix, pr_sl00, pr_sl10, pr_sl01, pr_sl11, pr_bi, pr_bi2, pr_isnone, pr_notnone, pr_isi, pr_isic, isa_tuple, isa_str, isa_int, isa_bool, isa_list, bl_some, tru_p, truP_bool, truP_int, truP_none, truP_tuple, truP_list, eqP_int, eqP_str, ltP_str, ltP_int, bind_nm, bind_tp, bind_tpl, setAll_nil, setAll_cons, List.getElem?_cons_zero, List.getElem?_cons_succ, List.set_cons_zero, List.set_cons_succ, Option.map_some, Option.map_none, List.map_cons, List.map_nil, Bool.not_true, Bool.not_false, pm_index, pm_count, pm_join, pm_split, pm_replace, pm_upper, rv_index, rv_count, rv_join, rv_split, rv_upper, rv_replace, rv_indexL, rv_countL, Bool.false_eq_true, ↓reduceIte, ev_callv, evS_setIx, evS_swap, evS_retN, evS_pass, addP_int, L16, d1, bl1, d2, d3, hsg, hsp, hlen, List.length_cons, List.length_nil, List.cons_append, List.nil_append, d4, d5, show ((0 : Int) == 0) = true from rfl, u1, ad sp x (by omega), ad x sp (by omega), ad x x (by omega), R, L6, d6, hy]
  · have n0 : (m == 0) = false := by rw [beq_eq_false_iff_ne]; exact e0
    by_cases e1 : m < 3
    · refine done _ (.p (.str _)) (cutS x none (some at_) ++ cutS x (some (at_ + 1 + r7)) none) a7 b7 c7 [.lst (ws.map .str)] rfl ?_ rfl ?_
      · simp only [d__law_changed_text, evB_cons, evB_nil, evS_asg, evS_par, evS_expr, evS_ret, evS_ifs, evS_raise, ev_var, ev_lit, ev_gcon, ev_gfn, ev_op, ev_and, ev_or, ev_not, ev_ite, ev_call, ev_chain, ev_meth, evL_nil, evL_cons, pr_add, pr_sub, pr_mul, pr_neg, pr_eq, pr_ne, pr_lt, pr_gt, pr_le, pr_ge, pr_isin, pr_notin, pr_ix, pr_sl00, pr_sl10, pr_sl01, pr_sl11, pr_bi, pr_bi2, pr_isnone, pr_notnone, pr_isi, pr_isic, isa_tuple, isa_str, isa_int, isa_bool, isa_list, bl_some, tru_p, truP_bool, truP_int, truP_none, truP_tuple, truP_list, eqP_int, eqP_str, ltP_str, ltP_int, bind_nm, bind_tp, bind_tpl, setAll_nil, setAll_cons, List.getElem?_cons_zero, List.getElem?_cons_succ, List.set_cons_zero, List.set_cons_succ, Option.map_some, Option.map_none, List.map_cons, List.map_nil, Bool.not_true, Bool.not_false, pm_index, pm_count, pm_join, pm_split, pm_replace, pm_upper, rv_index, rv_count, rv_join, rv_split, rv_upper, rv_replace, rv_indexL, rv_countL, Bool.false_eq_true, ↓reduceIte, ev_callv, evS_setIx, evS_swap, evS_retN, evS_pass, addP_int, L16, d1, bl1, d2, d3, hsg, hsp, hlen, List.length_cons, List.length_nil, List.cons_append, List.nil_append, d4, d5, n0, e1, decide_true, cut, d7, ad (cutS x none (some at_)) (cutS x (some (at_ + 1 + r7)) none) (by have := cl none (some at_); have := cl (some (at_ + 1 + r7)) none; omega)]
      · rw [PySem.Str.length_append]
        have := cl none (some at_)
        have := cl (some (at_ + 1 + r7)) none
        omega
    · by_cases e2 : m < 5
      · have h1 := cl none (some at_)
        have h2 := cl (some at_) none
        refine done _ (.p (.str _)) (cutS x none (some at_) ++ sg ++ cutS x (some at_) none) a5 b5 c5 [.lst (ws.map .str)] rfl ?_ rfl ?_
        · simp only [d__law_changed_text, evB_cons, evB_nil, evS_asg, evS_par, evS_expr, evS_ret, evS_ifs, evS_raise, ev_var, ev_lit, ev_gcon, ev_gfn, ev_op, ev_and, ev_or, ev_not, ev_ite, ev_call, ev_chain, ev_meth, evL_nil, evL_cons, pr_add, pr_sub, pr_mul, pr_neg, pr_eq, pr_ne, pr_lt, pr_gt, pr_le, pr_ge, pr_isin, pr_notin, pr_ix, pr_sl00, pr_sl10, pr_sl01, pr_sl11, pr_bi, pr_bi2, pr_isnone, pr_notnone, pr_isi, pr_isic, isa_tuple, isa_str, isa_int, isa_bool, isa_list, bl_some, tru_p, truP_bool, truP_int, truP_none, truP_tuple, truP_list, eqP_int, eqP_str, ltP_str, ltP_int, bind_nm, bind_tp, bind_tpl, setAll_nil, setAll_cons, List.getElem?_cons_zero, List.getElem?_cons_succ, List.set_cons_zero, List.set_cons_succ, Option.map_some, Option.map_none, List.map_cons, List.map_nil, Bool.not_true, Bool.not_false, pm_index, pm_count, pm_join, pm_split, pm_replace, pm_upper, rv_index, rv_count, rv_join, rv_split, rv_upper, rv_replace, rv_indexL, rv_countL, Bool.false_eq_true, ↓reduceIte, ev_callv, evS_setIx, evS_swap, evS_retN, evS_pass, addP_int, L16, d1, bl1, d2, d3, hsg, hsp, hlen, List.length_cons, List.length_nil, List.cons_append, List.nil_append, d4, d5, n0, e1, e2, decide_true, decide_false, cut, ad (cutS x none (some at_)) sg (by omega), ad (cutS x none (some at_) ++ sg) (cutS x (some at_) none) (by rw [PySem.Str.length_append]; omega)]
        · rw [PySem.Str.length_append, PySem.Str.length_append]
          omega
      · by_cases e3 : m < 7
        · have h1 := cl none (some at_)
          have h2 := cl (some (at_ + 1)) none
          refine done _ (.p (.str _)) (cutS x none (some at_) ++ sg ++ cutS x (some (at_ + 1)) none) a5 b5 c5 [.lst (ws.map .str)] rfl ?_ rfl ?_
          · simp only [d__law_changed_text, evB_cons, evB_nil, evS_asg, evS_par, evS_expr, evS_ret, evS_ifs, evS_raise, ev_var, ev_lit, ev_gcon, ev_gfn, ev_op, ev_and, ev_or, ev_not, ev_ite, ev_call, ev_chain, ev_meth, evL_nil, evL_cons, pr_add, pr_sub, pr_mul, pr_neg, pr_eq, pr_ne, pr_lt, pr_gt, pr_le, pr_ge, pr_isin, pr_notin, pr_ix, pr_sl00, pr_sl10, pr_sl01, pr_sl11, pr_bi, pr_bi2, pr_isnone, pr_notnone, pr_isi, pr_isic, isa_tuple, isa_str, isa_int, isa_bool, isa_list, bl_some, tru_p, truP_bool, truP_int, truP_none, truP_tuple, truP_list, eqP_int, eqP_str, ltP_str, ltP_int, bind_nm, bind_tp, bind_tpl, setAll_nil, setAll_cons, List.getElem?_cons_zero, List.getElem?_cons_succ, List.set_cons_zero, List.set_cons_succ, Option.map_some, Option.map_none, List.map_cons, List.map_nil, Bool.not_true, Bool.not_false, pm_index, pm_count, pm_join, pm_split, pm_replace, pm_upper, rv_index, rv_count, rv_join, rv_split, rv_upper, rv_replace, rv_indexL, rv_countL, Bool.false_eq_true, ↓reduceIte, ev_callv, evS_setIx, evS_swap, evS_retN, evS_pass, addP_int, L16, d1, bl1, d2, d3, hsg, hsp, hlen, List.length_cons, List.length_nil, List.cons_append, List.nil_append, d4, d5, n0, e1, e2, e3, decide_true, decide_false, cut, ad (cutS x none (some at_)) sg (by omega), ad (cutS x none (some at_) ++ sg) (cutS x (some (at_ + 1)) none) (by rw [PySem.Str.length_append]; omega)]
          · rw [PySem.Str.length_append, PySem.Str.length_append]
            omega
        · obtain ⟨wf, f1, f2⟩ := hget fi fi0 fi1
          obtain ⟨wse, s1, s2⟩ := hget se se0 se1
          have pmj : ∀ (y : Cell) (l : List Str), primM .join [.p (.str ⟨#[32]⟩), .loc 1] [y, .lst (l.map .str)] = (meP .join [.str sp, .list (l.map .str)]).map fun d => (Val.p d, [y, .lst (l.map .str)]) := fun _ _ => rfl
          by_cases e4 : m = 7
          · subst e4
            have hfl : fi.toNat < ws.length := by omega
            have hsl2 : se.toNat < ws.length := by omega
            have gf : ws[fi.toNat] = wf := by rw [List.getElem?_eq_getElem hfl] at f2; exact Option.some.inj f2
            have gs : ws[se.toNat] = wse := by rw [List.getElem?_eq_getElem hsl2] at s2; exact Option.some.inj s2
            have hsum := wswap ws fi.toNat se.toNat hfl hsl2
            rw [gf, gs] at hsum
            obtain ⟨j1, j2⟩ := joinw (l := (ws.set fi.toNat wse).set se.toNat wf) (n := x.length + 1) (by rw [hsum, List.length_set, List.length_set]; exact hww) (by omega)
            have c1_ := cell_ix (x := SC a5 b5 c5) se0 (by rw [hlm]; exact se1) s1
            have c2_ := cell_ix (x := SC a5 b5 c5) fi0 (by rw [hlm]; exact fi1) f1
            have c3_ := cell_set (ds := ws.map .str) (x := SC a5 b5 c5) (d := .str wse) fi0 (by rw [hlm]; exact fi1)
            have c4_ := cell_set (ds := (ws.map .str).set fi.toNat (.str wse)) (x := SC a5 b5 c5) (d := .str wf) se0 (by rw [List.length_set, hlm]; exact se1)
            have c5_ : ((ws.map PyData.str).set fi.toNat (.str wse)).set se.toNat (.str wf) = ((ws.set fi.toNat wse).set se.toNat wf).map .str := by rw [List.map_set, List.map_set]
            rw [c5_] at c4_
            refine done _ (.p (.str _)) (Txt.join sp ((ws.set fi.toNat wse).set se.toNat wf)) a5 b5 c5 [.lst (((ws.set fi.toNat wse).set se.toNat wf).map .str)] rfl ?_ rfl (by omega)
            simp only [d__law_changed_text, evB_cons, evB_nil, evS_asg, evS_par, evS_expr, evS_ret, evS_ifs, evS_raise, ev_var, ev_lit, ev_gcon, ev_gfn, ev_op, ev_and, ev_or, ev_not, ev_ite, ev_call, ev_chain, ev_meth, evL_nil, evL_cons, pr_add, pr_sub, pr_mul, pr_neg, pr_eq, pr_ne, pr_lt, pr_gt, pr_le, pr_ge, pr_isin, pr_notin, pr_ix, pr_sl00, pr_sl10, pr_sl01, pr_sl11, pr_bi, pr_bi2, pr_isnone, pr_notnone, pr_isi, pr_isic, isa_tuple, isa_str, isa_int, isa_bool, isa_list, bl_some, tru_p, truP_bool, truP_int, truP_none, truP_tuple, truP_list, eqP_int, eqP_str, ltP_str, ltP_int, bind_nm, bind_tp, bind_tpl, setAll_nil, setAll_cons, List.getElem?_cons_zero, List.getElem?_cons_succ, List.set_cons_zero, List.set_cons_succ, Option.map_some, Option.map_none, List.map_cons, List.map_nil, Bool.not_true, Bool.not_false, pm_index, pm_count, pm_join, pm_split, pm_replace, pm_upper, rv_index, rv_count, rv_join, rv_split, rv_upper, rv_replace, rv_indexL, rv_countL, Bool.false_eq_true, ↓reduceIte, ev_callv, evS_setIx, evS_swap, evS_retN, evS_pass, addP_int, L16, d1, bl1, d2, d3, hsg, hsp, hlen, List.length_cons, List.length_nil, List.cons_append, List.nil_append, d4, d5, n0, e1, e2, e3, decide_false, show ((7 : Int) == 7) = true from rfl, c1_, c2_, c3_, c4_, pmj, j1]
          · have n7 : (m == 7) = false := by rw [beq_eq_false_iff_ne]; exact e4
            obtain ⟨j1, j2⟩ := joinw (l := ws.eraseIdx fi.toNat) (n := x.length + 1) (by
              have := werase ws fi.toNat
              have : (ws.eraseIdx fi.toNat).length ≤ ws.length := List.length_eraseIdx_le ..
              omega) (by omega)
            have cp := cell_pop (x := SC a5 b5 c5) fi0 (by rw [hlm]; exact fi1) (by rw [hlm]; omega) f1
            have c5_ : (ws.map PyData.str).eraseIdx fi.toNat = (ws.eraseIdx fi.toNat).map .str := map_erase ws fi.toNat
            rw [c5_] at cp
            refine done _ (.p (.str _)) (Txt.join sp (ws.eraseIdx fi.toNat)) a5 b5 c5 [.lst ((ws.eraseIdx fi.toNat).map .str)] rfl ?_ rfl (by omega)
            simp only [d__law_changed_text, evB_cons, evB_nil, evS_asg, evS_par, evS_expr, evS_ret, evS_ifs, evS_raise, ev_var, ev_lit, ev_gcon, ev_gfn, ev_op, ev_and, ev_or, ev_not, ev_ite, ev_call, ev_chain, ev_meth, evL_nil, evL_cons, pr_add, pr_sub, pr_mul, pr_neg, pr_eq, pr_ne, pr_lt, pr_gt, pr_le, pr_ge, pr_isin, pr_notin, pr_ix, pr_sl00, pr_sl10, pr_sl01, pr_sl11, pr_bi, pr_bi2, pr_isnone, pr_notnone, pr_isi, pr_isic, isa_tuple, isa_str, isa_int, isa_bool, isa_list, bl_some, tru_p, truP_bool, truP_int, truP_none, truP_tuple, truP_list, eqP_int, eqP_str, ltP_str, ltP_int, bind_nm, bind_tp, bind_tpl, setAll_nil, setAll_cons, List.getElem?_cons_zero, List.getElem?_cons_succ, List.set_cons_zero, List.set_cons_succ, Option.map_some, Option.map_none, List.map_cons, List.map_nil, Bool.not_true, Bool.not_false, pm_index, pm_count, pm_join, pm_split, pm_replace, pm_upper, rv_index, rv_count, rv_join, rv_split, rv_upper, rv_replace, rv_indexL, rv_countL, Bool.false_eq_true, ↓reduceIte, ev_callv, evS_setIx, evS_swap, evS_retN, evS_pass, addP_int, L16, d1, bl1, d2, d3, hsg, hsp, hlen, List.length_cons, List.length_nil, List.cons_append, List.nil_append, d4, d5, n0, e1, e2, e3, decide_false, n7, rvL, cp, pmj, j1]
end Mc

/-! Ml: results of calls, texts that are read alike. -/
namespace Ml
open PySem Ev Mb I Mr Mi Mw Mx Md Mn Mo Mp Mq Mt Mc NumText L2
variable {S : Store} {k : Nat}
theorem cr_ok {f : Nat} {v : Val} {r : PyData} (hv : locsOf [v] = some []) (hin : inV [] v = v) (hf : (C.defs[f]?).isSome = true) (h : callN C k f [v] [] = .ok (.p r) []) : callN C (k + 1) f__law_call_result [.fn f, v] S = .ok (.p r) S := by
  refine call_rt (S1 := []) [some (.fn f), some v, none, none] g__law_call_result ?_ rfl hv rfl (by
    show [some (.fn f), some (inV [] v), none, none] = _
    rw [hin])
  simp only [d__law_call_result, evB_cons, evB_nil, evS_asg, evS_par, evS_expr, evS_ret, evS_ifs, evS_raise, ev_var, ev_lit, ev_gcon, ev_gfn, ev_op, ev_and, ev_or, ev_not, ev_ite, ev_call, ev_chain, ev_meth, evL_nil, evL_cons, pr_add, pr_sub, pr_mul, pr_neg, pr_eq, pr_ne, pr_lt, pr_gt, pr_le, pr_ge, pr_isin, pr_notin, pr_ix, pr_sl00, pr_sl10, pr_sl01, pr_sl11, pr_bi, pr_bi2, pr_isnone, pr_notnone, pr_isi, pr_isic, isa_tuple, isa_str, isa_int, isa_bool, isa_list, bl_some, tru_p, truP_bool, truP_int, truP_none, truP_tuple, truP_list, eqP_int, eqP_str, ltP_str, ltP_int, bind_nm, bind_tp, bind_tpl, setAll_nil, setAll_cons, List.getElem?_cons_zero, List.getElem?_cons_succ, List.set_cons_zero, List.set_cons_succ, Option.map_some, Option.map_none, List.map_cons, List.map_nil, Bool.not_true, Bool.not_false, pm_index, pm_count, pm_join, pm_split, pm_replace, pm_upper, rv_index, rv_count, rv_join, rv_split, rv_upper, rv_replace, rv_indexL, rv_countL, Bool.false_eq_true, ↓reduceIte, ev_callv, evS_setIx, evS_swap, evS_retN, evS_pass, addP_int, evS_try, hf, h]
theorem try_step {F : Nat → List Val → Store → Res} {body suite : List Ev.St} {env env1 env2 : Slots} {S S1 S2 : Store} {c h j : Nat} {i : ClsI} (h1 : evB C F body env S = .ex c [] env1 S1) (h2 : C.clss[c]? = some i) (h3 : i.anc.contains h = true)
    (h4 : evB C F suite (env1.set j (some (.exc c []))) S1 = .nx env2 S2) (h5 : noExcE (env2.set j none) = true) : evS C F (.tryAs body [h] (some j) suite) env S = .nx (env2.set j none) S2 := by
  rw [evS_try, h1]
  dsimp only
  rw [h2]
  dsimp only
  rw [if_pos h3, if_pos (show ([] : List Val).isEmpty = true from rfl), h4]
  dsimp only
  rw [if_pos h5]
def pP : Str := ⟨#[112, 97, 114, 115, 101]⟩
def pR : Str := ⟨#[114, 111, 119]⟩
def pS : Str := ⟨#[114, 111, 119, 115, 101, 116]⟩
theorem cr_ex {f c : Nat} {v : Val} {i : ClsI} {b1 b2 b3 : Bool} {y : Str} (hv : locsOf [v] = some []) (hin : inV [] v = v) (hn : noExc v = true) (hf : (C.defs[f]?).isSome = true) (h : callN C k f [v] [] = .ex c [] [])
    (h2 : C.clss[c]? = some i) (h3 : i.anc.contains cl_SparesError = true) (e1 : isiV C [] (.cls cl_ParseError) (.exc c []) = some b1) (e2 : isiV C [] (.cls cl_InvalidRow) (.exc c []) = some b2) (e3 : isiV C [] (.cls cl_InvalidRowset) (.exc c []) = some b3)
    (hc : meP .count [.list [.bool b1, .bool b2, .bool b3], .bool true] = some (.int 1)) (j : Nat) (hi : meP .index [.list [.bool b1, .bool b2, .bool b3], .bool true] = some (.int (j : Int))) (hj : ixP (.list [.str pP, .str pR, .str pS]) (.int (j : Int)) = some (.str y)) : callN C (k + 1) f__law_call_result [.fn f, v] S = .ok (.p (.str y)) S := by
  refine call_rt (S1 := []) [some (.fn f), some v, none, none] g__law_call_result ?_ rfl hv rfl (by
    show [some (.fn f), some (inV [] v), none, none] = _
    rw [hin])
  have L3 : ∀ (u v w : PyData), prim C .lst [.p u, .p v, .p w] [] = some (.p (.list [u, v, w]), []) := fun _ _ _ => rfl
  have z := try_step (F := callN C k) (body := [.ret (.callv 0 [(.var 1)])]) (env := [some (.fn f), some v, none, none]) (env1 := [some (.fn f), some v, none, none]) (S := []) (S1 := []) (S2 := []) (h := cl_SparesError) (j := 2)
    (suite := [.asg (.nm 3) (.op .lst [(.op (.isi (.cls cl_ParseError)) [(.var 2)]), (.op (.isi (.cls cl_InvalidRow)) [(.var 2)]), (.op (.isi (.cls cl_InvalidRowset)) [(.var 2)])])])
    (env2 := [some (.fn f), some v, some (.exc c []), some (.p (.list [.bool b1, .bool b2, .bool b3]))]) (by simp only [evB_cons, evB_nil, evS_asg, evS_par, evS_expr, evS_ret, evS_ifs, evS_raise, ev_var, ev_lit, ev_gcon, ev_gfn, ev_op, ev_and, ev_or, ev_not, ev_ite, ev_call, ev_chain, ev_meth, evL_nil, evL_cons, pr_add, pr_sub, pr_mul, pr_neg, pr_eq, pr_ne, pr_lt, pr_gt, pr_le, pr_ge, pr_isin, pr_notin, pr_ix, pr_sl00, pr_sl10, pr_sl01, pr_sl11, pr_bi, pr_bi2, pr_isnone, pr_notnone, pr_isi, pr_isic, isa_tuple, isa_str, isa_int, isa_bool, isa_list, bl_some, tru_p, truP_bool, truP_int, truP_none, truP_tuple, truP_list, eqP_int, eqP_str, ltP_str, ltP_int, bind_nm, bind_tp, bind_tpl, setAll_nil, setAll_cons, List.getElem?_cons_zero, List.getElem?_cons_succ, List.set_cons_zero, List.set_cons_succ, Option.map_some, Option.map_none, List.map_cons, List.map_nil, Bool.not_true, Bool.not_false, pm_index, pm_count, pm_join, pm_split, pm_replace, pm_upper, rv_index, rv_count, rv_join, rv_split, rv_upper, rv_replace, rv_indexL, rv_countL, Bool.false_eq_true, ↓reduceIte, ev_callv, evS_setIx, evS_swap, evS_retN, evS_pass, addP_int, hf, h]) h2 h3 (by simp only [evB_cons, evB_nil, evS_asg, evS_par, evS_expr, evS_ret, evS_ifs, evS_raise, ev_var, ev_lit, ev_gcon, ev_gfn, ev_op, ev_and, ev_or, ev_not, ev_ite, ev_call, ev_chain, ev_meth, evL_nil, evL_cons, pr_add, pr_sub, pr_mul, pr_neg, pr_eq, pr_ne, pr_lt, pr_gt, pr_le, pr_ge, pr_isin, pr_notin, pr_ix, pr_sl00, pr_sl10, pr_sl01, pr_sl11, pr_bi, pr_bi2, pr_isnone, pr_notnone, pr_isi, pr_isic, isa_tuple, isa_str, isa_int, isa_bool, isa_list, bl_some, tru_p, truP_bool, truP_int, truP_none, truP_tuple, truP_list, eqP_int, eqP_str, ltP_str, ltP_int, bind_nm, bind_tp, bind_tpl, setAll_nil, setAll_cons, List.getElem?_cons_zero, List.getElem?_cons_succ, List.set_cons_zero, List.set_cons_succ, Option.map_some, Option.map_none, List.map_cons, List.map_nil, Bool.not_true, Bool.not_false, pm_index, pm_count, pm_join, pm_split, pm_replace, pm_upper, rv_index, rv_count, rv_join, rv_split, rv_upper, rv_replace, rv_indexL, rv_countL, Bool.false_eq_true, ↓reduceIte, ev_callv, evS_setIx, evS_swap, evS_retN, evS_pass, addP_int, e1, e2, e3, L3]) (by
      unfold noExcE
      simp [hn, noExc])
  simp only [d__law_call_result] <;> rw [evB_cons, z]
  have o1 : ((1 : Int) == 1) = true := rfl
  have L3' : prim C .lst [.p (.str ⟨#[112, 97, 114, 115, 101]⟩), .p (.str ⟨#[114, 111, 119]⟩), .p (.str ⟨#[114, 111, 119, 115, 101, 116]⟩)] [] = some (.p (.list [.str pP, .str pR, .str pS]), []) := rfl
  simp only [evB_cons, evB_nil, evS_asg, evS_par, evS_expr, evS_ret, evS_ifs, evS_raise, ev_var, ev_lit, ev_gcon, ev_gfn, ev_op, ev_and, ev_or, ev_not, ev_ite, ev_call, ev_chain, ev_meth, evL_nil, evL_cons, pr_add, pr_sub, pr_mul, pr_neg, pr_eq, pr_ne, pr_lt, pr_gt, pr_le, pr_ge, pr_isin, pr_notin, pr_ix, pr_sl00, pr_sl10, pr_sl01, pr_sl11, pr_bi, pr_bi2, pr_isnone, pr_notnone, pr_isi, pr_isic, isa_tuple, isa_str, isa_int, isa_bool, isa_list, bl_some, tru_p, truP_bool, truP_int, truP_none, truP_tuple, truP_list, eqP_int, eqP_str, ltP_str, ltP_int, bind_nm, bind_tp, bind_tpl, setAll_nil, setAll_cons, List.getElem?_cons_zero, List.getElem?_cons_succ, List.set_cons_zero, List.set_cons_succ, Option.map_some, Option.map_none, List.map_cons, List.map_nil, Bool.not_true, Bool.not_false, pm_index, pm_count, pm_join, pm_split, pm_replace, pm_upper, rv_index, rv_count, rv_join, rv_split, rv_upper, rv_replace, rv_indexL, rv_countL, Bool.false_eq_true, ↓reduceIte, ev_callv, evS_setIx, evS_swap, evS_retN, evS_pass, addP_int, hc, o1, L3', hi, hj]
theorem cr_parse {f : Nat} {v : Val} (hv : locsOf [v] = some []) (hin : inV [] v = v) (hn : noExc v = true) (hf : (C.defs[f]?).isSome = true) (h : callN C k f [v] [] = .ex cl_ParseError [] []) : callN C (k + 1) f__law_call_result [.fn f, v] S = .ok (.p (.str pP)) S :=
  cr_ex hv hin hn hf h rfl rfl rfl rfl rfl rfl 0 rfl rfl
theorem cr_row {f : Nat} {v : Val} (hv : locsOf [v] = some []) (hin : inV [] v = v) (hn : noExc v = true) (hf : (C.defs[f]?).isSome = true) (h : callN C k f [v] [] = .ex cl_InvalidRow [] []) : callN C (k + 1) f__law_call_result [.fn f, v] S = .ok (.p (.str pR)) S :=
  cr_ex hv hin hn hf h rfl rfl rfl rfl rfl rfl 1 rfl rfl
theorem cr_rs {f : Nat} {v : Val} (hv : locsOf [v] = some []) (hin : inV [] v = v) (hn : noExc v = true) (hf : (C.defs[f]?).isSome = true) (h : callN C k f [v] [] = .ex cl_InvalidRowset [] []) : callN C (k + 1) f__law_call_result [.fn f, v] S = .ok (.p (.str pS)) S :=
  cr_ex hv hin hn hf h rfl rfl rfl rfl rfl rfl 2 rfl rfl
/-! ### repr -/
structure Rp (d : PyData) : Prop where
  tup : ∃ xs, d = .tuple xs
  rep : biP .repr [d] = some (.str d.shown)
theorem tuple_len {xs : List PyData} {b : Nat} (h : ∀ x ∈ xs, x.shown.length ≤ b) : (PyData.tuple xs).shown.length ≤ xs.length * (b + 2) + 3 := by
  have e : (PyData.tuple xs).shown = tupleText (PyData.shownAll xs) := by simp only [PyData.shown]
  rw [e]
  unfold tupleText
  have h1 := StrLaws.join_length_le ", " (PyData.shownAll xs)
  rw [PyProof.Rows.shownAll_eq_map] at h1 ⊢
  have h2 := sum_len (fun x : Str => x.length) b (xs.map PyData.shown) (fun y hy => by
    obtain ⟨x, hx, rfl⟩ := List.mem_map.mp hy
    exact h x hx)
  rw [List.length_map] at h1 h2
  rw [PySem.Str.length_append, PySem.Str.length_append]
  have e1 : (("(" : String) : Str).length = 1 := by decide +kernel
  have e2 : ((", " : String) : Str).length = 2 := by decide +kernel
  have e3 : (((if (xs.map PyData.shown).length == 1 then ",)" else ")" : String)) : Str).length ≤ 2 := by
    split <;> decide +kernel
  rw [e2] at h1
  rw [Nat.mul_add]
  omega
theorem row_shown {r : Row} (h : r.Ok) : r.d.shown.length ≤ 400 := by
  have hv : (PyData.tuple (r.vs.map .int)).shown.length ≤ 82 := by
    have := tuple_len (xs := r.vs.map .int) (b := 11) (fun x hx => by
      obtain ⟨v, hv, rfl⟩ := List.mem_map.mp hx
      exact int_len (n := 10) (by decide) (h.vi hv))
    rw [List.length_map] at this
    have := h.v2
    omega
  have := tuple_len (xs := [.str r.n, .int r.c, .tuple (r.vs.map .int), .int r.e]) (b := 82) (fun x hx => by
    simp only [List.mem_cons, List.not_mem_nil, or_false] at hx
    rcases hx with rfl | rfl | rfl | rfl
    · have := StrLaws.reprText_len r.n (fun c hc => by
        have := h.n3 c hc
        have z : ∀ c ∈ cs sLetters, c < 16 ^ 8 := by decide
        exact z c this)
      have := h.n2
      show (reprText r.n).length ≤ 82
      omega
    · have := int_len (i := r.c) (n := 10) (by decide) h.ci
      exact Nat.le_trans this (by decide)
    · exact hv
    · have := int_len (i := r.e) (n := 10) (by decide) h.ei
      exact Nat.le_trans this (by decide))
  exact Nat.le_trans this (show 4 * (82 + 2) + 3 ≤ 400 by decide)
theorem ints_showable {vs : List Int} (h : ∀ v ∈ vs, v.natAbs < 10 ^ 10) : PyData.showableAll (vs.map .int) = true := by
  induction vs with
  | nil => rfl
  | cons v vs ih =>
    have h1 := log_ok (h v List.mem_cons_self)
    have h2 := ih fun u hu => h u (List.mem_cons_of_mem _ hu)
    show (decide (v.natAbs.log2 < 1920) && PyData.showableAll (vs.map .int)) = true
    rw [h2, decide_eq_true h1]
    rfl
theorem row_showable {r : Row} (h : r.Ok) : r.d.showable = true := by
  have h1 := ints_showable (vs := r.vs) fun v hv => h.vi hv
  have h2 := log_ok h.ci
  have h3 := log_ok h.ei
  show (true && (decide (r.c.natAbs.log2 < 1920) && (PyData.showableAll (r.vs.map .int) && (decide (r.e.natAbs.log2 < 1920) && true)))) = true
  rw [h1, decide_eq_true h2, decide_eq_true h3]
  rfl
theorem row_rp {r : Row} (h : r.Ok) : Rp r.d :=
  ⟨⟨_, rfl⟩, if_pos ⟨row_showable h, Nat.le_trans (row_shown h) (by decide), of_decide_eq_true (depth_row r)⟩⟩
theorem rows_showable {rs : List Row} (h : ∀ r ∈ rs, r.Ok) : PyData.showableAll (rs.map Row.d) = true := by
  induction rs with
  | nil => rfl
  | cons r rs ih =>
    have h2 := ih fun u hu => h u (List.mem_cons_of_mem _ hu)
    show (r.d.showable && PyData.showableAll (rs.map Row.d)) = true
    rw [h2, row_showable (h r List.mem_cons_self)]
    rfl
theorem rows_depth (rs : List Row) : PyData.depthAll (rs.map Row.d) ≤ 63 := by
  have one : ∀ r : Row, r.d.depth ≤ 10 := fun r => by
    have h : ∀ vs : List Int, PyData.depthAll (vs.map .int) ≤ 1 := by
      intro vs
      induction vs with
      | nil => decide
      | cons v vs ih => simp only [List.map_cons, PyData.depthAll, PyData.depth] at *; omega
    have := h r.vs
    simp only [Row.d, PyData.depth, PyData.depthAll]
    omega
  induction rs with
  | nil => decide
  | cons r rs ih =>
    have := one r
    simp only [List.map_cons, PyData.depthAll] at *
    omega
theorem rs_rp {rs : List Row} (h : RsOk rs) : Rp (rsd rs) := by
  refine ⟨⟨_, rfl⟩, ?_⟩
  have hl := tuple_len (xs := rs.map Row.d) (b := 400) (fun x hx => by
    obtain ⟨r, hr, rfl⟩ := List.mem_map.mp hx
    exact row_shown (h.rows r hr))
  rw [List.length_map] at hl
  have := h.len
  have hd := rows_depth rs
  exact if_pos ⟨rows_showable h.rows, by unfold big; omega, by simp only [PyData.depth]; omega⟩
/-! ### a text is read alike -/
def pf (kind : Nat) : Nat := if kind = 0 then f_parse_row else f_parse_rowset
theorem agree {kind : Nat} (hk : kind = 0 ∨ kind = 1) {x : Str} (hx : x.length ≤ 5000) : ∃ o : Option PyData, (∀ d, o = some d → Rp d) ∧ ∀ (k : Nat) (S : Store), callN C (k + 7) f__law_parsed [.p (.str x), .p (.int (kind : Nat))] S = .ok (.p (o.getD .none)) S ∧ callN C (k + 7) (pf kind) [.p (.str x)] S = outR o S := by
  rcases hk with rfl | rfl
  · obtain ⟨o, h1, h2⟩ := parsed0 hx
    refine ⟨o.map Row.d, fun d hd => ?_, fun k S => ?_⟩
    · cases o with
      | none => cases hd
      | some r => cases hd; exact row_rp (h1 r rfl)
    · obtain ⟨a, b⟩ := h2 (k + 2) S
      refine ⟨?_, b⟩
      rw [show callN C (k + 7) f__law_parsed [.p (.str x), .p (.int ((0 : Nat) : Int))] S = _ from a]
      cases o <;> rfl
  · obtain ⟨o, h1, h2⟩ := parsed1 hx
    refine ⟨o.map rsd, fun d hd => ?_, fun k S => ?_⟩
    · cases o with
      | none => cases hd
      | some r => cases hd; exact rs_rp (h1 r rfl)
    · obtain ⟨a, b⟩ := h2 k S
      refine ⟨?_, b⟩
      rw [show callN C (k + 7) f__law_parsed [.p (.str x), .p (.int ((1 : Nat) : Int))] S = _ from a]
      cases o <;> rfl
end Ml

/-! Mz: the law. -/
namespace Mz
open PySem Ev Mb I Mr Mi Mw Mx Md Mn Mo Mp Mq Mt Mc Ml NumText L2
variable {S : Store} {k : Nat}
theorem texts_ok {kind i : Nat} {x : Str} (hk : kind = 0 ∨ kind = 1) (h : Stm i S) (hx : x.length ≤ 504) : ∃ S', callN C (k + 10) f__law_texts_correct [.loc i, .p (.str x), .p (.int (kind : Nat))] S = .ok (.p (.bool true)) S' ∧ Adv i S S' := by
  obtain ⟨a, b, c, hs⟩ := h
  have z := forGo_inv (ck := ckS none) (fb := evB C (callN C (k + 9)) lb__law_texts_correct_0) (tg := .nm 4) (it := fun (j : Nat) => Val.p (.int (j : Int)))
    (fun as env S => ∃ (ts : List Str) (e4 e6 : Option Val) (a b c : Int), env = [some (.loc 0), some (.p (.str x)), some (.p (.int (kind : Nat))), some (.p (.list (ts.map .str))), e4, none, e6, none] ∧ S = [SC a b c] ∧ ts.length + 2 * as.length ≤ 13 ∧ ∀ y ∈ ts, y.length ≤ 5000) (fun _ _ _ _ => rfl) (fun j as env S h => ?_) (List.range 6) [some (.loc 0), some (.p (.str x)), some (.p (.int (kind : Nat))), some (.p (.list ([x].map .str))), none, none, none, none] [SC a b c] ⟨[x], none, none, a, b, c, rfl, rfl, show 1 + 2 * (List.range 6).length ≤ 13 by decide, fun y hy => by
      simp only [List.mem_cons, List.not_mem_nil, or_false] at hy
      subst hy
      omega⟩
  · obtain ⟨env', S', h1, ts, e4, e6, a1, b1, c1, rfl, rfl, hl, hts⟩ := z
    have z2 := forGo_inv (ck := ckS none) (fb := evB C (callN C (k + 9)) lb__law_texts_correct_1) (tg := .nm 5) (it := fun (y : Str) => Val.p (.str y))
      (fun as env S => ∃ (e5 e7 : Option Val), env = [some (.loc 0), some (.p (.str x)), some (.p (.int (kind : Nat))), some (.p (.list (ts.map .str))), e4, e5, e6, e7] ∧ S = [SC a1 b1 c1] ∧ ∀ y ∈ as, y.length ≤ 5000) (fun _ _ _ _ => rfl) (fun y as env S h => ?_) ts [some (.loc 0), some (.p (.str x)), some (.p (.int (kind : Nat))), some (.p (.list (ts.map .str))), e4, none, e6, none] [SC a1 b1 c1] ⟨none, none, rfl, rfl, hts⟩
    · obtain ⟨env2, S2, h2, e5, e7, rfl, rfl, _⟩ := z2
      have it : items [SC a1 b1 c1] .val [.p (.list (ts.map .str))] = some (ts.map (fun (y : Str) => Val.p (.str y)), none) := by
        show some ((ts.map PyData.str).map Val.p, none) = _
        rw [List.map_map]
        rfl
      have L1 : prim C .lst [.p (.str x)] [SC a b c] = some (.p (.list ([x].map .str)), [SC a b c]) := rfl
      have r6 : items [SC a b c] .rng1 [.p (.int 6)] = some ((List.range 6).map fun (j : Nat) => Val.p (.int (j : Int)), none) := rng1 (by unfold big; omega) (by omega)
      have hbody : evB C (callN C (k + 9)) d__law_texts_correct.body [some (.loc 0), some (.p (.str x)), some (.p (.int (kind : Nat))), none, none, none, none, none] [SC a b c] = .rt (.p (.bool true)) [SC a1 b1 c1] := by
        simp only [d__law_texts_correct]
        rw [evB_cons, evS_asg, ev_op, evL_cons, ev_var]
        dsimp only [List.getElem?_cons_succ, List.getElem?_cons_zero]
        rw [evL_nil]
        dsimp only
        rw [L1]
        dsimp only [bindTg, List.set]
        rw [evB_cons, l__law_texts_correct_0, evS_for, evL_cons, ev_lit]
        dsimp only
        rw [evL_nil]
        dsimp only
        rw [r6]
        dsimp only
        rw [h1]
        dsimp only
        rw [evB_cons, l__law_texts_correct_1, evS_for, evL_cons, ev_var]
        dsimp only [List.getElem?_cons_succ, List.getElem?_cons_zero]
        rw [evL_nil]
        dsimp only
        rw [it]
        dsimp only
        rw [h2]
        simp only [evB_cons, evB_nil, evS_asg, evS_par, evS_expr, evS_ret, evS_ifs, evS_raise, ev_var, ev_lit, ev_gcon, ev_gfn, ev_op, ev_and, ev_or, ev_not, ev_ite, ev_call, ev_chain, ev_meth, evL_nil, evL_cons, pr_add, pr_sub, pr_mul, pr_neg, pr_eq, pr_ne, pr_lt, pr_gt, pr_le, pr_ge, pr_isin, pr_notin, pr_ix, pr_sl00, pr_sl10, pr_sl01, pr_sl11, pr_bi, pr_bi2, pr_isnone, pr_notnone, pr_isi, pr_isic, isa_tuple, isa_str, isa_int, isa_bool, isa_list, bl_some, tru_p, truP_bool, truP_int, truP_none, truP_tuple, truP_list, eqP_int, eqP_str, ltP_str, ltP_int, bind_nm, bind_tp, bind_tpl, setAll_nil, setAll_cons, List.getElem?_cons_zero, List.getElem?_cons_succ, List.set_cons_zero, List.set_cons_succ, Option.map_some, Option.map_none, List.map_cons, List.map_nil, Bool.not_true, Bool.not_false, pm_index, pm_count, pm_join, pm_split, pm_replace, pm_upper, rv_index, rv_count, rv_join, rv_split, rv_upper, rv_replace, rv_indexL, rv_countL, Bool.false_eq_true, ↓reduceIte, ev_callv, evS_setIx, evS_swap, evS_retN, evS_pass, addP_int]
      obtain ⟨S', e, g⟩ := call_stm (k := k + 9) (S := S) (i := i) (ps := [.str x, .int (kind : Nat)]) (rest := []) (v := .p (.bool true)) (r := .bool true) [some (.loc 0), some (.p (.str x)), some (.p (.int (kind : Nat))), none, none, none, none, none] g__law_texts_correct hs hbody rfl
      exact ⟨S', e, g⟩
    · obtain ⟨e5, e7, rfl, rfl, hy⟩ := h
      obtain ⟨o, o1, o2⟩ := agree hk (hy y List.mem_cons_self)
      obtain ⟨p1, _⟩ := o2 (k + 2) [SC a1 b1 c1]
      obtain ⟨_, p2⟩ := o2 (k + 1) []
      have LF : ∀ S, prim C .lst [.fn f_parse_row, .fn f_parse_rowset] S = some (.seq false [.fn f_parse_row, .fn f_parse_rowset], S) := fun _ => rfl
      have IF : ∀ S, prim C .ix [.seq false [.fn f_parse_row, .fn f_parse_rowset], .p (.int (kind : Nat))] S = some (.fn (pf kind), S) := fun S => by
        rcases hk with rfl | rfl <;> rfl
      have hf : (C.defs[pf kind]?).isSome = true := by rcases hk with rfl | rfl <;> rfl
      have rpP : biP .repr [.str pP] = some (.str (reprText pP)) := if_pos (by
        have := StrLaws.reprText_len pP (by decide)
        exact Nat.le_trans this (by decide))
      have self : ∀ s : Str, (s == s) = true := fun s => beq_self_eq_true s
      cases o with
      | none =>
        have q := cr_parse (k := k + 8) (S := [SC a1 b1 c1]) (f := pf kind) (v := .p (.str y)) rfl rfl rfl hf p2
        refine ⟨_, [some (.loc 0), some (.p (.str x)), some (.p (.int (kind : Nat))), some (.p (.list (ts.map .str))), e4, some (.p (.str y)), e6, some (.p (.str pP))], [SC a1 b1 c1], rfl, ?_, _, _, rfl, rfl, fun u hu => hy u (List.mem_cons_of_mem _ hu)⟩
        have p1' : callN C (k + 9) f__law_parsed [.p (.str y), .p (.int (kind : Nat))] [SC a1 b1 c1] = .ok (.p .none) [SC a1 b1 c1] := p1
        have nn : nonV (.p .none) = some true := rfl
        show evB _ _ _ _ _ = SRes.nx [_, _, _, _, _, _, _, some (.p (.str ⟨#[112, 97, 114, 115, 101]⟩))] _
        have rpP' : biP .repr [.str ⟨#[112, 97, 114, 115, 101]⟩] = some (.str (reprText pP)) := rpP
        have q' : callN C (k + 9) f__law_call_result [.fn (pf kind), .p (.str y)] [SC a1 b1 c1] = .ok (.p (.str ⟨#[112, 97, 114, 115, 101]⟩)) [SC a1 b1 c1] := q
        simp only [lb__law_texts_correct_1, evB_cons, evB_nil, evS_asg, evS_par, evS_expr, evS_ret, evS_ifs, evS_raise, ev_var, ev_lit, ev_gcon, ev_gfn, ev_op, ev_and, ev_or, ev_not, ev_ite, ev_call, ev_chain, ev_meth, evL_nil, evL_cons, pr_add, pr_sub, pr_mul, pr_neg, pr_eq, pr_ne, pr_lt, pr_gt, pr_le, pr_ge, pr_isin, pr_notin, pr_ix, pr_sl00, pr_sl10, pr_sl01, pr_sl11, pr_bi, pr_bi2, pr_isnone, pr_notnone, pr_isi, pr_isic, isa_tuple, isa_str, isa_int, isa_bool, isa_list, bl_some, tru_p, truP_bool, truP_int, truP_none, truP_tuple, truP_list, eqP_int, eqP_str, ltP_str, ltP_int, bind_nm, bind_tp, bind_tpl, setAll_nil, setAll_cons, List.getElem?_cons_zero, List.getElem?_cons_succ, List.set_cons_zero, List.set_cons_succ, Option.map_some, Option.map_none, List.map_cons, List.map_nil, Bool.not_true, Bool.not_false, pm_index, pm_count, pm_join, pm_split, pm_replace, pm_upper, rv_index, rv_count, rv_join, rv_split, rv_upper, rv_replace, rv_indexL, rv_countL, Bool.false_eq_true, ↓reduceIte, ev_callv, evS_setIx, evS_swap, evS_retN, evS_pass, addP_int, p1', nn, LF, IF, q', rpP', self]
      | some d =>
        obtain ⟨⟨xs, rfl⟩, rp⟩ := o1 d rfl
        have q := cr_ok (k := k + 8) (S := [SC a1 b1 c1]) (f := pf kind) (v := .p (.str y)) (r := .tuple xs) rfl rfl hf p2
        refine ⟨_, [some (.loc 0), some (.p (.str x)), some (.p (.int (kind : Nat))), some (.p (.list (ts.map .str))), e4, some (.p (.str y)), e6, some (.p (.tuple xs))], [SC a1 b1 c1], rfl, ?_, _, _, rfl, rfl, fun u hu => hy u (List.mem_cons_of_mem _ hu)⟩
        have p1' : callN C (k + 9) f__law_parsed [.p (.str y), .p (.int (kind : Nat))] [SC a1 b1 c1] = .ok (.p (.tuple xs)) [SC a1 b1 c1] := p1
        have nn : nonV (.p (.tuple xs)) = some false := rfl
        simp only [lb__law_texts_correct_1, evB_cons, evB_nil, evS_asg, evS_par, evS_expr, evS_ret, evS_ifs, evS_raise, ev_var, ev_lit, ev_gcon, ev_gfn, ev_op, ev_and, ev_or, ev_not, ev_ite, ev_call, ev_chain, ev_meth, evL_nil, evL_cons, pr_add, pr_sub, pr_mul, pr_neg, pr_eq, pr_ne, pr_lt, pr_gt, pr_le, pr_ge, pr_isin, pr_notin, pr_ix, pr_sl00, pr_sl10, pr_sl01, pr_sl11, pr_bi, pr_bi2, pr_isnone, pr_notnone, pr_isi, pr_isic, isa_tuple, isa_str, isa_int, isa_bool, isa_list, bl_some, tru_p, truP_bool, truP_int, truP_none, truP_tuple, truP_list, eqP_int, eqP_str, ltP_str, ltP_int, bind_nm, bind_tp, bind_tpl, setAll_nil, setAll_cons, List.getElem?_cons_zero, List.getElem?_cons_succ, List.set_cons_zero, List.set_cons_succ, Option.map_some, Option.map_none, List.map_cons, List.map_nil, Bool.not_true, Bool.not_false, pm_index, pm_count, pm_join, pm_split, pm_replace, pm_upper, rv_index, rv_count, rv_join, rv_split, rv_upper, rv_replace, rv_indexL, rv_countL, Bool.false_eq_true, ↓reduceIte, ev_callv, evS_setIx, evS_swap, evS_retN, evS_pass, addP_int, p1', nn, LF, IF, q, rp, self]
  · obtain ⟨ts, e4, e6, a, b, c, rfl, rfl, hl, hts⟩ := h
    obtain ⟨y1, S1, q1, g1, l1⟩ := changed (k := k + 7) (S := [SC a b c]) (i := 0) (x := x) stm0 (by omega)
    obtain ⟨a1, b1, c1, rfl⟩ := g1.one
    obtain ⟨y2, S2, q2, g2, l2⟩ := changed (k := k + 7) (S := [SC a1 b1 c1]) (i := 0) (x := y1) stm0 (by omega)
    obtain ⟨a2, b2, c2, rfl⟩ := g2.one
    rw [List.length_cons] at hl
    refine ⟨_, [some (.loc 0), some (.p (.str x)), some (.p (.int (kind : Nat))), some (.p (.list ((ts ++ [y1, y2]).map .str))), some (.p (.int (j : Int))), none, some (.p (.str y1)), none], [SC a2 b2 c2], rfl, ?_, ts ++ [y1, y2], _, _, a2, b2, c2, rfl, rfl, by rw [List.length_append]; simp only [List.length_cons, List.length_nil]; omega, fun u hu => ?_⟩
    · have L2_ : ∀ (u v : PyData) S, prim C .lst [.p u, .p v] S = some (.p (.list [u, v]), S) := fun _ _ _ => rfl
      have ad : addP (.list (ts.map .str)) (.list [.str y1, .str y2]) = some (.list ((ts ++ [y1, y2]).map .str)) := by
        show (if (ts.map PyData.str).length + 2 ≤ big then some (PyData.list _) else none) = _
        rw [if_pos (by rw [List.length_map]; unfold big; omega), List.map_append]
        rfl
      simp only [lb__law_texts_correct_0, evB_cons, evB_nil, evS_asg, evS_par, evS_expr, evS_ret, evS_ifs, evS_raise, ev_var, ev_lit, ev_gcon, ev_gfn, ev_op, ev_and, ev_or, ev_not, ev_ite, ev_call, ev_chain, ev_meth, evL_nil, evL_cons, pr_add, pr_sub, pr_mul, pr_neg, pr_eq, pr_ne, pr_lt, pr_gt, pr_le, pr_ge, pr_isin, pr_notin, pr_ix, pr_sl00, pr_sl10, pr_sl01, pr_sl11, pr_bi, pr_bi2, pr_isnone, pr_notnone, pr_isi, pr_isic, isa_tuple, isa_str, isa_int, isa_bool, isa_list, bl_some, tru_p, truP_bool, truP_int, truP_none, truP_tuple, truP_list, eqP_int, eqP_str, ltP_str, ltP_int, bind_nm, bind_tp, bind_tpl, setAll_nil, setAll_cons, List.getElem?_cons_zero, List.getElem?_cons_succ, List.set_cons_zero, List.set_cons_succ, Option.map_some, Option.map_none, List.map_cons, List.map_nil, Bool.not_true, Bool.not_false, pm_index, pm_count, pm_join, pm_split, pm_replace, pm_upper, rv_index, rv_count, rv_join, rv_split, rv_upper, rv_replace, rv_indexL, rv_countL, Bool.false_eq_true, ↓reduceIte, ev_callv, evS_setIx, evS_swap, evS_retN, evS_pass, addP_int, q1, q2, L2_, ad]
    · rcases List.mem_append.mp hu with hu | hu
      · exact hts u hu
      · simp only [List.mem_cons, List.not_mem_nil, or_false] at hu
        rcases hu with rfl | rfl <;> omega
theorem format_row {r : Row} (h : r.Ok) : callN C (k + 5) f_format_row [.p r.d] S = .ok (.p (.str r.txt)) S := by
  refine call_rt (S1 := []) [some (.p r.d)] g_format_row ?_
  simp only [d_format_row, evB_cons, evB_nil, evS_asg, evS_par, evS_expr, evS_ret, evS_ifs, evS_raise, ev_var, ev_lit, ev_gcon, ev_gfn, ev_op, ev_and, ev_or, ev_not, ev_ite, ev_call, ev_chain, ev_meth, evL_nil, evL_cons, pr_add, pr_sub, pr_mul, pr_neg, pr_eq, pr_ne, pr_lt, pr_gt, pr_le, pr_ge, pr_isin, pr_notin, pr_ix, pr_sl00, pr_sl10, pr_sl01, pr_sl11, pr_bi, pr_bi2, pr_isnone, pr_notnone, pr_isi, pr_isic, isa_tuple, isa_str, isa_int, isa_bool, isa_list, bl_some, tru_p, truP_bool, truP_int, truP_none, truP_tuple, truP_list, eqP_int, eqP_str, ltP_str, ltP_int, bind_nm, bind_tp, bind_tpl, setAll_nil, setAll_cons, List.getElem?_cons_zero, List.getElem?_cons_succ, List.set_cons_zero, List.set_cons_succ, Option.map_some, Option.map_none, List.map_cons, List.map_nil, Bool.not_true, Bool.not_false, pm_index, pm_count, pm_join, pm_split, pm_replace, pm_upper, rv_index, rv_count, rv_join, rv_split, rv_upper, rv_replace, rv_indexL, rv_countL, Bool.false_eq_true, ↓reduceIte, ev_callv, evS_setIx, evS_swap, evS_retN, evS_pass, addP_int, row (sized_row r h), h.is, Mw.write_row h]
theorem format_rowset {rs : List Row} (h : RsOk rs) : callN C (k + 7) f_format_rowset [.p (rsd rs)] S = .ok (.p (.str (rstxt rs))) S := by
  refine call_rt (S1 := []) [some (.p (rsd rs))] g_format_rowset ?_
  have hl := h.len
  simp only [d_format_rowset, evB_cons, evB_nil, evS_asg, evS_par, evS_expr, evS_ret, evS_ifs, evS_raise, ev_var, ev_lit, ev_gcon, ev_gfn, ev_op, ev_and, ev_or, ev_not, ev_ite, ev_call, ev_chain, ev_meth, evL_nil, evL_cons, pr_add, pr_sub, pr_mul, pr_neg, pr_eq, pr_ne, pr_lt, pr_gt, pr_le, pr_ge, pr_isin, pr_notin, pr_ix, pr_sl00, pr_sl10, pr_sl01, pr_sl11, pr_bi, pr_bi2, pr_isnone, pr_notnone, pr_isi, pr_isic, isa_tuple, isa_str, isa_int, isa_bool, isa_list, bl_some, tru_p, truP_bool, truP_int, truP_none, truP_tuple, truP_list, eqP_int, eqP_str, ltP_str, ltP_int, bind_nm, bind_tp, bind_tpl, setAll_nil, setAll_cons, List.getElem?_cons_zero, List.getElem?_cons_succ, List.set_cons_zero, List.set_cons_succ, Option.map_some, Option.map_none, List.map_cons, List.map_nil, Bool.not_true, Bool.not_false, pm_index, pm_count, pm_join, pm_split, pm_replace, pm_upper, rv_index, rv_count, rv_join, rv_split, rv_upper, rv_replace, rv_indexL, rv_countL, Bool.false_eq_true, ↓reduceIte, ev_callv, evS_setIx, evS_swap, evS_retN, evS_pass, addP_int, rowset_ok h.rows (show rs.length ≤ 4000 by omega), h.is, Mx.write_rowset h.rows (show rs.length ≤ 4000 by omega)]
/-! ### values that are no rows -/
structure Odd (v : Val) : Prop where
  loc : locsOf [v] = some []
  inn : Ev.inV [] v = v
  exc : noExc v = true
  str : ∀ S, isiV C S (.bt "str") v = some false
  row : ∃ b, ∀ (k : Nat) (S : Store), callN C (k + 4) f_is_row [v] S = .ok (.p (.bool b)) S
  rs : ∃ b, ∀ (k : Nat) (S : Store), callN C (k + 6) f_is_rowset [v] S = .ok (.p (.bool b)) S
section
variable {v : Val}
theorem env1 (h : Odd v) {n : Nat} {l : Slots} (e : List.replicate n none = l) : ([v].map fun v => some (Ev.inV [] v)) ++ List.replicate n none = some v :: l := by
  rw [e]
  show some (Ev.inV [] v) :: l = _
  rw [h.inn]
theorem fr_bad (h : Odd v) (hb : ∀ (k : Nat) (S : Store), callN C (k + 4) f_is_row [v] S = .ok (.p (.bool false)) S) : callN C (k + 5) f_format_row [v] S = .ex cl_InvalidRow [] S := by
  refine call_ex (S1 := []) (env1 := [some v]) [some v] g_format_row ?_ rfl h.loc rfl (env1 h rfl)
  simp only [d_format_row, evB_cons, evB_nil, evS_asg, evS_par, evS_expr, evS_ret, evS_ifs, evS_raise, ev_var, ev_lit, ev_gcon, ev_gfn, ev_op, ev_and, ev_or, ev_not, ev_ite, ev_call, ev_chain, ev_meth, evL_nil, evL_cons, pr_add, pr_sub, pr_mul, pr_neg, pr_eq, pr_ne, pr_lt, pr_gt, pr_le, pr_ge, pr_isin, pr_notin, pr_ix, pr_sl00, pr_sl10, pr_sl01, pr_sl11, pr_bi, pr_bi2, pr_isnone, pr_notnone, pr_isi, pr_isic, isa_tuple, isa_str, isa_int, isa_bool, isa_list, bl_some, tru_p, truP_bool, truP_int, truP_none, truP_tuple, truP_list, eqP_int, eqP_str, ltP_str, ltP_int, bind_nm, bind_tp, bind_tpl, setAll_nil, setAll_cons, List.getElem?_cons_zero, List.getElem?_cons_succ, List.set_cons_zero, List.set_cons_succ, Option.map_some, Option.map_none, List.map_cons, List.map_nil, Bool.not_true, Bool.not_false, pm_index, pm_count, pm_join, pm_split, pm_replace, pm_upper, rv_index, rv_count, rv_join, rv_split, rv_upper, rv_replace, rv_indexL, rv_countL, Bool.false_eq_true, ↓reduceIte, ev_callv, evS_setIx, evS_swap, evS_retN, evS_pass, addP_int, hb]
theorem frs_bad (h : Odd v) (hb : ∀ (k : Nat) (S : Store), callN C (k + 6) f_is_rowset [v] S = .ok (.p (.bool false)) S) : callN C (k + 7) f_format_rowset [v] S = .ex cl_InvalidRowset [] S := by
  refine call_ex (S1 := []) (env1 := [some v]) [some v] g_format_rowset ?_ rfl h.loc rfl (env1 h rfl)
  simp only [d_format_rowset, evB_cons, evB_nil, evS_asg, evS_par, evS_expr, evS_ret, evS_ifs, evS_raise, ev_var, ev_lit, ev_gcon, ev_gfn, ev_op, ev_and, ev_or, ev_not, ev_ite, ev_call, ev_chain, ev_meth, evL_nil, evL_cons, pr_add, pr_sub, pr_mul, pr_neg, pr_eq, pr_ne, pr_lt, pr_gt, pr_le, pr_ge, pr_isin, pr_notin, pr_ix, pr_sl00, pr_sl10, pr_sl01, pr_sl11, pr_bi, pr_bi2, pr_isnone, pr_notnone, pr_isi, pr_isic, isa_tuple, isa_str, isa_int, isa_bool, isa_list, bl_some, tru_p, truP_bool, truP_int, truP_none, truP_tuple, truP_list, eqP_int, eqP_str, ltP_str, ltP_int, bind_nm, bind_tp, bind_tpl, setAll_nil, setAll_cons, List.getElem?_cons_zero, List.getElem?_cons_succ, List.set_cons_zero, List.set_cons_succ, Option.map_some, Option.map_none, List.map_cons, List.map_nil, Bool.not_true, Bool.not_false, pm_index, pm_count, pm_join, pm_split, pm_replace, pm_upper, rv_index, rv_count, rv_join, rv_split, rv_upper, rv_replace, rv_indexL, rv_countL, Bool.false_eq_true, ↓reduceIte, ev_callv, evS_setIx, evS_swap, evS_retN, evS_pass, addP_int, hb]
theorem pr_isiV {n : String} : prim C (.isi (.bt n)) [v] S = (isiV C S (.bt n) v).map fun b => (.p (.bool b), S) := rfl
theorem rq_bad (h : Odd v) : callN C (k + 1) f_require_string [v] S = .ex cl_ParseError [] S := by
  refine call_ex (S1 := []) (env1 := [some v]) [some v] g_require_string ?_ rfl h.loc rfl (env1 h rfl)
  simp only [d_require_string, evB_cons, evB_nil, evS_asg, evS_par, evS_expr, evS_ret, evS_ifs, evS_raise, ev_var, ev_lit, ev_gcon, ev_gfn, ev_op, ev_and, ev_or, ev_not, ev_ite, ev_call, ev_chain, ev_meth, evL_nil, evL_cons, pr_add, pr_sub, pr_mul, pr_neg, pr_eq, pr_ne, pr_lt, pr_gt, pr_le, pr_ge, pr_isin, pr_notin, pr_ix, pr_sl00, pr_sl10, pr_sl01, pr_sl11, pr_bi, pr_bi2, pr_isnone, pr_notnone, pr_isi, pr_isic, isa_tuple, isa_str, isa_int, isa_bool, isa_list, bl_some, tru_p, truP_bool, truP_int, truP_none, truP_tuple, truP_list, eqP_int, eqP_str, ltP_str, ltP_int, bind_nm, bind_tp, bind_tpl, setAll_nil, setAll_cons, List.getElem?_cons_zero, List.getElem?_cons_succ, List.set_cons_zero, List.set_cons_succ, Option.map_some, Option.map_none, List.map_cons, List.map_nil, Bool.not_true, Bool.not_false, pm_index, pm_count, pm_join, pm_split, pm_replace, pm_upper, rv_index, rv_count, rv_join, rv_split, rv_upper, rv_replace, rv_indexL, rv_countL, Bool.false_eq_true, ↓reduceIte, ev_callv, evS_setIx, evS_swap, evS_retN, evS_pass, addP_int, pr_isiV, h.str]
theorem pr_bad (h : Odd v) : callN C (k + 2) f_parse_row [v] S = .ex cl_ParseError [] S := by
  refine call_ex (S1 := []) (env1 := [some v, none]) [some v, none] g_parse_row ?_ rfl h.loc rfl (env1 h rfl)
  simp only [d_parse_row, evB_cons, evB_nil, evS_asg, evS_par, evS_expr, evS_ret, evS_ifs, evS_raise, ev_var, ev_lit, ev_gcon, ev_gfn, ev_op, ev_and, ev_or, ev_not, ev_ite, ev_call, ev_chain, ev_meth, evL_nil, evL_cons, pr_add, pr_sub, pr_mul, pr_neg, pr_eq, pr_ne, pr_lt, pr_gt, pr_le, pr_ge, pr_isin, pr_notin, pr_ix, pr_sl00, pr_sl10, pr_sl01, pr_sl11, pr_bi, pr_bi2, pr_isnone, pr_notnone, pr_isi, pr_isic, isa_tuple, isa_str, isa_int, isa_bool, isa_list, bl_some, tru_p, truP_bool, truP_int, truP_none, truP_tuple, truP_list, eqP_int, eqP_str, ltP_str, ltP_int, bind_nm, bind_tp, bind_tpl, setAll_nil, setAll_cons, List.getElem?_cons_zero, List.getElem?_cons_succ, List.set_cons_zero, List.set_cons_succ, Option.map_some, Option.map_none, List.map_cons, List.map_nil, Bool.not_true, Bool.not_false, pm_index, pm_count, pm_join, pm_split, pm_replace, pm_upper, rv_index, rv_count, rv_join, rv_split, rv_upper, rv_replace, rv_indexL, rv_countL, Bool.false_eq_true, ↓reduceIte, ev_callv, evS_setIx, evS_swap, evS_retN, evS_pass, addP_int, rq_bad h]
theorem prs_bad (h : Odd v) : callN C (k + 2) f_parse_rowset [v] S = .ex cl_ParseError [] S := by
  refine call_ex (S1 := []) (env1 := [some v, none, none]) [some v, none, none] g_parse_rowset ?_ rfl h.loc rfl (env1 h rfl)
  simp only [d_parse_rowset, evB_cons, evB_nil, evS_asg, evS_par, evS_expr, evS_ret, evS_ifs, evS_raise, ev_var, ev_lit, ev_gcon, ev_gfn, ev_op, ev_and, ev_or, ev_not, ev_ite, ev_call, ev_chain, ev_meth, evL_nil, evL_cons, pr_add, pr_sub, pr_mul, pr_neg, pr_eq, pr_ne, pr_lt, pr_gt, pr_le, pr_ge, pr_isin, pr_notin, pr_ix, pr_sl00, pr_sl10, pr_sl01, pr_sl11, pr_bi, pr_bi2, pr_isnone, pr_notnone, pr_isi, pr_isic, isa_tuple, isa_str, isa_int, isa_bool, isa_list, bl_some, tru_p, truP_bool, truP_int, truP_none, truP_tuple, truP_list, eqP_int, eqP_str, ltP_str, ltP_int, bind_nm, bind_tp, bind_tpl, setAll_nil, setAll_cons, List.getElem?_cons_zero, List.getElem?_cons_succ, List.set_cons_zero, List.set_cons_succ, Option.map_some, Option.map_none, List.map_cons, List.map_nil, Bool.not_true, Bool.not_false, pm_index, pm_count, pm_join, pm_split, pm_replace, pm_upper, rv_index, rv_count, rv_join, rv_split, rv_upper, rv_replace, rv_indexL, rv_countL, Bool.false_eq_true, ↓reduceIte, ev_callv, evS_setIx, evS_swap, evS_retN, evS_pass, addP_int, rq_bad h]
end
theorem odd_no {d : PyData} (h1 : d.isTuple = false) (h2 : d.isStr = false) : Odd (.p d) := by
  refine ⟨rfl, rfl, rfl, fun S => ?_, ⟨isRow d, fun k S => row (by cases d <;> first | trivial | cases h1)⟩, ⟨false, fun k S => ?_⟩⟩
  · show isaP "str" d = _
    rw [isa_str, h2]
  · refine call_rt (S1 := []) [some (.p d), none] g_is_rowset ?_
    have : callN C (k + 5) f_are_rows [.p d] [] = .ok (.p (.bool false)) [] := by
      refine call_rt (S1 := []) [some (.p d), none] g_are_rows ?_
      simp only [d_are_rows, evB_cons, evB_nil, evS_asg, evS_par, evS_expr, evS_ret, evS_ifs, evS_raise, ev_var, ev_lit, ev_gcon, ev_gfn, ev_op, ev_and, ev_or, ev_not, ev_ite, ev_call, ev_chain, ev_meth, evL_nil, evL_cons, pr_add, pr_sub, pr_mul, pr_neg, pr_eq, pr_ne, pr_lt, pr_gt, pr_le, pr_ge, pr_isin, pr_notin, pr_ix, pr_sl00, pr_sl10, pr_sl01, pr_sl11, pr_bi, pr_bi2, pr_isnone, pr_notnone, pr_isi, pr_isic, isa_tuple, isa_str, isa_int, isa_bool, isa_list, bl_some, tru_p, truP_bool, truP_int, truP_none, truP_tuple, truP_list, eqP_int, eqP_str, ltP_str, ltP_int, bind_nm, bind_tp, bind_tpl, setAll_nil, setAll_cons, List.getElem?_cons_zero, List.getElem?_cons_succ, List.set_cons_zero, List.set_cons_succ, Option.map_some, Option.map_none, List.map_cons, List.map_nil, Bool.not_true, Bool.not_false, pm_index, pm_count, pm_join, pm_split, pm_replace, pm_upper, rv_index, rv_count, rv_join, rv_split, rv_upper, rv_replace, rv_indexL, rv_countL, Bool.false_eq_true, ↓reduceIte, ev_callv, evS_setIx, evS_swap, evS_retN, evS_pass, addP_int, h1]
    simp only [d_is_rowset, evB_cons, evB_nil, evS_asg, evS_par, evS_expr, evS_ret, evS_ifs, evS_raise, ev_var, ev_lit, ev_gcon, ev_gfn, ev_op, ev_and, ev_or, ev_not, ev_ite, ev_call, ev_chain, ev_meth, evL_nil, evL_cons, pr_add, pr_sub, pr_mul, pr_neg, pr_eq, pr_ne, pr_lt, pr_gt, pr_le, pr_ge, pr_isin, pr_notin, pr_ix, pr_sl00, pr_sl10, pr_sl01, pr_sl11, pr_bi, pr_bi2, pr_isnone, pr_notnone, pr_isi, pr_isic, isa_tuple, isa_str, isa_int, isa_bool, isa_list, bl_some, tru_p, truP_bool, truP_int, truP_none, truP_tuple, truP_list, eqP_int, eqP_str, ltP_str, ltP_int, bind_nm, bind_tp, bind_tpl, setAll_nil, setAll_cons, List.getElem?_cons_zero, List.getElem?_cons_succ, List.set_cons_zero, List.set_cons_succ, Option.map_some, Option.map_none, List.map_cons, List.map_nil, Bool.not_true, Bool.not_false, pm_index, pm_count, pm_join, pm_split, pm_replace, pm_upper, rv_index, rv_count, rv_join, rv_split, rv_upper, rv_replace, rv_indexL, rv_countL, Bool.false_eq_true, ↓reduceIte, ev_callv, evS_setIx, evS_swap, evS_retN, evS_pass, addP_int, this]
theorem odd_tup {ds : List PyData} (h1 : sizedRow (.tuple ds)) (h2 : ∀ d ∈ ds, sizedRow d) (h3 : ds.length ≤ big) (h4 : ds.all isRow = false) : Odd (.p (.tuple ds)) :=
  ⟨rfl, rfl, rfl, fun S => by show isaP "str" _ = _; rw [isa_str]; rfl, ⟨_, fun k S => row h1⟩, ⟨false, fun k S => rowset_bad h2 h3 h4⟩⟩
theorem odd_unit : Odd (.p (.tuple [])) :=
  ⟨rfl, rfl, rfl, fun S => by show isaP "str" _ = _; rw [isa_str]; rfl, ⟨_, fun k S => row trivial⟩, ⟨_, fun k S => rowset_ok (rs := []) (fun r hr => absurd hr List.not_mem_nil) (by decide)⟩⟩
theorem odd_dic : Odd (.dic []) := by
  have ha : ∀ (k : Nat) (S : Store), callN C (k + 1) f_are_rows [.dic []] S = .ok (.p (.bool false)) S := fun k S => by
    refine call_rt (S1 := []) [some (.dic []), none] g_are_rows ?_
    have : isiV C [] (.bt "tuple") (.dic []) = some false := rfl
    simp only [d_are_rows, evB_cons, evB_nil, evS_asg, evS_par, evS_expr, evS_ret, evS_ifs, evS_raise, ev_var, ev_lit, ev_gcon, ev_gfn, ev_op, ev_and, ev_or, ev_not, ev_ite, ev_call, ev_chain, ev_meth, evL_nil, evL_cons, pr_add, pr_sub, pr_mul, pr_neg, pr_eq, pr_ne, pr_lt, pr_gt, pr_le, pr_ge, pr_isin, pr_notin, pr_ix, pr_sl00, pr_sl10, pr_sl01, pr_sl11, pr_bi, pr_bi2, pr_isnone, pr_notnone, pr_isi, pr_isic, isa_tuple, isa_str, isa_int, isa_bool, isa_list, bl_some, tru_p, truP_bool, truP_int, truP_none, truP_tuple, truP_list, eqP_int, eqP_str, ltP_str, ltP_int, bind_nm, bind_tp, bind_tpl, setAll_nil, setAll_cons, List.getElem?_cons_zero, List.getElem?_cons_succ, List.set_cons_zero, List.set_cons_succ, Option.map_some, Option.map_none, List.map_cons, List.map_nil, Bool.not_true, Bool.not_false, pm_index, pm_count, pm_join, pm_split, pm_replace, pm_upper, rv_index, rv_count, rv_join, rv_split, rv_upper, rv_replace, rv_indexL, rv_countL, Bool.false_eq_true, ↓reduceIte, ev_callv, evS_setIx, evS_swap, evS_retN, evS_pass, addP_int, pr_isiV, this]
  refine ⟨rfl, rfl, rfl, fun S => rfl, ⟨false, fun k S => ?_⟩, ⟨false, fun k S => ?_⟩⟩
  · refine call_rt (S1 := []) [some (.dic []), none, none, none, none] g_is_row ?_
    have : isiV C [] (.bt "tuple") (.dic []) = some false := rfl
    simp only [d_is_row, evB_cons, evB_nil, evS_asg, evS_par, evS_expr, evS_ret, evS_ifs, evS_raise, ev_var, ev_lit, ev_gcon, ev_gfn, ev_op, ev_and, ev_or, ev_not, ev_ite, ev_call, ev_chain, ev_meth, evL_nil, evL_cons, pr_add, pr_sub, pr_mul, pr_neg, pr_eq, pr_ne, pr_lt, pr_gt, pr_le, pr_ge, pr_isin, pr_notin, pr_ix, pr_sl00, pr_sl10, pr_sl01, pr_sl11, pr_bi, pr_bi2, pr_isnone, pr_notnone, pr_isi, pr_isic, isa_tuple, isa_str, isa_int, isa_bool, isa_list, bl_some, tru_p, truP_bool, truP_int, truP_none, truP_tuple, truP_list, eqP_int, eqP_str, ltP_str, ltP_int, bind_nm, bind_tp, bind_tpl, setAll_nil, setAll_cons, List.getElem?_cons_zero, List.getElem?_cons_succ, List.set_cons_zero, List.set_cons_succ, Option.map_some, Option.map_none, List.map_cons, List.map_nil, Bool.not_true, Bool.not_false, pm_index, pm_count, pm_join, pm_split, pm_replace, pm_upper, rv_index, rv_count, rv_join, rv_split, rv_upper, rv_replace, rv_indexL, rv_countL, Bool.false_eq_true, ↓reduceIte, ev_callv, evS_setIx, evS_swap, evS_retN, evS_pass, addP_int, pr_isiV, this]
  · refine call_rt (S1 := []) [some (.dic []), none] g_is_rowset ?_
    simp only [d_is_rowset, evB_cons, evB_nil, evS_asg, evS_par, evS_expr, evS_ret, evS_ifs, evS_raise, ev_var, ev_lit, ev_gcon, ev_gfn, ev_op, ev_and, ev_or, ev_not, ev_ite, ev_call, ev_chain, ev_meth, evL_nil, evL_cons, pr_add, pr_sub, pr_mul, pr_neg, pr_eq, pr_ne, pr_lt, pr_gt, pr_le, pr_ge, pr_isin, pr_notin, pr_ix, pr_sl00, pr_sl10, pr_sl01, pr_sl11, pr_bi, pr_bi2, pr_isnone, pr_notnone, pr_isi, pr_isic, isa_tuple, isa_str, isa_int, isa_bool, isa_list, bl_some, tru_p, truP_bool, truP_int, truP_none, truP_tuple, truP_list, eqP_int, eqP_str, ltP_str, ltP_int, bind_nm, bind_tp, bind_tpl, setAll_nil, setAll_cons, List.getElem?_cons_zero, List.getElem?_cons_succ, List.set_cons_zero, List.set_cons_succ, Option.map_some, Option.map_none, List.map_cons, List.map_nil, Bool.not_true, Bool.not_false, pm_index, pm_count, pm_join, pm_split, pm_replace, pm_upper, rv_index, rv_count, rv_join, rv_split, rv_upper, rv_replace, rv_indexL, rv_countL, Bool.false_eq_true, ↓reduceIte, ev_callv, evS_setIx, evS_swap, evS_retN, evS_pass, addP_int, ha]
def oddRow (c : Int) : PyData := .tuple [.str ⟨#[97]⟩, .int c, .tuple [.int 1], .int 1]
def odds : List Val := [.p .none, .p (.bool true), .p (.int 7), .p (.tuple []), .p (.list []), .dic [], .p (oddRow 1), .p (.list [oddRow 1]), .p (oddRow 0), .p (.tuple [.none]), .p (.int ((10 : Int) ^ 39))]
theorem odds_ok : ∀ v ∈ odds, Odd v := by
  intro v hv
  unfold odds at hv
  simp only [List.mem_cons, List.not_mem_nil, or_false] at hv
  have sz : ∀ c : Int, ∀ d ∈ [PyData.str ⟨#[97]⟩, .int c, .tuple [.int 1], .int 1], sizedRow d := fun c d hd => by
    simp only [List.mem_cons, List.not_mem_nil, or_false] at hd
    rcases hd with rfl | rfl | rfl | rfl <;> trivial
  rcases hv with rfl | rfl | rfl | rfl | rfl | rfl | rfl | rfl | rfl | rfl | rfl
  · exact odd_no rfl rfl
  · exact odd_no rfl rfl
  · exact odd_no rfl rfl
  · exact odd_unit
  · exact odd_no rfl rfl
  · exact odd_dic
  · exact odd_tup (show 1 ≤ big by decide) (sz 1) (show 4 ≤ big by decide) rfl
  · exact odd_no rfl rfl
  · exact odd_tup (show 1 ≤ big by decide) (sz 0) (show 4 ≤ big by decide) rfl
  · exact odd_tup trivial (fun d hd => by
      simp only [List.mem_cons, List.not_mem_nil, or_false] at hd
      subst hd
      trivial) (show 1 ≤ big by decide) rfl
  · exact odd_no rfl rfl
theorem odd_ix {r : Int} (h0 : 0 ≤ r) (h : r < 11) : ∃ v ∈ odds, ∀ S, prim C .ix [.seq false odds, .p (.int r)] S = some (v, S) := by
  have hl : odds.length = 11 := rfl
  have hr : r.toNat < odds.length := by omega
  refine ⟨odds[r.toNat], List.getElem_mem hr, fun S => ?_⟩
  show (atI odds r).map (fun v => (v, S)) = _
  unfold atI
  rw [ixN_in h0 (by rw [hl]; exact h)]
  show (odds[r.toNat]?).map _ = _
  rw [List.getElem?_eq_getElem hr]
  rfl
end Mz

/-! My: the law holds. -/
namespace My
open PySem Ev Mb I Mr Mi Mw Mx Md Mn Mo Mp Mq Mt Mc Ml Mz NumText L2
variable {S : Store} {k : Nat}
theorem self_eq (s : Str) : (s == s) = true := beq_self_eq_true s
/-- the turns over the rows -/
theorem loop_rows {n : Nat} {e0 e1 e2 e4 e5 e6 e7 e8 : Option Val} : ∀ (rs : List Row), (∀ r ∈ rs, r.Ok) → ∀ (S : Store), Stm n S → ∃ e6' S', forGo (ckS none) (evB C (callN C (k + 12)) lb_law_0) (.nm 6) (rs.map fun r => Val.p r.d) [e0, e1, e2, some (.loc n), e4, e5, e6, e7, e8] S = .nx [e0, e1, e2, some (.loc n), e4, e5, e6', e7, e8] S' ∧ Stm n S' := by
  intro rs hr S hS
  have z := forGo_inv (ck := ckS none) (fb := evB C (callN C (k + 12)) lb_law_0) (tg := .nm 6) (it := fun (r : Row) => Val.p r.d)
    (fun as env S => ∃ e6 : Option Val, env = [e0, e1, e2, some (.loc n), e4, e5, e6, e7, e8] ∧ Stm n S ∧ ∀ r ∈ as, r.Ok) (fun _ _ _ _ => rfl) (fun r as env S h => ?_) rs _ S ⟨e6, rfl, hS, hr⟩
  · obtain ⟨env', S', h1, e6', rfl, h2, _⟩ := z
    exact ⟨e6', S', h1, h2⟩
  · obtain ⟨e6, rfl, h2, h3⟩ := h
    have ok := h3 r List.mem_cons_self
    have hl := ok.tlen
    obtain ⟨S', q1, q2⟩ := texts_ok (k := k + 2) (kind := 0) (.inl rfl) h2 (show r.txt.length ≤ 504 by omega)
    have q1' : callN C (k + 12) f__law_texts_correct [.loc n, .p (.str r.txt), .p (.int 0)] S = .ok (.p (.bool true)) S' := q1
    refine ⟨_, [e0, e1, e2, some (.loc n), e4, e5, some (.p r.d), e7, e8], S', rfl, ?_, _, rfl, q2.stm h2, fun u hu => h3 u (List.mem_cons_of_mem _ hu)⟩
    simp only [lb_law_0, evB_cons, evB_nil, evS_asg, evS_par, evS_expr, evS_ret, evS_ifs, evS_raise, ev_var, ev_lit, ev_gcon, ev_gfn, ev_op, ev_and, ev_or, ev_not, ev_ite, ev_call, ev_chain, ev_meth, evL_nil, evL_cons, pr_add, pr_sub, pr_mul, pr_neg, pr_eq, pr_ne, pr_lt, pr_gt, pr_le, pr_ge, pr_isin, pr_notin, pr_ix, pr_sl00, pr_sl10, pr_sl01, pr_sl11, pr_bi, pr_bi2, pr_isnone, pr_notnone, pr_isi, pr_isic, isa_tuple, isa_str, isa_int, isa_bool, isa_list, bl_some, tru_p, truP_bool, truP_int, truP_none, truP_tuple, truP_list, eqP_int, eqP_str, ltP_str, ltP_int, bind_nm, bind_tp, bind_tpl, setAll_nil, setAll_cons, List.getElem?_cons_zero, List.getElem?_cons_succ, List.set_cons_zero, List.set_cons_succ, Option.map_some, Option.map_none, List.map_cons, List.map_nil, Bool.not_true, Bool.not_false, pm_index, pm_count, pm_join, pm_split, pm_replace, pm_upper, rv_index, rv_count, rv_join, rv_split, rv_upper, rv_replace, rv_indexL, rv_countL, Bool.false_eq_true, ↓reduceIte, ev_callv, evS_setIx, evS_swap, evS_retN, evS_pass, addP_int, Mz.format_row ok, Mx.law_row_text ok, self_eq, q1']
def edgeS (r : Int) : Str := ⟨(List.replicate r.toNat [122]).flatten.toArray⟩
def edge (r : Int) : Row := ⟨edgeS r, 1000000, [1000000000, -1000000000, 0], 1000000000⟩
theorem cs_edge (r : Int) : cs (edgeS r) = List.replicate r.toNat 122 := by
  show (List.replicate r.toNat [122]).flatten = _
  generalize r.toNat = n
  induction n with
  | zero => rfl
  | succ n ih => rw [List.replicate_succ, List.flatten_cons, ih]; rfl
theorem edge_ok {r : Int} (h0 : 0 ≤ r) (h : r < 8) : (edge (1 + r)).Ok := by
  have e := cs_edge (1 + r)
  have hl : (edgeS (1 + r)).length = (1 + r).toNat := by rw [len_cs, e, List.length_replicate]
  refine ⟨?_, ?_, fun c hc => ?_, show (1 : Int) ≤ 1000000 by decide, show (1000000 : Int) ≤ 1000000 by decide, show 1 ≤ 3 by decide, show 3 ≤ 4 by decide, fun v hv => ?_, show (1 : Int) ≤ 1000000000 by decide, show (1000000000 : Int) ≤ 1000000000 by decide⟩
  · show 1 ≤ (edgeS (1 + r)).length
    omega
  · show (edgeS (1 + r)).length ≤ 8
    omega
  · have hc' : c ∈ cs (edgeS (1 + r)) := hc
    rw [e] at hc'
    obtain ⟨_, rfl⟩ := List.mem_replicate.mp hc'
    decide
  · have hv' : v ∈ [1000000000, -1000000000, (0 : Int)] := hv
    simp only [List.mem_cons, List.not_mem_nil, or_false] at hv'
    rcases hv' with rfl | rfl | rfl <;> decide
theorem stream_stm {a b c : Int} : Stm S.length (S ++ [SC a b c]) := ⟨a, b, c, by simp⟩
theorem turn {ns : List Int} {j : Nat} {e3 e4 e5 e6 e7 e8 : Option Val} : ∃ e3' e4' e5' e6' e7' e8' S', evB C (callN C (k + 12)) lb_law_1 [some (.p (.list (ns.map .int))), some (.seq false odds), some (.p (.int (j : Int))), e3, e4, e5, e6, e7, e8] S = .nx [some (.p (.list (ns.map .int))), some (.seq false odds), some (.p (.int (j : Int))), e3', e4', e5', e6', e7', e8'] S' := by
  obtain ⟨a, b, hst⟩ := stream (k := k + 11) (S := S) (ns := ns) (i := j)
  have s0 : Stm S.length (S ++ [SC a b 0]) := stream_stm
  obtain ⟨t, S1, d1, g1, t0, t1⟩ := draw (k := k + 11) (t := 7) s0 (by decide) (by decide)
  have s1 := g1.stm s0
  obtain ⟨w, S2, d2, g2, w0, w1⟩ := draw (k := k + 11) (t := 4) s1 (by decide) (by decide)
  have s2 := g2.stm s1
  obtain ⟨rs, S3, d3, g3, rok, rlen, _⟩ := law_rowset (k := k + 9) (n := t.toNat) (w := (1 + w).toNat) s2 (by omega) (by omega) (by omega)
  rw [show ((t.toNat : Nat) : Int) = t from by omega, show (((1 + w).toNat : Nat) : Int) = 1 + w from by omega] at d3
  have s3 := g3.stm s2
  obtain ⟨u, S4, d4, g4, u0, u1⟩ := draw (k := k + 11) (t := 8) s3 (by decide) (by decide)
  have s4 := g4.stm s3
  have eok := edge_ok u0 u1
  obtain ⟨e6', S5, l1, s5⟩ := loop_rows (k := k) (n := S.length) (e0 := some (.p (.list (ns.map .int)))) (e1 := some (.seq false odds)) (e2 := some (.p (.int (j : Int)))) (e4 := some (.p (rsd rs))) (e5 := some (.p (edge (1 + u)).d)) (e6 := e6) (e7 := e7) (e8 := e8) (rs ++ [edge (1 + u)]) (fun r hr => by
    rcases List.mem_append.mp hr with hr | hr
    · exact rok.rows r hr
    · rw [List.mem_singleton.mp hr]; exact eok) S4 s4
  have tl : (rstxt rs).length ≤ 504 := by
    unfold rstxt
    split
    · decide
    · have := join_le rok.rows
      omega
  obtain ⟨S6, q1, q2⟩ := texts_ok (k := k + 2) (kind := 1) (.inr rfl) s5 tl
  have q1' : callN C (k + 12) f__law_texts_correct [.loc S.length, .p (.str (rstxt rs)), .p (.int 1)] S5 = .ok (.p (.bool true)) S6 := q1
  have s6 := q2.stm s5
  obtain ⟨x, S7, d7, g7, x0, x1⟩ := draw (k := k + 11) (t := 11) s6 (by decide) (by decide)
  obtain ⟨v, hv, hix⟩ := odd_ix x0 x1
  have od := odds_ok v hv
  obtain ⟨b1, hb1⟩ := od.row
  obtain ⟨b2, hb2⟩ := od.rs
  have mz : mulP (.str ⟨#[122]⟩) (.int (1 + u)) = some (.str (edgeS (1 + u))) := if_pos ⟨by
    have e : (⟨#[122]⟩ : Str).length = 1 := rfl
    rw [e]
    unfold big
    omega, by omega, by omega⟩
  have P6 : ∀ S, prim C .pow [.p (.int 10), .p (.int 6)] S = some (.p (.int 1000000), S) := fun _ => pw 6 (by decide)
  have P9 : ∀ S, prim C .pow [.p (.int 10), .p (.int 9)] S = some (.p (.int 1000000000), S) := fun _ => pw 9 (by decide)
  have T3 : ∀ (u v w : PyData) S, prim C .tup [.p u, .p v, .p w] S = some (.p (.tuple [u, v, w]), S) := fun _ _ _ _ => rfl
  have T4 : ∀ S, prim C .tup [.p (.str (edgeS (1 + u))), .p (.int 1000000), .p (.tuple [.int 1000000000, .int (-1000000000), .int 0]), .p (.int 1000000000)] S = some (.p (edge (1 + u)).d, S) := fun _ => rfl
  have L1 : ∀ (u : PyData) S, prim C .lst [.p u] S = some (.p (.list [u]), S) := fun _ _ => rfl
  have L2_ : ∀ (u v : PyData) S, prim C .lst [.p u, .p v] S = some (.p (.list [u, v]), S) := fun _ _ _ => rfl
  have bl : biP .list [rsd rs] = some (.list (rs.map Row.d)) := rfl
  have ad : addP (.list (rs.map Row.d)) (.list [(edge (1 + u)).d]) = some (.list ((rs ++ [edge (1 + u)]).map Row.d)) := by
    show (if (rs.map Row.d).length + 1 ≤ big then some (PyData.list _) else none) = _
    have := rok.len
    rw [if_pos (by rw [List.length_map]; unfold big; omega), List.map_append]
    rfl
  have it : ∀ S, items S .val [.p (.list ((rs ++ [edge (1 + u)]).map Row.d))] = some ((rs ++ [edge (1 + u)]).map (fun r => Val.p r.d), none) := fun S => by
    show some (((rs ++ [edge (1 + u)]).map Row.d).map Val.p, none) = _
    rw [List.map_map]
    rfl
  have ed : (edge (1 + u)).d = .tuple [.str (edgeS (1 + u)), .int 1000000, .tuple [.int 1000000000, .int (-1000000000), .int 0], .int 1000000000] := rfl
  have hl := rok.len
  have rt := fun (k : Nat) (S : Store) => Mx.law_rowset_text (k := k) (S := S) rok.rows (show rs.length ≤ 4000 by omega)
  have fp : (C.defs[f_parse_row]?).isSome = true := rfl
  have r1 := cr_parse (k := k + 11) (S := S7) (f := f_parse_row) od.loc od.inn od.exc rfl (pr_bad (k := k + 9) od)
  have r2 := cr_parse (k := k + 11) (S := S7) (f := f_parse_rowset) od.loc od.inn od.exc rfl (prs_bad (k := k + 9) od)
  have pe : eqP (.list [.str pP, .str pP]) (.list [.str ⟨#[112, 97, 114, 115, 101]⟩, .str ⟨#[112, 97, 114, 115, 101]⟩]) = some true := by decide +kernel
  have c1 : b1 = false → callN C (k + 12) f__law_call_result [.fn f_format_row, v] S7 = .ok (.p (.str pR)) S7 := fun e => by
    subst e
    exact cr_row (k := k + 11) (S := S7) (f := f_format_row) od.loc od.inn od.exc rfl (fr_bad (k := k + 6) od hb1)
  have c2 : b2 = false → callN C (k + 12) f__law_call_result [.fn f_format_rowset, v] S7 = .ok (.p (.str pS)) S7 := fun e => by
    subst e
    exact cr_rs (k := k + 11) (S := S7) (f := f_format_rowset) od.loc od.inn od.exc rfl (frs_bad (k := k + 4) od hb2)
  have sR : (pR == (⟨#[114, 111, 119]⟩ : Str)) = true := by decide
  have sS : (pS == (⟨#[114, 111, 119, 115, 101, 116]⟩ : Str)) = true := by decide
  refine ⟨some (.loc S.length), some (.p (rsd rs)), some (.p (edge (1 + u)).d), e6', some (.p (.str (rstxt rs))), some v, S7, ?_⟩
  simp only [lb_law_1]
  rw [evB_cons]
  simp only [evS_asg, ev_call, evL_cons, evL_nil, ev_var, List.getElem?_cons_zero, List.getElem?_cons_succ, hst, bind_nm, List.set_cons_succ, List.set_cons_zero]
  rw [evB_cons]
  simp only [evS_asg, ev_call, ev_op, ev_lit, evL_cons, evL_nil, ev_var, List.getElem?_cons_zero, List.getElem?_cons_succ, d1, d2, pr_add, addP_int, Option.map_some, d3, bind_nm, List.set_cons_succ, List.set_cons_zero]
  rw [evB_cons]
  simp only [evS_asg, ev_call, ev_op, ev_lit, evL_cons, evL_nil, ev_var, List.getElem?_cons_zero, List.getElem?_cons_succ, d4, pr_add, addP_int, Option.map_some, pr_mul, mz, P6, P9, pr_neg, T3, T4, bind_nm, List.set_cons_succ, List.set_cons_zero]
  rw [evB_cons, l_law_0, evS_for]
  simp only [ev_op, evL_cons, evL_nil, ev_var, List.getElem?_cons_zero, List.getElem?_cons_succ, pr_bi, bl, Option.map_some, L1, pr_add, ad, it]
  rw [l1]
  simp only [evB_cons, evB_nil, evS_asg, evS_par, evS_expr, evS_ret, evS_ifs, evS_raise, ev_var, ev_lit, ev_gcon, ev_gfn, ev_op, ev_and, ev_or, ev_not, ev_ite, ev_call, ev_chain, ev_meth, evL_nil, evL_cons, pr_add, pr_sub, pr_mul, pr_neg, pr_eq, pr_ne, pr_lt, pr_gt, pr_le, pr_ge, pr_isin, pr_notin, pr_ix, pr_sl00, pr_sl10, pr_sl01, pr_sl11, pr_bi, pr_bi2, pr_isnone, pr_notnone, pr_isi, pr_isic, isa_tuple, isa_str, isa_int, isa_bool, isa_list, bl_some, tru_p, truP_bool, truP_int, truP_none, truP_tuple, truP_list, eqP_int, eqP_str, ltP_str, ltP_int, bind_nm, bind_tp, bind_tpl, setAll_nil, setAll_cons, List.getElem?_cons_zero, List.getElem?_cons_succ, List.set_cons_zero, List.set_cons_succ, Option.map_some, Option.map_none, List.map_cons, List.map_nil, Bool.not_true, Bool.not_false, pm_index, pm_count, pm_join, pm_split, pm_replace, pm_upper, rv_index, rv_count, rv_join, rv_split, rv_upper, rv_replace, rv_indexL, rv_countL, Bool.false_eq_true, ↓reduceIte, ev_callv, evS_setIx, evS_swap, evS_retN, evS_pass, addP_int, rt, Mz.format_rowset rok, self_eq, q1', d7, hix]
  cases b1 with
  | true => cases b2 with
    | true => simp only [evB_cons, evB_nil, evS_asg, evS_par, evS_expr, evS_ret, evS_ifs, evS_raise, ev_var, ev_lit, ev_gcon, ev_gfn, ev_op, ev_and, ev_or, ev_not, ev_ite, ev_call, ev_chain, ev_meth, evL_nil, evL_cons, pr_add, pr_sub, pr_mul, pr_neg, pr_eq, pr_ne, pr_lt, pr_gt, pr_le, pr_ge, pr_isin, pr_notin, pr_ix, pr_sl00, pr_sl10, pr_sl01, pr_sl11, pr_bi, pr_bi2, pr_isnone, pr_notnone, pr_isi, pr_isic, isa_tuple, isa_str, isa_int, isa_bool, isa_list, bl_some, tru_p, truP_bool, truP_int, truP_none, truP_tuple, truP_list, eqP_int, eqP_str, ltP_str, ltP_int, bind_nm, bind_tp, bind_tpl, setAll_nil, setAll_cons, List.getElem?_cons_zero, List.getElem?_cons_succ, List.set_cons_zero, List.set_cons_succ, Option.map_some, Option.map_none, List.map_cons, List.map_nil, Bool.not_true, Bool.not_false, pm_index, pm_count, pm_join, pm_split, pm_replace, pm_upper, rv_index, rv_count, rv_join, rv_split, rv_upper, rv_replace, rv_indexL, rv_countL, Bool.false_eq_true, ↓reduceIte, ev_callv, evS_setIx, evS_swap, evS_retN, evS_pass, addP_int, hb1, hb2, r1, r2, L2_, pe]
    | false =>
      have z2 := c2 rfl
      simp only [evB_cons, evB_nil, evS_asg, evS_par, evS_expr, evS_ret, evS_ifs, evS_raise, ev_var, ev_lit, ev_gcon, ev_gfn, ev_op, ev_and, ev_or, ev_not, ev_ite, ev_call, ev_chain, ev_meth, evL_nil, evL_cons, pr_add, pr_sub, pr_mul, pr_neg, pr_eq, pr_ne, pr_lt, pr_gt, pr_le, pr_ge, pr_isin, pr_notin, pr_ix, pr_sl00, pr_sl10, pr_sl01, pr_sl11, pr_bi, pr_bi2, pr_isnone, pr_notnone, pr_isi, pr_isic, isa_tuple, isa_str, isa_int, isa_bool, isa_list, bl_some, tru_p, truP_bool, truP_int, truP_none, truP_tuple, truP_list, eqP_int, eqP_str, ltP_str, ltP_int, bind_nm, bind_tp, bind_tpl, setAll_nil, setAll_cons, List.getElem?_cons_zero, List.getElem?_cons_succ, List.set_cons_zero, List.set_cons_succ, Option.map_some, Option.map_none, List.map_cons, List.map_nil, Bool.not_true, Bool.not_false, pm_index, pm_count, pm_join, pm_split, pm_replace, pm_upper, rv_index, rv_count, rv_join, rv_split, rv_upper, rv_replace, rv_indexL, rv_countL, Bool.false_eq_true, ↓reduceIte, ev_callv, evS_setIx, evS_swap, evS_retN, evS_pass, addP_int, hb1, hb2, z2, sS, r1, r2, L2_, pe]
  | false =>
    have z1 := c1 rfl
    cases b2 with
    | true => simp only [evB_cons, evB_nil, evS_asg, evS_par, evS_expr, evS_ret, evS_ifs, evS_raise, ev_var, ev_lit, ev_gcon, ev_gfn, ev_op, ev_and, ev_or, ev_not, ev_ite, ev_call, ev_chain, ev_meth, evL_nil, evL_cons, pr_add, pr_sub, pr_mul, pr_neg, pr_eq, pr_ne, pr_lt, pr_gt, pr_le, pr_ge, pr_isin, pr_notin, pr_ix, pr_sl00, pr_sl10, pr_sl01, pr_sl11, pr_bi, pr_bi2, pr_isnone, pr_notnone, pr_isi, pr_isic, isa_tuple, isa_str, isa_int, isa_bool, isa_list, bl_some, tru_p, truP_bool, truP_int, truP_none, truP_tuple, truP_list, eqP_int, eqP_str, ltP_str, ltP_int, bind_nm, bind_tp, bind_tpl, setAll_nil, setAll_cons, List.getElem?_cons_zero, List.getElem?_cons_succ, List.set_cons_zero, List.set_cons_succ, Option.map_some, Option.map_none, List.map_cons, List.map_nil, Bool.not_true, Bool.not_false, pm_index, pm_count, pm_join, pm_split, pm_replace, pm_upper, rv_index, rv_count, rv_join, rv_split, rv_upper, rv_replace, rv_indexL, rv_countL, Bool.false_eq_true, ↓reduceIte, ev_callv, evS_setIx, evS_swap, evS_retN, evS_pass, addP_int, hb1, hb2, z1, sR, r1, r2, L2_, pe]
    | false =>
      have z2 := c2 rfl
      simp only [evB_cons, evB_nil, evS_asg, evS_par, evS_expr, evS_ret, evS_ifs, evS_raise, ev_var, ev_lit, ev_gcon, ev_gfn, ev_op, ev_and, ev_or, ev_not, ev_ite, ev_call, ev_chain, ev_meth, evL_nil, evL_cons, pr_add, pr_sub, pr_mul, pr_neg, pr_eq, pr_ne, pr_lt, pr_gt, pr_le, pr_ge, pr_isin, pr_notin, pr_ix, pr_sl00, pr_sl10, pr_sl01, pr_sl11, pr_bi, pr_bi2, pr_isnone, pr_notnone, pr_isi, pr_isic, isa_tuple, isa_str, isa_int, isa_bool, isa_list, bl_some, tru_p, truP_bool, truP_int, truP_none, truP_tuple, truP_list, eqP_int, eqP_str, ltP_str, ltP_int, bind_nm, bind_tp, bind_tpl, setAll_nil, setAll_cons, List.getElem?_cons_zero, List.getElem?_cons_succ, List.set_cons_zero, List.set_cons_succ, Option.map_some, Option.map_none, List.map_cons, List.map_nil, Bool.not_true, Bool.not_false, pm_index, pm_count, pm_join, pm_split, pm_replace, pm_upper, rv_index, rv_count, rv_join, rv_split, rv_upper, rv_replace, rv_indexL, rv_countL, Bool.false_eq_true, ↓reduceIte, ev_callv, evS_setIx, evS_swap, evS_retN, evS_pass, addP_int, hb1, hb2, z1, z2, sR, sS, r1, r2, L2_, pe]
theorem parse_dash : callN C (k + 7) f_parse_rowset [.p (.str dash)] S = .ok (.p (.tuple [])) S := by
  have w1 := fun (k : Nat) => rowset_ok (k := k) (S := []) (rs := []) (fun r hr => absurd hr List.not_mem_nil) (by decide)
  have w3 := fun (k : Nat) => Mx.write_rowset (k := k) (S := []) (rs := []) (fun r hr => absurd hr List.not_mem_nil) (by decide)
  have e1 : isRowset [] = true := rfl
  have e2 : (rstxt [] == dash) = true := rfl
  have e3 : rsd [] = .tuple [] := rfl
  rw [e3] at w1 w3
  rw [e1] at w1
  have t0 : ∀ S : Store, prim C .tup [] S = some (.p (.tuple []), S) := fun _ => rfl
  have hd : (dash == dash) = true := rfl
  refine call_rt (S1 := []) (r := .tuple []) [some (.p (.str dash)), none, none] g_parse_rowset ?_
  simp only [d_parse_rowset, evB_cons, evB_nil, evS_asg, evS_par, evS_expr, evS_ret, evS_ifs, evS_raise, ev_var, ev_lit, ev_gcon, ev_gfn, ev_op, ev_and, ev_or, ev_not, ev_ite, ev_call, ev_chain, ev_meth, evL_nil, evL_cons, pr_add, pr_sub, pr_mul, pr_neg, pr_eq, pr_ne, pr_lt, pr_gt, pr_le, pr_ge, pr_isin, pr_notin, pr_ix, pr_sl00, pr_sl10, pr_sl01, pr_sl11, pr_bi, pr_bi2, pr_isnone, pr_notnone, pr_isi, pr_isic, isa_tuple, isa_str, isa_int, isa_bool, isa_list, bl_some, tru_p, truP_bool, truP_int, truP_none, truP_tuple, truP_list, eqP_int, eqP_str, ltP_str, ltP_int, bind_nm, bind_tp, bind_tpl, setAll_nil, setAll_cons, List.getElem?_cons_zero, List.getElem?_cons_succ, List.set_cons_zero, List.set_cons_succ, Option.map_some, Option.map_none, List.map_cons, List.map_nil, Bool.not_true, Bool.not_false, pm_index, pm_count, pm_join, pm_split, pm_replace, pm_upper, rv_index, rv_count, rv_join, rv_split, rv_upper, rv_replace, rv_indexL, rv_countL, Bool.false_eq_true, ↓reduceIte, ev_callv, evS_setIx, evS_swap, evS_retN, evS_pass, addP_int, require_str, hd, t0, w1, w3, e2]
def oneR : Row := ⟨⟨#[97]⟩, 1, [-1], 1⟩
theorem one_ok : oneR.Ok := ⟨by decide, by decide, by decide, by decide, by decide, by decide, by decide, by decide, by decide, by decide⟩
def oneS : Str := ⟨#[97, 32, 49, 32, 45, 49, 32, 49]⟩
theorem parse_one : callN C (k + 5) f_parse_row [.p (.str oneS)] S = .ok (.p oneR.d) S := by
  have h0 : Txt.split oneS sp = [⟨#[97]⟩, ⟨#[49]⟩, ⟨#[45, 49]⟩, ⟨#[49]⟩] := by decide +kernel
  have h1 : Txt.split (⟨#[45, 49]⟩ : Str) comma = [⟨#[45, 49]⟩] := by decide +kernel
  have h2 : progScan oneS = oneR.d := by
    unfold progScan
    rw [h0]
    unfold valsP valsL
    simp only [h1]
    rfl
  have hs : ∀ (k : Nat), callN C (k + 3) f_scan_row [.p (.str oneS)] [] = .ok (.p oneR.d) [] := fun k => by rw [scan_row (by decide), h2]
  have ht : (oneR.txt == oneS) = true := by decide +kernel
  refine call_rt (S1 := []) (r := oneR.d) [some (.p (.str oneS)), none] g_parse_row ?_
  simp only [d_parse_row, evB_cons, evB_nil, evS_asg, evS_par, evS_expr, evS_ret, evS_ifs, evS_raise, ev_var, ev_lit, ev_gcon, ev_gfn, ev_op, ev_and, ev_or, ev_not, ev_ite, ev_call, ev_chain, ev_meth, evL_nil, evL_cons, pr_add, pr_sub, pr_mul, pr_neg, pr_eq, pr_ne, pr_lt, pr_gt, pr_le, pr_ge, pr_isin, pr_notin, pr_ix, pr_sl00, pr_sl10, pr_sl01, pr_sl11, pr_bi, pr_bi2, pr_isnone, pr_notnone, pr_isi, pr_isic, isa_tuple, isa_str, isa_int, isa_bool, isa_list, bl_some, tru_p, truP_bool, truP_int, truP_none, truP_tuple, truP_list, eqP_int, eqP_str, ltP_str, ltP_int, bind_nm, bind_tp, bind_tpl, setAll_nil, setAll_cons, List.getElem?_cons_zero, List.getElem?_cons_succ, List.set_cons_zero, List.set_cons_succ, Option.map_some, Option.map_none, List.map_cons, List.map_nil, Bool.not_true, Bool.not_false, pm_index, pm_count, pm_join, pm_split, pm_replace, pm_upper, rv_index, rv_count, rv_join, rv_split, rv_upper, rv_replace, rv_indexL, rv_countL, Bool.false_eq_true, ↓reduceIte, ev_callv, evS_setIx, evS_swap, evS_retN, evS_pass, addP_int, require_str, hs, row (sized_row _ one_ok), one_ok.is, Mw.write_row one_ok, ht]
theorem law {ns : List Int} : ∃ S', callN C (k + 13) f_law [.p (.list (ns.map .int))] [] = .ok (.p (.bool true)) S' := by
  have mn : biP .min [.int 8, .int (ns.length : Nat)] = some (.int (if ((ns.length : Nat) : Int) < 8 then ((ns.length : Nat) : Int) else 8)) := rfl
  obtain ⟨m, hm, m1, m2⟩ : ∃ m : Int, biP .max [.int 1, .int (if ((ns.length : Nat) : Int) < 8 then ((ns.length : Nat) : Int) else 8)] = some (.int m) ∧ 0 ≤ m ∧ m ≤ 8 := by
    refine ⟨_, rfl, ?_, ?_⟩
    · split <;> split <;> omega
    · split <;> split <;> omega
  have z := forGo_inv (ck := ckS none) (fb := evB C (callN C (k + 12)) lb_law_1) (tg := .nm 2) (it := fun (j : Nat) => Val.p (.int (j : Int)))
    (fun _ env S => ∃ e2 e3 e4 e5 e6 e7 e8 : Option Val, env = [some (.p (.list (ns.map .int))), some (.seq false odds), e2, e3, e4, e5, e6, e7, e8]) (fun _ _ _ _ => rfl) (fun j as env S h => ?_) (List.range m.toNat) [some (.p (.list (ns.map .int))), some (.seq false odds), none, none, none, none, none, none, none] [] ⟨none, none, none, none, none, none, none, rfl⟩
  · obtain ⟨env', S', h1, e2, e3, e4, e5, e6, e7, e8, rfl⟩ := z
    have P39 : ∀ S, prim C .pow [.p (.int 10), .p (.int 39)] S = some (.p (.int ((10 : Int) ^ 39)), S) := fun _ => pw 39 (by decide)
    have T4 : ∀ (u v w z : PyData) S, prim C .tup [.p u, .p v, .p w, .p z] S = some (.p (.tuple [u, v, w, z]), S) := fun _ _ _ _ _ => rfl
    have T1 : ∀ (u : PyData) S, prim C .tup [.p u] S = some (.p (.tuple [u]), S) := fun _ _ => rfl
    have T0 : ∀ S, prim C .tup [] S = some (.p (.tuple []), S) := fun _ => rfl
    have L0 : ∀ S, prim C .lst [] S = some (.p (.list []), S) := fun _ => rfl
    have L1 : ∀ (u : PyData) S, prim C .lst [.p u] S = some (.p (.list [u]), S) := fun _ _ => rfl
    have D0 : ∀ S, prim C .dnew [] S = some (.dic [], S) := fun _ => rfl
    have LO : ∀ S, prim C .lst [.p .none, .p (.bool true), .p (.int 7), .p (.tuple []), .p (.list []), .dic [], .p (.tuple [.str ⟨#[97]⟩, .int 1, .tuple [.int 1], .int 1]), .p (.list [.tuple [.str ⟨#[97]⟩, .int 1, .tuple [.int 1], .int 1]]), .p (.tuple [.str ⟨#[97]⟩, .int 0, .tuple [.int 1], .int 1]), .p (.tuple [.none]), .p (.int ((10 : Int) ^ 39))] S = some (.seq false odds, S) := fun _ => rfl
    have rg := rng1 (S := []) (show m ≤ big by unfold big; omega) m1
    have hlm : ((ns.map PyData.int).length : Nat) = ns.length := List.length_map _
    have f1 := fun (k : Nat) (S : Store) => Mz.format_rowset (k := k) (S := S) (rs := []) ⟨fun r hr => absurd hr List.not_mem_nil, rfl⟩
    have f1' : ∀ (k : Nat) (S : Store), callN C (k + 7) f_format_rowset [.p (.tuple [])] S = .ok (.p (.str dash)) S := f1
    have f2 : callN C (k + 12) f_parse_rowset [.p (.str ⟨#[45]⟩)] S' = .ok (.p (.tuple [])) S' := parse_dash (k := k + 5)
    have f3 : callN C (k + 12) f_parse_row [.p (.str ⟨#[97, 32, 49, 32, 45, 49, 32, 49]⟩)] S' = .ok (.p (.tuple [.str ⟨#[97]⟩, .int 1, .tuple [.int (-1)], .int 1])) S' := parse_one (k := k + 7)
    have f1'' : callN C (k + 12) f_format_rowset [.p (.tuple [])] S' = .ok (.p (.str ⟨#[45]⟩)) S' := f1' (k + 5) S'
    have s1 : ((⟨#[45]⟩ : Str) == ⟨#[45]⟩) = true := rfl
    have s2 : eqP (.tuple []) (.tuple []) = some true := rfl
    have s3 : eqP (.tuple [.str ⟨#[97]⟩, .int 1, .tuple [.int (-1)], .int 1]) (.tuple [.str ⟨#[97]⟩, .int 1, .tuple [.int (-1)], .int 1]) = some true := by decide +kernel
    refine ⟨[], call_rt (S1 := S') [some (.p (.list (ns.map .int))), none, none, none, none, none, none, none, none] g_law ?_⟩
    simp only [d_law, evB_cons, evB_nil, evS_asg, evS_par, evS_expr, evS_ret, evS_ifs, evS_raise, ev_var, ev_lit, ev_gcon, ev_gfn, ev_op, ev_and, ev_or, ev_not, ev_ite, ev_call, ev_chain, ev_meth, evL_nil, evL_cons, pr_add, pr_sub, pr_mul, pr_neg, pr_eq, pr_ne, pr_lt, pr_gt, pr_le, pr_ge, pr_isin, pr_notin, pr_ix, pr_sl00, pr_sl10, pr_sl01, pr_sl11, pr_bi, pr_bi2, pr_isnone, pr_notnone, pr_isi, pr_isic, isa_tuple, isa_str, isa_int, isa_bool, isa_list, bl_some, tru_p, truP_bool, truP_int, truP_none, truP_tuple, truP_list, eqP_int, eqP_str, ltP_str, ltP_int, bind_nm, bind_tp, bind_tpl, setAll_nil, setAll_cons, List.getElem?_cons_zero, List.getElem?_cons_succ, List.set_cons_zero, List.set_cons_succ, Option.map_some, Option.map_none, List.map_cons, List.map_nil, Bool.not_true, Bool.not_false, pm_index, pm_count, pm_join, pm_split, pm_replace, pm_upper, rv_index, rv_count, rv_join, rv_split, rv_upper, rv_replace, rv_indexL, rv_countL, Bool.false_eq_true, ↓reduceIte, ev_callv, evS_setIx, evS_swap, evS_retN, evS_pass, addP_int, P39, T4, T1, T0, L0, L1, D0, LO, l_law_1, evS_for, biP_len_list, hlm, mn, hm, rg, h1, f1'', f2, f3, s1, s2, s3]
  · obtain ⟨e2, e3, e4, e5, e6, e7, e8, rfl⟩ := h
    obtain ⟨e3', e4', e5', e6', e7', e8', S', h⟩ := turn (k := k) (S := S) (ns := ns) (j := j) (e3 := e3) (e4 := e4) (e5 := e5) (e6 := e6) (e7 := e7) (e8 := e8)
    exact ⟨_, _, S', rfl, h, _, _, _, _, _, _, _, rfl⟩
end My

/-! Ev2: how values, cells and slots are borne by the abstract heap. -/
namespace Ev
open PySem PySem.Spec PyProof.Rows L2

/-- a list of the written part -/
def KLst (K : PySem.W.Frag) (a : Addr) (xs : List V) : Prop :=
  ∃ (o : Obj) (its : Array Value) (n : Nat), K.lookup a = some o ∧ o.cls = .type "list" ∧ o.dict = none ∧ o.data = .seq its n ∧ its.size ≤ sizeLine ∧ Vals xs its.toList
/-- a list that nobody changes: it stands at no cell -/
def LstAt (K : PySem.W.Frag) (bn : Addr → Prop) (H : Hp) (a : Addr) (xs : List V) : Prop := (Rd H a (.lst xs) ∧ ¬ bn a) ∨ KLst K a xs
theorem LstAt.sq {K : PySem.W.Frag} {bn : Addr → Prop} {H : Hp} {a : Addr} {xs : List V} (h : LstAt K bn H a xs) : SqL K H a xs := by
  rcases h with ⟨h, _⟩ | h
  · exact .inl h
  · exact .inr h

section
variable (K : PySem.W.Frag) (bn : Addr → Prop) (H : Hp)
mutual
inductive Den : V → PyData → Prop
  | non : Den .non .none
  | bl (b : Bool) : Den (.bl b) (.bool b)
  | int (i : Int) : Den (.int i) (.int i)
  | str (x : Str) : Den (.str x) (.str x)
  | lst {a : Addr} {xs : List V} {ds : List PyData} : LstAt K bn H a xs → Dens xs ds → Den (.ref a) (.list ds)
  | tup {a : Addr} {xs : List V} {ds : List PyData} : SqT K H a xs → Dens xs ds → Den (.ref a) (.tuple ds)
inductive Dens : List V → List PyData → Prop
  | nil : Dens [] []
  | cons {v : V} {vs : List V} {d : PyData} {ds : List PyData} : Den v d → Dens vs ds → Dens (v :: vs) (d :: ds)
end
end

/-- what stood and was no cell stands -/
def Fr (io : List Addr) (H H' : Hp) : Prop := ∀ a o, H a = some o → a ∉ io → H' a = some o
/-- at the cells stand things that change -/
def Cl (io : List Addr) (H : Hp) : Prop := ∀ a, a ∈ io → Mut (H a)
theorem Cl.tup {io : List Addr} {H : Hp} (c : Cl io H) {a : Addr} {xs : List V} (h : H a = some (.tup xs)) : a ∉ io := fun m => by
  have q := c a m
  rw [h] at q
  exact q
theorem Cl.frz {io : List Addr} {H : Hp} (c : Cl io H) {a : Addr} {o : Obj} {u : HO} (h : H a = some (.frz o u)) : a ∉ io := fun m => by
  have q := c a m
  rw [h] at q
  exact q
theorem Cl.some {io : List Addr} {H : Hp} (c : Cl io H) {a : Addr} (m : a ∈ io) : H a ≠ none := fun h => by
  have q := c a m
  rw [h] at q
  exact q
theorem Fr.rdt {io : List Addr} {H H' : Hp} (f : Fr io H H') (c : Cl io H) {a : Addr} {xs : List V} (h : Rd H a (.tup xs)) : Rd H' a (.tup xs) := by
  rcases h with h | ⟨o, h⟩
  · exact .inl (f a _ h (c.tup h))
  · exact .inr ⟨o, f a _ h (c.frz h)⟩
theorem Fr.sqt {K : PySem.W.Frag} {io : List Addr} {H H' : Hp} (f : Fr io H H') (c : Cl io H) {a : Addr} {xs : List V} (h : SqT K H a xs) : SqT K H' a xs := by
  rcases h with h | h
  · exact .inl (f.rdt c h)
  · exact .inr h
theorem LstAt.fr {K : PySem.W.Frag} {bn bn' : Addr → Prop} {io : List Addr} {H H' : Hp} {a : Addr} {xs : List V} (f : Fr io H H') (c : Cl io H) (h1 : ∀ a, a ∈ io → bn a) (h2 : ∀ a, H a ≠ none → bn' a → bn a) (h : LstAt K bn H a xs) : LstAt K bn' H' a xs := by
  rcases h with ⟨h, hb⟩ | h
  · refine .inl ⟨?_, fun z => ?_⟩
    · rcases h with h | ⟨o, h⟩
      · exact .inl (f a _ h fun m => hb (h1 a m))
      · exact .inr ⟨o, f a _ h (c.frz h)⟩
    · refine hb (h2 a (fun q => ?_) z)
      rcases h with h | ⟨o, h⟩ <;> (rw [h] at q; cases q)
  · exact .inr h
section
variable {K : PySem.W.Frag} {bn bn' : Addr → Prop} {io : List Addr} {H H' : Hp}
mutual
theorem Den.fr (f : Fr io H H') (c : Cl io H) (h1 : ∀ a, a ∈ io → bn a) (h2 : ∀ a, H a ≠ none → bn' a → bn a) : ∀ (d : PyData) (v : V), Den K bn H v d → Den K bn' H' v d
  | .none, _, h => by cases h; exact .non
  | .bool _, _, h => by cases h; exact .bl _
  | .int _, _, h => by cases h; exact .int _
  | .str _, _, h => by cases h; exact .str _
  | .list ds, _, h => by
    cases h with
    | lst ha hs => exact .lst (ha.fr f c h1 h2) (Dens.fr f c h1 h2 ds _ hs)
  | .tuple ds, _, h => by
    cases h with
    | tup ha hs => exact .tup (f.sqt c ha) (Dens.fr f c h1 h2 ds _ hs)
  | .dict _, _, h => by cases h
theorem Dens.fr (f : Fr io H H') (c : Cl io H) (h1 : ∀ a, a ∈ io → bn a) (h2 : ∀ a, H a ≠ none → bn' a → bn a) : ∀ (ds : List PyData) (vs : List V), Dens K bn H vs ds → Dens K bn' H' vs ds
  | [], _, h => by cases h; exact .nil
  | d :: ds, _, h => by
    cases h with
    | cons ha hs => exact .cons (Den.fr f c h1 h2 d _ ha) (Dens.fr f c h1 h2 ds _ hs)
end
theorem Dens.length : ∀ {vs : List V} {ds : List PyData}, Dens K bn H vs ds → vs.length = ds.length
  | _, _, .nil => rfl
  | _, _, .cons _ t => congrArg (· + 1) (Dens.length t)
theorem Dens.get : ∀ {vs : List V} {ds : List PyData} {i : Nat} {d : PyData}, Dens K bn H vs ds → ds[i]? = some d → ∃ v, vs[i]? = some v ∧ Den K bn H v d
  | _, _, _, _, .nil, e => by simp at e
  | _, _, 0, _, .cons r _, e => by simp at e; subst e; exact ⟨_, rfl, r⟩
  | _, _, i + 1, d, .cons _ t, e => by
    obtain ⟨u, h1, h2⟩ := Dens.get (i := i) (d := d) t (by simpa using e)
    exact ⟨u, by simpa using h1, h2⟩
theorem Dens.append : ∀ {vs ws : List V} {ds es : List PyData}, Dens K bn H vs ds → Dens K bn H ws es → Dens K bn H (vs ++ ws) (ds ++ es)
  | _, _, _, _, .nil, s => s
  | _, _, _, _, .cons r t, s => .cons r (Dens.append t s)
theorem Dens.take : ∀ {vs : List V} {ds : List PyData} (n : Nat), Dens K bn H vs ds → Dens K bn H (vs.take n) (ds.take n)
  | _, _, 0, _ => .nil
  | _, _, _ + 1, .nil => .nil
  | _, _, n + 1, .cons r t => .cons r (Dens.take n t)
theorem Dens.drop : ∀ {vs : List V} {ds : List PyData} (n : Nat), Dens K bn H vs ds → Dens K bn H (vs.drop n) (ds.drop n)
  | _, _, 0, r => r
  | _, _, _ + 1, .nil => .nil
  | _, _, n + 1, .cons _ t => Dens.drop n t
theorem Dens.set {v : V} {d : PyData} (r : Den K bn H v d) : ∀ {vs : List V} {ds : List PyData} (n : Nat), Dens K bn H vs ds → Dens K bn H (vs.set n v) (ds.set n d)
  | _, _, _, .nil => .nil
  | _, _, 0, .cons _ t => .cons r t
  | _, _, n + 1, .cons q t => .cons q (Dens.set r n t)
theorem Dens.eraseIdx : ∀ {vs : List V} {ds : List PyData} (n : Nat), Dens K bn H vs ds → Dens K bn H (vs.eraseIdx n) (ds.eraseIdx n)
  | _, _, _, .nil => .nil
  | _, _, 0, .cons _ t => t
  | _, _, n + 1, .cons q t => .cons q (Dens.eraseIdx n t)
theorem Dens.dropLast {vs : List V} {ds : List PyData} (h : Dens K bn H vs ds) : Dens K bn H vs.dropLast ds.dropLast := by
  rw [List.dropLast_eq_take, List.dropLast_eq_take, h.length]
  exact h.take _
theorem Dens.flat_rep {vs : List V} {ds : List PyData} (h : Dens K bn H vs ds) : ∀ n : Nat, Dens K bn H (List.replicate n vs).flatten (List.replicate n ds).flatten
  | 0 => .nil
  | n + 1 => by
    rw [List.replicate_succ, List.replicate_succ, List.flatten_cons, List.flatten_cons]
    exact h.append (Dens.flat_rep h n)
end

/-! ### cells -/
/-- the cell's own list -/
def CellOk (K : PySem.W.Frag) (bn : Addr → Prop) (H : Hp) (a : Addr) : Cell → Prop
  | .lst ds => ∃ vs, H a = some (.lst vs) ∧ Dens K bn H vs ds
  | .dic _ => False
def bnO (bo : Addr → Prop) (io : List Addr) : Addr → Prop := fun a => bo a ∨ a ∈ io
/-- the store S lies at the addresses io; bo: addresses that are cells of others; the cells from n0 on were made here -/
structure Rep (K : PySem.W.Frag) (bo : Addr → Prop) (n0 : Nat) (io : List Addr) (S : Store) (H : Hp) : Prop where
  len : io.length = S.length
  nd : io.Nodup
  cells : ∀ (i : Nat) (a : Addr) (c : Cell), io[i]? = some a → S[i]? = some c → CellOk K (bnO bo io) H a c
  out : ∀ a, bo a → H a ≠ none
  new : ∀ (i : Nat) (a : Addr), n0 ≤ i → io[i]? = some a → ¬ bo a
theorem CellOk.mut {K : PySem.W.Frag} {bn : Addr → Prop} {H : Hp} {a : Addr} : ∀ {c : Cell}, CellOk K bn H a c → Mut (H a)
  | .lst _, ⟨_, h, _⟩ => by rw [h]; trivial
  | .dic _, h => h.elim
theorem CellOk.fr {K : PySem.W.Frag} {bn bn' : Addr → Prop} {io : List Addr} {H H' : Hp} {a : Addr} (f : Fr io H H') (c : Cl io H) (h1 : ∀ a, a ∈ io → bn a) (h2 : ∀ a, H a ≠ none → bn' a → bn a) (ha : H' a = H a) : ∀ {e : Cell}, CellOk K bn H a e → CellOk K bn' H' a e
  | .lst ds, ⟨vs, h, r⟩ => ⟨vs, by rw [ha]; exact h, Dens.fr f c h1 h2 ds vs r⟩
  | .dic _, h => h.elim
theorem CellOk.list {K : PySem.W.Frag} {bn : Addr → Prop} {H : Hp} {a : Addr} {ds : List PyData} : ∀ {c : Cell}, CellOk K bn H a c → c.list? = some ds → ∃ vs, H a = some (.lst vs) ∧ Dens K bn H vs ds
  | .lst _, ⟨vs, h, r⟩, e => by
    cases e
    exact ⟨vs, h, r⟩
  | .dic _, h, _ => h.elim
section
variable {K : PySem.W.Frag} {bo : Addr → Prop} {n0 : Nat} {io io1 io2 : List Addr} {S S1 : Store} {H H1 H2 : Hp}
theorem Rep.get (R : Rep K bo n0 io S H) {i : Nat} {c : Cell} (h : S[i]? = some c) : ∃ a, io[i]? = some a ∧ CellOk K (bnO bo io) H a c := by
  have hi : i < io.length := by
    rw [R.len]
    exact (List.getElem?_eq_some_iff.mp h).1
  exact ⟨io[i], List.getElem?_eq_getElem hi, R.cells i _ c (List.getElem?_eq_getElem hi) h⟩
theorem Rep.cell (R : Rep K bo n0 io S H) {i : Nat} {a : Addr} (h : io[i]? = some a) : ∃ c, S[i]? = some c ∧ CellOk K (bnO bo io) H a c := by
  have hi : i < S.length := by
    rw [← R.len]
    exact (List.getElem?_eq_some_iff.mp h).1
  exact ⟨S[i], List.getElem?_eq_getElem hi, R.cells i a _ h (List.getElem?_eq_getElem hi)⟩
theorem Rep.cl (R : Rep K bo n0 io S H) : Cl io H := fun a m => by
  obtain ⟨i, h⟩ := List.mem_iff_getElem?.mp m
  obtain ⟨c, _, q⟩ := R.cell h
  exact q.mut
theorem bn_io {a : Addr} (h : a ∈ io) : bnO bo io a := .inr h

/-- from one state to a later one -/
structure Ext (io : List Addr) (H : Hp) (io' : List Addr) (H' : Hp) : Prop where
  pre : ∃ more, io' = io ++ more
  new : ∀ a, a ∈ io' → a ∈ io ∨ H a = none
  fr : Fr io H H'
theorem Ext.refl : Ext io H io H := ⟨⟨[], by simp⟩, fun _ h => .inl h, fun _ _ h _ => h⟩
theorem Ext.trans (a : Ext io H io1 H1) (b : Ext io1 H1 io2 H2) : Ext io H io2 H2 := by
  obtain ⟨m1, e1⟩ := a.pre
  obtain ⟨m2, e2⟩ := b.pre
  refine ⟨⟨m1 ++ m2, by rw [e2, e1, List.append_assoc]⟩, fun x hx => ?_, fun x o h hn => ?_⟩
  · rcases b.new x hx with h | h
    · exact a.new x h
    · by_cases hi : x ∈ io
      · exact .inl hi
      · right
        cases q : H x with
        | none => rfl
        | some o =>
          rw [a.fr x o q hi] at h
          cases h
  · refine b.fr x o (a.fr x o h hn) fun m => ?_
    rcases a.new x m with z | z
    · exact hn z
    · rw [h] at z; cases z
theorem Ext.get (a : Ext io H io1 H1) {i : Nat} {x : Addr} (h : io[i]? = some x) : io1[i]? = some x := by
  obtain ⟨m, e⟩ := a.pre
  rw [e, List.getElem?_append_left (List.getElem?_eq_some_iff.mp h).1]
  exact h
theorem Ext.ban (a : Ext io H io1 H1) : ∀ x, H x ≠ none → bnO bo io1 x → bnO bo io x := fun x hn h => by
  rcases h with h | h
  · exact .inl h
  · rcases a.new x h with z | z
    · exact .inr z
    · exact absurd z hn
theorem Ext.den {v : V} {d : PyData} (a : Ext io H io1 H1) (c : Cl io H) (h : Den K (bnO bo io) H v d) : Den K (bnO bo io1) H1 v d := Den.fr a.fr c (fun _ => bn_io) a.ban d v h
theorem Ext.dens {vs : List V} {ds : List PyData} (a : Ext io H io1 H1) (c : Cl io H) (h : Dens K (bnO bo io) H vs ds) : Dens K (bnO bo io1) H1 vs ds := Dens.fr a.fr c (fun _ => bn_io) a.ban ds vs h
theorem Ext.lst {x : Addr} {vs : List V} (a : Ext io H io1 H1) (c : Cl io H) (h : LstAt K (bnO bo io) H x vs) : LstAt K (bnO bo io1) H1 x vs := h.fr a.fr c (fun _ => bn_io) a.ban
theorem Ext.sqt {x : Addr} {vs : List V} (a : Ext io H io1 H1) (c : Cl io H) (h : SqT K H x vs) : SqT K H1 x vs := a.fr.sqt c h
/-- a thing laid at a new address, no cell -/
theorem Ext.laid {p : Addr} {o : HO} (hp : H p = none) : Ext io H io (upd H p o) := ⟨⟨[], by simp⟩, fun _ h => .inl h, fun a u h _ => by rw [upd_ne (ne_of_none h hp)]; exact h⟩
theorem Rep.laid {p : Addr} {o : HO} (R : Rep K bo n0 io S H) (hp : H p = none) : Rep K bo n0 io S (upd H p o) := by
  have c := R.cl
  have E : Ext io H io (upd H p o) := Ext.laid hp
  refine ⟨R.len, R.nd, fun i a e h1 h2 => ?_, fun a h => ?_, R.new⟩
  · have q := R.cells i a e h1 h2
    refine q.fr E.fr c (fun _ => bn_io) E.ban ?_
    exact upd_ne fun z => by
      subst z
      exact c.some (List.mem_of_getElem? h1) hp
  · by_cases z : a = p
    · rw [z, upd_same]; exact fun q => by cases q
    · rw [upd_ne z]; exact R.out a h
/-- .. and made a cell -/
theorem Ext.cell {p : Addr} {o : HO} (hp : H p = none) : Ext io H (io ++ [p]) (upd H p o) := ⟨⟨[p], rfl⟩, fun a h => by
  rcases List.mem_append.mp h with h | h
  · exact .inl h
  · right
    rw [List.mem_singleton.mp h]
    exact hp, fun a u h _ => by rw [upd_ne (ne_of_none h hp)]; exact h⟩
theorem Rep.cellNew {p : Addr} {o : HO} {e : Cell} (R : Rep K bo n0 io S H) (hp : H p = none) (he : CellOk K (bnO bo (io ++ [p])) (upd H p o) p e) : Rep K bo n0 (io ++ [p]) (S ++ [e]) (upd H p o) := by
  have c := R.cl
  have E : Ext io H (io ++ [p]) (upd H p o) := Ext.cell hp
  have pn : p ∉ io := fun m => c.some m hp
  refine ⟨by simp [R.len], ?_, fun i a u h1 h2 => ?_, fun a h => ?_, fun i a h1 h2 => ?_⟩
  · rw [List.nodup_append]
    refine ⟨R.nd, List.nodup_cons.mpr ⟨by simp, List.nodup_nil⟩, fun a ha b hb z => ?_⟩
    rw [List.mem_singleton.mp hb] at z
    exact pn (z ▸ ha)
  · rcases Nat.lt_or_ge i io.length with hi | hi
    · rw [List.getElem?_append_left hi] at h1
      rw [List.getElem?_append_left (by rw [← R.len]; exact hi)] at h2
      have q := R.cells i a u h1 h2
      refine q.fr E.fr c (fun _ => bn_io) E.ban ?_
      exact upd_ne fun z => by
        subst z
        exact pn (List.mem_of_getElem? h1)
    · rw [List.getElem?_append_right hi] at h1
      rw [List.getElem?_append_right (by rw [← R.len]; exact hi)] at h2
      have hz : i - io.length = 0 := by
        have := (List.getElem?_eq_some_iff.mp h1).1
        simp at this
        omega
      rw [hz] at h1
      rw [← R.len, hz] at h2
      simp at h1 h2
      subst h1 h2
      exact he
  · by_cases z : a = p
    · rw [z, upd_same]; exact fun q => by cases q
    · rw [upd_ne z]; exact R.out a h
  · rcases Nat.lt_or_ge i io.length with hi | hi
    · rw [List.getElem?_append_left hi] at h2
      exact R.new i a h1 h2
    · rw [List.getElem?_append_right hi] at h2
      have m := List.mem_of_getElem? h2
      rw [List.mem_singleton.mp m]
      exact fun z => R.out p z hp
/-- a cell is written -/
theorem Ext.write {a : Addr} {o : HO} (m : a ∈ io) : Ext io H io (upd H a o) := ⟨⟨[], by simp⟩, fun _ h => .inl h, fun b u h hb => by rw [upd_ne (show b ≠ a from fun z => hb (by rw [z]; exact m))]; exact h⟩
theorem Rep.write {i : Nat} {a : Addr} {o : HO} {e : Cell} (R : Rep K bo n0 io S H) (ha : io[i]? = some a) (he : CellOk K (bnO bo io) (upd H a o) a e) : Rep K bo n0 io (S.set i e) (upd H a o) := by
  have c := R.cl
  have m : a ∈ io := List.mem_of_getElem? ha
  have E : Ext io H io (upd H a o) := Ext.write m
  refine ⟨by simp [R.len], R.nd, fun j b u h1 h2 => ?_, fun b h => ?_, R.new⟩
  · by_cases hj : j = i
    · subst hj
      rw [ha] at h1
      cases h1
      have hlt : j < S.length := by
        rw [← R.len]
        exact (List.getElem?_eq_some_iff.mp ha).1
      rw [List.getElem?_set_self hlt] at h2
      cases h2
      exact he
    · rw [List.getElem?_set_ne (Ne.symm hj)] at h2
      have q := R.cells j b u h1 h2
      refine q.fr E.fr c (fun _ => bn_io) E.ban (upd_ne fun z => hj ?_)
      rw [z] at h1
      exact nodup_ix' R.nd h1 ha
  · by_cases z : b = a
    · rw [z, upd_same]; exact fun q => by cases q
    · rw [upd_ne z]; exact R.out b h
where
  nodup_ix' {l : List Addr} (hN : l.Nodup) {i j : Nat} {x : Addr} (a : l[i]? = some x) (b : l[j]? = some x) : i = j := by
    obtain ⟨h1, e1⟩ := List.getElem?_eq_some_iff.mp a
    obtain ⟨h2, e2⟩ := List.getElem?_eq_some_iff.mp b
    exact (List.getElem_inj hN).mp (e1.trans e2.symm)
/-- a cell's book is turned, the heap stands -/
theorem Rep.rebook {i : Nat} {a : Addr} {e : Cell} (R : Rep K bo n0 io S H) (ha : io[i]? = some a) (he : CellOk K (bnO bo io) H a e) : Rep K bo n0 io (S.set i e) H := by
  refine ⟨by simp [R.len], R.nd, fun j b u h1 h2 => ?_, R.out, R.new⟩
  by_cases hj : j = i
  · subst hj
    rw [ha] at h1
    cases h1
    have hlt : j < S.length := by
      rw [← R.len]
      exact (List.getElem?_eq_some_iff.mp ha).1
    rw [List.getElem?_set_self hlt] at h2
    cases h2
    exact he
  · rw [List.getElem?_set_ne (Ne.symm hj)] at h2
    exact R.cells j b u h1 h2
end

/-! ### values -/
/-- where the defs and the own classes stand; the exceptions that are held: where, of which class, with which own dict -/
structure Tb where
  fa : Nat → Addr
  ca : Nat → Addr
  xa : List (Addr × Nat × Option Addr)
section
variable (T : Tb) (K : PySem.W.Frag) (bo : Addr → Prop) (io : List Addr) (H : Hp)
mutual
inductive DenV : V → Val → Prop
  | p {v : V} {d : PyData} : Den K (bnO bo io) H v d → DenV v (.p d)
  | loc {i : Nat} {a : Addr} : io[i]? = some a → DenV (.ref a) (.loc i)
  | seqT {a : Addr} {vs : List V} {xs : List Val} : SqT K H a vs → DenVs vs xs → DenV (.ref a) (.seq true xs)
  | seqL {a : Addr} {vs : List V} {xs : List Val} : LstAt K (bnO bo io) H a vs → DenVs vs xs → DenV (.ref a) (.seq false xs)
  | dic {a : Addr} : H a = some (.dK []) → ¬ bnO bo io a → DenV (.ref a) (.dic [])
  | fn (f : Nat) : DenV (.ref (T.fa f)) (.fn f)
  | exc {a : Addr} {c : Nat} : (a, c, none) ∈ T.xa → DenV (.ref a) (.exc c [])
inductive DenVs : List V → List Val → Prop
  | nil : DenVs [] []
  | cons {v : V} {vs : List V} {x : Val} {xs : List Val} : DenV v x → DenVs vs xs → DenVs (v :: vs) (x :: xs)
end
end
section
variable {T : Tb} {K : PySem.W.Frag} {bo bo' : Addr → Prop} {io io' : List Addr} {H H' : Hp}
section
variable {fx : List Addr}
mutual
theorem DenV.frx (f : Fr fx H H') (c : Cl fx H) (h1 : ∀ a, a ∈ fx → bnO bo io a) (hg : ∀ (i : Nat) (a : Addr), io[i]? = some a → io'[i]? = some a) (h2 : ∀ a, H a ≠ none → bnO bo' io' a → bnO bo io a) : ∀ (x : Val) (v : V), DenV T K bo io H v x → DenV T K bo' io' H' v x
  | .p d, _, h => by
    cases h with
    | p h => exact .p (Den.fr f c h1 h2 d _ h)
  | .loc i, _, h => by
    cases h with
    | loc h => exact .loc (hg i _ h)
  | .seq true xs, _, h => by
    cases h with
    | seqT h hs => exact .seqT (f.sqt c h) (DenVs.frx f c h1 hg h2 xs _ hs)
  | .seq false xs, _, h => by
    cases h with
    | seqL h hs => exact .seqL (h.fr f c h1 h2) (DenVs.frx f c h1 hg h2 xs _ hs)
  | .dic _, _, h => by
    cases h with
    | dic h hb => exact .dic (f _ _ h fun m => hb (h1 _ m)) fun z => hb (h2 _ (by rw [h]; exact fun q => by cases q) z)
  | .st _, _, h => by cases h
  | .fn g, _, h => by cases h; exact .fn g
  | .exc _ _, _, h => by
    cases h with
    | exc h => exact .exc h
theorem DenVs.frx (f : Fr fx H H') (c : Cl fx H) (h1 : ∀ a, a ∈ fx → bnO bo io a) (hg : ∀ (i : Nat) (a : Addr), io[i]? = some a → io'[i]? = some a) (h2 : ∀ a, H a ≠ none → bnO bo' io' a → bnO bo io a) : ∀ (xs : List Val) (vs : List V), DenVs T K bo io H vs xs → DenVs T K bo' io' H' vs xs
  | [], _, h => by cases h; exact .nil
  | x :: xs, _, h => by
    cases h with
    | cons ha hs => exact .cons (DenV.frx f c h1 hg h2 x _ ha) (DenVs.frx f c h1 hg h2 xs _ hs)
end
end
theorem DenV.fr (f : Fr io H H') (c : Cl io H) (hg : ∀ (i : Nat) (a : Addr), io[i]? = some a → io'[i]? = some a) (h2 : ∀ a, H a ≠ none → bnO bo' io' a → bnO bo io a) (x : Val) (v : V) (h : DenV T K bo io H v x) : DenV T K bo' io' H' v x := DenV.frx f c (fun _ => bn_io) hg h2 x v h
theorem DenVs.fr (f : Fr io H H') (c : Cl io H) (hg : ∀ (i : Nat) (a : Addr), io[i]? = some a → io'[i]? = some a) (h2 : ∀ a, H a ≠ none → bnO bo' io' a → bnO bo io a) (x : List Val) (v : List V) (h : DenVs T K bo io H v x) : DenVs T K bo' io' H' v x := DenVs.frx f c (fun _ => bn_io) hg h2 x v h
theorem Ext.denV {v : V} {x : Val} (a : Ext io H io' H') (c : Cl io H) (h : DenV T K bo io H v x) : DenV T K bo io' H' v x := DenV.fr a.fr c (fun _ _ => a.get) a.ban x v h
theorem Ext.denVs {vs : List V} {xs : List Val} (a : Ext io H io' H') (c : Cl io H) (h : DenVs T K bo io H vs xs) : DenVs T K bo io' H' vs xs := DenVs.fr a.fr c (fun _ _ => a.get) a.ban xs vs h
theorem DenVs.length : ∀ {vs : List V} {xs : List Val}, DenVs T K bo io H vs xs → vs.length = xs.length
  | _, _, .nil => rfl
  | _, _, .cons _ t => congrArg (· + 1) (DenVs.length t)
theorem DenVs.get : ∀ {vs : List V} {xs : List Val} {i : Nat} {x : Val}, DenVs T K bo io H vs xs → xs[i]? = some x → ∃ v, vs[i]? = some v ∧ DenV T K bo io H v x
  | _, _, _, _, .nil, e => by simp at e
  | _, _, 0, _, .cons r _, e => by simp at e; subst e; exact ⟨_, rfl, r⟩
  | _, _, i + 1, d, .cons _ t, e => by
    obtain ⟨u, h1, h2⟩ := DenVs.get (i := i) (x := d) t (by simpa using e)
    exact ⟨u, by simpa using h1, h2⟩
theorem DenVs.append : ∀ {vs ws : List V} {xs ys : List Val}, DenVs T K bo io H vs xs → DenVs T K bo io H ws ys → DenVs T K bo io H (vs ++ ws) (xs ++ ys)
  | _, _, _, _, .nil, s => s
  | _, _, _, _, .cons r t, s => .cons r (DenVs.append t s)
theorem DenVs.pures : ∀ {vs : List V} {xs : List Val} {ds : List PyData}, DenVs T K bo io H vs xs → pures xs = some ds → Dens K (bnO bo io) H vs ds
  | _, [], _, .nil, e => by cases e; exact .nil
  | _, .p d :: xs, ds, .cons (.p r) t, e => by
    unfold Ev.pures at e
    cases q : Ev.pures xs with
    | none => rw [q] at e; cases e
    | some es =>
      rw [q] at e
      cases e
      exact .cons r (DenVs.pures t q)
  | _, .loc _ :: _, _, _, e => by cases e
  | _, .seq _ _ :: _, _, _, e => by cases e
  | _, .dic _ :: _, _, _, e => by cases e
  | _, .st _ :: _, _, _, e => by cases e
  | _, .fn _ :: _, _, _, e => by cases e
  | _, .exc _ _ :: _, _, _, e => by cases e
theorem Dens.vals : ∀ {vs : List V} {ds : List PyData}, Dens K (bnO bo io) H vs ds → DenVs T K bo io H vs (ds.map .p)
  | _, _, .nil => .nil
  | _, _, .cons r t => .cons (.p r) (Dens.vals t)

/-- the slots -/
structure EnvOk (T : Tb) (K : PySem.W.Frag) (bo : Addr → Prop) (io : List Addr) (H : Hp) (sg : L2.St) (env : Slots) : Prop where
  len : sg.length = env.length
  at_ : ∀ (i : Nat) (x : Val), env[i]? = some (some x) → ∃ v, sg[i]? = some (some v) ∧ DenV T K bo io H v x
theorem EnvOk.ext {sg : L2.St} {env : Slots} (h : EnvOk T K bo io H sg env) (a : Ext io H io' H') (c : Cl io H) : EnvOk T K bo io' H' sg env := ⟨h.len, fun i x e => by
  obtain ⟨v, h1, h2⟩ := h.at_ i x e
  exact ⟨v, h1, a.denV c h2⟩⟩
theorem EnvOk.set {sg : L2.St} {env : Slots} {i : Nat} {v : V} {x : Val} (h : EnvOk T K bo io H sg env) (r : DenV T K bo io H v x) : EnvOk T K bo io H (sg.set i (some v)) (env.set i (some x)) := ⟨by simp [h.len], fun j y e => by
  by_cases hj : j = i
  · subst hj
    have hlt : j < env.length := by
      rcases Nat.lt_or_ge j env.length with z | z
      · exact z
      · rw [List.getElem?_eq_none (by simpa using z)] at e; cases e
    rw [List.getElem?_set_self hlt] at e
    cases e
    exact ⟨v, List.getElem?_set_self (by rw [h.len]; exact hlt), r⟩
  · rw [List.getElem?_set_ne (Ne.symm hj)] at e ⊢
    exact h.at_ j y e⟩
theorem EnvOk.unset {sg : L2.St} {env : Slots} {i : Nat} (h : EnvOk T K bo io H sg env) : EnvOk T K bo io H (sg.set i none) (env.set i none) := ⟨by simp [h.len], fun j y e => by
  by_cases hj : j = i
  · subst hj
    rcases Nat.lt_or_ge j env.length with hlt | z
    · rw [List.getElem?_set_self hlt] at e
      cases e
    · rw [List.getElem?_eq_none (by simpa using z)] at e; cases e
  · rw [List.getElem?_set_ne (Ne.symm hj)] at e ⊢
    exact h.at_ j y e⟩
theorem EnvOk.wipe {sg : L2.St} {env : Slots} (h : EnvOk T K bo io H sg env) : ∀ vs : List Nat, EnvOk T K bo io H (L2.wipe sg vs) (wipeE env vs)
  | [] => h
  | v :: vs => (EnvOk.wipe h vs).unset
end
end Ev

/-! Ev3: the promise of a def where nothing is being shown (guards), its calls, its body, the law's end. -/
namespace Ev
open PySem PySem.Spec PyProof.Rows L2

structure RoomG (k : Nat) (A : Around) : Prop where
  room : Room k A
  gd : A.guards = some []
theorem RoomG.mono {j k : Nat} {A : Around} (r : RoomG k A) (h : j ≤ k) : RoomG j A := ⟨r.room.mono h, r.gd⟩
theorem RoomG.deeper {k : Nat} {A : Around} (r : RoomG (k + 1) A) (env : Env) : RoomG k (A.deeper env) := ⟨r.room.deeper env, by
  have h := r.gd
  obtain ⟨a, b, c, d, e⟩ := A
  have h' : d = some [] := h
  subst h'
  first
    | rfl
    | simp [Around.deeper]⟩

structure FnG (P : Program) (w : World) (K : PySem.W.Frag) (mg : Str → Option Value) (base : Heap) (k : Nat) (f : Addr) (fd : FuncData) (ps : List Str) (sp : Sp) : Prop where
  len : ∀ vs H Q E, sp vs H Q E → vs.length = ps.length
  run : ∀ (A : Around) (outer : List Env) (s : Shared) (H : Hp) (args : Args) (us : List Value) (vs : List V) (Q : VK) (E : XK), RoomG k A → Env0 P w K mg base A outer s H → BindsTo s fd args (ps.zip us) → Vals vs us → sp vs H Q E →
    codeAny (model P w) A (.call (.ref f) args) (CR (L2.CX P w) outer P w H s Q E) s
theorem FnG.mono {P : Program} {w : World} {K : PySem.W.Frag} {mg : Str → Option Value} {base : Heap} {j k : Nat} {f : Addr} {fd : FuncData} {ps : List Str} {sp : Sp} (F : FnG P w K mg base j f fd ps sp) (h : j ≤ k) :
    FnG P w K mg base k f fd ps sp := ⟨F.len, fun A outer s H args us vs Q E hr => F.run A outer s H args us vs Q E (hr.mono h)⟩

section
variable {X : Cx} {k : Nat} {f : Addr} {fd : FuncData} {ps : List Str} {sp : Sp} {E : L2.St → XK} {x : Str} {p pos : Pos} {e : Expr} {es : List Expr} {t : TA}
theorem run_fnG {pins : List (Addr × Obj)} {sg : L2.St} {H : Hp} {s : Shared} {Q : VK} {us : List Value} {vs : List V} (F : FnG X.prog X.w X.K X.mg X.base k f fd ps sp) (hr : RoomG k X.A) (hb : Binds X.K fd ps []) (hx : PassesAt (L2.CX X.prog X.w) X sg (E sg))
    (I : Inv X pins sg H s) (r : Vals vs us) (h : sp vs H Q (E sg)) : wpAny (model X.prog X.w) X.A (call (.ref f) us) (EP X pins sg Q) X.xe s := by
  have hl : us.length = ps.length := by rw [← r.length]; exact F.len _ _ _ _ h
  have b := hb s us I.kIn (by rw [List.append_nil]; exact hl)
  rw [List.append_nil] at b
  refine wpAny_call (codeAny_mono (F.run X.A X.stack s H ⟨us, []⟩ us vs Q (E sg) hr I.env0 b r h) fun r s' hq => ?_)
  cases r with
  | error e => exact hx pins H s e s' I hq
  | ok fl =>
    cases fl with
    | ret u => exact I.after hq
    | next => exact False.elim hq
    | brk => exact False.elim hq
    | cont => exact False.elim hq
theorem pe_callG (F : FnG X.prog X.w X.K X.mg X.base k f fd ps sp) (hr : RoomG k X.A) (hg : Gl X x) (hm : X.mg x = some (.ref f)) (hk : PySem.W.keepIn X.K (.ref f) = true) (hb : Binds X.K fd ps []) (hx : ∀ sg, PassesAt (L2.CX X.prog X.w) X sg (E sg))
    (ha : PA X (e :: es) t) (hdb : (x == ("__debug__" : Str)) = false) (he : starEach (e :: es) X.env = (false, eval e X.env) :: starEach es X.env) (hpl : (backTo pos (starEach es X.env)).any (·.1) = false) :
    PE X (.Call (.Name x p) (e :: es) [] pos) (tCallS sp E t) := by
  refine ⟨fun pins s sg H Q I h => ?_⟩
  refine wpAny_Call_Name_kw (ld_glob I hg hm ?_ hdb)
  refine PySem.W.callWith_K (h₀ := X.base) I.ok.mod.kin hk (thn (ha.run pos pins s sg H _ I h) fun us s1 ⟨vs, H1, I1, r, q⟩ => ⟨I1.kIn, ?_⟩) he hpl
  exact run_fnG F hr hb (hx sg) I1 r q
theorem pe_callG0 (F : FnG X.prog X.w X.K X.mg X.base k f fd ps sp) (hr : RoomG k X.A) (hg : Gl X x) (hm : X.mg x = some (.ref f)) (hk : PySem.W.keepIn X.K (.ref f) = true) (hb : Binds X.K fd ps []) (hx : ∀ sg, PassesAt (L2.CX X.prog X.w) X sg (E sg))
    (hdb : (x == ("__debug__" : Str)) = false) : PE X (.Call (.Name x p) [] [] pos) (tCallS sp E tNil) := by
  refine ⟨fun pins s sg H Q I h => ?_⟩
  refine wpAny_Call_Name_kw (ld_glob I hg hm ?_ hdb)
  exact PySem.W.callWith_K0 I.kIn hk (run_fnG (us := []) F hr hb (hx sg) I .nil h)
/-- the call of a slot that holds a def, whichever -/
theorem pe_callGV {i : Nat} {R : Addr → Nat → FuncData → List Str → Sp → Prop} (hR : ∀ f k fd ps sp, R f k fd ps sp → FnG X.prog X.w X.K X.mg X.base k f fd ps sp ∧ RoomG k X.A ∧ PySem.W.keepIn X.K (.ref f) = true ∧ Binds X.K fd ps []) (hN : X.N[i]? = some x) (hv : Vis X.env.scope x)
    (hx : ∀ sg, PassesAt (L2.CX X.prog X.w) X sg (E sg)) (ha : PA X (e :: es) t) (hdb : (x == ("__debug__" : Str)) = false) (hcd : (x == ("__classdict__" : Str)) = false)
    (he : starEach (e :: es) X.env = (false, eval e X.env) :: starEach es X.env) (hpl : (backTo pos (starEach es X.env)).any (·.1) = false) :
    PE X (.Call (.Name x p) (e :: es) [] pos) (fun sg H Q => ∃ f k fd ps sp, sg[i]? = some (some (.ref f)) ∧ R f k fd ps sp ∧ tCallS sp E t sg H Q) := by
  refine ⟨fun pins s sg H Q I h => ?_⟩
  obtain ⟨f, k, fd, ps, sp, hs, hRf, h⟩ := h
  obtain ⟨F, hr, hk, hb⟩ := hR _ _ _ _ _ hRf
  refine wpAny_Call_Name_kw ?_
  refine thn ((pe_var (pos := p) hN hv hdb hcd).run pins s sg H (fun v H1 => v = .ref f ∧ H1 = H) I ⟨_, hs, rfl, rfl⟩) fun u s0 ⟨v, H0, I0, r0, ev, eH⟩ => ?_
  subst ev
  subst eH
  cases r0
  refine PySem.W.callWith_K (h₀ := X.base) I0.ok.mod.kin hk (thn (ha.run pos pins s0 sg H0 _ I0 h) fun us s1 ⟨vs, H1, I1, r, q⟩ => ⟨I1.kIn, ?_⟩) he hpl
  exact run_fnG F hr hb (hx sg) I1 r q
end

/-- THE RULE: a def of the text, by its body -/
theorem fn_ofG {P : Program} {w : World} {K : PySem.W.Frag} {mg : Str → Option Value} {base : Heap} {k : Nat} {f : Addr} {name qual : Str} {params : Arguments} {body : List Stmt} {scope : Scope} {dV kV doc pm cdv ct oc : Value} {an od : Option Addr}
    {osl : Array (Option Value)} {N ps : List Str} {sp : Sp} (lk : K.lookup f = some ⟨oc, od, .func (PySem.W.fnOf name qual params body scope dV kV doc pm an cdv ct), osl⟩) (hcd : PySem.W.codeIn K cdv qual = true) (S : FnScope N ps scope)
    (len : ∀ vs H Q E, sp vs H Q E → vs.length = ps.length)
    (hbody : ∀ (A : Around) (outer : List Env) (s : Shared) (H : Hp) (vs : List V) (Q : VK) (E : XK), RoomG k (A.deeper (envOfC qual scope s.heap.objs.size f cdv)) → sp vs H Q E →
      ∃ t, PSs (cxOf (L2.CX P w) P w K mg base N qual scope f cdv A outer s H E) body t ∧ t { nx := fun _ H' => Q .non H', rt := Q } (start N vs) H) :
    FnG P w K mg base (k + 1) f (PySem.W.fnOf name qual params body scope dV kV doc pm an cdv ct) ps sp := by
  refine ⟨len, fun A outer s H args us vs Q E hr e0 hb r hsp => ?_⟩
  have hl := len _ _ _ _ hsp
  have KX : K.In s.heap := e0.mod.kin.keeps fun b o e => (e0.bs b o e).1
  have lim : s.heap.NoLimit := e0.mod.nolimit.keeps fun b o e => (e0.bs b o e).1
  have hkind : ∀ y ∈ ps.zip us, scope.names.lookup y.1 = some .local ∨ (scope.names.lookup y.1 = some .cell ∧ ((cellsFrom (s.heap.objs.size + 1) scope.names []).lookup y.1).isSome = true) := fun ⟨n, v⟩ hy => by
    rcases S.par n (List.of_mem_zip hy).1 with q | q
    · exact .inl q
    · exact .inr ⟨q, PySem.W.cellsFrom_some _ _ _ (.inl q)⟩
  refine codeAny_call_function hr.room.depth (KX _ _ lk) rfl S.co S.gen rfl (PySem.W.codeRec_of KX hcd) (hb _ _ _ _ ?_)
  refine wpAny_newFunctionEnv_cells S.kind hkind fun env he s1 x => ?_
  subst he
  refine ⟨lim.keeps x.toInCall.keep, codeAny_func ?_⟩
  obtain ⟨t, ht, hq⟩ := hbody A outer s H vs Q E (hr.deeper _) hsp
  have I : Inv (cxOf (L2.CX P w) P w K mg base N qual scope f cdv A outer s H E) [] (start N vs) H s1 := inv_start S hr.room.hd e0 hl r x
  refine wpAny_mono (ht.run [] s1 (start N vs) H _ I hq) (fun fl s' hs => ?_) fun e s' hs => hs
  have fin : ∀ {sg' : L2.St} {H' : Hp} {v : V} {u : Value}, Inv (cxOf (L2.CX P w) P w K mg base N qual scope f cdv A outer s H E) [] sg' H' s' → RelV v u → Q v H' → CE outer P w H s Q u s' :=
    fun {sg' H' v u} J rv q => ⟨v, H', J.os, J.bare, J.base, J.hok, rv, q⟩
  cases fl with
  | ret u =>
    obtain ⟨v, sg', H', J, rv, q⟩ := hs
    exact fin J rv q
  | next =>
    obtain ⟨sg', H', J, q⟩ := hs
    exact fin (v := V.non) (u := Value.none) J rfl q
  | brk =>
    obtain ⟨_, _, _, q⟩ := hs
    exact False.elim q
  | cont =>
    obtain ⟨_, _, _, q⟩ := hs
    exact False.elim q

/-- the law's own def, at the end -/
theorem fn_law {P : Program} {w : World} {K : PySem.W.Frag} {mg : Str → Option Value} {base : Heap} {k : Nat} {f : Addr} {fd : FuncData} {ps : List Str} {sp : Sp} (F : FnG P w K mg base k f fd ps sp) :
    ∀ (A : Around), A.guards = some [] → ∀ (outer : List Env) (s : Shared) (H : Hp) (args : Args) (us : List Value) (vs : List V) (Q : VK) (E : XK), Room k A → Env0 P w K mg base A outer s H → BindsTo s fd args (ps.zip us) → Vals vs us → sp vs H Q E →
    codeAny (model P w) A (.call (.ref f) args) (CR (L2.CX P w) outer P w H s Q E) s := fun A hg outer s H args us vs Q E hr => F.run A outer s H args us vs Q E ⟨hr, hg⟩
end Ev

/-! Ev4: what an evaluation says of the model; the contexts; the look that holds the small language against the text. -/
namespace Ev
open PySem PySem.Spec PyProof.Rows L2

/-- an exception's own dict and its one field -/
def ExArg (T : Tb) (K : PySem.W.Frag) (bo : Addr → Prop) (io : List Addr) (H : Hp) (d : Option Addr) (as : List Val) : Prop :=
  (d = none ∧ as = []) ∨ ∃ a f v x, d = some a ∧ H a = some (.xd [(f, v)]) ∧ as = [x] ∧ DenV T K bo io H v x
section
variable (T : Tb) (K : PySem.W.Frag) (bo : Addr → Prop) (n0 : Nat) (io : List Addr) (H : Hp)
/-- what is wanted where it raises -/
def ExC (E : XK) (c : Nat) (as : List Val) (S1 : Store) : Prop := ∀ H1 io1 d, Ext io H io1 H1 → Rep K bo n0 io1 S1 H1 → ExArg T K bo io1 H1 d as → E (.ref (T.ca c)) d H1
def OkC (Q : VK) (v : Val) (S1 : Store) : Prop := ∀ x H1 io1, Ext io H io1 H1 → Rep K bo n0 io1 S1 H1 → DenV T K bo io1 H1 x v → Q x H1
def OksC (Q : List V → Hp → Prop) (vs : List Val) (S1 : Store) : Prop := ∀ xs H1 io1, Ext io H io1 H1 → Rep K bo n0 io1 S1 H1 → DenVs T K bo io1 H1 xs vs → Q xs H1
def RC (E : XK) (Q : VK) : Res → Prop
  | .ok v S1 => OkC T K bo n0 io H Q v S1
  | .ex c as S1 => ExC T K bo n0 io H E c as S1
  | .bad => False
def RCL (E : XK) (Q : List V → Hp → Prop) : ResL → Prop
  | .ok vs S1 => OksC T K bo n0 io H Q vs S1
  | .ex c as S1 => ExC T K bo n0 io H E c as S1
  | .bad => False
/-- a test -/
def RCT (E : XK) (Q : Bool → Hp → Prop) : Res → Prop
  | .ok v S1 => ∃ b, truV S1 v = some b ∧ ∀ H1 io1, Ext io H io1 H1 → Rep K bo n0 io1 S1 H1 → Q b H1
  | .ex c as S1 => ExC T K bo n0 io H E c as S1
  | .bad => False
end
section
variable {T : Tb} {K : PySem.W.Frag} {bo : Addr → Prop} {n0 : Nat} {io io1 : List Addr} {H H1 : Hp} {E : XK}
theorem ExC.ext {c : Nat} {as : List Val} {S1 : Store} (h : ExC T K bo n0 io H E c as S1) (a : Ext io H io1 H1) : ExC T K bo n0 io1 H1 E c as S1 := fun H2 io2 d b => h H2 io2 d (a.trans b)
theorem RC.ext {Q : VK} : ∀ {r : Res}, RC T K bo n0 io H E Q r → Ext io H io1 H1 → RC T K bo n0 io1 H1 E Q r
  | .ok _ _, h, a => fun x H2 io2 b => h x H2 io2 (a.trans b)
  | .ex _ _ _, h, a => fun H2 io2 d b => h H2 io2 d (a.trans b)
  | .bad, h, _ => h
theorem RCL.ext {Q : List V → Hp → Prop} : ∀ {r : ResL}, RCL T K bo n0 io H E Q r → Ext io H io1 H1 → RCL T K bo n0 io1 H1 E Q r
  | .ok _ _, h, a => fun x H2 io2 b => h x H2 io2 (a.trans b)
  | .ex _ _ _, h, a => fun H2 io2 d b => h H2 io2 d (a.trans b)
  | .bad, h, _ => h
theorem RCT.ext {Q : Bool → Hp → Prop} : ∀ {r : Res}, RCT T K bo n0 io H E Q r → Ext io H io1 H1 → RCT T K bo n0 io1 H1 E Q r
  | .ok _ _, ⟨k, e, h⟩, a => ⟨k, e, fun H2 io2 b => h H2 io2 (a.trans b)⟩
  | .ex _ _ _, h, a => fun H2 io2 d b => h H2 io2 d (a.trans b)
  | .bad, h, _ => h
end

/-! ### readings -/
section
variable (C : Cfg) (T : Tb) (K : PySem.W.Frag) (F : Nat → List Val → Store → Res) (W : WX)
def tE (e : E) : TE := fun sg H Q => ∃ bo n0 io S env, Rep K bo n0 io S H ∧ EnvOk T K bo io H sg env ∧ RC T K bo n0 io H (WE W sg) Q (ev C F e env S)
def tL (es : List E) : TA := fun sg H Q => ∃ bo n0 io S env, Rep K bo n0 io S H ∧ EnvOk T K bo io H sg env ∧ RCL T K bo n0 io H (WE W sg) Q (evL C F es env S)
def tT (e : E) : TT := fun sg H Q => ∃ bo n0 io S env, Rep K bo n0 io S H ∧ EnvOk T K bo io H sg env ∧ RCT T K bo n0 io H (WE W sg) Q (ev C F e env S)
end
theorem PE.mono {X : Cx} {e : Expr} {t u : TE} (h : PE X e t) (m : ∀ sg H Q, u sg H Q → t sg H Q) : PE X e u := ⟨fun pins s sg H Q I q => h.run pins s sg H Q I (m sg H Q q)⟩
theorem PT.mono {X : Cx} {e : Expr} {t u : TT} (h : PT X e t) (m : ∀ sg H Q, u sg H Q → t sg H Q) : PT X e u := ⟨fun pins s sg H Q I q => h.run pins s sg H Q I (m sg H Q q)⟩
theorem PA.mono {X : Cx} {e : List Expr} {t u : TA} (h : PA X e t) (m : ∀ sg H Q, u sg H Q → t sg H Q) : PA X e u := ⟨fun pos pins s sg H Q I q => h.run pos pins s sg H Q I (m sg H Q q)⟩
theorem PS.mono {X : Cx} {e : Stmt} {t u : TS} (h : PS X e t) (m : ∀ D sg H, u D sg H → t D sg H) : PS X e u := ⟨fun pins s sg H D I q => h.run pins s sg H D I (m D sg H q)⟩
theorem PSs.mono {X : Cx} {e : List Stmt} {t u : TS} (h : PSs X e t) (m : ∀ D sg H, u D sg H → t D sg H) : PSs X e u := ⟨fun pins s sg H D I q => h.run pins s sg H D I (m D sg H q)⟩

/-- several readings one behind another -/
def chainT : List TE → TA
  | [] => tNil
  | t :: ts => tCons t (chainT ts)
/-- an operation by values -/
def rP (C : Cfg) (T : Tb) (K : PySem.W.Frag) (o : Op) (xs : List V) (H : Hp) (Q : VK) : Prop :=
  ∃ bo n0 io S vs v S1, Rep K bo n0 io S H ∧ DenVs T K bo io H xs vs ∧ prim C o vs S = some (v, S1) ∧ OkC T K bo n0 io H Q v S1
/-- a promise -/
def spF (C : Cfg) (T : Tb) (K : PySem.W.Frag) (n f k : Nat) : Sp := fun xs H Q E =>
  xs.length = k ∧ ∃ bo n0 io S vs, Rep K bo n0 io S H ∧ DenVs T K bo io H xs vs ∧ RC T K bo n0 io H E Q (callN C n f vs S)

/-! ### contexts -/
structure ClsF (K : PySem.W.Frag) (mg : Str → Option Value) (C : Cfg) (T : Tb) (c : Nat) (i : ClsI) : Prop where
  g : mg i.name = some (.ref (T.ca c))
  k : PySem.W.keepIn K (.ref (T.ca c)) = true
  e : ExcC K (T.ca c)
  t : PySem.W.typeIn K (.ref (T.ca c)) = some (.type "type")
  made : ∃ B newId initId bmB, ExcBaseFacts B newId initId bmB ∧ PySem.W.excIn K (T.ca c) bmB newId = true
  kit : ∀ d j, C.clss[d]? = some j → PySem.W.kitOne K (.ref (T.ca c)) (.ref (T.ca d)) = some (i.anc.contains d) ∧ PySem.W.exmOne K (.ref (T.ca c)) (.ref (T.ca d)) = some (i.anc.contains d)
structure MFacts (K : PySem.W.Frag) (mg : Str → Option Value) (C : Cfg) (T : Tb) : Prop where
  defs : ∀ (f : Nat) (d : DefI), C.defs[f]? = some d → mg d.name = some (.ref (T.fa f)) ∧ PySem.W.keepIn K (.ref (T.fa f)) = true
  clss : ∀ (c : Nat) (i : ClsI), C.clss[c]? = some i → ClsF K mg C T c i
  free : ∀ x, x ∈ C.free → mg x = none
  cons : ∀ p, p ∈ C.cons → ∃ u v, mg p.1 = some u ∧ RelV v u ∧ ∀ bn H, Den K bn H v p.2
/-- the promises of the defs -/
def FFacts (P : Program) (w : World) (K : PySem.W.Frag) (mg : Str → Option Value) (base : Heap) (C : Cfg) (T : Tb) (n : Nat) : Prop :=
  ∀ (f : Nat) (d : DefI), C.defs[f]? = some d → ∃ fd, (∃ oc od osl, K.lookup (T.fa f) = some ⟨oc, od, .func fd, osl⟩) ∧ Binds K fd d.ps [] ∧ FnG P w K mg base n (T.fa f) fd d.ps (spF C T K n f d.ps.length)
def NoW : WX := fun _ _ _ _ => False
structure Good (X : Cx) (C : Cfg) (T : Tb) (n : Nat) (N : List Str) (sc raw : Scope) (W : WX) (c : Bool) : Prop where
  hN : X.N = N
  nd : N.Nodup
  sc : X.env.scope = sc
  sto : ∀ x, (raw.names.lookup x = some .local ∨ raw.names.lookup x = some .cell) → Loc X.env.scope x ∧ (X.fn x = true ∨ X.env.scope.names.lookup x = some .local)
  calm : c = true → X.calm = true
  room : c = true → RoomG n X.A
  un : X.A.units + 100 < cLine
  takes : Takes X W
  owns : PassesOwn (model X.prog X.w) X.A X.env X.xe
  mod : MFacts X.K X.mg C T
  fns : c = true → FFacts X.prog X.w X.K X.mg X.base C T n
  xa : c = true → T.xa = []
  isE : ∀ a d, (a, d, none) ∈ T.xa → CallR X (.builtin "isinstance") (rIsE X.K (T.ca d) a)

/-! ### the look -/
def visB (sc : Scope) (x : Str) : Bool := match sc.names.lookup x with
  | some .local => true
  | some .cell => true
  | some .free => true
  | _ => false
def stoB (raw : Scope) (x : Str) : Bool := match raw.names.lookup x with
  | some .local => true
  | some .cell => true
  | _ => false
def glB (sc : Scope) (x : Str) : Bool := (match sc.names.lookup x with
  | some .globalImplicit => true
  | _ => false) && !(x == ("__debug__" : Str)) && !(x == ("__name__" : Str))
theorem visB_ok {sc : Scope} {x : Str} (h : visB sc x = true) : Vis sc x := by
  unfold visB at h
  unfold Vis
  split at h <;> first
    | exact .inl (by assumption)
    | exact .inr (.inl (by assumption))
    | exact .inr (.inr (by assumption))
    | cases h
theorem stoB_ok {sc : Scope} {x : Str} (h : stoB sc x = true) : sc.names.lookup x = some .local ∨ sc.names.lookup x = some .cell := by
  unfold stoB at h
  split at h <;> first
    | exact .inl (by assumption)
    | exact .inr (by assumption)
    | cases h
theorem glB_ok {sc : Scope} {x : Str} (h : glB sc x = true) : sc.names.lookup x = some .globalImplicit ∧ (x == ("__debug__" : Str)) = false ∧ x ≠ ("__name__" : Str) := by
  unfold glB at h
  simp only [Bool.and_eq_true, Bool.not_eq_true'] at h
  obtain ⟨⟨h1, h2⟩, h3⟩ := h
  refine ⟨?_, h2, fun e => ?_⟩
  · split at h1
    · assumption
    · cases h1
  · rw [e] at h3
    simp at h3
def isStar : Expr → Bool
  | .Starred _ _ => true
  | _ => false
theorem star_of {e : Expr} (h : isStar e = false) (es : List Expr) (env : Env) : starEach (e :: es) env = (false, eval e env) :: starEach es env := by
  cases e <;> first
    | rfl
    | cases h
theorem any_of {es : List Expr} (h : es.all (fun e => !isStar e) = true) (pos : Pos) (env : Env) : (backTo pos (starEach es env)).any (·.1) = false := by
  induction es with
  | nil => rfl
  | cons e es ih =>
    simp only [List.all_cons, Bool.and_eq_true, Bool.not_eq_true'] at h
    rw [star_of h.1]
    have q := ih h.2
    first
      | exact q
      | (unfold backTo at *; simp_all)
theorem pa_all {X : Cx} : ∀ {es : List Expr} {ts : List TE}, Paired (PE X) es ts → es.all (fun e => !isStar e) = true → PA X es (chainT ts)
  | [], [], .nil, _ => pa_nil
  | e :: es, t :: ts, .cons h hs, ha => by
    simp only [List.all_cons, Bool.and_eq_true, Bool.not_eq_true'] at ha
    exact pa_cons h (pa_all hs ha.2) (star_of ha.1 es X.env)
def plainIxB : Expr → Bool
  | .Slice _ _ _ _ => false
  | _ => true
def biName : Bi → Str
  | .len => "len" | .abs => "abs" | .max => "max" | .min => "min" | .int => "int" | .str => "str" | .repr => "repr" | .tuple => "tuple" | .list => "list"
  | .sorted => "sorted" | .all => "all" | .any => "any" | .sum => "sum"
def meName : Me → Str
  | .append => "append" | .pop => "pop" | .popAt => "pop" | .index => "index" | .count => "count" | .join => "join" | .split => "split" | .replace => "replace" | .upper => "upper"
def biArity : Bi → Nat
  | .max => 2 | .min => 2 | _ => 1
def meArity : Me → Nat
  | .pop => 0 | .upper => 0 | .replace => 2 | _ => 1
def optE : Bool → Option Expr → Option (List Expr)
  | false, none => some []
  | true, some e => some [e]
  | _, _ => none
def binA (op : Operator) : Expr → Option (List Expr)
  | .BinOp a o b _ => if o == op then some [a, b] else none
  | _ => none
def unA (op : UnaryOp) : Expr → Option (List Expr)
  | .UnaryOp o a _ => if o == op then some [a] else none
  | _ => none
def cmpA (op : CmpOp) : Expr → Option (List Expr)
  | .Compare a [o] [b] _ => if o == op && !(behindInMarks op b) then some [a, b] else none
  | _ => none
def nonA (op : CmpOp) : Expr → Option (List Expr)
  | .Compare a [o] [.Constant .none _ _] _ => if o == op then some [a] else none
  | _ => none
def subA : Expr → Option (List Expr)
  | .Subscript a b _ => if plainIxB b then some [a, b] else none
  | _ => none
def slA (l h : Bool) : Expr → Option (List Expr)
  | .Subscript a (.Slice lo hi none _) _ => match optE l lo, optE h hi with
    | some xs, some ys => some (a :: (xs ++ ys))
    | _, _ => none
  | _ => none
def tupA : Expr → Option (List Expr)
  | .Tuple es _ _ => some es
  | _ => none
def lstA : Expr → Option (List Expr)
  | .List es _ => some es
  | _ => none
def dctA : Expr → Option (List Expr)
  | .Dict [] [] _ => some []
  | _ => none
def callA (x : Str) : Expr → Option (List Expr)
  | .Call (.Name y _) as [] _ => if y == x then some as else none
  | _ => none
def isiA : Expr → Option (Expr × Str)
  | .Call (.Name y _) [a, .Name t _] [] _ => if y == ("isinstance" : Str) then some (a, t) else none
  | _ => none
def biA (C : Cfg) (sc : Scope) (b : Bi) (e : Expr) : Option (List Expr) := if glB sc (biName b) && C.free.contains (biName b) then match callA (biName b) e with
    | some as => if as.length == biArity b then some as else none
    | none => none else none
def btOk (t : String) : Bool := t == "int" || t == "bool" || t == "str" || t == "tuple" || t == "list" || t == "dict"
def isbA (C : Cfg) (sc : Scope) (t : String) (e : Expr) : Option (List Expr) := match isiA e with
    | some (a, y) => if glB sc ("isinstance" : Str) && C.free.contains ("isinstance" : Str) && y == Str.ofString t && glB sc y && C.free.contains y && btOk t then some [a] else none
    | none => none
def iscA (C : Cfg) (sc : Scope) (c : Nat) (e : Expr) : Option (List Expr) := match isiA e with
    | some (a, y) => if glB sc ("isinstance" : Str) && C.free.contains ("isinstance" : Str) && glB sc y && (C.clss[c]?.map (·.name)) == some y then some [a] else none
    | none => none
/-- the arguments of an operation, off its text -/
def opArgs (C : Cfg) (sc : Scope) : Op → Expr → Option (List Expr)
  | .add, e => binA .Add e
  | .sub, e => binA .Sub e
  | .mul, e => binA .Mult e
  | .fdiv, e => binA .FloorDiv e
  | .mod, e => binA .Mod e
  | .pow, e => binA .Pow e
  | .neg, e => unA .USub e
  | .eq, e => cmpA .Eq e
  | .ne, e => cmpA .NotEq e
  | .lt, e => cmpA .Lt e
  | .le, e => cmpA .LtE e
  | .gt, e => cmpA .Gt e
  | .ge, e => cmpA .GtE e
  | .isin, e => cmpA .In e
  | .notin, e => cmpA .NotIn e
  | .isnone, e => nonA .Is e
  | .notnone, e => nonA .IsNot e
  | .ix, e => subA e
  | .sl l h, e => slA l h e
  | .tup, e => tupA e
  | .lst, e => lstA e
  | .dnew, e => dctA e
  | .mk o, e => match o with
    | .lst => lstA e
    | _ => none
  | .bi b, e => biA C sc b e
  | .isi (.bt t), e => isbA C sc t e
  | .isi (.cls c), e => iscA C sc c e
/-! shapes -/
theorem binA_ok {op : Operator} {e : Expr} {as : List Expr} (h : binA op e = some as) : ∃ a b p, e = .BinOp a op b p ∧ as = [a, b] := by
  unfold binA at h
  split at h
  · split at h
    · rename_i hb
      cases h
      have e1 := eq_of_beq hb
      subst e1
      exact ⟨_, _, _, rfl, rfl⟩
    · cases h
  · cases h
theorem unA_ok {op : UnaryOp} {e : Expr} {as : List Expr} (h : unA op e = some as) : ∃ a p, e = .UnaryOp op a p ∧ as = [a] := by
  unfold unA at h
  split at h
  · split at h
    · rename_i hb
      cases h
      have e1 := eq_of_beq hb
      subst e1
      exact ⟨_, _, rfl, rfl⟩
    · cases h
  · cases h
theorem cmpA_ok {op : CmpOp} {e : Expr} {as : List Expr} (h : cmpA op e = some as) : ∃ a b p, e = .Compare a [op] [b] p ∧ as = [a, b] ∧ behindInMarks op b = false := by
  unfold cmpA at h
  split at h
  · split at h
    · rename_i hb
      cases h
      rw [Bool.and_eq_true] at hb
      have e1 := eq_of_beq hb.1
      subst e1
      exact ⟨_, _, _, rfl, rfl, by simpa using hb.2⟩
    · cases h
  · cases h
theorem nonA_ok {op : CmpOp} {e : Expr} {as : List Expr} (h : nonA op e = some as) : ∃ a j p q, e = .Compare a [op] [.Constant .none j p] q ∧ as = [a] := by
  unfold nonA at h
  split at h
  · split at h
    · rename_i hb
      cases h
      have e1 := eq_of_beq hb
      subst e1
      exact ⟨_, _, _, _, rfl, rfl⟩
    · cases h
  · cases h
theorem subA_ok {e : Expr} {as : List Expr} (h : subA e = some as) : ∃ a b p, e = .Subscript a b p ∧ as = [a, b] ∧ plainIxB b = true := by
  unfold subA at h
  split at h
  · split at h
    · rename_i hb
      cases h
      exact ⟨_, _, _, rfl, rfl, hb⟩
    · cases h
  · cases h
theorem slA_ok {l u : Bool} {e : Expr} {as : List Expr} (h : slA l u e = some as) : ∃ a lo hi p q xs ys, e = .Subscript a (.Slice lo hi none p) q ∧ optE l lo = some xs ∧ optE u hi = some ys ∧ as = a :: (xs ++ ys) := by
  unfold slA at h
  split at h
  · split at h
    · rename_i h1 h2
      cases h
      exact ⟨_, _, _, _, _, _, _, rfl, h1, h2, rfl⟩
    · cases h
  · cases h
theorem tupA_ok {e : Expr} {as : List Expr} (h : tupA e = some as) : ∃ k p, e = .Tuple as k p := by
  unfold tupA at h
  split at h
  · cases h; exact ⟨_, _, rfl⟩
  · cases h
theorem lstA_ok {e : Expr} {as : List Expr} (h : lstA e = some as) : ∃ p, e = .List as p := by
  unfold lstA at h
  split at h
  · cases h; exact ⟨_, rfl⟩
  · cases h
theorem dctA_ok {e : Expr} {as : List Expr} (h : dctA e = some as) : ∃ p, e = .Dict [] [] p ∧ as = [] := by
  unfold dctA at h
  split at h
  · cases h; exact ⟨_, rfl, rfl⟩
  · cases h
theorem callA_ok {x : Str} {e : Expr} {as : List Expr} (h : callA x e = some as) : ∃ p q, e = .Call (.Name x p) as [] q := by
  unfold callA at h
  split at h
  · split at h
    · rename_i hb
      cases h
      have e1 := eq_of_beq hb
      subst e1
      exact ⟨_, _, rfl⟩
    · cases h
  · cases h
theorem isiA_ok {e a : Expr} {t : Str} (h : isiA e = some (a, t)) : ∃ p q r, e = .Call (.Name ("isinstance" : Str) p) [a, .Name t q] [] r := by
  unfold isiA at h
  split at h
  · split at h
    · rename_i hb
      cases h
      have e1 := eq_of_beq hb
      subst e1
      exact ⟨_, _, _, rfl⟩
    · cases h
  · cases h
theorem biA_ok {C : Cfg} {sc : Scope} {b : Bi} {e : Expr} {as : List Expr} (h : biA C sc b e = some as) : ∃ p q, e = .Call (.Name (biName b) p) as [] q ∧ glB sc (biName b) = true ∧ biName b ∈ C.free ∧ as.length = biArity b := by
  unfold biA at h
  split at h
  · rename_i hg
    rw [Bool.and_eq_true] at hg
    split at h
    · rename_i h1
      obtain ⟨p, q, rfl⟩ := callA_ok h1
      split at h
      · rename_i h2
        cases h
        exact ⟨p, q, rfl, hg.1, by simpa using hg.2, eq_of_beq h2⟩
      · cases h
    · cases h
  · cases h
theorem isbA_ok {C : Cfg} {sc : Scope} {t : String} {e : Expr} {as : List Expr} (h : isbA C sc t e = some as) : ∃ a p q r, e = .Call (.Name ("isinstance" : Str) p) [a, .Name (Str.ofString t) q] [] r ∧ as = [a] ∧ glB sc ("isinstance" : Str) = true ∧ ("isinstance" : Str) ∈ C.free ∧ glB sc (Str.ofString t) = true ∧ Str.ofString t ∈ C.free ∧ btOk t = true := by
  unfold isbA at h
  split at h
  · rename_i h1
    obtain ⟨p, q, r, rfl⟩ := isiA_ok h1
    split at h
    · rename_i h2
      cases h
      simp only [Bool.and_eq_true] at h2
      obtain ⟨⟨⟨⟨⟨h3, h4⟩, h5⟩, h6⟩, h7⟩, h8⟩ := h2
      have e := eq_of_beq h5
      subst e
      exact ⟨_, p, q, r, rfl, rfl, h3, by simpa using h4, h6, by simpa using h7, h8⟩
    · cases h
  · cases h
theorem iscA_ok {C : Cfg} {sc : Scope} {c : Nat} {e : Expr} {as : List Expr} (h : iscA C sc c e = some as) : ∃ a y p q r, e = .Call (.Name ("isinstance" : Str) p) [a, .Name y q] [] r ∧ as = [a] ∧ glB sc ("isinstance" : Str) = true ∧ ("isinstance" : Str) ∈ C.free ∧ glB sc y = true ∧ (C.clss[c]?.map (·.name)) = some y := by
  unfold iscA at h
  split at h
  · rename_i h1
    obtain ⟨p, q, r, rfl⟩ := isiA_ok h1
    split at h
    · rename_i h2
      cases h
      simp only [Bool.and_eq_true] at h2
      obtain ⟨⟨⟨h3, h4⟩, h6⟩, h7⟩ := h2
      exact ⟨_, _, p, q, r, rfl, rfl, h3, by simpa using h4, h6, eq_of_beq h7⟩
    · cases h
  · cases h
def cmpOf : Op → Option CmpOp
  | .eq => some .Eq | .ne => some .NotEq | .lt => some .Lt | .le => some .LtE | .gt => some .Gt | .ge => some .GtE
  | _ => none
def litB : PyData → Const → Bool
  | .none, .none => true
  | .bool a, .bool b => a == b
  | .int i, .int j => i == j
  | .str x, .str y => x == y
  | _, _ => false
def namesAt (N : List Str) : List Nat → Option (List Str)
  | [] => some []
  | i :: is => match N[i]? with
    | some x => (namesAt N is).map (x :: ·)
    | none => none
/-- a target: names that may be stored -/
def nameB (N : List Str) (raw : Scope) (i : Nat) : Expr → Bool
  | .Name x _ => N[i]? == some x && stoB raw x
  | _ => false
def namesB (N : List Str) (raw : Scope) : List Nat → List Expr → Bool
  | [], [] => true
  | i :: is, e :: es => nameB N raw i e && namesB N raw is es
  | _, _ => false
def chkTg (N : List Str) (raw : Scope) : Tg → Expr → Bool
  | .nm i, e => nameB N raw i e
  | .tp is, .Tuple es _ _ => namesB N raw is es
  | _, _ => false
def tgIn (own : List Nat) : Tg → Bool
  | .nm i => own.contains i
  | .tp is => is.all (own.contains ·)
def isTup : Expr → Bool
  | .Tuple _ _ _ => true
  | _ => false
/-- what a for walks: the parts that are evaluated -/
def iterArgs (C : Cfg) (sc : Scope) (tg : Expr) : IK → Expr → Option (List Expr)
  | .val, e => match e with
    | .Set _ _ _ => none
    | e => some [e]
  | .rng1, .Call (.Name x _) [a] [] _ => if x == ("range" : Str) && glB sc x && C.free.contains x then some [a] else none
  | .rng2, .Call (.Name x _) [a, b] [] _ => if x == ("range" : Str) && glB sc x && C.free.contains x then some [a, b] else none
  | .enum, .Call (.Name x _) [a] [] _ => if x == ("enumerate" : Str) && glB sc x && C.free.contains x && isTup tg then some [a] else none
  | .zip, .Call (.Name x _) [a, b] [] _ => if x == ("zip" : Str) && glB sc x && C.free.contains x && isTup tg then some [a, b] else none
  | _, _ => none
/-- what goes while an exception is handled, too -/
def coldOp : Op → Bool
  | .isi _ => true
  | .tup => true
  | .lst => true
  | .eq => true
  | .ne => true
  | .isnone => true
  | .notnone => true
  | _ => false
/-- what gives a new list that is to change; what is known at all -/
def meCell (cell : Bool) (m : Me) : Bool := match m with
  | .split => true
  | .replace => false
  | _ => !cell
def noSup : Expr → Bool
  | .Call _ [] _ _ => false
  | _ => true
mutual
def chk (C : Cfg) (N : List Str) (k : Bool) : E → Scope → Expr → Bool
  | .var i, sc, .Name x _ => N[i]? == some x && visB sc x && !(x == ("__debug__" : Str)) && !(x == ("__classdict__" : Str))
  | .lit d, _, .Constant c _ _ => litB d c
  | .gcon x d, sc, .Name y _ => x == y && glB sc x && C.cons.any fun p => p.1 == x && beqD p.2 d
  | .gfn f, sc, .Name y _ => glB sc y && (C.defs[f]?.map (·.name)) == some y
  | .op o es, sc, e => (k || coldOp o) && match opArgs C sc o e with
    | some as => chkL C N k es sc as
    | none => false
  | .and a b, sc, .BoolOp .And (x :: y :: r) p => chk C N k a sc x && (match r with
    | [] => chk C N k b sc y
    | z :: r => chk C N k b sc (.BoolOp .And (y :: z :: r) p))
  | .or a b, sc, .BoolOp .Or (x :: y :: r) p => chk C N k a sc x && (match r with
    | [] => chk C N k b sc y
    | z :: r => chk C N k b sc (.BoolOp .Or (y :: z :: r) p))
  | .not a, sc, .UnaryOp .Not x _ => chk C N k a sc x
  | .ite c a b, sc, .IfExp x y z _ => chk C N k c sc x && chk C N k a sc y && chk C N k b sc z
  | .chain o1 o2 a b c, sc, .Compare x [p, q] [y, z] _ => cmpOf o1 == some p && cmpOf o2 == some q && (k || coldOp o1) && (k || coldOp o2) && chk C N k a sc x && chk C N k b sc y && chk C N k c sc z
  | .call f es, sc, .Call (.Name x _) as [] _ => k && glB sc x && (C.defs[f]?.map (·.name)) == some x && chkL C N k es sc as
  | .callv i es, sc, .Call (.Name x _) as [] _ => k && N[i]? == some x && visB sc x && !(x == ("__debug__" : Str)) && !(x == ("__classdict__" : Str)) && !as.isEmpty && chkL C N k es sc as
  | .meth cell m o es, sc, .Call (.Attribute a name ap) as [] cp => k && meCell cell m && name == meName m && as.length == meArity m && noSup a && ap.endLine == cp.line && chk C N k o sc a && chkL C N k es sc as
  | .fstr fs es, sc, .JoinedStr as _ => decide (2 ≤ as.length) && chkF C N k es fs sc as
  | .comp _ own elt tg ik its cond, sc, .ListComp x [⟨t, it, ifs, 0⟩] scope _ => k && (match namesAt N own with
    | some ns => blkC N sc scope (ns.zip own)
    | none => false) && tgIn own tg && chkTg N scope tg t && (match iterArgs C sc t ik it with
    | some as => chkL C N k its sc as
    | none => false) && chk C N k elt (relS scope sc) x && chkC C N k cond (relS scope sc) ifs
  | .scomp own elt tg ik its cond, sc, .Call (.Name y _) [.SetComp x [⟨t, it, ifs, 0⟩] scope _] [] _ => k && y == ("len" : Str) && glB sc ("len" : Str) && C.free.contains ("len" : Str) && (match namesAt N own with
    | some ns => blkC N sc scope (ns.zip own)
    | none => false) && tgIn own tg && chkTg N scope tg t && (match iterArgs C sc t ik it with
    | some as => chkL C N k its sc as
    | none => false) && chk C N k elt (relS scope sc) x && chkC C N k cond (relS scope sc) ifs
  | _, _, _ => false
def chkF (C : Cfg) (N : List Str) (k : Bool) : List E → List Bool → Scope → List Expr → Bool
  | [], [], _, [] => true
  | e :: es, true :: fs, sc, .FormattedValue a c f _ :: as => c == -1 && f.isNone && chk C N k e sc a && chkF C N k es fs sc as
  | e :: es, false :: fs, sc, .Constant (.str x) j p :: as => chk C N k e sc (.Constant (.str x) j p) && chkF C N k es fs sc as
  | _, _, _, _ => false
def chkL (C : Cfg) (N : List Str) (k : Bool) : List E → Scope → List Expr → Bool
  | [], _, [] => true
  | e :: es, sc, a :: as => !isStar a && chk C N k e sc a && chkL C N k es sc as
  | _, _, _ => false
def chkC (C : Cfg) (N : List Str) (k : Bool) : Option E → Scope → List Expr → Bool
  | none, _, [] => true
  | some e, sc, [a] => chk C N k e sc a
  | _, _, _ => false
end
end Ev

/-! Ev5: the look at statements and defs. -/
namespace Ev
open PySem PySem.Spec PyProof.Rows L2

def isComp : Expr → Bool
  | .ListComp _ _ _ _ => true
  | .SetComp _ _ _ _ => true
  | .DictComp _ _ _ _ _ => true
  | _ => false
def isSetDictComp : Expr → Bool
  | .SetComp _ _ _ _ => true
  | .DictComp _ _ _ _ _ => true
  | _ => false
def localB (sc : Scope) (x : Str) : Bool := match sc.names.lookup x with
  | some .local => true
  | _ => false
def lineOf (e : Expr) : Nat := e.pos.line
/-- a, b = x, y: stored from the right where all are plain locals of one row -/
def parSwap (sc : Scope) (ts vs : List Expr) : Bool :=
  decide (sc.kind = .function) &&   (ts.length == 2 || ts.length == 3) && vs.length == ts.length && vs.all (fun e => !isStar e) &&
  ts.all (fun t => match t with
    | .Name x p => localB sc x && p.line == (ts.head?.map (·.pos.line)).getD 0
    | _ => false) && !(vs.all (foldedForSure 8)) && !(vs.all (constantsAlone 8))
/-- .. by a tuple -/
def parTup (sc : Scope) (ts vs : List Expr) : Bool :=
  vs.all (fun e => !isStar e) && vs.length == ts.length &&
  (ts.any (fun t => match t with
    | .Name x p => !localB sc x
    | _ => true) || vs.all (foldedForSure 8))
def binOf : Op → Option Operator
  | .add => some .Add | .sub => some .Sub | .mul => some .Mult
  | _ => none
def isCE : E → Bool
  | .comp _ _ _ _ _ _ _ => true
  | _ => false
/-- name = [..] on one line, the name a local -/
def swB (sc : Scope) (t v : Expr) : Bool := match t, v with
  | .Name y py, .ListComp _ _ scope pos => decide (sc.kind = .function) && localB sc y && py.line == pos.line && !(scope.names.any fun (n, k) => n == y && (k == .local || k == .cell))
  | _, _ => false
/-! shapes -/
def shAsg : Stmt → Option (Expr × Expr)
  | .Assign [t] v _ => some (t, v)
  | _ => none
def shUnp : Stmt → Option (List Expr × Expr)
  | .Assign [.Tuple es _ _] v _ => some (es, v)
  | _ => none
def shPar : Stmt → Option (List Expr × List Expr)
  | .Assign [.Tuple ts _ _] (.Tuple vs _ _) _ => some (ts, vs)
  | _ => none
def shSet : Stmt → Option (Expr × Expr × Expr)
  | .Assign [.Subscript a b _] v _ => some (a, b, v)
  | _ => none
def shSwap : Stmt → Option ((Expr × Expr) × (Expr × Expr) × Expr × Expr)
  | .Assign [.Tuple [.Subscript x1 y1 _, .Subscript x2 y2 _] _ _] (.Tuple [v, w] _ _) _ => some ((x1, y1), (x2, y2), v, w)
  | _ => none
def shExpr : Stmt → Option Expr
  | .Expr v _ => some v
  | _ => none
def shRet : Stmt → Option Expr
  | .Return (some v) _ => some v
  | _ => none
def shRetN : Stmt → Bool
  | .Return none _ => true
  | _ => false
def shIf : Stmt → Option (Expr × List Stmt × List Stmt)
  | .If x y z _ => some (x, y, z)
  | _ => none
def shFor : Stmt → Option (Expr × Expr × List Stmt)
  | .For t it b [] _ => some (t, it, b)
  | _ => none
def shWhile : Stmt → Option (Expr × List Stmt)
  | .While x b [] _ => some (x, b)
  | _ => none
def shRaise : Stmt → Option Str
  | .Raise (some (.Call (.Name x _) [.Constant (.str _) _ _] [] _)) none _ => some x
  | _ => none
def shTry : Stmt → Option (List Stmt × Str × Str × Stmt × List Stmt)
  | .Try b [.ExceptHandler (some (.Name x _)) (some n) (s0 :: ss) _] [] [] _ => some (b, x, n, s0, ss)
  | _ => none
def shPass : Stmt → Bool
  | .Pass _ => true
  | _ => false
def shBrk : Stmt → Bool
  | .Break _ => true
  | _ => false
def shCont : Stmt → Bool
  | .Continue _ => true
  | _ => false
theorem shAsg_ok {s : Stmt} {t v : Expr} (h : shAsg s = some (t, v)) : ∃ p, s = .Assign [t] v p := by
  unfold shAsg at h
  split at h <;> first
    | (cases h; exact ⟨_, rfl⟩)
    | cases h
theorem shUnp_ok {s : Stmt} {es : List Expr} {v : Expr} (h : shUnp s = some (es, v)) : ∃ k p q, s = .Assign [.Tuple es k p] v q := by
  unfold shUnp at h
  split at h <;> first
    | (cases h; exact ⟨_, _, _, rfl⟩)
    | cases h
theorem shPar_ok {s : Stmt} {ts vs : List Expr} (h : shPar s = some (ts, vs)) : ∃ k p k2 p2 q, s = .Assign [.Tuple ts k p] (.Tuple vs k2 p2) q := by
  unfold shPar at h
  split at h <;> first
    | (cases h; exact ⟨_, _, _, _, _, rfl⟩)
    | cases h
theorem shSet_ok {s : Stmt} {a b v : Expr} (h : shSet s = some (a, b, v)) : ∃ p q, s = .Assign [.Subscript a b p] v q := by
  unfold shSet at h
  split at h <;> first
    | (cases h; exact ⟨_, _, rfl⟩)
    | cases h
theorem shSwap_ok {s : Stmt} {x1 y1 x2 y2 v w : Expr} (h : shSwap s = some ((x1, y1), (x2, y2), v, w)) : ∃ p1 p2 k p3 k2 p4 q, s = .Assign [.Tuple [.Subscript x1 y1 p1, .Subscript x2 y2 p2] k p3] (.Tuple [v, w] k2 p4) q := by
  unfold shSwap at h
  split at h <;> first
    | (cases h; exact ⟨_, _, _, _, _, _, _, rfl⟩)
    | cases h
theorem shExpr_ok {s : Stmt} {v : Expr} (h : shExpr s = some v) : ∃ p, s = .Expr v p := by
  unfold shExpr at h
  split at h <;> first
    | (cases h; exact ⟨_, rfl⟩)
    | cases h
theorem shRet_ok {s : Stmt} {v : Expr} (h : shRet s = some v) : ∃ p, s = .Return (some v) p := by
  unfold shRet at h
  split at h <;> first
    | (cases h; exact ⟨_, rfl⟩)
    | cases h
theorem shRetN_ok {s : Stmt} (h : shRetN s = true) : ∃ p, s = .Return none p := by
  unfold shRetN at h
  split at h <;> first
    | exact ⟨_, rfl⟩
    | cases h
theorem shIf_ok {s : Stmt} {x : Expr} {y z : List Stmt} (h : shIf s = some (x, y, z)) : ∃ p, s = .If x y z p := by
  unfold shIf at h
  split at h <;> first
    | (cases h; exact ⟨_, rfl⟩)
    | cases h
theorem shFor_ok {s : Stmt} {t it : Expr} {b : List Stmt} (h : shFor s = some (t, it, b)) : ∃ p, s = .For t it b [] p := by
  unfold shFor at h
  split at h <;> first
    | (cases h; exact ⟨_, rfl⟩)
    | cases h
theorem shWhile_ok {s : Stmt} {x : Expr} {b : List Stmt} (h : shWhile s = some (x, b)) : ∃ p, s = .While x b [] p := by
  unfold shWhile at h
  split at h <;> first
    | (cases h; exact ⟨_, rfl⟩)
    | cases h
theorem shRaise_ok {s : Stmt} {x : Str} (h : shRaise s = some x) : ∃ p m j p2 p3 p4, s = .Raise (some (.Call (.Name x p) [.Constant (.str m) j p2] [] p3)) none p4 := by
  unfold shRaise at h
  split at h <;> first
    | (cases h; exact ⟨_, _, _, _, _, _, rfl⟩)
    | cases h
theorem shTry_ok {s : Stmt} {b ss : List Stmt} {x n : Str} {s0 : Stmt} (h : shTry s = some (b, x, n, s0, ss)) : ∃ p p2 p3, s = .Try b [.ExceptHandler (some (.Name x p)) (some n) (s0 :: ss) p2] [] [] p3 := by
  unfold shTry at h
  split at h <;> first
    | (cases h; exact ⟨_, _, _, rfl⟩)
    | cases h
theorem shPass_ok {s : Stmt} (h : shPass s = true) : ∃ p, s = .Pass p := by
  unfold shPass at h
  split at h <;> first
    | exact ⟨_, rfl⟩
    | cases h
theorem shBrk_ok {s : Stmt} (h : shBrk s = true) : ∃ p, s = .Break p := by
  unfold shBrk at h
  split at h <;> first
    | exact ⟨_, rfl⟩
    | cases h
theorem shCont_ok {s : Stmt} (h : shCont s = true) : ∃ p, s = .Continue p := by
  unfold shCont at h
  split at h <;> first
    | exact ⟨_, rfl⟩
    | cases h
mutual
def chkS (C : Cfg) (N : List Str) (sc : Scope) (k : Bool) : St → Stmt → Bool
  | .asg (.nm i) e, s => match shAsg s with
    | some (t, v) => nameB N sc i t && chk C N k e sc v && (!isComp v || k && isCE e && swB sc t v)
    | none => false
  | .asg (.tp is) e, s => match shUnp s with
    | some (es, v) => k && namesB N sc is es && chk C N k e sc v && !isTup v && !isComp v
    | none => false
  | .par is es, s => match shPar s with
    | some (ts, vs) => k && namesB N sc is ts && chkL C N k es sc vs && decide (is.Nodup ∧ es.length ≤ 1000) && (parSwap sc ts vs || parTup sc ts vs)
    | none => false
  | .setIx o ix e, s => match shSet s with
    | some (a, b, v) => k && chk C N k e sc v && chk C N k o sc a && chk C N k ix sc b && plainIxB b && !isComp v
    | none => false
  | .swapIx o1 i1 o2 i2 a b, s => match shSwap s with
    | some ((x1, y1), (x2, y2), v, w) => k && chk C N k o1 sc x1 && chk C N k i1 sc y1 && chk C N k o2 sc x2 && chk C N k i2 sc y2 && chkL C N k [a, b] sc [v, w] && plainIxB y1 && plainIxB y2
    | none => false
  | .expr e, s => match shExpr s with
    | some v => chk C N k e sc v && !isComp v
    | none => false
  | .ret e, s => match shRet s with
    | some v => chk C N k e sc v
    | none => false
  | .retN, s => shRetN s
  | .ifs c a b, s => match shIf s with
    | some (x, y, z) => chk C N k c sc x && chkB C N sc k a y && chkB C N sc k b z
    | none => false
  | .for tg ik its body, s => match shFor s with
    | some (t, it, b) => k && chkTg N sc tg t && (match iterArgs C sc t ik it with
      | some as => chkL C N k its sc as
      | none => false) && chkB C N sc k body b
    | none => false
  | .while c body, s => match shWhile s with
    | some (x, b) => k && chk C N k c sc x && chkB C N sc k body b
    | none => false
  | .raise c es, s => es.isEmpty && match shRaise s with
    | some x => k && glB sc x && (C.clss[c]?.map (·.name)) == some x
    | none => false
  | .tryAs body cs slot suite, s => match shTry s with
    | some (b, x, n, s0, ss) => k && glB sc x && (match cs, slot with
      | [c], some i => (C.clss[c]?.map (·.name)) == some x && N[i]? == some n
      | _, _ => false) && localB sc n && chkB C N sc k body b && chkB C N sc false suite (s0 :: ss)
    | none => false
  | .pass, s => shPass s
  | .brk, s => shBrk s
  | .cont, s => shCont s
  | .aug _ _ _, _ => false
def chkB (C : Cfg) (N : List Str) (sc : Scope) (k : Bool) : List St → List Stmt → Bool
  | [], [] => true
  | s :: ss, x :: xs => chkS C N sc k s x && chkB C N sc k ss xs
  | _, _ => false
end
/-- a text's doc string is passed over -/
def noDoc : List Stmt → List Stmt
  | .Expr (.Constant (.str _) _ _) _ :: ss => ss
  | ss => ss
def scopeB (N ps : List Str) (sc : Scope) : Bool :=
  decide (sc.kind = .function) && !sc.isCoroutine && !sc.isGenerator && decide N.Nodup && decide (N.take ps.length = ps) &&
  ps.all (stoB sc) && sc.names.all (fun y => decide (y.2 ≠ .free))
def chkD (C : Cfg) (d : DefI) (s : Stmt) : Bool := scopeB d.N d.ps (defScope s) && chkB C d.N (defScope s) true d.body (defBody s)
end Ev

/-! Ev6: expressions. What an operation and a walk are worth is asked (OpOk, ItOk), the rest is shown. -/
namespace Ev
open PySem PySem.Spec PyProof.Rows L2

/-! ### what is asked of the operations and of the walks -/
def OpOk (o : Op) : Prop := ∀ (X : Cx) (C : Cfg) (T : Tb) (n : Nat) (N : List Str) (sc raw : Scope) (W : WX) (c : Bool), Good X C T n N sc raw W c → (c || coldOp o) = true →
  ∀ (e : Expr) (as : List Expr), opArgs C sc o e = some as → ∀ (ts : List TE), Paired (PE X) as ts → as.all (fun e => !isStar e) = true →
    PE X e (fun sg H Q => chainT ts sg H fun xs H1 => rP C T X.K o xs H1 Q)
/-- a comparison by values -/
def cmpAll : Op → Option CmpOp
  | .eq => some .Eq | .ne => some .NotEq | .lt => some .Lt | .le => some .LtE | .gt => some .Gt | .ge => some .GtE
  | .isin => some .In | .notin => some .NotIn
  | _ => none
def CmpOk (o : Op) : Prop := ∀ (X : Cx) (C : Cfg) (T : Tb) (n : Nat) (N : List Str) (sc raw : Scope) (W : WX) (c : Bool), Good X C T n N sc raw W c → (c || coldOp o) = true →
  ∀ p, cmpAll o = some p → OpR X (compareOp p) (fun x y H Q => rP C T X.K o [x, y] H Q)

/-- walking what stands for ys -/
structure Wlk (T : Tb) (K : PySem.W.Frag) (bo : Addr → Prop) (n0 : Nat) (J : It) (io : List Addr) (S : Store) (H : Hp) (ys : List Val) : Prop where
  go : ∀ i, i < ys.length → J.go i H
  stop : J.stop ys.length H
  yld : ∀ (i : Nat) (v : Val) (x : V) (H1 : Hp), ys[i]? = some v → J.yld i H x H1 → Ext io H io H1 ∧ Rep K bo n0 io S H1 ∧ DenV T K bo io H1 x v
/-- .. now and later -/
def WlkS (T : Tb) (K : PySem.W.Frag) (J : It) (lk : Option (Nat × List PyData)) (ys : List Val) (bo : Addr → Prop) (io : List Addr) (H : Hp) : Prop :=
  ∀ bo1 n1 io1 S1 H1, Fr io H H1 → (∀ (i : Nat) (a : Addr), io[i]? = some a → io1[i]? = some a) → (∀ a, H a ≠ none → bnO bo1 io1 a → bnO bo io a) → Rep K bo1 n1 io1 S1 H1 → ckS lk S1 = true → Wlk T K bo1 n1 J io1 S1 H1 ys
def rIt (T : Tb) (K : PySem.W.Frag) (ik : IK) (xs : List V) (H : Hp) (R : It → Hp → Prop) : Prop :=
  ∃ bo n0 io S vs ys lk, Rep K bo n0 io S H ∧ DenVs T K bo io H xs vs ∧ items S ik vs = some (ys, lk) ∧ ∀ J H1, Ext io H io H1 → Rep K bo n0 io S H1 → WlkS T K J lk ys bo io H1 → R J H1
def ItOk (ik : IK) : Prop := ∀ (X : Cx) (C : Cfg) (T : Tb) (n : Nat) (N : List Str) (sc raw : Scope) (W : WX) (c : Bool), Good X C T n N sc raw W c → c = true →
  ∀ (tg e : Expr) (as : List Expr), iterArgs C sc tg ik e = some as → ∀ (ts : List TE), Paired (PE X) as ts → as.all (fun e => !isStar e) = true →
    PI X tg e (fun sg H R => chainT ts sg H fun xs H1 => rIt T X.K ik xs H1 R)

/-! ### slots -/
theorem wipe_get (vs : List Nat) (sg : L2.St) (j : Nat) : (L2.wipe sg vs)[j]? = if j ∈ vs ∧ j < sg.length then some none else sg[j]? := by
  induction vs with
  | nil => simp [L2.wipe]
  | cons v vs ih =>
    unfold L2.wipe
    by_cases h : v = j
    · subst h
      by_cases hl : v < sg.length
      · rw [List.getElem?_set_self (by rw [L2.wipe_length]; exact hl)]
        simp [hl]
      · rw [List.getElem?_eq_none (by rw [List.length_set, L2.wipe_length]; omega)]
        simp [hl]
    · rw [List.getElem?_set_ne h, ih]
      have : (j ∈ v :: vs) ↔ j ∈ vs := by
        simp only [List.mem_cons]
        constructor
        · rintro (z | z)
          · exact absurd z.symm h
          · exact z
        · exact .inr
      simp only [this]
theorem wipe_set {vs : List Nat} {sg : L2.St} {i : Nat} {v : Option V} (h : i ∈ vs) : L2.wipe (sg.set i v) vs = L2.wipe sg vs := by
  apply List.ext_getElem?
  intro j
  rw [wipe_get, wipe_get, List.length_set]
  by_cases hj : j ∈ vs ∧ j < sg.length
  · rw [if_pos hj, if_pos hj]
  · rw [if_neg hj, if_neg hj]
    by_cases e : i = j
    · subst e
      have : ¬ i < sg.length := fun z => hj ⟨h, z⟩
      rw [List.getElem?_eq_none (by rw [List.length_set]; omega), List.getElem?_eq_none (by omega)]
    · rw [List.getElem?_set_ne e]
theorem wipe_idem {vs : List Nat} {sg : L2.St} : L2.wipe (L2.wipe sg vs) vs = L2.wipe sg vs := by
  apply List.ext_getElem?
  intro j
  rw [wipe_get, wipe_get, L2.wipe_length]
  by_cases hj : j ∈ vs ∧ j < sg.length
  · rw [if_pos hj, if_pos hj]
  · rw [if_neg hj]
def setAllV : List Nat → List V → L2.St → L2.St
  | i :: is, v :: vs, sg => setAllV is vs (sg.set i (some v))
  | _, _, sg => sg
theorem wipe_setAll {own : List Nat} : ∀ {is : List Nat} {vs : List V} {sg : L2.St}, (∀ i ∈ is, i ∈ own) → L2.wipe (setAllV is vs sg) own = L2.wipe sg own
  | [], _, _, _ => by unfold setAllV; rfl
  | i :: is, [], _, _ => by unfold setAllV; rfl
  | i :: is, v :: vs, sg, h => by
    unfold setAllV
    rw [wipe_setAll fun j hj => h j (List.mem_cons_of_mem _ hj), wipe_set (h i List.mem_cons_self)]
def tG (K : PySem.W.Frag) (tg : Tg) : TG := fun v sg H Q => match tg with
  | .nm i => Q (sg.set i (some v)) H
  | .tp is => ∃ a xs, v = .ref a ∧ (SqT K H a xs ∨ SqL K H a xs) ∧ xs.length = is.length ∧ Q (setAllV is xs sg) H
section
variable {X : Cx} {N : List Str} {raw : Scope}
theorem pg_nameB (hN : X.N = N) (nd : N.Nodup) (sto : ∀ x, (raw.names.lookup x = some .local ∨ raw.names.lookup x = some .cell) → Loc X.env.scope x ∧ (X.fn x = true ∨ X.env.scope.names.lookup x = some .local)) {i : Nat} {e : Expr} (h : nameB N raw i e = true) :
    PG X e (gName i) ∧ isStar e = false := by
  unfold nameB at h
  split at h
  · rename_i x p
    simp only [Bool.and_eq_true, beq_iff_eq] at h
    obtain ⟨h1, h2⟩ := sto x (stoB_ok h.2)
    exact ⟨pg_name (by rw [hN]; exact nd) (by rw [hN]; exact h.1) h1 h2, rfl⟩
  · cases h
theorem asg_of {e : Expr} (h : ∃ x p, e = .Name x p) (es : List Expr) (env : Env) : assignEach (e :: es) env = (false, assign e env) :: assignEach es env := by
  obtain ⟨x, p, rfl⟩ := h
  rfl
def gAll : List Nat → TGs
  | [] => gNil
  | i :: is => gCons (gName i) (gAll is)
theorem gAll_ok : ∀ {is : List Nat} {xs : List V} {sg : L2.St} {H : Hp} {Q : L2.St → Hp → Prop}, xs.length = is.length → Q (setAllV is xs sg) H → gAll is xs sg H Q
  | [], [], _, _, _, _, h => ⟨rfl, h⟩
  | i :: is, x :: xs, sg, H, Q, hl, h => ⟨x, xs, rfl, gAll_ok (by simpa using hl) h⟩
  | [], _ :: _, _, _, _, hl, _ => by simp at hl
  | _ :: _, [], _, _, _, hl, _ => by simp at hl
theorem pgs_namesB (hN : X.N = N) (nd : N.Nodup) (sto : ∀ x, (raw.names.lookup x = some .local ∨ raw.names.lookup x = some .cell) → Loc X.env.scope x ∧ (X.fn x = true ∨ X.env.scope.names.lookup x = some .local)) : ∀ {is : List Nat} {es : List Expr}, namesB N raw is es = true →
    PGs X es (gAll is) ∧ (assignEach es X.env).length = is.length ∧ (assignEach es X.env).findIdx? (·.1) = none
  | [], [], _ => ⟨pgs_nil, rfl, rfl⟩
  | i :: is, e :: es, h => by
    have h' : (nameB N raw i e && namesB N raw is es) = true := h
    rw [Bool.and_eq_true] at h'
    obtain ⟨g1, _⟩ := pg_nameB hN nd sto h'.1
    obtain ⟨g2, l2, f2⟩ := pgs_namesB hN nd sto h'.2
    have hn : ∃ x p, e = .Name x p := by
      have z := h'.1
      unfold nameB at z
      split at z
      · exact ⟨_, _, rfl⟩
      · cases z
    have ea := asg_of hn es X.env
    refine ⟨pgs_cons g1 g2 (by rw [ea]; rfl), by rw [ea]; simp [l2], ?_⟩
    rw [ea, List.findIdx?_cons]
    simp [f2]
  | [], _ :: _, h => by cases h
  | _ :: _, [], h => by cases h
theorem pg_tg {tg : Tg} {e : Expr} (hN : X.N = N) (nd : N.Nodup) (sto : ∀ x, (raw.names.lookup x = some .local ∨ raw.names.lookup x = some .cell) → Loc X.env.scope x ∧ (X.fn x = true ∨ X.env.scope.names.lookup x = some .local)) (hc : X.calm = true) (h : chkTg N raw tg e = true) : PG X e (tG X.K tg) := by
  cases tg with
  | nm i => exact (pg_nameB hN nd sto h).1
  | tp is =>
    cases e with
    | Tuple es k p =>
      obtain ⟨g, hl, hf⟩ := pgs_namesB hN nd sto (show namesB N raw is es = true from h)
      have p1 := pg_tup (k := k) (pos := p) hc g hl hf
      have p2 := pg_unl (k := k) (pos := p) hc g hl hf
      refine ⟨fun pins s sg H v u Q I r hw => ?_⟩
      obtain ⟨a, xs, e1, hq, hx, q⟩ := hw
      rcases hq with hq | hq
      · exact p1.run pins s sg H v u Q I r ⟨a, xs, e1, hq, hx, gAll_ok hx q⟩
      · exact p2.run pins s sg H v u Q I r ⟨a, xs, e1, hq, hx, gAll_ok hx q⟩
    | _ => cases h
end
section
variable {T : Tb} {K : PySem.W.Frag} {bo : Addr → Prop} {io : List Addr} {H : Hp}
theorem env_setAll : ∀ {is : List Nat} {vs : List Val} {xs : List V} {env env1 : Slots} {sg : L2.St}, setAll is vs env = some env1 → DenVs T K bo io H xs vs → EnvOk T K bo io H sg env → EnvOk T K bo io H (setAllV is xs sg) env1 ∧ xs.length = is.length
  | [], [], _, _, _, _, h, .nil, e => by
    cases h
    exact ⟨e, rfl⟩
  | i :: is, v :: vs, _, env, env1, sg, h, .cons r rs, e => by
    have q := env_setAll (is := is) (vs := vs) (env := env.set i (some v)) h rs (e.set r)
    exact ⟨q.1, by simp [q.2]⟩
  | [], _ :: _, _, _, _, _, h, _, _ => by cases h
  | _ :: _, [], _, _, _, _, h, _, _ => by cases h
theorem unpack_ok {S : Store} {v : Val} {vs : List Val} {x : V} (h : unpack S v = some vs) (r : DenV T K bo io H x v) : ∃ a xs, x = .ref a ∧ (SqT K H a xs ∨ SqL K H a xs) ∧ DenVs T K bo io H xs vs := by
  unfold unpack at h
  split at h
  · cases h
    cases r with
    | p r =>
      cases r with
      | tup hs ha => exact ⟨_, _, rfl, .inl hs, ha.vals⟩
  · cases h
    cases r with
    | p r =>
      cases r with
      | lst hs ha => exact ⟨_, _, rfl, .inr hs.sq, ha.vals⟩
  · cases h
    cases r with
    | seqT hs ha => exact ⟨_, _, rfl, .inl hs, ha⟩
    | seqL hs ha => exact ⟨_, _, rfl, .inr hs.sq, ha⟩
  · cases h
theorem bind_ok {S : Store} {tg : Tg} {v : Val} {env env1 : Slots} {x : V} {sg : L2.St} {Q : L2.St → Hp → Prop} (h : bindTg S tg v env = some env1) (r : DenV T K bo io H x v) (e : EnvOk T K bo io H sg env)
    (q : ∀ sg1, EnvOk T K bo io H sg1 env1 → (∀ own, tgIn own tg = true → L2.wipe sg1 own = L2.wipe sg own) → Q sg1 H) : tG K tg x sg H Q := by
  cases tg with
  | nm i =>
    cases h
    refine q _ (e.set r) fun own ho => wipe_set ?_
    unfold tgIn at ho
    simpa using ho
  | tp is =>
    unfold bindTg at h
    dsimp only at h
    cases hu : unpack S v with
    | none => rw [hu] at h; cases h
    | some vs =>
      rw [hu] at h
      dsimp only at h
      obtain ⟨a, xs, rfl, hs, hd⟩ := unpack_ok hu r
      obtain ⟨e1, hl⟩ := env_setAll h hd e
      refine ⟨a, xs, rfl, hs, hl, q _ e1 fun own ho => wipe_setAll fun i hi => ?_⟩
      unfold tgIn at ho
      have z := List.all_eq_true.mp ho i hi
      simpa using z
end
end Ev

/-! Ev7: expressions, case by case. -/
namespace Ev
open PySem PySem.Spec PyProof.Rows L2

mutual
theorem beqD_eq : ∀ {x y : PyData}, beqD x y = true → x = y
  | .none, .none, _ => rfl
  | .bool a, .bool b, h => by rw [show a = b from eq_of_beq h]
  | .int i, .int j, h => by rw [show i = j from eq_of_beq h]
  | .str i, .str j, h => by rw [show i = j from eq_of_beq h]
  | .list xs, .list ys, h => by rw [beqDs_eq (show beqDs xs ys = true from h)]
  | .tuple xs, .tuple ys, h => by rw [beqDs_eq (show beqDs xs ys = true from h)]
  | .dict _, .dict _, h => by cases h
  | .none, .bool _, h | .none, .int _, h | .none, .str _, h | .none, .list _, h | .none, .tuple _, h | .none, .dict _, h => by cases h
  | .bool _, .none, h | .bool _, .int _, h | .bool _, .str _, h | .bool _, .list _, h | .bool _, .tuple _, h | .bool _, .dict _, h => by cases h
  | .int _, .bool _, h | .int _, .none, h | .int _, .str _, h | .int _, .list _, h | .int _, .tuple _, h | .int _, .dict _, h => by cases h
  | .str _, .bool _, h | .str _, .none, h | .str _, .int _, h | .str _, .list _, h | .str _, .tuple _, h | .str _, .dict _, h => by cases h
  | .list _, .bool _, h | .list _, .none, h | .list _, .int _, h | .list _, .str _, h | .list _, .tuple _, h | .list _, .dict _, h => by cases h
  | .tuple _, .bool _, h | .tuple _, .none, h | .tuple _, .int _, h | .tuple _, .str _, h | .tuple _, .list _, h | .tuple _, .dict _, h => by cases h
  | .dict _, .bool _, h | .dict _, .none, h | .dict _, .int _, h | .dict _, .str _, h | .dict _, .list _, h | .dict _, .tuple _, h => by cases h
theorem beqDs_eq : ∀ {xs ys : List PyData}, beqDs xs ys = true → xs = ys
  | [], [], _ => rfl
  | x :: xs, y :: ys, h => by
    have h' : (beqD x y && beqDs xs ys) = true := h
    rw [Bool.and_eq_true] at h'
    rw [beqD_eq h'.1, beqDs_eq h'.2]
  | [], _ :: _, h => by cases h
  | _ :: _, [], h => by cases h
end

section
variable {T : Tb} {K : PySem.W.Frag} {bo : Addr → Prop} {n0 : Nat} {io : List Addr} {S : Store} {H : Hp}
/-- a value as data, off the heap: as Den, or a cell's list -/
def Vw (K : PySem.W.Frag) (bn : Addr → Prop) (H : Hp) (x : V) (d : PyData) : Prop := Den K bn H x d ∨ ∃ a xs ds, x = .ref a ∧ d = .list ds ∧ H a = some (.lst xs) ∧ Dens K bn H xs ds
theorem view_ok {x : V} {v : Val} {d : PyData} (R : Rep K bo n0 io S H) (r : DenV T K bo io H x v) (h : view S v = some d) : Vw K (bnO bo io) H x d := by
  cases v with
  | p e =>
    cases h
    cases r with
    | p r => exact .inl r
  | loc i =>
    cases r with
    | loc ha =>
      rename_i a
      obtain ⟨c, hc, ok⟩ := R.cell ha
      have h2 : (match S[i]? with
        | some c => c.list?.map PyData.list
        | none => none) = some d := h
      rw [hc] at h2
      dsimp only at h2
      cases e : c.list? with
      | none => rw [e] at h2; cases h2
      | some ds =>
        rw [e] at h2
        cases h2
        obtain ⟨vs, h3, h4⟩ := ok.list e
        exact .inr ⟨a, vs, ds, rfl, rfl, h3, h4⟩
  | _ => cases h
theorem Vw.int {bn : Addr → Prop} {x : V} {i : Int} (h : Vw K bn H x (.int i)) : x = .int i := by
  rcases h with h | ⟨_, _, _, _, e, _⟩
  · cases h; rfl
  · cases e
theorem Vw.str {bn : Addr → Prop} {x : V} {i : Str} (h : Vw K bn H x (.str i)) : x = .str i := by
  rcases h with h | ⟨_, _, _, _, e, _⟩
  · cases h; rfl
  · cases e
theorem Vw.bl {bn : Addr → Prop} {x : V} {i : Bool} (h : Vw K bn H x (.bool i)) : x = .bl i := by
  rcases h with h | ⟨_, _, _, _, e, _⟩
  · cases h; rfl
  · cases e
theorem Vw.non {bn : Addr → Prop} {x : V} (h : Vw K bn H x .none) : x = .non := by
  rcases h with h | ⟨_, _, _, _, e, _⟩
  · cases h; rfl
  · cases e
theorem Vw.list {bn : Addr → Prop} {x : V} {ds : List PyData} (h : Vw K bn H x (.list ds)) : ∃ a xs, x = .ref a ∧ SqL K H a xs ∧ Dens K bn H xs ds := by
  rcases h with h | ⟨a, xs, es, e1, e2, e3, e4⟩
  · cases h with
    | lst h1 h2 => exact ⟨_, _, rfl, h1.sq, h2⟩
  · cases e2
    exact ⟨a, xs, e1, SqL.of e3, e4⟩
theorem Vw.tup {bn : Addr → Prop} {x : V} {ds : List PyData} (h : Vw K bn H x (.tuple ds)) : ∃ a xs, x = .ref a ∧ SqT K H a xs ∧ Dens K bn H xs ds := by
  rcases h with h | ⟨_, _, _, _, e, _⟩
  · cases h with
    | tup h1 h2 => exact ⟨_, _, rfl, h1, h2⟩
  · cases e
theorem Vw.nodict {bn : Addr → Prop} {x : V} {ds} (h : Vw K bn H x (.dict ds)) : False := by
  rcases h with h | ⟨_, _, _, _, e, _⟩
  · cases h
  · cases e
theorem big_line : big ≤ sizeLine := by rw [sizeLine_eq]; decide
theorem isEmpty_d {bn : Addr → Prop} {xs : List V} {ds : List PyData} (h : Dens K bn H xs ds) : ds.isEmpty = xs.isEmpty := by
  cases h <;> rfl
theorem truP_ok {bn : Addr → Prop} {x : V} {d : PyData} {b : Bool} (h : Vw K bn H x d) (e : truP d = some b) : TruV K x H b := by
  cases d with
  | none => cases e; rw [h.non]; rfl
  | bool c => cases e; rw [h.bl]; rfl
  | int i => cases e; rw [h.int]; rfl
  | str y =>
    rw [h.str]
    unfold truP at e
    dsimp only at e
    split at e
    · rename_i hb
      cases e
      exact ⟨Nat.le_trans hb big_line, rfl⟩
    · cases e
  | list ds =>
    obtain ⟨a, xs, rfl, hs, hd⟩ := h.list
    cases e
    exact .inl ⟨xs, hs, by rw [isEmpty_d hd]⟩
  | tuple ds =>
    obtain ⟨a, xs, rfl, hs, hd⟩ := h.tup
    cases e
    exact .inr (.inl ⟨xs, hs, by rw [isEmpty_d hd]⟩)
  | dict _ => cases e
theorem truV_ok {x : V} {v : Val} {b : Bool} (R : Rep K bo n0 io S H) (r : DenV T K bo io H x v) (h : truV S v = some b) : TruV K x H b := by
  unfold truV at h
  cases e : view S v with
  | none => rw [e] at h; cases h
  | some d =>
    rw [e] at h
    exact truP_ok (view_ok R r e) h
/-- truth by the evaluator's words -/
def rTru (T : Tb) (K : PySem.W.Frag) : V → Hp → (Bool → Hp → Prop) → Prop := fun x H Q => ∃ bo n0 io S v b, Rep K bo n0 io S H ∧ DenV T K bo io H x v ∧ truV S v = some b ∧ Q b H
theorem rTru_ok {X : Cx} : TruR X (rTru T X.K) := fun pins s sg H x v Q I rx ⟨bo, n0, io, S, w, b, R, r, e, q⟩ => tru_ok pins s sg H x v Q I rx ⟨b, truV_ok R r e, q⟩
end

section
variable {C : Cfg} {T : Tb} {K : PySem.W.Frag} {F : Nat → List Val → Store → Res} {W : WX} {bo : Addr → Prop} {n0 : Nat} {io : List Addr} {S : Store} {H : Hp} {sg : L2.St} {env : Slots}
/-- the parts one behind another -/
theorem chain_of : ∀ (es : List E) {io : List Addr} {S : Store} {H : Hp} {Q : List V → Hp → Prop}, Rep K bo n0 io S H → EnvOk T K bo io H sg env → RCL T K bo n0 io H (WE W sg) Q (evL C F es env S) → chainT (es.map (tE C T K F W)) sg H Q
  | [], io, S, H, Q, R, e, h => by
    have h' : OksC T K bo n0 io H Q [] S := h
    exact h' [] H io Ext.refl R .nil
  | x :: xs, io, S, H, Q, R, e, h => by
    show tE C T K F W x sg H fun v H1 => chainT (xs.map (tE C T K F W)) sg H1 fun vs H2 => Q (v :: vs) H2
    refine ⟨bo, n0, io, S, env, R, e, ?_⟩
    unfold evL at h
    cases hx : ev C F x env S with
    | bad => rw [hx] at h; exact h
    | ex c as S1 => rw [hx] at h; exact h
    | ok v S1 =>
      rw [hx] at h
      dsimp only at h
      intro y H1 io1 a R1 r1
      refine chain_of xs R1 (e.ext a R.cl) ?_
      cases hs : evL C F xs env S1 with
      | bad => rw [hs] at h; exact h
      | ex c as S2 => rw [hs] at h; exact fun H2 io2 d b => h H2 io2 d (a.trans b)
      | ok vs S2 =>
        rw [hs] at h
        intro ys H2 io2 b R2 r2
        exact h (y :: ys) H2 io2 (a.trans b) R2 (.cons (b.denV R1.cl r1) r2)
theorem op_of {o : Op} {es : List E} {Q : VK} (R : Rep K bo n0 io S H) (e : EnvOk T K bo io H sg env) (h : RC T K bo n0 io H (WE W sg) Q (ev C F (.op o es) env S)) :
    chainT (es.map (tE C T K F W)) sg H (fun xs H1 => rP C T K o xs H1 Q) := by
  refine chain_of es R e ?_
  unfold ev at h
  cases hs : evL C F es env S with
  | bad => rw [hs] at h; exact h
  | ex c as S2 => rw [hs] at h; exact h
  | ok vs S2 =>
    rw [hs] at h
    dsimp only at h
    intro xs H1 io1 a R1 r1
    cases hp : prim C o vs S2 with
    | none => rw [hp] at h; exact h.elim
    | some z =>
      obtain ⟨v, S3⟩ := z
      rw [hp] at h
      exact ⟨bo, n0, io1, S2, vs, v, S3, R1, r1, hp, fun x H2 io2 b => h x H2 io2 (a.trans b)⟩
/-- one part, and what is done behind it -/
theorem bind_of {x : E} {Q : VK} {k : Res → Res} (R : Rep K bo n0 io S H) (e : EnvOk T K bo io H sg env) (hk1 : ∀ c as S1, k (.ex c as S1) = .ex c as S1) (hk2 : k .bad = .bad) {Q0 : VK} (h : RC T K bo n0 io H (WE W sg) Q0 (k (ev C F x env S)))
    (q : ∀ v S1 y H1 io1, ev C F x env S = .ok v S1 → Ext io H io1 H1 → Rep K bo n0 io1 S1 H1 → EnvOk T K bo io1 H1 sg env → DenV T K bo io1 H1 y v → RC T K bo n0 io1 H1 (WE W sg) Q0 (k (.ok v S1)) → Q y H1) : tE C T K F W x sg H Q := by
  refine ⟨bo, n0, io, S, env, R, e, ?_⟩
  cases hx : ev C F x env S with
  | bad => rw [hx, hk2] at h; exact h
  | ex c as S1 => rw [hx, hk1] at h; exact h
  | ok v S1 =>
    rw [hx] at h
    intro y H1 io1 a R1 r1
    exact q v S1 y H1 io1 hx a R1 (e.ext a R.cl) r1 (h.ext a)
theorem bind_ofT {x : E} {Q : Bool → Hp → Prop} {k : Res → Res} (R : Rep K bo n0 io S H) (e : EnvOk T K bo io H sg env) (hk1 : ∀ c as S1, k (.ex c as S1) = .ex c as S1) (hk2 : k .bad = .bad) {Q0 : VK} (h : RC T K bo n0 io H (WE W sg) Q0 (k (ev C F x env S)))
    (hk3 : ∀ v S1, truV S1 v = none → k (.ok v S1) = .bad)
    (q : ∀ v S1 b H1 io1, ev C F x env S = .ok v S1 → truV S1 v = some b → Ext io H io1 H1 → Rep K bo n0 io1 S1 H1 → EnvOk T K bo io1 H1 sg env → RC T K bo n0 io1 H1 (WE W sg) Q0 (k (.ok v S1)) → Q b H1) : tT C T K F W x sg H Q := by
  refine ⟨bo, n0, io, S, env, R, e, ?_⟩
  cases hx : ev C F x env S with
  | bad => rw [hx, hk2] at h; exact h
  | ex c as S1 => rw [hx, hk1] at h; exact h
  | ok v S1 =>
    rw [hx] at h
    cases ht : truV S1 v with
    | none => rw [hk3 v S1 ht] at h; exact h.elim
    | some b => exact ⟨b, ht, fun H1 io1 a R1 => q v S1 b H1 io1 hx ht a R1 (e.ext a R.cl) (h.ext a)⟩
/-- .. for a test -/
theorem bind_ofT2 {x : E} {Q : Bool → Hp → Prop} {k : Res → Res} (R : Rep K bo n0 io S H) (e : EnvOk T K bo io H sg env) (hk1 : ∀ c as S1, k (.ex c as S1) = .ex c as S1) (hk2 : k .bad = .bad) {Q0 : Bool → Hp → Prop} (h : RCT T K bo n0 io H (WE W sg) Q0 (k (ev C F x env S)))
    (hk3 : ∀ v S1, truV S1 v = none → k (.ok v S1) = .bad)
    (q : ∀ v S1 b H1 io1, ev C F x env S = .ok v S1 → truV S1 v = some b → Ext io H io1 H1 → Rep K bo n0 io1 S1 H1 → EnvOk T K bo io1 H1 sg env → RCT T K bo n0 io1 H1 (WE W sg) Q0 (k (.ok v S1)) → Q b H1) : tT C T K F W x sg H Q := by
  refine ⟨bo, n0, io, S, env, R, e, ?_⟩
  cases hx : ev C F x env S with
  | bad => rw [hx, hk2] at h; exact h
  | ex c as S1 => rw [hx, hk1] at h; exact h
  | ok v S1 =>
    rw [hx] at h
    cases ht : truV S1 v with
    | none => rw [hk3 v S1 ht] at h; exact h.elim
    | some b => exact ⟨b, ht, fun H1 io1 a R1 => q v S1 b H1 io1 hx ht a R1 (e.ext a R.cl) (h.ext a)⟩
end

section
variable {X : Cx} {C : Cfg} {T : Tb} {n : Nat} {N : List Str} {sc raw : Scope} {W : WX} {c : Bool}
theorem Good.vis (g : Good X C T n N sc raw W c) {x : Str} (h : visB sc x = true) : Vis X.env.scope x := by
  rw [g.sc]
  exact visB_ok h
theorem Good.gl (g : Good X C T n N sc raw W c) {x : Str} (h : glB sc x = true) : Gl X x := by
  show X.env.scope.names.lookup x = _
  rw [g.sc]
  exact (glB_ok h).1
theorem s_var (g : Good X C T n N sc raw W c) {i : Nat} {a : Expr} (h : chk C N c (.var i) sc a = true) : PE X a (tE C T X.K (callN C n) W (.var i)) := by
  cases a with
  | Name x p =>
    simp only [chk, Bool.and_eq_true, beq_iff_eq, Bool.not_eq_true'] at h
    obtain ⟨⟨⟨h1, h2⟩, h3⟩, h4⟩ := h
    refine PE.mono (pe_var (by rw [g.hN]; exact h1) (g.vis h2) h3 h4) fun sg H Q ⟨bo, n0, io, S, env, R, e, h⟩ => ?_
    unfold ev at h
    split at h
    · rename_i v hv
      obtain ⟨x, hx, r⟩ := e.at_ i v hv
      exact ⟨x, hx, h x H io Ext.refl R r⟩
    · exact h.elim
  | _ => simp [chk] at h
theorem s_lit {d : PyData} {a : Expr} (h : chk C N c (.lit d) sc a = true) : PE X a (tE C T X.K (callN C n) W (.lit d)) := by
  cases a with
  | Constant k j p =>
    simp only [chk] at h
    have key : ∀ (v : V) (pe : PE X (.Constant k j p) (tC v)), (∀ bn H, Den X.K bn H v d) → PE X (.Constant k j p) (tE C T X.K (callN C n) W (.lit d)) := fun v pe hd =>
      PE.mono pe fun sg H Q ⟨bo, n0, io, S, env, R, e, h⟩ => by
        have h' : OkC T X.K bo n0 io H Q (.p d) S := h
        exact h' v H io Ext.refl R (.p (hd _ _))
    unfold litB at h
    split at h
    · exact key .non pe_non fun _ _ => .non
    · rename_i a b
      have z : a = b := eq_of_beq h
      subst z
      exact key (.bl _) pe_bl fun _ _ => .bl _
    · rename_i a b
      have z : a = b := eq_of_beq h
      subst z
      exact key (.int _) pe_int fun _ _ => .int _
    · rename_i a b
      have z : a = b := eq_of_beq h
      subst z
      exact key (.str _) pe_str fun _ _ => .str _
    · cases h
  | _ => simp [chk] at h
theorem s_gcon (g : Good X C T n N sc raw W c) {x : Str} {d : PyData} {a : Expr} (h : chk C N c (.gcon x d) sc a = true) : PE X a (tE C T X.K (callN C n) W (.gcon x d)) := by
  cases a with
  | Name y p =>
    simp only [chk, Bool.and_eq_true, beq_iff_eq, List.any_eq_true] at h
    obtain ⟨⟨h1, h2⟩, ⟨q, hq, hqx, hqd⟩⟩ := h
    subst h1
    obtain ⟨u, v, hm, r, hd⟩ := g.mod.cons q hq
    rw [hqx] at hm
    rw [beqD_eq hqd] at hd
    refine PE.mono (pe_glob (g.gl h2) hm r (glB_ok h2).2.1) fun sg H Q ⟨bo, n0, io, S, env, R, e, h⟩ => ?_
    have h' : OkC T X.K bo n0 io H Q (.p d) S := h
    exact h' v H io Ext.refl R (.p (hd _ _))
  | _ => simp [chk] at h
theorem s_gfn (g : Good X C T n N sc raw W c) {f : Nat} {a : Expr} (h : chk C N c (.gfn f) sc a = true) : PE X a (tE C T X.K (callN C n) W (.gfn f)) := by
  cases a with
  | Name y p =>
    simp only [chk, Bool.and_eq_true, beq_iff_eq] at h
    obtain ⟨h1, h2⟩ := h
    cases hd : C.defs[f]? with
    | none => rw [hd] at h2; cases h2
    | some d =>
      rw [hd] at h2
      have e : d.name = y := Option.some.inj h2
      obtain ⟨hm, _⟩ := g.mod.defs f d hd
      rw [e] at hm
      refine PE.mono (pe_glob (v := .ref (T.fa f)) (g.gl h1) hm rfl (glB_ok h1).2.1) fun sg H Q ⟨bo, n0, io, S, env, R, e, h⟩ => ?_
      have h' : OkC T X.K bo n0 io H Q (.fn f) S := h
      exact h' _ H io Ext.refl R (.fn f)
  | _ => simp [chk] at h
theorem s_op (g : Good X C T n N sc raw W c) {o : Op} {es : List E} {a : Expr} (AO : OpOk o) (hc : (c || coldOp o) = true) {as : List Expr} (h : opArgs C sc o a = some as) (hp : Paired (PE X) as (es.map (tE C T X.K (callN C n) W))) (hs : as.all (fun e => !isStar e) = true) :
    PE X a (tE C T X.K (callN C n) W (.op o es)) :=
  PE.mono (AO X C T n N sc raw W c g hc a as h _ hp hs) fun sg H Q ⟨bo, n0, io, S, env, R, e, h⟩ => op_of R e h
theorem s_and (g : Good X C T n N sc raw W c) {a b : E} {x y : Expr} {r : List Expr} {p : Pos} (ha : PE X x (tE C T X.K (callN C n) W a)) (hb : PE X (.BoolOp .And (y :: r) p) (tE C T X.K (callN C n) W b)) :
    PE X (.BoolOp .And (x :: y :: r) p) (tE C T X.K (callN C n) W (.and a b)) :=
  PE.mono (pe_andT ha hb) fun sg H Q ⟨bo, n0, io, S, env, R, e, h⟩ => by
    refine bind_of (k := fun r => match r with
      | .ok v S1 => match truV S1 v with
        | some true => ev C (callN C n) b env S1
        | some false => .ok v S1
        | none => .bad
      | r => r) R e (fun _ _ _ => rfl) rfl (Q0 := Q) (by unfold ev at h; exact h) fun v S1 z H1 io1 _ ax R1 e1 r1 q => ?_
    dsimp only at q
    cases ht : truV S1 v with
    | none => rw [ht] at q; exact q.elim
    | some k =>
      rw [ht] at q
      refine ⟨k, truV_ok R1 r1 ht, ?_⟩
      cases k with
      | true => exact ⟨bo, n0, io1, S1, env, R1, e1, q⟩
      | false => exact q z H1 io1 Ext.refl R1 r1
theorem s_or (g : Good X C T n N sc raw W c) {a b : E} {x y : Expr} {r : List Expr} {p : Pos} (ha : PE X x (tE C T X.K (callN C n) W a)) (hb : PE X (.BoolOp .Or (y :: r) p) (tE C T X.K (callN C n) W b)) :
    PE X (.BoolOp .Or (x :: y :: r) p) (tE C T X.K (callN C n) W (.or a b)) :=
  PE.mono (pe_orT ha hb) fun sg H Q ⟨bo, n0, io, S, env, R, e, h⟩ => by
    refine bind_of (k := fun r => match r with
      | .ok v S1 => match truV S1 v with
        | some false => ev C (callN C n) b env S1
        | some true => .ok v S1
        | none => .bad
      | r => r) R e (fun _ _ _ => rfl) rfl (Q0 := Q) (by unfold ev at h; exact h) fun v S1 z H1 io1 _ ax R1 e1 r1 q => ?_
    dsimp only at q
    cases ht : truV S1 v with
    | none => rw [ht] at q; exact q.elim
    | some k =>
      rw [ht] at q
      refine ⟨k, truV_ok R1 r1 ht, ?_⟩
      cases k with
      | false => exact ⟨bo, n0, io1, S1, env, R1, e1, q⟩
      | true => exact q z H1 io1 Ext.refl R1 r1
theorem s_not (g : Good X C T n N sc raw W c) {a : E} {x : Expr} {p : Pos} (ha : PE X x (tE C T X.K (callN C n) W a)) : PE X (.UnaryOp .Not x p) (tE C T X.K (callN C n) W (.not a)) :=
  PE.mono (pe_notT ha) fun sg H Q ⟨bo, n0, io, S, env, R, e, h⟩ => by
    refine bind_of (k := fun r => match r with
      | .ok v S1 => match truV S1 v with
        | some b => .ok (.p (.bool !b)) S1
        | none => .bad
      | r => r) R e (fun _ _ _ => rfl) rfl (Q0 := Q) (by unfold ev at h; exact h) fun v S1 z H1 io1 _ ax R1 e1 r1 q => ?_
    dsimp only at q
    cases ht : truV S1 v with
    | none => rw [ht] at q; exact q.elim
    | some k =>
      rw [ht] at q
      exact ⟨k, truV_ok R1 r1 ht, q _ H1 io1 Ext.refl R1 (.p (.bl _))⟩
theorem s_ite (g : Good X C T n N sc raw W c) {a b d : E} {x y z : Expr} {p : Pos} (ha : PT X x (tT C T X.K (callN C n) W a)) (hb : PE X y (tE C T X.K (callN C n) W b)) (hd : PE X z (tE C T X.K (callN C n) W d)) :
    PE X (.IfExp x y z p) (tE C T X.K (callN C n) W (.ite a b d)) :=
  PE.mono (pe_ifExp ha hb hd) fun sg H Q ⟨bo, n0, io, S, env, R, e, h⟩ => by
    refine bind_ofT (k := fun r => match r with
      | .ok v S1 => match truV S1 v with
        | some true => ev C (callN C n) b env S1
        | some false => ev C (callN C n) d env S1
        | none => .bad
      | r => r) R e (fun _ _ _ => rfl) rfl (Q0 := Q) (by unfold ev at h; exact h) (fun v S1 ht => by simp only [ht]) fun v S1 k H1 io1 _ ht ax R1 e1 q => ?_
    dsimp only at q
    rw [ht] at q
    cases k with
    | true => exact ⟨bo, n0, io1, S1, env, R1, e1, q⟩
    | false => exact ⟨bo, n0, io1, S1, env, R1, e1, q⟩
theorem s_call (g : Good X C T n N sc raw W true) {f : Nat} {es : List E} {x : Str} {as : List Expr} {p q : Pos} (hg : glB sc x = true) (hd : (C.defs[f]?.map (·.name)) = some x) (hp : Paired (PE X) as (es.map (tE C T X.K (callN C n) W))) (hs : as.all (fun e => !isStar e) = true) :
    PE X (.Call (.Name x p) as [] q) (tE C T X.K (callN C n) W (.call f es)) := by
  cases hd' : C.defs[f]? with
  | none => rw [hd'] at hd; cases hd
  | some d =>
    rw [hd'] at hd
    have e : d.name = x := Option.some.inj hd
    obtain ⟨hm, hk⟩ := g.mod.defs f d hd'
    obtain ⟨fd, _, hb, G⟩ := g.fns rfl f d hd'
    rw [e] at hm
    have key : ∀ sg H Q, tE C T X.K (callN C n) W (.call f es) sg H Q → chainT (es.map (tE C T X.K (callN C n) W)) sg H (fun vs H1 => spF C T X.K n f d.ps.length vs H1 Q (WE W sg)) := fun sg H Q ⟨bo, n0, io, S, env, R, e, h⟩ => by
      refine chain_of es R e ?_
      unfold ev at h
      cases hs : evL C (callN C n) es env S with
      | bad => rw [hs] at h; exact h
      | ex c as S2 => rw [hs] at h; exact h
      | ok vs S2 =>
        rw [hs] at h
        dsimp only at h
        intro xs H1 io1 a R1 r1
        refine ⟨?_, bo, n0, io1, S2, vs, R1, r1, h.ext a⟩
        rw [r1.length]
        cases n with
        | zero => exact h.elim
        | succ n =>
          unfold callN at h
          rw [hd'] at h
          dsimp only at h
          unfold callD at h
          split at h
          · exact h.elim
          · rename_i z
            exact Decidable.not_not.mp z
    generalize htt : es.map (tE C T X.K (callN C n) W) = ts at hp key
    cases hp with
    | nil => exact PE.mono (pe_callG0 (E := WE W) G (g.room rfl) (g.gl hg) hm hk hb (passAt g.takes) (glB_ok hg).2.1) key
    | cons h1 h2 =>
      have hs' := hs
      simp only [List.all_cons, Bool.and_eq_true, Bool.not_eq_true'] at hs'
      exact PE.mono (pe_callG (E := WE W) G (g.room rfl) (g.gl hg) hm hk hb (passAt g.takes) (pa_all (.cons h1 h2) hs) (glB_ok hg).2.1 (star_of hs'.1 _ _) (any_of hs'.2 _ _)) key
end
end Ev

/-! Ev8: chains, calls of a slot, comprehensions. -/
namespace Ev
open PySem PySem.Spec PyProof.Rows L2

section
variable {X : Cx} {C : Cfg} {T : Tb} {n : Nat} {N : List Str} {sc raw : Scope} {W : WX} {c : Bool}
theorem lastMarks_ok {o1 o2 : Op} {p q : CmpOp} (h1 : cmpOf o1 = some p) (h2 : cmpOf o2 = some q) (b d : Expr) : lastMarks [p, q] [b, d] = false := by
  have h : ∀ o r, cmpOf o = some r → r ≠ .In ∧ r ≠ .NotIn := fun o r h => by
    cases o <;> first
      | (cases h; exact ⟨by decide, by decide⟩)
      | cases h
  have z1 := h o1 p h1
  have z2 := h o2 q h2
  have e1 := nomark b z1.1 z1.2
  have e2 := nomark d z2.1 z2.2
  simp [lastMarks, e1, e2]
theorem cmpAll_of {o : Op} {p : CmpOp} (h : cmpOf o = some p) : cmpAll o = some p := by
  cases o <;> first
    | exact h
    | cases h
theorem chain_go {o1 o2 : Op} {a b d : E} {sg : L2.St} {H : Hp} {Q : VK} (h : tE C T X.K (callN C n) W (.chain o1 o2 a b d) sg H Q) :
    tChain (fun x y H Q => rP C T X.K o1 [x, y] H Q) (fun x y H Q => rP C T X.K o2 [x, y] H Q) (tE C T X.K (callN C n) W a) (tE C T X.K (callN C n) W b) (tE C T X.K (callN C n) W d) sg H Q := by
  obtain ⟨bo, n0, io, S, env, R, e, h⟩ := h
  refine bind_of (k := fun r => match r with
    | .ok x S1 => match ev C (callN C n) b env S1 with
      | .ok y S2 => match prim C o1 [x, y] S2 with
        | some (.p (.bool true), S3) => match ev C (callN C n) d env S3 with
          | .ok z S4 => match prim C o2 [y, z] S4 with
            | some (v, S5) => .ok v S5
            | none => .bad
          | r => r
        | some (.p (.bool false), S3) => .ok (.p (.bool false)) S3
        | _ => .bad
      | r => r
    | r => r) R e (fun _ _ _ => rfl) rfl (Q0 := Q) (by unfold ev at h; exact h) fun v S1 x H1 io1 _ a1 R1 e1 r1 q => ?_
  refine bind_of (k := fun r => match r with
      | .ok y S2 => match prim C o1 [v, y] S2 with
        | some (.p (.bool true), S3) => match ev C (callN C n) d env S3 with
          | .ok z S4 => match prim C o2 [y, z] S4 with
            | some (v, S5) => .ok v S5
            | none => .bad
          | r => r
        | some (.p (.bool false), S3) => .ok (.p (.bool false)) S3
        | _ => .bad
      | r => r) R1 e1 (fun _ _ _ => rfl) rfl (Q0 := Q) q fun u S2 y H2 io2 _ a2 R2 e2 r2 q => ?_
  have r1' := a2.denV R1.cl r1
  dsimp only at q
  cases hp : prim C o1 [v, u] S2 with
  | none => rw [hp] at q; exact q.elim
  | some z =>
    obtain ⟨w, S3⟩ := z
    rw [hp] at q
    refine ⟨bo, n0, io2, S2, [v, u], w, S3, R2, .cons r1' (.cons r2 .nil), hp, fun x3 H3 io3 a3 R3 r3 => ?_⟩
    split at q
    · rename_i e4
      cases e4
      cases r3 with
      | p r3 =>
        cases r3
        refine ⟨true, rfl, ?_⟩
        rw [if_pos rfl]
        refine bind_of (k := fun r => match r with
          | .ok z S4 => match prim C o2 [u, z] S4 with
            | some (v, S5) => .ok v S5
            | none => .bad
          | r => r) R3 (e2.ext a3 R2.cl) (fun _ _ _ => rfl) rfl (Q0 := Q) (q.ext a3) fun z S4 y4 H4 io4 _ a4 R4 e4 r4 q => ?_
        dsimp only at q
        cases hp2 : prim C o2 [u, z] S4 with
        | none => rw [hp2] at q; exact q.elim
        | some z5 =>
          obtain ⟨w5, S5⟩ := z5
          rw [hp2] at q
          exact ⟨bo, n0, io4, S4, [u, z], w5, S5, R4, .cons (a4.denV R3.cl (a3.denV R2.cl r2)) (.cons r4 .nil), hp2, q⟩
    · rename_i e4
      cases e4
      cases r3 with
      | p r3 =>
        cases r3
        refine ⟨false, rfl, ?_⟩
        rw [if_neg Bool.false_ne_true]
        exact q _ H3 io3 a3 R3 (.p (.bl _))
    · exact q.elim
theorem s_chain (g : Good X C T n N sc raw W c) {o1 o2 : Op} {p q : CmpOp} {a b d : E} {x y z : Expr} {ps : Pos} (A1 : CmpOk o1) (A2 : CmpOk o2) (h1 : cmpOf o1 = some p) (h2 : cmpOf o2 = some q) (hc1 : (c || coldOp o1) = true) (hc2 : (c || coldOp o2) = true)
    (ha : PE X x (tE C T X.K (callN C n) W a)) (hb : PE X y (tE C T X.K (callN C n) W b)) (hd : PE X z (tE C T X.K (callN C n) W d)) : PE X (.Compare x [p, q] [y, z] ps) (tE C T X.K (callN C n) W (.chain o1 o2 a b d)) :=
  PE.mono (pe_chain (A1 X C T n N sc raw W c g hc1 p (cmpAll_of h1)) (A2 X C T n N sc raw W c g hc2 q (cmpAll_of h2)) ha hb hd (lastMarks_ok h1 h2 _ _)) fun _ _ _ => chain_go
/-- a test's wish as a value's -/
theorem test_of {e : E} {sg : L2.St} {H : Hp} {Q : Bool → Hp → Prop} (hb : ∀ env S v S1, ev C (callN C n) e env S = .ok v S1 → ∃ b, v = .p (.bool b)) (h : tT C T X.K (callN C n) W e sg H Q) : tE C T X.K (callN C n) W e sg H fun x H1 => ∃ k, x = .bl k ∧ Q k H1 := by
  obtain ⟨bo, n0, io, S, env, R, e1, h⟩ := h
  refine ⟨bo, n0, io, S, env, R, e1, ?_⟩
  cases hx : ev C (callN C n) e env S with
  | bad => rw [hx] at h; exact h
  | ex c as S1 => rw [hx] at h; exact h
  | ok v S1 =>
    rw [hx] at h
    obtain ⟨b, hv, h⟩ := h
    obtain ⟨b', rfl⟩ := hb env S v S1 hx
    cases hv
    intro y H1 io1 a R1 r1
    cases r1 with
    | p r1 =>
      cases r1
      exact ⟨_, rfl, h H1 io1 a R1⟩
theorem s_callv (g : Good X C T n N sc raw W true) {i : Nat} {es : List E} {x : Str} {as : List Expr} {p q : Pos} (hN : N[i]? = some x) (hv : visB sc x = true) (hdb : (x == ("__debug__" : Str)) = false) (hcd : (x == ("__classdict__" : Str)) = false) (hne : as.isEmpty = false)
    (hp : Paired (PE X) as (es.map (tE C T X.K (callN C n) W))) (hs : as.all (fun e => !isStar e) = true) :
    PE X (.Call (.Name x p) as [] q) (tE C T X.K (callN C n) W (.callv i es)) := by
  cases as with
  | nil => cases hne
  | cons a0 ar =>
    have hs' := hs
    simp only [List.all_cons, Bool.and_eq_true, Bool.not_eq_true'] at hs'
    refine PE.mono (pe_callGV (E := WE W) (R := fun f k fd ps sp => k = n ∧ ∃ (j : Nat) (d : DefI), f = T.fa j ∧ C.defs[j]? = some d ∧ ps = d.ps ∧ sp = spF C T X.K n j d.ps.length ∧ Binds X.K fd d.ps [] ∧ FnG X.prog X.w X.K X.mg X.base n (T.fa j) fd d.ps (spF C T X.K n j d.ps.length))
      (fun f k fd ps sp ⟨hk, j, d, hf, hd, hps, hsp, hb, G⟩ => by
        subst hk hf hps hsp
        exact ⟨G, g.room rfl, (g.mod.defs j d hd).2, hb⟩) (by rw [g.hN]; exact hN) (g.vis hv) (passAt g.takes) (pa_all hp hs) hdb hcd (star_of hs'.1 _ _) (any_of hs'.2 _ _)) fun sg H Q ⟨bo, n0, io, S, env, R, e, h⟩ => ?_
    unfold ev at h
    split at h
    · rename_i f hf
      obtain ⟨v, hsv, rv⟩ := e.at_ i _ hf
      cases rv
      cases hd : C.defs[f]? with
      | none =>
        rw [hd] at h
        have hif : ¬ (none : Option DefI).isSome = true := fun z => by cases z
        rw [if_neg hif] at h
        exact h.elim
      | some d =>
        obtain ⟨hm, hk⟩ := g.mod.defs f d hd
        obtain ⟨fd, _, hb, G⟩ := g.fns rfl f d hd
        refine ⟨_, n, fd, d.ps, _, hsv, ⟨rfl, f, d, rfl, hd, rfl, rfl, hb, G⟩, ?_⟩
        refine chain_of es R e ?_
        rw [hd] at h
        have hif : (some d).isSome = true := rfl
        rw [if_pos hif] at h
        cases hs2 : evL C (callN C n) es env S with
        | bad => rw [hs2] at h; exact h
        | ex c as S2 => rw [hs2] at h; exact h
        | ok vs S2 =>
          rw [hs2] at h
          dsimp only at h
          intro xs H1 io1 a R1 r1
          refine ⟨?_, bo, n0, io1, S2, vs, R1, r1, h.ext a⟩
          rw [r1.length]
          cases n with
          | zero => exact h.elim
          | succ n =>
            unfold callN at h
            rw [hd] at h
            dsimp only at h
            unfold callD at h
            split at h
            · exact h.elim
            · rename_i z
              exact Decidable.not_not.mp z
    · exact h.elim
end
end Ev

/-! Ev9: list comprehensions. -/
namespace Ev
open PySem PySem.Spec PyProof.Rows L2

section
variable {T : Tb} {K : PySem.W.Frag} {bo bo' : Addr → Prop} {n0 : Nat} {io io' : List Addr} {S : Store} {H H' : Hp}
theorem EnvOk.fr {sg : L2.St} {env : Slots} (f : Fr io H H') (c : Cl io H) (hg : ∀ (i : Nat) (a : Addr), io[i]? = some a → io'[i]? = some a) (h2 : ∀ a, H a ≠ none → bnO bo' io' a → bnO bo io a) (e : EnvOk T K bo io H sg env) : EnvOk T K bo' io' H' sg env := ⟨e.len, fun i x h => by
  obtain ⟨v, h1, r⟩ := e.at_ i x h
  exact ⟨v, h1, DenV.fr f c hg h2 x v r⟩⟩
/-- a thing that is nobody's cell, written while it is made -/
theorem Rep.updOut {D : Addr} {o : HO} (R : Rep K bo n0 io S H) (hD : bo D) (hn : D ∉ io) (hm : Mut (H D)) : Rep K bo n0 io S (upd H D o) := by
  refine ⟨R.len, R.nd, fun i a e h1 h2 => ?_, fun a h => ?_, R.new⟩
  · have ne : a ≠ D := fun z => hn (z ▸ List.mem_of_getElem? h1)
    refine CellOk.fr (io := [D]) (fun b u hb hx => ?_) (fun b hb => ?_) (fun b hb => ?_) (fun b _ z => z) (upd_ne ne) (R.cells i a e h1 h2)
    · rw [upd_ne fun z => hx (by rw [z]; exact List.mem_singleton_self _)]
      exact hb
    · rw [List.mem_singleton.mp hb]
      exact hm
    · rw [List.mem_singleton.mp hb]
      exact .inl hD
  · by_cases z : a = D
    · rw [z, upd_same]; exact fun q => by cases q
    · rw [upd_ne z]; exact R.out a h
theorem DenVs.updOut {D : Addr} {o : HO} (hD : bo D) (hm : Mut (H D)) {xs : List V} {vs : List Val} (h : DenVs T K bo io H xs vs) : DenVs T K bo io (upd H D o) xs vs := by
  refine DenVs.frx (fx := [D]) (fun b u hb hx => ?_) (fun b hb => ?_) (fun b hb => ?_) (fun _ _ z => z) (fun _ _ z => z) vs xs h
  · rw [upd_ne fun z => hx (by rw [z]; exact List.mem_singleton_self _)]
    exact hb
  · rw [List.mem_singleton.mp hb]
    exact hm
  · rw [List.mem_singleton.mp hb]
    exact .inl hD
/-- the ban on one more -/
def bo1 (bo : Addr → Prop) (D : Addr) : Addr → Prop := fun a => bo a ∨ a = D
theorem Rep.own {D : Addr} {o : HO} (R : Rep K bo n0 io S H) (hD : H D = none) : Rep K (bo1 bo D) n0 io S (upd H D o) := by
  have c := R.cl
  have hn : D ∉ io := fun m => c.some m hD
  refine ⟨R.len, R.nd, fun i a e h1 h2 => ?_, fun a h => ?_, fun i a h1 h2 h => ?_⟩
  · have ne : a ≠ D := fun z => hn (z ▸ List.mem_of_getElem? h1)
    refine CellOk.fr (Ext.laid (io := io) hD).fr c (fun _ => bn_io) (fun b hb z => ?_) (upd_ne ne) (R.cells i a e h1 h2)
    rcases z with (z | z) | z
    · exact .inl z
    · exact absurd hD (z ▸ hb)
    · exact .inr z
  · by_cases z : a = D
    · rw [z, upd_same]; exact fun q => by cases q
    · rw [upd_ne z]
      exact R.out a (h.resolve_right z)
  · rcases h with h | h
    · exact R.new i a h1 h2 h
    · exact hn (h ▸ List.mem_of_getElem? h2)
end

theorem compGo_ck {ck : Store → Bool} {fe : Slots → Store → Res} {fc : Slots → Store → Option Bool × Store} {tg : Tg} {env : Slots} {vs : List Val} {S S2 : Store} {zs : List Val} (h : compGo ck fe fc tg env vs S = .ok zs S2) : ck S = true := by
  cases hk : ck S with
  | true => rfl
  | false =>
    exfalso
    cases vs with
    | nil =>
      unfold compGo at h
      rw [hk] at h
      cases h
    | cons v vs =>
      unfold compGo at h
      rw [hk] at h
      cases h
def tCond (C : Cfg) (T : Tb) (K : PySem.W.Frag) (n : Nat) : Option E → TT
  | none => tYes
  | some e => tT C T K (callN C n) NoW e
section
variable {X : Cx} {C : Cfg} {T : Tb} {n : Nat} {W : WX}
theorem comp_lc {its : List E} {elt : E} {cond : Option E} {tg : Tg} {ik : IK} {own : List Nat} {cell : Bool} {sg : L2.St} {H : Hp} {Q : VK} (hin : tgIn own tg = true) (h : tE C T X.K (callN C n) W (.comp cell own elt tg ik its cond) sg H Q) :
    tLc (fun sg H R => chainT (its.map (tE C T X.K (callN C n) W)) sg H fun xs H1 => rIt T X.K ik xs H1 R) (tG X.K tg) (tCond C T X.K n cond) (tE C T X.K (callN C n) NoW elt) own sg H Q := by
  obtain ⟨bo, n0, io, S, env, R, e, h⟩ := h
  unfold tLc
  refine chain_of its R e ?_
  unfold ev at h
  cases hs : evL C (callN C n) its env S with
  | bad => rw [hs] at h; exact h
  | ex c as S2 => rw [hs] at h; exact h
  | ok vs S1 =>
    rw [hs] at h
    dsimp only at h
    intro xs H1 io1 a1 R1 r1
    cases hi : items S1 ik vs with
    | none => rw [hi] at h; exact h.elim
    | some z =>
      obtain ⟨ys, lk⟩ := z
      rw [hi] at h
      dsimp only at h
      by_cases hb : big < ys.length
      · rw [if_pos hb] at h; exact h.elim
      rw [if_neg hb] at h
      cases hc : compGo (ckS lk) (ev C (callN C n) elt) (evC C (callN C n) cond) tg (wipeE env own) ys S1 with
      | bad => rw [hc] at h; exact h.elim
      | ex c as S2 => rw [hc] at h; exact h.elim
      | ok zs S2 =>
        rw [hc] at h
        refine ⟨bo, n0, io1, S1, vs, ys, lk, R1, r1, hi, fun J H2 a2 R2 wl D hD => ?_⟩
        have e2 := (e.ext a1 R.cl).ext a2 R1.cl
        have hz : ys.length ≤ sizeLine := Nat.le_trans (by omega) big_line
        have c2 := R2.cl
        have nD : D ∉ io1 := fun m => c2.some m hD
        refine ⟨fun i m H' => m = ys.length - i ∧ i ≤ ys.length ∧ ∃ io3 S3 acc vd zd, Rep X.K (bo1 bo D) n0 io3 S3 H' ∧ Ext io1 H2 io3 H' ∧ D ∉ io3 ∧ H' D = some (.lst acc) ∧ acc.length ≤ i ∧ DenVs T X.K (bo1 bo D) io3 H' acc vd ∧
          compGo (ckS lk) (ev C (callN C n) elt) (evC C (callN C n) cond) tg (wipeE env own) (ys.drop i) S3 = .ok zd S2 ∧ zs = vd ++ zd,
          ⟨ys.length, rfl, Nat.zero_le _, io1, S1, [], [], zs, R2.own hD, Ext.laid hD, nD, upd_same, Nat.le_refl _, .nil, hc, rfl⟩, ?_⟩
        rintro i m H' ⟨rfl, hi', io3, S3, acc, vd, zd, R3, a3, nD3, hDa, hl, rv, hgo, hzs⟩
        have hck := compGo_ck hgo
        have hban : ∀ a, H2 a ≠ none → bnO (bo1 bo D) io3 a → bnO bo io1 a := fun a hn z => by
          rcases z with (z | z) | z
          · exact .inl z
          · exact absurd hD (z ▸ hn)
          · rcases a3.new a z with z | z
            · exact .inr z
            · exact absurd z hn
        have wk := wl (bo1 bo D) n0 io3 S3 H' a3.fr (fun _ _ => a3.get) hban R3 hck
        have e3 : EnvOk T X.K (bo1 bo D) io3 H' sg env := e2.fr a3.fr c2 (fun _ _ => a3.get) hban
        have dD : bo1 bo D D := .inr rfl
        by_cases hlt : i < ys.length
        · refine .inr ⟨wk.go i hlt, _, fun H'' q => ⟨_, (show ys.length - (i + 1) < ys.length - i by omega), rfl, hlt, q⟩, fun x H'' hy => ?_⟩
          obtain ⟨a4, R4, r4⟩ := wk.yld i ys[i] x H'' (List.getElem?_eq_getElem hlt) hy
          rw [List.drop_eq_getElem_cons hlt] at hgo
          unfold compGo at hgo
          rw [if_pos hck] at hgo
          cases hbt : bindTg S3 tg ys[i] (wipeE env own) with
          | none => rw [hbt] at hgo; cases hgo
          | some env1 =>
            rw [hbt] at hgo
            dsimp only at hgo
            have e4 := (e3.ext a4 R3.cl).wipe own
            refine bind_ok hbt r4 e4 fun sg1 e5 hw => ⟨(hw own hin).trans wipe_idem, ?_⟩
            have nD4 : D ∉ io3 := nD3
            have hD4 : H'' D = some (.lst acc) := a4.fr D _ hDa nD3
            have rv4 := a4.denVs R3.cl rv
            have step : ∀ (b : Bool) (io5 : List Addr) (S5 : Store) (H5 : Hp), Ext io3 H'' io5 H5 → Rep X.K (bo1 bo D) n0 io5 S5 H5 → (if b = true then (match ev C (callN C n) elt env1 S5 with
                  | .ok x S2 => match compGo (ckS lk) (ev C (callN C n) elt) (evC C (callN C n) cond) tg (wipeE env own) (ys.drop (i + 1)) S2 with
                    | .ok xs S3 => .ok (x :: xs) S3
                    | r => r
                  | _ => .bad) else compGo (ckS lk) (ev C (callN C n) elt) (evC C (callN C n) cond) tg (wipeE env own) (ys.drop (i + 1)) S5) = ResL.ok zd S2 →
                if b = true then tE C T X.K (callN C n) NoW elt sg1 H5 fun y H4 => ∃ acc, H4 D = some (.lst acc) ∧ acc.length < sizeLine ∧ (fun H'' => ∃ io3 S3 acc vd zd, Rep X.K (bo1 bo D) n0 io3 S3 H'' ∧ Ext io1 H2 io3 H'' ∧ D ∉ io3 ∧ H'' D = some (.lst acc) ∧ acc.length ≤ i + 1 ∧ DenVs T X.K (bo1 bo D) io3 H'' acc vd ∧
                  compGo (ckS lk) (ev C (callN C n) elt) (evC C (callN C n) cond) tg (wipeE env own) (ys.drop (i + 1)) S3 = .ok zd S2 ∧ zs = vd ++ zd) (upd H4 D (.lst (acc ++ [y]))) else ∃ io3 S3 acc vd zd, Rep X.K (bo1 bo D) n0 io3 S3 H5 ∧ Ext io1 H2 io3 H5 ∧ D ∉ io3 ∧ H5 D = some (.lst acc) ∧ acc.length ≤ i + 1 ∧ DenVs T X.K (bo1 bo D) io3 H5 acc vd ∧
                  compGo (ckS lk) (ev C (callN C n) elt) (evC C (callN C n) cond) tg (wipeE env own) (ys.drop (i + 1)) S3 = .ok zd S2 ∧ zs = vd ++ zd := fun b io5 S5 H5 a5 R5 hg5 => by
              have nD5 : D ∉ io5 := fun m => by
                rcases a5.new D m with z | z
                · exact nD3 z
                · rw [hD4] at z; cases z
              have hD5 : H5 D = some (.lst acc) := a5.fr D _ hD4 nD3
              have rv5 := a5.denVs R4.cl rv4
              cases b with
              | false =>
                rw [if_neg Bool.false_ne_true] at hg5 ⊢
                exact ⟨io5, S5, acc, vd, zd, R5, a3.trans (a4.trans a5), nD5, hD5, Nat.le_succ_of_le hl, rv5, hg5, hzs⟩
              | true =>
                rw [if_pos rfl] at hg5 ⊢
                refine ⟨_, _, io5, S5, env1, R5, e5.ext a5 R4.cl, ?_⟩
                cases hx : ev C (callN C n) elt env1 S5 with
                | bad => rw [hx] at hg5; cases hg5
                | ex c as S6 => rw [hx] at hg5; cases hg5
                | ok v S6 =>
                  rw [hx] at hg5
                  dsimp only at hg5
                  cases hr : compGo (ckS lk) (ev C (callN C n) elt) (evC C (callN C n) cond) tg (wipeE env own) (ys.drop (i + 1)) S6 with
                  | bad => rw [hr] at hg5; cases hg5
                  | ex c as S7 => rw [hr] at hg5; cases hg5
                  | ok zr S7 =>
                    rw [hr] at hg5
                    cases hg5
                    intro y H6 io6 a6 R6 r6
                    have nD6 : D ∉ io6 := fun m => by
                      rcases a6.new D m with z | z
                      · exact nD5 z
                      · rw [hD5] at z; cases z
                    have hD6 : H6 D = some (.lst acc) := a6.fr D _ hD5 nD5
                    have rv6 := a6.denVs R5.cl rv5
                    have mD : Mut (H6 D) := by rw [hD6]; trivial
                    have A : Ext io1 H2 io6 H6 := a3.trans (a4.trans (a5.trans a6))
                    refine ⟨acc, hD6, by omega, io6, S6, acc ++ [y], vd ++ [v], zr, R6.updOut dD nD6 mD, ⟨A.pre, A.new, fun a o h hn => ?_⟩, nD6, upd_same, by simp; omega, (rv6.append (.cons r6 .nil)).updOut dD mD, hr, by rw [hzs, List.append_assoc]; rfl⟩
                    rw [upd_ne (ne_of_none h hD)]
                    exact A.fr a o h hn
            cases cond with
            | none => exact step true io3 S3 H'' Ext.refl R4 hgo
            | some ec =>
              have hgo' := hgo
              refine ⟨bo1 bo D, n0, io3, S3, env1, R4, e5, ?_⟩
              show RCT T X.K _ _ _ _ _ _ (ev C (callN C n) ec env1 S3)
              unfold evC asTest at hgo'
              cases hx : ev C (callN C n) ec env1 S3 with
              | bad => rw [hx] at hgo'; cases hgo'
              | ex c as S6 => rw [hx] at hgo'; cases hgo'
              | ok v S6 =>
                rw [hx] at hgo'
                dsimp only at hgo'
                cases ht : truV S6 v with
                | none => rw [ht] at hgo'; cases hgo'
                | some b =>
                  rw [ht] at hgo'
                  refine ⟨b, ht, fun H5 io5 a5 R5 => step b io5 S6 H5 a5 R5 ?_⟩
                  cases b with
                  | false => exact hgo'
                  | true => exact hgo'
        · have hie : i = ys.length := by omega
          subst hie
          rw [List.drop_length] at hgo
          unfold compGo at hgo
          rw [if_pos hck] at hgo
          cases hgo
          rw [List.append_nil] at hzs
          subst hzs
          refine .inl ⟨wk.stop, ?_⟩
          have hban2 : ∀ a, H' a ≠ none → bnO bo (io3 ++ [D]) a → bnO (bo1 bo D) io3 a := fun a _ z => by
            rcases z with z | z
            · exact .inl (.inl z)
            · rcases List.mem_append.mp z with z | z
              · exact .inr z
              · exact .inl (.inr (List.mem_singleton.mp z))
          have hban3 : ∀ a, H' a ≠ none → bnO bo io3 a → bnO (bo1 bo D) io3 a := fun a _ z => by
            rcases z with z | z
            · exact .inl (.inl z)
            · exact .inr z
          have fr0 : Fr io3 H' H' := fun _ _ h _ => h
          have nbD : ¬ bnO bo io3 D := fun z => by
            rcases z with z | z
            · exact R2.out D z hD
            · exact nD3 z
          have R3' : Rep X.K bo n0 io3 S2 H' := ⟨R3.len, R3.nd, fun i a e h1 h2 => CellOk.fr fr0 R3.cl (fun _ => bn_io) hban3 rfl (R3.cells i a e h1 h2), fun a h => R3.out a (.inl h), fun i a h1 h2 z => R3.new i a h1 h2 (.inl z)⟩
          dsimp only at h
          cases hp : pures zs with
          | some ds =>
            rw [hp] at h
            have rd := rv.pures hp
            cases cell with
            | true =>
              have h' : OkC T X.K bo n0 io H Q (.loc S2.length) (S2 ++ [.lst ds]) := h
              refine h' _ H' (io3 ++ [D]) ((a1.trans a2).trans ⟨?_, fun a z => ?_, a3.fr⟩) ?_ (.loc ?_)
              · obtain ⟨mo, hmo⟩ := a3.pre
                exact ⟨mo ++ [D], by rw [hmo, List.append_assoc]⟩
              · rcases List.mem_append.mp z with z | z
                · exact a3.new a z
                · exact .inr (by rw [List.mem_singleton.mp z]; exact hD)
              · refine ⟨by simp [R3.len], ?_, fun i a u h1 h2 => ?_, R3'.out, fun i a h1 h2 => ?_⟩
                · rw [List.nodup_append]
                  refine ⟨R3.nd, List.nodup_cons.mpr ⟨by simp, List.nodup_nil⟩, fun a ha b hb z => ?_⟩
                  rw [List.mem_singleton.mp hb] at z
                  exact nD3 (z ▸ ha)
                · rcases Nat.lt_or_ge i io3.length with hi | hi
                  · rw [List.getElem?_append_left hi] at h1
                    rw [List.getElem?_append_left (by rw [← R3.len]; exact hi)] at h2
                    exact CellOk.fr fr0 R3.cl (fun _ => bn_io) hban2 rfl (R3.cells i a u h1 h2)
                  · rw [List.getElem?_append_right hi] at h1
                    rw [List.getElem?_append_right (by rw [← R3.len]; exact hi)] at h2
                    have hz : i - io3.length = 0 := by
                      have := (List.getElem?_eq_some_iff.mp h1).1
                      simp at this
                      omega
                    rw [hz] at h1
                    rw [← R3.len, hz] at h2
                    simp at h1 h2
                    subst h1 h2
                    exact ⟨acc, hDa, Dens.fr fr0 R3.cl (fun _ => bn_io) hban2 ds acc rd⟩
                · rcases Nat.lt_or_ge i io3.length with hi | hi
                  · rw [List.getElem?_append_left hi] at h2
                    exact R3'.new i a h1 h2
                  · rw [List.getElem?_append_right hi] at h2
                    rw [List.mem_singleton.mp (List.mem_of_getElem? h2)]
                    exact fun z => nbD (.inl z)
              · rw [← R3.len, List.getElem?_append_right (Nat.le_refl _)]
                simp
            | false =>
              have h' : OkC T X.K bo n0 io H Q (.p (.list ds)) S2 := h
              exact h' _ H' io3 ((a1.trans a2).trans a3) R3' (.p (.lst (.inl ⟨.inl hDa, nbD⟩) (Dens.fr fr0 R3.cl (fun _ => bn_io) hban3 ds acc rd)))
          | none =>
            rw [hp] at h
            cases cell with
            | true => exact h.elim
            | false =>
              have h' : OkC T X.K bo n0 io H Q (.seq false zs) S2 := h
              exact h' _ H' io3 ((a1.trans a2).trans a3) R3' (.seqL (.inl ⟨.inl hDa, nbD⟩) (DenVs.fr fr0 R3.cl (fun _ _ z => z) hban3 zs acc rv))
end
end Ev

/-! Ev9b: set comprehensions of ints and texts, their number. (sk_core follows the library's sc_core, turned to keys.) -/
namespace Ev
open PySem PySem.Spec PyProof.Rows L2 PpSet

theorem setK_fresh {h : Heap} (P : Program) (w : World) : (h.push { cls := .type "set", dict := none, data := .set #[] 0 (.fresh 0 0 (!w.params.followText "set-order")) }).SetOf (mixKind P w) h.objs.size (fun _ => false) 0 :=
  ⟨_, #[], 0, _, Heap.get?_push_size _ rfl, ⟨rfl, rfl, rfl⟩, rfl, (fun e he => by simp at he), (fun k => by simp), (by decide), (by rfl), rfl⟩
section
variable {X : Cx}
theorem addK_ok {pins : List (Addr × Obj)} {sg : L2.St} {H : Hp} {s : Shared} {E : Value → Shared → Prop} {D : Addr} {S : Key → Bool} {n : Nat} {k : Key} {u : Value} {Q : Value → Shared → Prop} (I : Inv X pins sg H s) (hD : H D = some (SetK X.prog X.w D S n)) (room : n + 1 < scanBound) (r : RelV (kV k) u)
    (h : ∀ s', Inv X pins sg (upd H D (SetK X.prog X.w D (fun j => S j || decide (j = k)) (if S k = true then n else n + 1))) s' → Q .none s') : wpAny (model X.prog X.w) X.A (call (.builtin "set.add") [.ref D, u]) Q E s := by
  refine call_set_add (kV_is r) (key_scan r) (setK_get I hD) room fun h' sb new => ?_
  have he : ∃ u, h'.get? D = some u := by
    have ⟨o, _, _, _, ho, _⟩ := new
    exact ⟨o, ho⟩
  exact h _ (I.write (e := D) (t' := s.toks + 1) (by rw [hD]; trivial) (.inl rfl) (fun b u hb hu => (sb.2 b hb).trans hu) he (setK_new new))
/-- {elt for target in iter if ..}, elt an int or a text: D the new set -/
def tSk (P : Program) (w : World) (wi : TI) (g : TG) (tt : TT) (te : TE) (vs : List Nat) : TE := fun σ H Q => wi σ H fun J H1 => ∀ D, H1 D = none → ∃ W : Nat → Nat → Hp → Prop, (∃ m, W 0 m (upd H1 D (SetK P w D (fun _ => false) 0))) ∧ ∀ i m H, W i m H →
  (J.stop i H ∧ Q (.ref D) H) ∨ (J.go i H ∧ ∃ Nx : Hp → Prop, (∀ H', Nx H' → ∃ m', m' < m ∧ W (i + 1) m' H') ∧ ∀ x H', J.yld i H x H' → g x (wipe σ vs) H' fun σ2 H2 => wipe σ2 vs = wipe σ vs ∧ tt σ2 H2 fun b H3 =>
    if b = true then te σ2 H3 fun y H4 => ∃ (c : Key) (S : Key → Bool) (n : Nat), y = kV c ∧ H4 D = some (SetK P w D S n) ∧ n + 1 < scanBound ∧ Nx (upd H4 D (SetK P w D (fun j => S j || decide (j = c)) (if S c = true then n else n + 1))) else Nx H3)
theorem sk_core {pins : List (Addr × Obj)} {s : Shared} {σ : L2.St} {H : Hp} {Q : VK} {elt tg iter : Expr} {ifs : List Expr} {scope : Scope} {own : List (PySem.Str × Nat)} {pos pos' : Pos} {wi : TI} {g : TG} {tt : TT} {te : TE} {use : Option (Value → Sem Unit)} {Qf : Value → Shared → Prop}
    (hc : X.calm = true) (hN : X.N.Nodup) (I : Inv X pins σ H s) (hi : PI X tg iter wi) (ok : BlkOk X.N X.env.scope scope own)
    (hg : ∀ (s : Shared) (H : Hp) (C : Addr) (cl : List (PySem.Str × Addr)) (fp : List Addr), PG (X.blk s H scope (compEnvC scope cl C X.env) fp) tg g) (ht : ∀ (s : Shared) (H : Hp) (C : Addr) (cl : List (PySem.Str × Addr)) (fp : List Addr), PTs (X.blk s H scope (compEnvC scope cl C X.env) fp) ifs tt)
    (he : ∀ (s : Shared) (H : Hp) (C : Addr) (cl : List (PySem.Str × Addr)) (fp : List Addr), PE (X.blk s H scope (compEnvC scope cl C X.env) fp) elt te) (hs : ∀ x, foldedSetIterable iter X.env x = pure x)
    (h : tSk X.prog X.w wi g tt te (own.map (·.2)) σ H Q)
    (hRR : ∀ D C s' m H', Inv X pins σ H' s' → Q (.ref D) H' → s'.heap.Ns C m → FpOk X pins H' C → compPost (model X.prog X.w) X.A X.xe use Qf (.ref D) C (.ok .next) s') :
    wpAny (model X.prog X.w) X.A (comprehension (.SetComp elt [⟨tg, iter, ifs, 0⟩] scope pos) scope X.env pos' (newSet (.type "set")) false (eval iter X.env) use) Qf X.xe s := by
  have hfree : ∀ y ∈ scope.names, y.2 = .free → ∃ c, X.env.cells.lookup y.1 = some c := fun y hy e => by
    rcases ok.free y hy e with k | k
    · exact I.ok.has _ (.inl k)
    · exact I.ok.has _ (.inr k)
  refine wpAny_comprehension_free (use := use) rfl hs (closure_ok hfree) ok.kind (fun y hy e => by rw [ok.uniq y hy, e])
    (thn (hi.run pins s σ H _ I h) fun xv s1 hx => thn hx fun itv s2 h2 => ?_)
  obtain ⟨it, fp, tn, J, H2, e, I2, T, st2, f2, q⟩ := h2
  subst e
  refine newSet_ok (newEnv_comp ?_)
  generalize hD : s2.heap.objs.size = D
  have hDn : H2 D = none := I2.hok.fresh (Nat.le_of_eq hD)
  obtain ⟨W, ⟨m0, w0⟩, turn⟩ := q D hDn
  -- the new list
  generalize hs3 : ({ s2 with heap := s2.heap.push { cls := .type "set", dict := none, data := .set #[] 0 (.fresh 0 0 (!X.w.params.followText "set-order")) } } : Shared) = s3
  have I3 : Inv X pins σ (upd H2 D (SetK X.prog X.w D (fun _ => false) 0)) s3 := by
    rw [← hs3]
    refine I2.laid (t' := s2.toks) (fun b o e => Heap.get?_push_of_some _ e) (Nat.le_of_eq hD) ?_
    rw [← hD]
    exact setK_new (setK_fresh X.prog X.w)
  have h3 : s3.heap = s2.heap.push { cls := .type "set", dict := none, data := .set #[] 0 (.fresh 0 0 (!X.w.params.followText "set-order")) } := by rw [← hs3]
  have sz : ∀ b ∈ fp, b < s2.heap.objs.size := fun b hb => by
    obtain ⟨o, e, _⟩ := T.obj _ _ st2 b hb
    exact Heap.lt_size e
  have f3 : ∀ b ∈ fp, FpOk X pins (upd H2 D (SetK X.prog X.w D (fun _ => false) 0)) b ∧ b < s3.heap.objs.size := fun b hb => by
    have hlt := sz b hb
    refine ⟨⟨?_, (f2 b hb).2⟩, by rw [h3, Heap.size_push]; exact Nat.lt_succ_of_lt hlt⟩
    rw [upd_ne (by rw [← hD]; exact Nat.ne_of_lt hlt)]
    exact (f2 b hb).1
  have st3 : tn 0 s3.heap := T.keep _ _ _ st2 fun b _ o e => by rw [h3]; exact Heap.get?_push_of_some _ e
  have I4 := block_start I3 ok hN f3
  have pg := hg s3 (upd H2 D (SetK X.prog X.w D (fun _ => false) 0)) s3.heap.objs.size (cellsFrom (s3.heap.objs.size + 1) scope.names (cloFrom X.env.cells scope.names [])) fp
  have pt := ht s3 (upd H2 D (SetK X.prog X.w D (fun _ => false) 0)) s3.heap.objs.size (cellsFrom (s3.heap.objs.size + 1) scope.names (cloFrom X.env.cells scope.names [])) fp
  have pe := he s3 (upd H2 D (SetK X.prog X.w D (fun _ => false) 0)) s3.heap.objs.size (cellsFrom (s3.heap.objs.size + 1) scope.names (cloFrom X.env.cells scope.names [])) fp
  show codeAny _ _ (.compStart (.SetComp elt [⟨tg, iter, ifs, 0⟩] scope pos) 0 (.ref it) (.ref D) (compEnvC scope (cellsFrom (s3.heap.objs.size + 1) scope.names (cloFrom X.env.cells scope.names [])) s3.heap.objs.size X.env)) (compPost (model X.prog X.w) X.A X.xe use Qf (.ref D) s3.heap.objs.size) { s3 with heap := pushCells (s3.heap.push { cls := .type "dict", data := .dict #[] }) scope.names }
  have nfp : ∀ b ∈ fp, (upd H2 D (SetK X.prog X.w D (fun _ => false) 0)) b = none := fun b hb => (f3 b hb).1.1
  generalize hce : compEnvC scope (cellsFrom (s3.heap.objs.size + 1) scope.names (cloFrom X.env.cells scope.names [])) s3.heap.objs.size X.env = ce at I4 pg pt pe ⊢
  have cL : ce.locals = s3.heap.objs.size := by subst hce; rfl
  generalize hH3 : upd H2 D (SetK X.prog X.w D (fun _ => false) 0) = H3 at I3 I4 pg pt pe w0 nfp f3
  generalize hs4 : ({ s3 with heap := pushCells (s3.heap.push { cls := .type "dict", data := .dict #[] }) scope.names } : Shared) = s4 at I4 ⊢
  have st4 : tn 0 s4.heap := T.keep _ _ _ st3 fun b _ o e => by rw [← hs4]; exact pushCells_keeps _ _ _ _ (Heap.get?_push_of_some _ e)
  have stat : ∀ {σ' : L2.St} {H' : Hp} {s' : Shared}, Inv (X.blk s3 H3 scope ce fp) [] σ' H' s' → (∀ b ∈ fp, H' b = none) → ∀ b ∈ fp, FpOk (X.blk s3 H3 scope ce fp) [] H' b := fun {σ' H' s'} I' hn b hb =>
    ⟨hn b hb, (I'.ok.exf b hb).1, I'.ok.exfs b hb, .inl hb, fun x c e => (I'.ok.exf b hb).2 x c e, fun p hp => absurd (show p ∈ ([] : List (Addr × Obj)) ++ [] from hp) (by simp)⟩
  have loop : codeAny (model X.prog X.w) X.A (.compLoop (.SetComp elt [⟨tg, iter, ifs, 0⟩] scope pos) 0 (.ref it) (.ref D) ce) (compPost (model X.prog X.w) X.A X.xe use Qf (.ref D) s3.heap.objs.size) s4 := by
    refine compLoopS_any (fun n s' => ∃ i H', Inv (X.blk s3 H3 scope ce fp) [] (wipe σ (own.map (·.2))) H' s' ∧ tn i s'.heap ∧ (∀ b ∈ fp, H' b = none) ∧ W i n H') ?_ m0 ⟨0, H3, I4, st4, nfp, w0⟩
    rintro n s5 ⟨i, H5, I5, st5, n5, w5⟩
    rcases turn i n H5 w5 with ⟨stop, qq⟩ | ⟨go, Nx, hNx, step⟩
    · have td := T.done (X.blk s3 H3 scope ce fp) rfl rfl rfl hc i [] s5 _ H5 (fun _ _ => False) I5 (stat I5 n5) st5 stop
      refine thnF td fun r s6 ⟨hr, I6⟩ => ?_
      subst hr
      -- back in the def's context
      have I7 : Inv X pins σ H5 s6 := I3.call' (ch := fp) I6.os I6.base I6.hok I6.bare fun b hb => ⟨(f3 b hb).1.2.2.2.1, (f3 b hb).1.2.1, (f3 b hb).1.2.2.2.2.1, (f3 b hb).1.2.2.2.2.2⟩
      have nC : H5 s3.heap.objs.size = none := by
        have z : H5 ce.locals = none := I6.free
        rw [cL] at z
        exact z
      obtain ⟨m, hn, _⟩ := I6.loc
      have hn : s6.heap.Ns ce.locals m := hn
      rw [cL] at hn
      exact hRR D s3.heap.objs.size s6 m H5 I7 qq hn (I3.fpOk (Nat.le_refl _) nC)
    · have ti := T.item (X.blk s3 H3 scope ce fp) rfl rfl rfl hc i [] s5 _ H5 (fun _ _ => False) I5 (stat I5 n5) st5 go
      refine thnF ti fun r s6 ⟨u, hr, h6⟩ => ?_
      subst hr
      refine thnF h6 fun _ s7 ⟨x, H7, I7, r7, y7, st7, n7⟩ => ?_
      have I7' := I7.pinned (stat I7 n7) (T.obj _ _ st7)
      refine thnF (pg.run _ s7 _ H7 x u _ I7' r7 (step x H7 y7)) fun _ s8 ⟨σ8, H8, I8, hw8, q8⟩ => ?_
      refine thnF (pt.run _ s8 σ8 H8 _ I8 q8) fun b s9 ⟨H9, I9, q9⟩ => ?_
      -- the turn's end
      have fin : ∀ {s' : Shared} {H' : Hp}, Inv (X.blk s3 H3 scope ce fp) ([] ++ pinsAt fp s7.heap) σ8 H' s' → Nx H' → ∃ m, m < n ∧ ∃ i H', Inv (X.blk s3 H3 scope ce fp) [] (wipe σ (own.map (·.2))) H' s' ∧ tn i s'.heap ∧ (∀ b ∈ fp, H' b = none) ∧ W i m H' := fun {s' H'} I' nx => by
        obtain ⟨m', hm, w'⟩ := hNx H' nx
        have pin' : ∀ b ∈ fp, ∀ o, s7.heap.get? b = some o → s'.heap.get? b = some o ∧ H' b = none := fun b hb o e =>
          let z := I'.pin (b, o) (List.mem_append_right _ (List.mem_append_right _ (mem_pinsAt hb e)))
          ⟨z.1, z.2.1⟩
        have hl : (wipe σ (own.map (·.2))).length = σ8.length := by rw [← hw8, wipe_length]
        refine ⟨m', hm, i + 1, H', (I'.unpinned (pins := [])).weak hl (fun j v e => ?_), T.keep _ _ _ st7 fun b hb o e => (pin' b hb o e).1, fun b hb => ?_, w'⟩
        · rw [← hw8] at e
          exact (wipe_some e).1
        · obtain ⟨o, e, _⟩ := T.obj _ _ st7 b hb
          exact (pin' b hb o e).2
      cases b with
      | false =>
        simp only [Bool.false_eq_true, if_false] at q9 ⊢
        exact fin I9 q9
      | true =>
        simp only [if_true] at q9 ⊢
        refine thnF (pe.run _ s9 σ8 H9 _ I9 q9) fun z s10 ⟨yv, H10, I10, r10, cb, S0, n0, ey, hD10, hz10, nx⟩ => ?_
        subst ey
        exact addK_ok (X := X.blk s3 H3 scope ce fp) I10 hD10 hz10 r10 fun s11 I11 => fin I11 nx
  exact codeAny_compStart_set loop (T.self X.A 0 _ _ _ st4 loop)
/-- as a value -/
theorem pe_sk {elt tg iter : Expr} {ifs : List Expr} {scope : Scope} {own : List (PySem.Str × Nat)} {pos : Pos} {wi : TI} {g : TG} {tt : TT} {te : TE} (hc : X.calm = true) (hN : X.N.Nodup) (hi : PI X tg iter wi) (ok : BlkOk X.N X.env.scope scope own)
    (hg : ∀ (s : Shared) (H : Hp) (C : Addr) (cl : List (PySem.Str × Addr)) (fp : List Addr), PG (X.blk s H scope (compEnvC scope cl C X.env) fp) tg g) (ht : ∀ (s : Shared) (H : Hp) (C : Addr) (cl : List (PySem.Str × Addr)) (fp : List Addr), PTs (X.blk s H scope (compEnvC scope cl C X.env) fp) ifs tt)
    (he : ∀ (s : Shared) (H : Hp) (C : Addr) (cl : List (PySem.Str × Addr)) (fp : List Addr), PE (X.blk s H scope (compEnvC scope cl C X.env) fp) elt te) (hs : ∀ x, foldedSetIterable iter X.env x = pure x := by intro _; rfl) :
    PE X (.SetComp elt [⟨tg, iter, ifs, 0⟩] scope pos) (tSk X.prog X.w wi g tt te (own.map (·.2))) := by
  refine ⟨fun pins s σ H Q I h => ?_⟩
  rw [eval_SetComp]
  refine sk_core hc hN I hi ok hg ht he hs h fun D C s' m H' I' q hn f => ⟨m, hn, fun h'' sb => ?_⟩
  obtain ⟨f0, f1, f2, f3, f4, f5⟩ := f
  exact ⟨.ref D, H', I'.turned (t' := s'.toks) (fun b o hb e => (sb.2 b hb).trans e) f0 f1 f3 f4 f5, rfl, q⟩
end
theorem keyOf_den {T : Tb} {K : PySem.W.Frag} {bo : Addr → Prop} {io : List Addr} {H : Hp} {y : V} {v : Val} {c : Key} (h : keyOf v = some c) (r : DenV T K bo io H y v) : y = kV c := by
  unfold keyOf at h
  split at h
  · cases h
    cases r with
    | p r => cases r; rfl
  · cases h
    cases r with
    | p r => cases r; rfl
  · cases h
theorem kins_fn (acc : List Key) (c : Key) : (fun j => decide (j ∈ acc) || decide (j = c)) = fun j => decide (j ∈ kins acc c) := by
  funext j
  unfold kins
  by_cases h : c ∈ acc
  · rw [if_pos h]
    by_cases h2 : j = c
    · subst h2; simp [h]
    · simp [h2]
  · rw [if_neg h]
    simp
theorem kins_len (acc : List Key) (c : Key) : (kins acc c).length = if (decide (c ∈ acc)) = true then acc.length else acc.length + 1 := by
  unfold kins
  by_cases h : c ∈ acc
  · simp [h]
  · simp [h]
theorem Dm.setK {P : Program} {w : World} {D : Addr} {S : Key → Bool} {n : Nat} : Mut (some (SetK P w D S n)) := trivial
/-- the number of a set's items -/
def rSk (X : Cx) (xs : List V) (H : Hp) (Q : VK) : Prop := ∃ D S n, xs = [.ref D] ∧ H D = some (SetK X.prog X.w D S n) ∧ n < scanBound ∧ Q (.int (n : Nat)) H
theorem r_lenSk {X : Cx} : CallR X (.builtin "len") (rSk X) := by
  rintro pins s sg H xs us Q I r ⟨D, S, n, rfl, hD, hn, q⟩
  cases r with
  | cons r0 r1 =>
    cases r1
    obtain rfl := r0
    obtain ⟨o, es, ep, t, ho, hex, hd, _, _, _, hf, he⟩ := setK_get I hD
    subst he
    have hb : scanBound = 4096 := rfl
    refine call_len_set ho hex hd hf (by omega) ?_
    exact ⟨.int (es.size : Nat), H, I.tok _, ⟨_, rfl⟩, q⟩
section
variable {X : Cx} {C : Cfg} {T : Tb} {n : Nat} {W : WX}
def kA (X : Cx) (D : Addr) (acc : List Key) : HO := SetK X.prog X.w D (fun j => decide (j ∈ acc)) acc.length
theorem kA_nil {X : Cx} {D : Addr} : SetK X.prog X.w D (fun _ => false) 0 = kA X D [] := by
  unfold kA
  have e : (fun _ : Key => false) = fun j => decide (j ∈ ([] : List Key)) := by
    funext j
    simp
  rw [e]
  rfl
theorem kA_kins {X : Cx} {D : Addr} (acc : List Key) (c : Key) : SetK X.prog X.w D (fun j => decide (j ∈ acc) || decide (j = c)) (if (decide (c ∈ acc)) = true then acc.length else acc.length + 1) = kA X D (kins acc c) := by
  unfold kA
  rw [kins_fn, kins_len]

theorem comp_sk {its : List E} {elt : E} {cond : Option E} {tg : Tg} {ik : IK} {own : List Nat} {sg : L2.St} {H : Hp} {Q : VK} (hin : tgIn own tg = true) (h : tE C T X.K (callN C n) W (.scomp own elt tg ik its cond) sg H Q) :
    tSk X.prog X.w (fun sg H R => chainT (its.map (tE C T X.K (callN C n) W)) sg H fun xs H1 => rIt T X.K ik xs H1 R) (tG X.K tg) (tCond C T X.K n cond) (tE C T X.K (callN C n) NoW elt) own sg H (fun v H1 => rSk X [v] H1 Q) := by
  obtain ⟨bo, n0, io, S, env, R, e, h⟩ := h
  unfold tSk
  refine chain_of its R e ?_
  unfold ev at h
  cases hs : evL C (callN C n) its env S with
  | bad => rw [hs] at h; exact h
  | ex c as S2 => rw [hs] at h; exact h
  | ok vs S1 =>
    rw [hs] at h
    dsimp only at h
    intro xs H1 io1 a1 R1 r1
    cases hi : items S1 ik vs with
    | none => rw [hi] at h; exact h.elim
    | some z =>
      obtain ⟨ys, lk⟩ := z
      rw [hi] at h
      dsimp only at h
      by_cases hb : 4000 < ys.length
      · rw [if_pos hb] at h; exact h.elim
      rw [if_neg hb] at h
      cases hc : compGo (ckS lk) (ev C (callN C n) elt) (evC C (callN C n) cond) tg (wipeE env own) ys S1 with
      | bad => rw [hc] at h; exact h.elim
      | ex c as S2 => rw [hc] at h; exact h.elim
      | ok zs S2 =>
        rw [hc] at h
        dsimp only at h
        cases hk : keysOf zs with
        | none => rw [hk] at h; exact h.elim
        | some ks =>
        rw [hk] at h
        dsimp only at h
        generalize hkf : ks.foldl kins [] = kf at h
        refine ⟨bo, n0, io1, S1, vs, ys, lk, R1, r1, hi, fun J H2 a2 R2 wl D hD => ?_⟩
        have e2 := (e.ext a1 R.cl).ext a2 R1.cl
        have hz : ys.length ≤ sizeLine := Nat.le_trans (show ys.length ≤ 5000000 by omega) big_line
        have c2 := R2.cl
        have nD : D ∉ io1 := fun m => c2.some m hD
        refine ⟨fun i m H' => m = ys.length - i ∧ i ≤ ys.length ∧ ∃ io3 S3 acc zd kr, Rep X.K (bo1 bo D) n0 io3 S3 H' ∧ Ext io1 H2 io3 H' ∧ D ∉ io3 ∧ H' D = some (kA X D acc) ∧ acc.length ≤ i ∧ (keysOf zd = some kr ∧ kr.foldl kins acc = kf) ∧
          compGo (ckS lk) (ev C (callN C n) elt) (evC C (callN C n) cond) tg (wipeE env own) (ys.drop i) S3 = .ok zd S2,
          ⟨ys.length, rfl, Nat.zero_le _, io1, S1, [], zs, ks, R2.own hD, Ext.laid hD, nD, by rw [kA_nil]; exact upd_same, Nat.le_refl _, ⟨hk, hkf⟩, hc⟩, ?_⟩
        rintro i m H' ⟨rfl, hi', io3, S3, acc, zd, kr, R3, a3, nD3, hDa, hl, ⟨hkz, hkr⟩, hgo⟩
        have hck := compGo_ck hgo
        have hban : ∀ a, H2 a ≠ none → bnO (bo1 bo D) io3 a → bnO bo io1 a := fun a hn z => by
          rcases z with (z | z) | z
          · exact .inl z
          · exact absurd hD (z ▸ hn)
          · rcases a3.new a z with z | z
            · exact .inr z
            · exact absurd z hn
        have wk := wl (bo1 bo D) n0 io3 S3 H' a3.fr (fun _ _ => a3.get) hban R3 hck
        have e3 : EnvOk T X.K (bo1 bo D) io3 H' sg env := e2.fr a3.fr c2 (fun _ _ => a3.get) hban
        have dD : bo1 bo D D := .inr rfl
        by_cases hlt : i < ys.length
        · refine .inr ⟨wk.go i hlt, _, fun H'' q => ⟨_, (show ys.length - (i + 1) < ys.length - i by omega), rfl, hlt, q⟩, fun x H'' hy => ?_⟩
          obtain ⟨a4, R4, r4⟩ := wk.yld i ys[i] x H'' (List.getElem?_eq_getElem hlt) hy
          rw [List.drop_eq_getElem_cons hlt] at hgo
          unfold compGo at hgo
          rw [if_pos hck] at hgo
          cases hbt : bindTg S3 tg ys[i] (wipeE env own) with
          | none => rw [hbt] at hgo; cases hgo
          | some env1 =>
            rw [hbt] at hgo
            dsimp only at hgo
            have e4 := (e3.ext a4 R3.cl).wipe own
            refine bind_ok hbt r4 e4 fun sg1 e5 hw => ⟨(hw own hin).trans wipe_idem, ?_⟩
            have nD4 : D ∉ io3 := nD3
            have hD4 : H'' D = some (kA X D acc) := a4.fr D _ hDa nD3
            have step : ∀ (b : Bool) (io5 : List Addr) (S5 : Store) (H5 : Hp), Ext io3 H'' io5 H5 → Rep X.K (bo1 bo D) n0 io5 S5 H5 → (if b = true then (match ev C (callN C n) elt env1 S5 with
                  | .ok x S2 => match compGo (ckS lk) (ev C (callN C n) elt) (evC C (callN C n) cond) tg (wipeE env own) (ys.drop (i + 1)) S2 with
                    | .ok xs S3 => .ok (x :: xs) S3
                    | r => r
                  | _ => .bad) else compGo (ckS lk) (ev C (callN C n) elt) (evC C (callN C n) cond) tg (wipeE env own) (ys.drop (i + 1)) S5) = ResL.ok zd S2 →
                if b = true then tE C T X.K (callN C n) NoW elt sg1 H5 fun y H4 => ∃ (c : Key) (SS : Key → Bool) (nn : Nat), y = kV c ∧ H4 D = some (SetK X.prog X.w D SS nn) ∧ nn + 1 < scanBound ∧ (fun H'' => ∃ io3 S3 acc zd kr, Rep X.K (bo1 bo D) n0 io3 S3 H'' ∧ Ext io1 H2 io3 H'' ∧ D ∉ io3 ∧ H'' D = some (kA X D acc) ∧ acc.length ≤ i + 1 ∧ (keysOf zd = some kr ∧ kr.foldl kins acc = kf) ∧
                  compGo (ckS lk) (ev C (callN C n) elt) (evC C (callN C n) cond) tg (wipeE env own) (ys.drop (i + 1)) S3 = .ok zd S2) (upd H4 D (SetK X.prog X.w D (fun j => SS j || decide (j = c)) (if SS c = true then nn else nn + 1))) else ∃ io3 S3 acc zd kr, Rep X.K (bo1 bo D) n0 io3 S3 H5 ∧ Ext io1 H2 io3 H5 ∧ D ∉ io3 ∧ H5 D = some (kA X D acc) ∧ acc.length ≤ i + 1 ∧ (keysOf zd = some kr ∧ kr.foldl kins acc = kf) ∧
                  compGo (ckS lk) (ev C (callN C n) elt) (evC C (callN C n) cond) tg (wipeE env own) (ys.drop (i + 1)) S3 = .ok zd S2 := fun b io5 S5 H5 a5 R5 hg5 => by
              have nD5 : D ∉ io5 := fun m => by
                rcases a5.new D m with z | z
                · exact nD3 z
                · rw [hD4] at z; cases z
              have hD5 : H5 D = some (kA X D acc) := a5.fr D _ hD4 nD3
              cases b with
              | false =>
                rw [if_neg Bool.false_ne_true] at hg5 ⊢
                exact ⟨io5, S5, acc, zd, kr, R5, a3.trans (a4.trans a5), nD5, hD5, Nat.le_succ_of_le hl, ⟨hkz, hkr⟩, hg5⟩
              | true =>
                rw [if_pos rfl] at hg5 ⊢
                refine ⟨_, _, io5, S5, env1, R5, e5.ext a5 R4.cl, ?_⟩
                cases hx : ev C (callN C n) elt env1 S5 with
                | bad => rw [hx] at hg5; cases hg5
                | ex c as S6 => rw [hx] at hg5; cases hg5
                | ok v S6 =>
                  rw [hx] at hg5
                  dsimp only at hg5
                  cases hr : compGo (ckS lk) (ev C (callN C n) elt) (evC C (callN C n) cond) tg (wipeE env own) (ys.drop (i + 1)) S6 with
                  | bad => rw [hr] at hg5; cases hg5
                  | ex c as S7 => rw [hr] at hg5; cases hg5
                  | ok zr S7 =>
                    rw [hr] at hg5
                    cases hg5
                    intro y H6 io6 a6 R6 r6
                    have nD6 : D ∉ io6 := fun m => by
                      rcases a6.new D m with z | z
                      · exact nD5 z
                      · rw [hD5] at z; cases z
                    have hD6 : H6 D = some (kA X D acc) := a6.fr D _ hD5 nD5
                    have mD : Mut (H6 D) := by rw [hD6]; trivial
                    cases hv : keyOf v with
                    | none =>
                      unfold keysOf at hkz
                      rw [hv] at hkz
                      cases hkz
                    | some cc =>
                    unfold keysOf at hkz
                    rw [hv] at hkz
                    dsimp only at hkz
                    cases hkz2 : keysOf zr with
                    | none => rw [hkz2] at hkz; cases hkz
                    | some kr2 =>
                    rw [hkz2] at hkz
                    cases hkz
                    have A : Ext io1 H2 io6 H6 := a3.trans (a4.trans (a5.trans a6))
                    have hsb : scanBound = 4096 := rfl
                    refine ⟨cc, _, acc.length, keyOf_den hv r6, hD6, by omega, ?_⟩
                    rw [kA_kins]
                    refine ⟨io6, S6, kins acc cc, zr, kr2, R6.updOut dD nD6 mD, ⟨A.pre, A.new, fun a o h hn => ?_⟩, nD6, upd_same, ?_, ⟨hkz2, hkr⟩, hr⟩
                    rotate_left 1
                    · rw [kins_len]
                      split <;> omega
                    rw [upd_ne (ne_of_none h hD)]
                    exact A.fr a o h hn
            cases cond with
            | none => exact step true io3 S3 H'' Ext.refl R4 hgo
            | some ec =>
              have hgo' := hgo
              refine ⟨bo1 bo D, n0, io3, S3, env1, R4, e5, ?_⟩
              show RCT T X.K _ _ _ _ _ _ (ev C (callN C n) ec env1 S3)
              unfold evC asTest at hgo'
              cases hx : ev C (callN C n) ec env1 S3 with
              | bad => rw [hx] at hgo'; cases hgo'
              | ex c as S6 => rw [hx] at hgo'; cases hgo'
              | ok v S6 =>
                rw [hx] at hgo'
                dsimp only at hgo'
                cases ht : truV S6 v with
                | none => rw [ht] at hgo'; cases hgo'
                | some b =>
                  rw [ht] at hgo'
                  refine ⟨b, ht, fun H5 io5 a5 R5 => step b io5 S6 H5 a5 R5 ?_⟩
                  cases b with
                  | false => exact hgo'
                  | true => exact hgo'
        · have hie : i = ys.length := by omega
          subst hie
          rw [List.drop_length] at hgo
          unfold compGo at hgo
          rw [if_pos hck] at hgo
          cases hgo
          cases hkz
          subst hkr
          refine .inl ⟨wk.stop, ?_⟩
          have hban2 : ∀ a, H' a ≠ none → bnO bo (io3 ++ [D]) a → bnO (bo1 bo D) io3 a := fun a _ z => by
            rcases z with z | z
            · exact .inl (.inl z)
            · rcases List.mem_append.mp z with z | z
              · exact .inr z
              · exact .inl (.inr (List.mem_singleton.mp z))
          have hban3 : ∀ a, H' a ≠ none → bnO bo io3 a → bnO (bo1 bo D) io3 a := fun a _ z => by
            rcases z with z | z
            · exact .inl (.inl z)
            · exact .inr z
          have fr0 : Fr io3 H' H' := fun _ _ h _ => h
          have nbD : ¬ bnO bo io3 D := fun z => by
            rcases z with z | z
            · exact R2.out D z hD
            · exact nD3 z
          have R3' : Rep X.K bo n0 io3 S2 H' := ⟨R3.len, R3.nd, fun i a e h1 h2 => CellOk.fr fr0 R3.cl (fun _ => bn_io) hban3 rfl (R3.cells i a e h1 h2), fun a h => R3.out a (.inl h), fun i a h1 h2 z => R3.new i a h1 h2 (.inl z)⟩
          refine ⟨D, _, acc.length, rfl, hDa, by have hsb : scanBound = 4096 := rfl; omega, ?_⟩
          have h' : OkC T X.K bo n0 io H Q (.p (.int (acc.length : Nat))) S2 := h
          exact h' _ H' io3 ((a1.trans a2).trans a3) R3' (.p (.int _))
end
end Ev

/-! Ev10: soundness of the look at expressions. -/
namespace Ev
open PySem PySem.Spec PyProof.Rows L2

/-! ### a block's context -/
section
variable {X : Cx} {C : Cfg} {T : Tb} {n : Nat} {N : List Str} {sc raw : Scope} {W : WX} {c : Bool}
theorem relS_of {scope : Scope} {C0 : Addr} {cl : List (Str × Addr)} {env : Env} : (compEnvC scope cl C0 env).scope = relS scope env.scope := rfl
theorem good_blk (g : Good X C T n N sc raw W true) {scope : Scope} (s : Shared) (H : Hp) (C0 : Addr) (cl : List (Str × Addr)) (fp : List Addr) :
    Good (X.blk s H scope (compEnvC scope cl C0 X.env) fp) C T n N (relS scope sc) scope NoW true := by
  refine ⟨g.hN, g.nd, ?_, fun x h => ?_, g.calm, g.room, g.un, fun u s' h => ?_, fun e s' h => h.elim, g.mod, g.fns, g.xa, fun a d m => absurd m (by rw [g.xa rfl]; exact List.not_mem_nil)⟩
  · rw [relS_of, g.sc]
  · rw [relS_of]
    rcases h with h | h
    · exact ⟨.inl (lookup_relS_keep (sc := X.env.scope) (by decide) h), .inr (lookup_relS_keep (sc := X.env.scope) (by decide) h)⟩
    · refine ⟨.inr (lookup_relS_keep (sc := X.env.scope) (by decide) h), .inl ?_⟩
      show (scope.names.lookup x == some .cell) = true
      rw [h]
      rfl
  · obtain ⟨a, B, sI, pins, σ, H1, cls, d, _, _, _, _, _, _, _, _, w⟩ := h
    exact w.elim
theorem own_of {own : List Nat} {ns : List Str} (h : namesAt N own = some ns) : (ns.zip own).map (·.2) = own := by
  induction own generalizing ns with
  | nil =>
    cases h
    rfl
  | cons i is ih =>
    unfold namesAt at h
    cases e : N[i]? with
    | none => rw [e] at h; cases h
    | some x =>
      rw [e] at h
      dsimp only at h
      cases e2 : namesAt N is with
      | none => rw [e2] at h; cases h
      | some xs =>
        rw [e2] at h
        cases h
        show i :: (xs.zip is).map (·.2) = i :: is
        rw [ih e2]
/-- plain tests -/
def plainT : Expr → Bool
  | .UnaryOp .Not _ _ => false
  | .BoolOp _ _ _ => false
  | .IfExp _ _ _ _ => false
  | .Compare _ _ _ _ => false
  | _ => true
theorem plainT_ok {e : Expr} (h : plainT e = true) (env : Env) (whole : Sem Value) : isTrue e env whole = (do let v ← whole; standAt e.pos; holding [v] (truthy v)) := by
  cases e with
  | UnaryOp op x p => cases op <;> first | rfl | cases h
  | BoolOp _ _ _ => cases h
  | IfExp _ _ _ _ => cases h
  | Compare _ _ _ _ => cases h
  | _ => rfl
theorem pt_plain {e : E} {a : Expr} (h : PE X a (tE C T X.K (callN C n) W e)) (hp : plainT a = true) : PT X a (tT C T X.K (callN C n) W e) := by
  refine PT.mono (pt_truthR h (rTru_ok (T := T)) (plainT_ok hp _)) fun sg H Q ⟨bo, n0, io, S, env, R, e1, h⟩ => ?_
  refine ⟨bo, n0, io, S, env, R, e1, ?_⟩
  cases hx : ev C (callN C n) e env S with
  | bad => rw [hx] at h; exact h
  | ex c as S1 => rw [hx] at h; exact h
  | ok v S1 =>
    rw [hx] at h
    obtain ⟨b, hv, h⟩ := h
    intro y H1 io1 a R1 r1
    exact ⟨bo, n0, io1, S1, v, b, R1, r1, hv, h H1 io1 a R1⟩
/-- a comparison, whichever -/
def cmpLike : Op → Bool
  | .eq | .ne | .lt | .le | .gt | .ge | .isin | .notin | .isnone | .notnone => true
  | _ => false
theorem plain_of {o : Op} {a : Expr} {as : List Expr} (h : opArgs C sc o a = some as) (ho : cmpLike o = false) (hm : ∀ o', o ≠ .mk o') : plainT a = true := by
  cases o with
  | add => obtain ⟨_, _, _, rfl, _⟩ := binA_ok h; rfl
  | sub => obtain ⟨_, _, _, rfl, _⟩ := binA_ok h; rfl
  | mul => obtain ⟨_, _, _, rfl, _⟩ := binA_ok h; rfl
  | fdiv => obtain ⟨_, _, _, rfl, _⟩ := binA_ok h; rfl
  | mod => obtain ⟨_, _, _, rfl, _⟩ := binA_ok h; rfl
  | pow => obtain ⟨_, _, _, rfl, _⟩ := binA_ok h; rfl
  | neg => obtain ⟨_, _, rfl, _⟩ := unA_ok h; rfl
  | ix => obtain ⟨_, _, _, rfl, _⟩ := subA_ok h; rfl
  | sl l u => obtain ⟨_, _, _, _, _, _, _, rfl, _⟩ := slA_ok h; rfl
  | tup => obtain ⟨_, _, rfl⟩ := tupA_ok h; rfl
  | lst => obtain ⟨_, rfl⟩ := lstA_ok h; rfl
  | dnew => obtain ⟨_, rfl, _⟩ := dctA_ok h; rfl
  | mk o => exact absurd rfl (hm o)
  | bi b => obtain ⟨_, _, rfl, _⟩ := biA_ok h; rfl
  | isi t =>
    cases t with
    | bt n => obtain ⟨_, _, _, _, rfl, _⟩ := isbA_ok h; rfl
    | cls n => obtain ⟨_, _, _, _, _, rfl, _⟩ := iscA_ok h; rfl
  | _ => cases ho
theorem test_op {o : Op} (ho : cmpLike o = true) {vs : List Val} {S S1 : Store} {v : Val} (h : prim C o vs S = some (v, S1)) : ∃ b, v = .p (.bool b) := by
  have key : ∀ (z : Option Bool) (d : PyData), bl z = some d → ∃ b, d = .bool b := fun z d h => by
    cases z with
    | none => cases h
    | some b => cases h; exact ⟨b, rfl⟩
  have main : ∀ (ds : List PyData) (d : PyData), primP o ds = some d → ∃ b, d = .bool b := fun ds d h => by
    rcases ds with _ | ⟨x, _ | ⟨y, _ | ⟨z, ds⟩⟩⟩ <;> cases o <;> first
      | (cases ho; done)
      | exact key _ _ h
      | (simp [primP] at h; done)
      | (cases x <;> cases y <;> first
        | (simp [primP] at h; done)
        | exact ⟨_, (Option.some.inj h).symm⟩)
  have main2 : ∀ (S : Store), (match views S vs with
      | some ds => (primP o ds).map fun d => (Val.p d, S)
      | none => none) = some (v, S1) → ∃ b, v = .p (.bool b) := fun S h => by
    cases hv : views S vs with
    | none => rw [hv] at h; cases h
    | some ds =>
      rw [hv] at h
      dsimp only at h
      cases hp : primP o ds with
      | none => rw [hp] at h; cases h
      | some d =>
        rw [hp] at h
        cases h
        obtain ⟨b, rfl⟩ := main ds d hp
        exact ⟨b, rfl⟩
  cases o <;> first
    | (cases ho; done)
    | exact main2 S h
    | (unfold prim at h
       dsimp only at h
       split at h
       · rename_i x
         cases hn : nonV x with
         | none => rw [hn] at h; cases h
         | some b => rw [hn] at h; cases h; exact ⟨_, rfl⟩
       · cases h)
end

/-! ### tests -/
def OpT (o : Op) : Prop := ∀ (X : Cx) (C : Cfg) (T : Tb) (n : Nat) (N : List Str) (sc raw : Scope) (W : WX) (c : Bool), Good X C T n N sc raw W c → (c || coldOp o) = true →
  ∀ (e : Expr) (as : List Expr), opArgs C sc o e = some as → ∀ (ts : List TE), Paired (PE X) as ts → as.all (fun e => !isStar e) = true →
    PT X e (fun sg H Q => chainT ts sg H fun xs H1 => rP C T X.K o xs H1 fun x H2 => ∃ k, x = .bl k ∧ Q k H2)
section
variable {X : Cx} {C : Cfg} {T : Tb} {n : Nat} {N : List Str} {sc raw : Scope} {W : WX} {c : Bool}
theorem t_op (g : Good X C T n N sc raw W c) {o : Op} {es : List E} {a : Expr} (AO : OpT o) (ho : cmpLike o = true) (hc : (c || coldOp o) = true) {as : List Expr} (h : opArgs C sc o a = some as) (hp : Paired (PE X) as (es.map (tE C T X.K (callN C n) W))) (hs : as.all (fun e => !isStar e) = true) :
    PT X a (tT C T X.K (callN C n) W (.op o es)) :=
  PT.mono (AO X C T n N sc raw W c g hc a as h _ hp hs) fun sg H Q h => by
    obtain ⟨bo, n0, io, S, env, R, e, h⟩ := test_of (fun env S v S1 hx => by
      unfold ev at hx
      cases h1 : evL C (callN C n) es env S with
      | bad => rw [h1] at hx; cases hx
      | ex c as S2 => rw [h1] at hx; cases hx
      | ok vs S2 =>
        rw [h1] at hx
        dsimp only at hx
        cases h2 : prim C o vs S2 with
        | none => rw [h2] at hx; cases hx
        | some z =>
          obtain ⟨w, S3⟩ := z
          rw [h2] at hx
          cases hx
          exact test_op ho h2) h
    exact op_of R e h
theorem t_and (g : Good X C T n N sc raw W c) {a b : E} {x y : Expr} {r : List Expr} {p : Pos} (ha : PT X x (tT C T X.K (callN C n) W a)) (hb : PW X (.BoolOp .And (y :: r) p) (tT C T X.K (callN C n) W b)) :
    PT X (.BoolOp .And (x :: y :: r) p) (tT C T X.K (callN C n) W (.and a b)) :=
  PT.mono (pw_and ha hb).pt fun sg H Q ⟨bo, n0, io, S, env, R, e, h⟩ => by
    refine bind_ofT2 (k := fun r => match r with
      | .ok v S1 => match truV S1 v with
        | some true => ev C (callN C n) b env S1
        | some false => .ok v S1
        | none => .bad
      | r => r) R e (fun _ _ _ => rfl) rfl (Q0 := Q) (by unfold ev at h; exact h) (fun v S1 ht => by simp only [ht]) fun v S1 k H1 io1 _ ht ax R1 e1 q => ?_
    dsimp only at q
    rw [ht] at q
    cases k with
    | true => exact ⟨bo, n0, io1, S1, env, R1, e1, q⟩
    | false =>
      obtain ⟨b', hb', q⟩ := q
      rw [ht] at hb'
      cases hb'
      exact q H1 io1 Ext.refl R1
theorem t_or (g : Good X C T n N sc raw W c) {a b : E} {x y : Expr} {r : List Expr} {p : Pos} (ha : PT X x (tT C T X.K (callN C n) W a)) (hb : PW X (.BoolOp .Or (y :: r) p) (tT C T X.K (callN C n) W b)) :
    PT X (.BoolOp .Or (x :: y :: r) p) (tT C T X.K (callN C n) W (.or a b)) :=
  PT.mono (pw_or ha hb).pt fun sg H Q ⟨bo, n0, io, S, env, R, e, h⟩ => by
    refine bind_ofT2 (k := fun r => match r with
      | .ok v S1 => match truV S1 v with
        | some false => ev C (callN C n) b env S1
        | some true => .ok v S1
        | none => .bad
      | r => r) R e (fun _ _ _ => rfl) rfl (Q0 := Q) (by unfold ev at h; exact h) (fun v S1 ht => by simp only [ht]) fun v S1 k H1 io1 _ ht ax R1 e1 q => ?_
    dsimp only at q
    rw [ht] at q
    cases k with
    | false => exact ⟨bo, n0, io1, S1, env, R1, e1, q⟩
    | true =>
      obtain ⟨b', hb', q⟩ := q
      rw [ht] at hb'
      cases hb'
      exact q H1 io1 Ext.refl R1
theorem t_not (g : Good X C T n N sc raw W c) {a : E} {x : Expr} {p : Pos} (ha : PT X x (tT C T X.K (callN C n) W a)) : PT X (.UnaryOp .Not x p) (tT C T X.K (callN C n) W (.not a)) :=
  PT.mono (pt_not ha) fun sg H Q ⟨bo, n0, io, S, env, R, e, h⟩ => by
    refine bind_ofT2 (k := fun r => match r with
      | .ok v S1 => match truV S1 v with
        | some b => .ok (.p (.bool !b)) S1
        | none => .bad
      | r => r) R e (fun _ _ _ => rfl) rfl (Q0 := Q) (by unfold ev at h; exact h) (fun v S1 ht => by simp only [ht]) fun v S1 k H1 io1 _ ht ax R1 e1 q => ?_
    dsimp only at q
    rw [ht] at q
    obtain ⟨b', hb', q⟩ := q
    cases hb'
    exact q H1 io1 Ext.refl R1
theorem pt_ifExp {a b d : Expr} {p : Pos} {ta tb td : TT} (ha : PT X a ta) (hb : PT X b tb) (hd : PT X d td) : PT X (.IfExp a b d p) (fun sg H Q => ta sg H fun k H1 => if k = true then tb sg H1 Q else td sg H1 Q) := by
  refine ⟨fun pins s sg H Q I h => ?_⟩
  refine isTrue_IfExp (thn (ha.run pins s sg H _ I h) fun k s1 ⟨H1, I1, q1⟩ => ?_)
  cases k with
  | true => exact hb.run pins s1 sg H1 Q I1 q1
  | false => exact hd.run pins s1 sg H1 Q I1 q1
theorem t_ite (g : Good X C T n N sc raw W c) {a b d : E} {x y z : Expr} {p : Pos} (ha : PT X x (tT C T X.K (callN C n) W a)) (hb : PT X y (tT C T X.K (callN C n) W b)) (hd : PT X z (tT C T X.K (callN C n) W d)) :
    PT X (.IfExp x y z p) (tT C T X.K (callN C n) W (.ite a b d)) :=
  PT.mono (pt_ifExp ha hb hd) fun sg H Q ⟨bo, n0, io, S, env, R, e, h⟩ => by
    refine bind_ofT2 (k := fun r => match r with
      | .ok v S1 => match truV S1 v with
        | some true => ev C (callN C n) b env S1
        | some false => ev C (callN C n) d env S1
        | none => .bad
      | r => r) R e (fun _ _ _ => rfl) rfl (Q0 := Q) (by unfold ev at h; exact h) (fun v S1 ht => by simp only [ht]) fun v S1 k H1 io1 _ ht ax R1 e1 q => ?_
    dsimp only at q
    rw [ht] at q
    cases k with
    | true => exact ⟨bo, n0, io1, S1, env, R1, e1, q⟩
    | false => exact ⟨bo, n0, io1, S1, env, R1, e1, q⟩
theorem cmpLike_of {o : Op} {p : CmpOp} (h : cmpOf o = some p) : cmpLike o = true := by
  cases o <;> first
    | rfl
    | cases h
theorem t_chain (g : Good X C T n N sc raw W c) {o1 o2 : Op} {p q : CmpOp} {a b d : E} {x y z : Expr} {ps : Pos} (A1 : CmpOk o1) (A2 : CmpOk o2) (h1 : cmpOf o1 = some p) (h2 : cmpOf o2 = some q) (hc1 : (c || coldOp o1) = true) (hc2 : (c || coldOp o2) = true)
    (ha : PE X x (tE C T X.K (callN C n) W a)) (hb : PE X y (tE C T X.K (callN C n) W b)) (hd : PE X z (tE C T X.K (callN C n) W d)) : PT X (.Compare x [p, q] [y, z] ps) (tT C T X.K (callN C n) W (.chain o1 o2 a b d)) :=
  PT.mono (pt_chain (A1 X C T n N sc raw W c g hc1 p (cmpAll_of h1)) (A2 X C T n N sc raw W c g hc2 q (cmpAll_of h2)) ha hb hd (lastMarks_ok h1 h2 _ _)) fun sg H Q h => chain_go (test_of (fun env S v S1 hx => by
    unfold ev at hx
    split at hx
    · split at hx
      · split at hx
        · split at hx
          · split at hx
            · rename_i h5
              cases hx
              exact test_op (cmpLike_of h2) h5
            · cases hx
          · rename_i hne
            exact absurd hx (hne _ _)
        · cases hx
          exact ⟨_, rfl⟩
        · cases hx
      · rename_i hne
        exact absurd hx (hne _ _)
    · rename_i hne
      exact absurd hx (hne _ _)) h)
end
end Ev

/-! Ev11: sound. -/
namespace Ev
open PySem PySem.Spec PyProof.Rows L2

theorem opArgs_mk {C : Cfg} {sc : Scope} {o : Op} {a : Expr} {as : List Expr} (h : opArgs C sc (.mk o) a = some as) : o = .lst ∧ lstA a = some as := by
  cases o <;> first
    | exact ⟨rfl, h⟩
    | cases h
theorem plain_of2 {C : Cfg} {sc : Scope} {o : Op} {a : Expr} {as : List Expr} (h : opArgs C sc o a = some as) (ho : cmpLike o = false) : plainT a = true := by
  cases o with
  | mk o =>
    obtain ⟨rfl, h1⟩ := opArgs_mk h
    obtain ⟨_, rfl⟩ := lstA_ok h1
    rfl
  | _ => exact plain_of h ho (fun _ z => by cases z)
theorem iter_fold {C : Cfg} {sc : Scope} {tg it : Expr} {ik : IK} {as : List Expr} (h : iterArgs C sc tg ik it = some as) (env : Env) : ∀ x, foldedSetIterable it env x = pure x := by
  intro x
  cases it <;> first
    | rfl
    | (cases ik <;> simp [iterArgs] at h; done)
/-- the receiver is of a type that the method is known of -/
def tyM (m : Me) (K : PySem.W.Frag) (x : V) (H : Hp) : Prop := match m with
  | .append | .pop | .popAt => tyV K "list" x H
  | .join | .split | .upper | .replace => tyV K "str" x H
  | .index | .count => tyV K "list" x H ∨ tyV K "str" x H
/-- a method by values -/
def rM (T : Tb) (K : PySem.W.Frag) (cell : Bool) (m : Me) (xs : List V) (H : Hp) (Q : VK) : Prop :=
  ∃ bo n0 io S vs v S1, Rep K bo n0 io S H ∧ DenVs T K bo io H xs vs ∧ primM m vs S = some (v, S1) ∧ (if cell then ∃ ds, v = .p (.list ds) ∧ OkC T K bo n0 io H Q (.loc S1.length) (S1 ++ [.lst ds]) else OkC T K bo n0 io H Q v S1)
def MeOk (m : Me) : Prop := ∀ (cell : Bool), meCell cell m = true → ∀ (X : Cx) (C : Cfg) (T : Tb) (n : Nat) (N : List Str) (sc raw : Scope) (W : WX), Good X C T n N sc raw W true → ∀ (o : Expr) (ap : Pos) (as : List Expr) (cp : Pos), as.length = meArity m → noSup o = true → (ap.endLine == cp.line) = true →
  ∀ (to : TE) (ts : List TE), PE X o to → Paired (PE X) as ts → as.all (fun e => !isStar e) = true →
    PE X (.Call (.Attribute o (meName m) ap) as [] cp) (fun sg H Q => to sg H fun x H1 => tyM m X.K x H1 ∧ chainT ts sg H1 fun xs H2 => rM T X.K cell m (x :: xs) H2 Q)
structure Facts : Prop where
  me : ∀ m, MeOk m
  op : ∀ o, OpOk o
  tst : ∀ o, cmpLike o = true → OpT o
  cmp : ∀ o, CmpOk o
  it : ∀ ik, ItOk ik
section
variable {C : Cfg} {N : List Str} {c : Bool} {sc : Scope} {a : Expr} {p q u : E}
theorem chk_and (h : chk C N c (.and p q) sc a = true) : ∃ x y r pos, a = .BoolOp .And (x :: y :: r) pos ∧ chk C N c p sc x = true ∧ ((r = [] ∧ chk C N c q sc y = true) ∨ ∃ z r', r = z :: r' ∧ chk C N c q sc (.BoolOp .And (y :: z :: r') pos) = true) := by
  cases a with
  | BoolOp op vs pos =>
    cases op with
    | Or => simp [chk] at h
    | And =>
      rcases vs with _ | ⟨x, _ | ⟨y, r⟩⟩
      · simp [chk] at h
      · simp [chk] at h
      · simp only [chk, Bool.and_eq_true] at h
        refine ⟨x, y, r, pos, rfl, h.1, ?_⟩
        cases r with
        | nil => exact .inl ⟨rfl, h.2⟩
        | cons z r => exact .inr ⟨z, r, rfl, h.2⟩
  | _ => simp [chk] at h
theorem chk_or (h : chk C N c (.or p q) sc a = true) : ∃ x y r pos, a = .BoolOp .Or (x :: y :: r) pos ∧ chk C N c p sc x = true ∧ ((r = [] ∧ chk C N c q sc y = true) ∨ ∃ z r', r = z :: r' ∧ chk C N c q sc (.BoolOp .Or (y :: z :: r') pos) = true) := by
  cases a with
  | BoolOp op vs pos =>
    cases op with
    | And => simp [chk] at h
    | Or =>
      rcases vs with _ | ⟨x, _ | ⟨y, r⟩⟩
      · simp [chk] at h
      · simp [chk] at h
      · simp only [chk, Bool.and_eq_true] at h
        refine ⟨x, y, r, pos, rfl, h.1, ?_⟩
        cases r with
        | nil => exact .inl ⟨rfl, h.2⟩
        | cons z r => exact .inr ⟨z, r, rfl, h.2⟩
  | _ => simp [chk] at h
theorem chk_not (h : chk C N c (.not p) sc a = true) : ∃ x pos, a = .UnaryOp .Not x pos ∧ chk C N c p sc x = true := by
  cases a with
  | UnaryOp op x pos =>
    cases op with
    | Not => exact ⟨x, pos, rfl, by simpa [chk] using h⟩
    | _ => simp [chk] at h
  | _ => simp [chk] at h
theorem chk_ite (h : chk C N c (.ite p q u) sc a = true) : ∃ x y z pos, a = .IfExp x y z pos ∧ chk C N c p sc x = true ∧ chk C N c q sc y = true ∧ chk C N c u sc z = true := by
  cases a with
  | IfExp x y z pos =>
    simp only [chk, Bool.and_eq_true] at h
    exact ⟨x, y, z, pos, rfl, h.1.1, h.1.2, h.2⟩
  | _ => simp [chk] at h
theorem chk_chain {o1 o2 : Op} (h : chk C N c (.chain o1 o2 p q u) sc a = true) : ∃ x y z o o' pos, a = .Compare x [o, o'] [y, z] pos ∧ cmpOf o1 = some o ∧ cmpOf o2 = some o' ∧ (c || coldOp o1) = true ∧ (c || coldOp o2) = true ∧ chk C N c p sc x = true ∧ chk C N c q sc y = true ∧ chk C N c u sc z = true := by
  cases a with
  | Compare x os ys pos =>
    rcases os with _ | ⟨o, _ | ⟨o', _ | ⟨o3, os⟩⟩⟩ <;> rcases ys with _ | ⟨y, _ | ⟨z, _ | ⟨y3, ys⟩⟩⟩ <;> first
      | (simp [chk] at h; done)
      | skip
    simp only [chk, Bool.and_eq_true, beq_iff_eq] at h
    exact ⟨x, y, z, o, o', pos, rfl, h.1.1.1.1.1.1, h.1.1.1.1.1.2, h.1.1.1.1.2, h.1.1.1.2, h.1.1.2, h.1.2, h.2⟩
  | _ => simp [chk] at h
theorem chk_call {f : Nat} {es : List E} (h : chk C N c (.call f es) sc a = true) : ∃ x p as q, a = .Call (.Name x p) as [] q ∧ c = true ∧ glB sc x = true ∧ (C.defs[f]?.map (·.name)) = some x ∧ chkL C N c es sc as = true := by
  cases a with
  | Call f as ks pos =>
    cases ks with
    | cons _ _ => cases f <;> simp [chk] at h
    | nil =>
      cases f with
      | Name x p =>
        simp only [chk, Bool.and_eq_true, beq_iff_eq] at h
        exact ⟨x, p, as, pos, rfl, h.1.1.1, h.1.1.2, h.1.2, h.2⟩
      | _ => simp [chk] at h
  | _ => simp [chk] at h
theorem chk_callv {i : Nat} {es : List E} (h : chk C N c (.callv i es) sc a = true) : ∃ x p as q, a = .Call (.Name x p) as [] q ∧ c = true ∧ N[i]? = some x ∧ visB sc x = true ∧ (x == ("__debug__" : Str)) = false ∧ (x == ("__classdict__" : Str)) = false ∧ as.isEmpty = false ∧ chkL C N c es sc as = true := by
  cases a with
  | Call f as ks pos =>
    cases ks with
    | cons _ _ => cases f <;> simp [chk] at h
    | nil =>
      cases f with
      | Name x p =>
        simp only [chk, Bool.and_eq_true, beq_iff_eq, Bool.not_eq_true'] at h
        exact ⟨x, p, as, pos, rfl, h.1.1.1.1.1.1, h.1.1.1.1.1.2, h.1.1.1.1.2, h.1.1.1.2, h.1.1.2, h.1.2, h.2⟩
      | _ => simp [chk] at h
  | _ => simp [chk] at h
theorem chk_meth {cell : Bool} {m : Me} {es : List E} (h : chk C N c (.meth cell m p es) sc a = true) : ∃ o ap as cp, a = .Call (.Attribute o (meName m) ap) as [] cp ∧ c = true ∧ meCell cell m = true ∧ as.length = meArity m ∧ noSup o = true ∧ (ap.endLine == cp.line) = true ∧ chk C N c p sc o = true ∧ chkL C N c es sc as = true := by
  cases a with
  | Call f as ks pos =>
    cases ks with
    | cons _ _ => cases f <;> simp [chk] at h
    | nil =>
      cases f with
      | Attribute o name ap =>
        simp only [chk, Bool.and_eq_true] at h
        obtain ⟨⟨⟨⟨⟨⟨⟨h1, h0⟩, h2⟩, h3⟩, h4⟩, h5⟩, h6⟩, h7⟩ := h
        rw [show name = meName m from eq_of_beq h2]
        exact ⟨o, ap, as, pos, rfl, h1, h0, eq_of_beq h3, h4, h5, h6, h7⟩
      | _ => simp [chk] at h
  | _ => simp [chk] at h
theorem chk_comp {cell : Bool} {own : List Nat} {elt : E} {tg : Tg} {ik : IK} {its : List E} {cond : Option E} (h : chk C N c (.comp cell own elt tg ik its cond) sc a = true) :
    ∃ x t it ifs scope pos ns as, a = .ListComp x [⟨t, it, ifs, 0⟩] scope pos ∧ c = true ∧ namesAt N own = some ns ∧ blkC N sc scope (ns.zip own) = true ∧ tgIn own tg = true ∧ chkTg N scope tg t = true ∧ iterArgs C sc t ik it = some as ∧ chkL C N c its sc as = true ∧ chk C N c elt (relS scope sc) x = true ∧ chkC C N c cond (relS scope sc) ifs = true := by
  cases a with
  | ListComp x gs scope pos =>
    rcases gs with _ | ⟨⟨t, it, ifs, k⟩, _ | ⟨g2, gs⟩⟩
    · simp [chk] at h
    · by_cases hk : k = 0
      · subst hk
        simp only [chk, Bool.and_eq_true] at h
        obtain ⟨⟨⟨⟨⟨⟨h1, h2⟩, h3⟩, h4⟩, h5⟩, h6⟩, h7⟩ := h
        cases e1 : namesAt N own with
        | none => rw [e1] at h2; cases h2
        | some ns =>
          rw [e1] at h2
          cases e2 : iterArgs C sc t ik it with
          | none => rw [e2] at h5; cases h5
          | some as =>
            rw [e2] at h5
            exact ⟨x, t, it, ifs, scope, pos, ns, as, rfl, h1, rfl, h2, h3, h4, e2, h5, h6, h7⟩
      · simp [chk, hk] at h
    · simp [chk] at h
  | _ => simp [chk] at h
theorem chk_scomp {own : List Nat} {elt : E} {tg : Tg} {ik : IK} {its : List E} {cond : Option E} (h : chk C N c (.scomp own elt tg ik its cond) sc a = true) :
    ∃ p q x t it ifs scope pos ns as, a = .Call (.Name ("len" : Str) p) [.SetComp x [⟨t, it, ifs, 0⟩] scope pos] [] q ∧ c = true ∧ glB sc ("len" : Str) = true ∧ ("len" : Str) ∈ C.free ∧ namesAt N own = some ns ∧ blkC N sc scope (ns.zip own) = true ∧ tgIn own tg = true ∧ chkTg N scope tg t = true ∧ iterArgs C sc t ik it = some as ∧ chkL C N c its sc as = true ∧ chk C N c elt (relS scope sc) x = true ∧ chkC C N c cond (relS scope sc) ifs = true := by
  cases a with
  | Call f as kw q =>
    cases f with
    | Name y p =>
      rcases as with _ | ⟨e, _ | ⟨e2, as⟩⟩
      · simp [chk] at h
      · cases e with
        | SetComp x gs scope pos =>
          cases kw with
          | cons _ _ => rcases gs with _ | ⟨⟨t, it, ifs, k⟩, _ | ⟨g2, gs⟩⟩ <;> simp [chk] at h
          | nil =>
            rcases gs with _ | ⟨⟨t, it, ifs, k⟩, _ | ⟨g2, gs⟩⟩
            · simp [chk] at h
            · by_cases hk : k = 0
              · subst hk
                simp only [chk, Bool.and_eq_true] at h
                obtain ⟨⟨⟨⟨⟨⟨⟨⟨⟨h1, hy⟩, hg⟩, hf⟩, h2⟩, h3⟩, h4⟩, h5⟩, h6⟩, h7⟩ := h
                have ey := eq_of_beq hy
                subst ey
                cases e1 : namesAt N own with
                | none => rw [e1] at h2; cases h2
                | some ns =>
                  rw [e1] at h2
                  cases e2 : iterArgs C sc t ik it with
                  | none => rw [e2] at h5; cases h5
                  | some as =>
                    rw [e2] at h5
                    exact ⟨p, q, x, t, it, ifs, scope, pos, ns, as, rfl, h1, hg, by simpa using hf, rfl, h2, h3, h4, e2, h5, h6, h7⟩
              · simp [chk, hk] at h
            · simp [chk] at h
        | _ => simp [chk] at h
      · simp [chk] at h
    | _ => simp [chk] at h
  | _ => simp [chk] at h

end
theorem recv_ty {T : Tb} {K : PySem.W.Frag} {bo : Addr → Prop} {n0 : Nat} {io : List Addr} {S : Store} {H : Hp} {x : V} {v : Val} {m : Me} (R : Rep K bo n0 io S H) (r : DenV T K bo io H x v) (h : recvOk S m v = true) : tyM m K x H := by
  have hs : ∀ y, v = .p (.str y) → tyV K "str" x H := fun y e => by
    subst e
    cases r with
    | p r =>
      cases r
      exact rfl
  have hl : ∀ ds, v = .p (.list ds) → tyV K "list" x H := fun ds e => by
    subst e
    cases r with
    | p r =>
      cases r with
      | lst h1 h2 => exact .inl ⟨rfl, _, h1.sq⟩
  have hc : ∀ i, v = .loc i → tyV K "list" x H := fun i e => by
    subst e
    cases r with
    | loc ha =>
      obtain ⟨c, hc, ok⟩ := R.cell ha
      cases c with
      | lst ds =>
        obtain ⟨vs, h1, _⟩ := ok
        exact .inl ⟨rfl, vs, SqL.of h1⟩
      | dic _ => exact ok.elim
  unfold recvOk at h
  split at h
  · split at h <;> first
      | exact .inr (hs _ rfl)
      | exact hs _ rfl
      | cases h
  · split at h <;> first
      | exact .inl (hl _ rfl)
      | cases h
  · split at h <;> first
      | exact hc _ rfl
      | exact .inl (hc _ rfl)
      | cases h
  · cases h
theorem s_meth {X : Cx} {C : Cfg} {T : Tb} {n : Nat} {N : List Str} {sc raw : Scope} {W : WX} (g : Good X C T n N sc raw W true) {cell : Bool} {m : Me} (AM : MeOk m) (hmc : meCell cell m = true) {e0 : E} {es : List E} {o : Expr} {as : List Expr} {ap cp : Pos} (ha : as.length = meArity m) (hn : noSup o = true) (hl : (ap.endLine == cp.line) = true)
    (ho : PE X o (tE C T X.K (callN C n) W e0)) (hp : Paired (PE X) as (es.map (tE C T X.K (callN C n) W))) (hs : as.all (fun e => !isStar e) = true) : PE X (.Call (.Attribute o (meName m) ap) as [] cp) (tE C T X.K (callN C n) W (.meth cell m e0 es)) :=
  PE.mono (AM cell hmc X C T n N sc raw W g o ap as cp ha hn hl _ _ ho hp hs) fun sg H Q ⟨bo, n0, io, S, env, R, e, h⟩ => by
    refine bind_of (k := fun r => match r with
      | .ok v S1 => if recvOk S1 m v then match evL C (callN C n) es env S1 with
        | .ok vs S2 => match primM m (v :: vs) S2 with
          | some (w, S3) => if cell then (match w with
            | .p (.list ds) => .ok (.loc S3.length) (S3 ++ [.lst ds])
            | _ => .bad) else .ok w S3
          | none => .bad
        | .ex c as S2 => .ex c as S2
        | .bad => .bad
        else .bad
      | r => r) R e (fun _ _ _ => rfl) rfl (Q0 := Q) (by unfold ev at h; exact h) fun v S1 x H1 io1 _ a1 R1 e1 r1 q => ?_
    dsimp only at q
    by_cases hr : recvOk S1 m v = true
    · rw [if_pos hr] at q
      refine ⟨recv_ty R1 r1 hr, chain_of es R1 e1 ?_⟩
      cases hx : evL C (callN C n) es env S1 with
      | bad => rw [hx] at q; exact q
      | ex c as S2 => rw [hx] at q; exact q
      | ok vs S2 =>
        rw [hx] at q
        dsimp only at q
        intro xs H2 io2 a2 R2 r2
        cases hp : primM m (v :: vs) S2 with
        | none => rw [hp] at q; exact q.elim
        | some z =>
          obtain ⟨w, S3⟩ := z
          rw [hp] at q
          dsimp only at q
          refine ⟨bo, n0, io2, S2, v :: vs, w, S3, R2, .cons (a2.denV R1.cl r1) r2, hp, ?_⟩
          cases cell with
          | false => exact fun y H3 io3 a3 => q y H3 io3 (a2.trans a3)
          | true =>
            rw [if_pos rfl] at q
            rw [if_pos rfl]
            split at q
            · exact ⟨_, rfl, fun y H3 io3 a3 => q y H3 io3 (a2.trans a3)⟩
            · exact q.elim
    · rw [if_neg hr] at q
      exact q.elim
/-- the readings of an f-string's parts -/
def tsF (C : Cfg) (T : Tb) (K : PySem.W.Frag) (n : Nat) (W : WX) : List E → List Bool → List TE
  | e :: es, true :: fs => tFmt (tE C T K (callN C n) W e) :: tsF C T K n W es fs
  | e :: es, false :: fs => tE C T K (callN C n) W e :: tsF C T K n W es fs
  | _, _ => []
theorem fst_go {C : Cfg} {T : Tb} {K : PySem.W.Frag} {n : Nat} {W : WX} {bo : Addr → Prop} {n0 : Nat} {sg : L2.St} {env : Slots} {Q : VK} : ∀ (es : List E) (fs : List Bool) (acc : Str) {io : List Addr} {S : Store} {H : Hp}, Rep K bo n0 io S H → EnvOk T K bo io H sg env → RC T K bo n0 io H (WE W sg) Q (evF C (callN C n) es fs env S acc) →
    tJs (tsF C T K n W es fs) acc sg H fun out H1 => Q (.str out) H1
  | [], [], acc, io, S, H, R, e, h => by
    unfold evF at h
    exact h (.str acc) H io Ext.refl R (.p (.str acc))
  | x :: xs, b :: fs, acc, io, S, H, R, e, h => by
    unfold evF at h
    have bl := big_line
    have part : ∀ v S1 y H1 io1, ev C (callN C n) x env S = .ok v S1 → Ext io H io1 H1 → Rep K bo n0 io1 S1 H1 → DenV T K bo io1 H1 y v → ∃ z, fmtP b v = some z ∧ (acc ++ z).length ≤ sizeLine ∧ tJs (tsF C T K n W xs fs) (acc ++ z) sg H1 fun out H1 => Q (.str out) H1 := fun v S1 y H1 io1 hx a R1 r1 => by
      rw [hx] at h
      dsimp only at h
      cases hf : fmtP b v with
      | none => rw [hf] at h; exact h.elim
      | some z =>
        rw [hf] at h
        dsimp only at h
        by_cases hz : (acc ++ z).length ≤ big
        · rw [if_pos hz] at h
          exact ⟨z, rfl, Nat.le_trans hz bl, fst_go xs fs (acc ++ z) R1 (e.ext a R.cl) (h.ext a)⟩
        · rw [if_neg hz] at h
          exact h.elim
    have start : ∀ {Q1 : VK}, (∀ v S1 y H1 io1, ev C (callN C n) x env S = .ok v S1 → Ext io H io1 H1 → Rep K bo n0 io1 S1 H1 → DenV T K bo io1 H1 y v → Q1 y H1) → tE C T K (callN C n) W x sg H Q1 := fun {Q1} q => by
      refine ⟨bo, n0, io, S, env, R, e, ?_⟩
      cases hx : ev C (callN C n) x env S with
      | bad => rw [hx] at h; exact h
      | ex c as S1 => rw [hx] at h; exact h
      | ok v S1 => exact fun y H1 io1 a R1 r1 => q v S1 y H1 io1 hx a R1 r1
    cases b with
    | true =>
      refine start fun v S1 y H1 io1 hx a R1 r1 => ?_
      obtain ⟨z, hf, hz, q⟩ := part v S1 y H1 io1 hx a R1 r1
      unfold fmtP at hf
      split at hf
      · split at hf
        · rename_i hb
          cases hf
          cases r1 with
          | p r1 =>
            cases r1
            exact .inl ⟨_, rfl, Nat.le_trans hb bl, _, rfl, hz, q⟩
        · cases hf
      · split at hf
        · rename_i hb
          cases hf
          cases r1 with
          | p r1 =>
            cases r1
            exact .inr ⟨_, rfl, hb.2, _, rfl, hz, q⟩
        · cases hf
      · cases hf
    | false =>
      refine start fun v S1 y H1 io1 hx a R1 r1 => ?_
      obtain ⟨z, hf, hz, q⟩ := part v S1 y H1 io1 hx a R1 r1
      unfold fmtP at hf
      split at hf
      · split at hf
        · rename_i hb
          cases hf
          cases r1 with
          | p r1 =>
            cases r1
            exact ⟨_, rfl, hz, q⟩
        · cases hf
      · split at hf
        · rename_i hb
          cases hb.1
        · cases hf
      · cases hf
  | [], _ :: _, _, _, _, _, _, _, h => by
    unfold evF at h
    exact h.elim
  | _ :: _, [], _, _, _, _, _, _, h => by
    unfold evF at h
    exact h.elim
mutual
theorem sound (A : Facts) : ∀ (e : E) {X : Cx} {C : Cfg} {T : Tb} {n : Nat} {N : List Str} {sc raw : Scope} {W : WX} {c : Bool} {a : Expr}, Good X C T n N sc raw W c → chk C N c e sc a = true → PE X a (tE C T X.K (callN C n) W e) ∧ PT X a (tT C T X.K (callN C n) W e)
  | .var i, X, C, T, n, N, sc, raw, W, c, a, g, h => by
    have h1 := s_var g h
    refine ⟨h1, pt_plain h1 ?_⟩
    cases a <;> first | rfl | (simp [chk] at h; done)
  | .lit d, X, C, T, n, N, sc, raw, W, c, a, g, h => by
    have h1 : PE X a (tE C T X.K (callN C n) W (.lit d)) := s_lit h
    refine ⟨h1, pt_plain h1 ?_⟩
    cases a <;> first | rfl | (simp [chk] at h; done)
  | .gcon x d, X, C, T, n, N, sc, raw, W, c, a, g, h => by
    have h1 := s_gcon g h
    refine ⟨h1, pt_plain h1 ?_⟩
    cases a <;> first | rfl | (simp [chk] at h; done)
  | .gfn f, X, C, T, n, N, sc, raw, W, c, a, g, h => by
    have h1 := s_gfn g h
    refine ⟨h1, pt_plain h1 ?_⟩
    cases a <;> first | rfl | (simp [chk] at h; done)
  | .op o es, X, C, T, n, N, sc, raw, W, c, a, g, h => by
    simp only [chk, Bool.and_eq_true] at h
    obtain ⟨hc, h⟩ := h
    cases ho : opArgs C sc o a with
    | none => rw [ho] at h; cases h
    | some as =>
      rw [ho] at h
      obtain ⟨hp, hs⟩ := soundL A es g h
      have h1 := s_op g (A.op o) hc ho hp hs
      refine ⟨h1, ?_⟩
      cases hk : cmpLike o with
      | true => exact t_op g (A.tst o hk) hk hc ho hp hs
      | false => exact pt_plain h1 (plain_of2 ho hk)
  | .and p q, X, C, T, n, N, sc, raw, W, c, a, g, h => by
    obtain ⟨x, y, r, pos, rfl, h1, h2⟩ := chk_and h
    obtain ⟨p1, p2⟩ := sound A p g h1
    rcases h2 with ⟨rfl, h2⟩ | ⟨z, r', rfl, h2⟩
    · obtain ⟨q1, q2⟩ := sound A q g h2
      exact ⟨s_and g p1 (pe_one q1), t_and g p2 (pw_and1 q2)⟩
    · obtain ⟨q1, q2⟩ := sound A q g h2
      exact ⟨s_and g p1 q1, t_and g p2 ⟨fun _ => q2.run⟩⟩
  | .or p q, X, C, T, n, N, sc, raw, W, c, a, g, h => by
    obtain ⟨x, y, r, pos, rfl, h1, h2⟩ := chk_or h
    obtain ⟨p1, p2⟩ := sound A p g h1
    rcases h2 with ⟨rfl, h2⟩ | ⟨z, r', rfl, h2⟩
    · obtain ⟨q1, q2⟩ := sound A q g h2
      exact ⟨s_or g p1 (pe_one q1), t_or g p2 (pw_or1 q2)⟩
    · obtain ⟨q1, q2⟩ := sound A q g h2
      exact ⟨s_or g p1 q1, t_or g p2 ⟨fun _ => q2.run⟩⟩
  | .not p, X, C, T, n, N, sc, raw, W, c, a, g, h => by
    obtain ⟨x, pos, rfl, h1⟩ := chk_not h
    obtain ⟨p1, p2⟩ := sound A p g h1
    exact ⟨s_not g p1, t_not g p2⟩
  | .ite p q u, X, C, T, n, N, sc, raw, W, c, a, g, h => by
    obtain ⟨x, y, z, pos, rfl, h1, h2, h3⟩ := chk_ite h
    obtain ⟨p1, p2⟩ := sound A p g h1
    obtain ⟨q1, q2⟩ := sound A q g h2
    obtain ⟨u1, u2⟩ := sound A u g h3
    exact ⟨s_ite g p2 q1 u1, t_ite g p2 q2 u2⟩
  | .chain o1 o2 p q u, X, C, T, n, N, sc, raw, W, c, a, g, h => by
    obtain ⟨x, y, z, o, o', pos, rfl, e1, e2, c1, c2, h1, h2, h3⟩ := chk_chain h
    obtain ⟨p1, _⟩ := sound A p g h1
    obtain ⟨q1, _⟩ := sound A q g h2
    obtain ⟨u1, _⟩ := sound A u g h3
    exact ⟨s_chain g (A.cmp o1) (A.cmp o2) e1 e2 c1 c2 p1 q1 u1, t_chain g (A.cmp o1) (A.cmp o2) e1 e2 c1 c2 p1 q1 u1⟩
  | .call f es, X, C, T, n, N, sc, raw, W, c, a, g, h => by
    obtain ⟨x, p, as, q, rfl, rfl, h1, h2, h3⟩ := chk_call h
    obtain ⟨hp, hs⟩ := soundL A es g h3
    have h1 := s_call g h1 h2 hp hs (p := p) (q := q)
    exact ⟨h1, pt_plain h1 rfl⟩
  | .meth cell m p es, X, C, T, n, N, sc, raw, W, c, a, g, h => by
    obtain ⟨o, ap, as, cp, rfl, rfl, h0, h1, h2, h3, h4, h5⟩ := chk_meth h
    obtain ⟨hp, hs⟩ := soundL A es g h5
    have z := s_meth g (cell := cell) (A.me m) h0 h1 h2 h3 (sound A p g h4).1 hp hs
    exact ⟨z, pt_plain z rfl⟩
  | .fstr fs es, X, C, T, n, N, sc, raw, W, c, a, g, h => by
    cases a with
    | JoinedStr as p =>
      simp only [chk, Bool.and_eq_true, decide_eq_true_eq] at h
      have hj := soundF A es fs g h.2
      have z : PE X (.JoinedStr as p) (tE C T X.K (callN C n) W (.fstr fs es)) := by
        rcases as with _ | ⟨a1, _ | ⟨a2, as⟩⟩
        · simp at h
        · simp at h
        · refine PE.mono (pe_joined hj) fun sg H Q ⟨bo, n0, io, S, env, R, e, h⟩ => ?_
          unfold ev at h
          exact fst_go es fs Str.empty R e h
      exact ⟨z, pt_plain z rfl⟩
    | _ => simp [chk] at h
  | .callv i es, X, C, T, n, N, sc, raw, W, c, a, g, h => by
    obtain ⟨x, p, as, q, rfl, rfl, h1, h2, h3, h4, h5, h6⟩ := chk_callv h
    obtain ⟨hp, hs⟩ := soundL A es g h6
    have h1 := s_callv g h1 h2 h3 h4 h5 hp hs (p := p) (q := q)
    exact ⟨h1, pt_plain h1 rfl⟩
  | .comp cell own elt tg ik its cond, X, C, T, n, N, sc, raw, W, c, a, g, h => by
    obtain ⟨x, t, it, ifs, scope, pos, ns, as, rfl, rfl, hns, hb, hin, ht, hi, h1, h2, h3⟩ := chk_comp h
    obtain ⟨hp, hs⟩ := soundL A its g h1
    have ok : BlkOk X.N X.env.scope scope (ns.zip own) := by
      rw [g.hN, g.sc]
      exact blkOk_by hb
    have pe := pe_lc (pos := pos) (te := tE C T X.K (callN C n) NoW elt) (tt := tCond C T X.K n cond) (g := tG X.K tg) (g.calm rfl) (by rw [g.hN]; exact g.nd) (A.it ik X C T n N sc raw W true g rfl t it as hi _ hp hs) ok
      (fun s H C0 cl fp => pg_tg (good_blk g (scope := scope) s H C0 cl fp).hN g.nd (good_blk g (scope := scope) s H C0 cl fp).sto (g.calm rfl) ht)
      (fun s H C0 cl fp => soundC A cond (good_blk g (scope := scope) s H C0 cl fp) h3)
      (fun s H C0 cl fp => (sound A elt (good_blk g (scope := scope) s H C0 cl fp) h2).1) (iter_fold hi _)
    rw [own_of hns] at pe
    have h1 : PE X (.ListComp x [⟨t, it, ifs, 0⟩] scope pos) (tE C T X.K (callN C n) W (.comp cell own elt tg ik its cond)) := PE.mono pe fun sg H Q => comp_lc hin
    exact ⟨h1, pt_plain h1 rfl⟩
  | .scomp own elt tg ik its cond, X, C, T, n, N, sc, raw, W, c, a, g, h => by
    obtain ⟨p, q, x, t, it, ifs, scope, pos, ns, as, rfl, rfl, hg, hf, hns, hb, hin, ht, hi, h1, h2, h3⟩ := chk_scomp h
    obtain ⟨hp, hs⟩ := soundL A its g h1
    have ok : BlkOk X.N X.env.scope scope (ns.zip own) := by
      rw [g.hN, g.sc]
      exact blkOk_by hb
    have pe := pe_sk (pos := pos) (te := tE C T X.K (callN C n) NoW elt) (tt := tCond C T X.K n cond) (g := tG X.K tg) (g.calm rfl) (by rw [g.hN]; exact g.nd) (A.it ik X C T n N sc raw W true g rfl t it as hi _ hp hs) ok
      (fun s H C0 cl fp => pg_tg (good_blk g (scope := scope) s H C0 cl fp).hN g.nd (good_blk g (scope := scope) s H C0 cl fp).sto (g.calm rfl) ht)
      (fun s H C0 cl fp => soundC A cond (good_blk g (scope := scope) s H C0 cl fp) h3)
      (fun s H C0 cl fp => (sound A elt (good_blk g (scope := scope) s H C0 cl fp) h2).1) (iter_fold hi _)
    rw [own_of hns] at pe
    have h1 : PE X (.Call (.Name ("len" : Str) p) [.SetComp x [⟨t, it, ifs, 0⟩] scope pos] [] q) (tE C T X.K (callN C n) W (.scomp own elt tg ik its cond)) := PE.mono (pe_callB r_lenSk (g.gl hg) (g.mod.free _ hf) (by decide +kernel) (pa_cons pe pa_nil) (glB_ok hg).2.2 (glB_ok hg).2.1) fun sg H Q => comp_sk hin
    exact ⟨h1, pt_plain h1 rfl⟩
theorem soundF (A : Facts) : ∀ (es : List E) (fs : List Bool) {X : Cx} {C : Cfg} {T : Tb} {n : Nat} {N : List Str} {sc raw : Scope} {W : WX} {c : Bool} {as : List Expr}, Good X C T n N sc raw W c → chkF C N c es fs sc as = true → PJ X as (tsF C T X.K n W es fs)
  | [], [], X, C, T, n, N, sc, raw, W, c, as, g, h => by
    cases as with
    | nil => exact .nil
    | cons _ _ => simp [chkF] at h
  | e :: es, true :: fs, X, C, T, n, N, sc, raw, W, c, as, g, h => by
    cases as with
    | nil => simp [chkF] at h
    | cons a as =>
      cases a with
      | FormattedValue v k f p =>
        simp only [chkF, Bool.and_eq_true, beq_iff_eq] at h
        obtain ⟨⟨⟨rfl, h2⟩, h3⟩, h4⟩ := h
        cases f with
        | some _ => cases h2
        | none => exact .cons (pe_fmt (sound A e g h3).1) (soundF A es fs g h4)
      | _ => simp [chkF] at h
  | e :: es, false :: fs, X, C, T, n, N, sc, raw, W, c, as, g, h => by
    cases as with
    | nil => simp [chkF] at h
    | cons a as =>
      cases a with
      | Constant k j p =>
        cases k with
        | str x =>
          simp only [chkF, Bool.and_eq_true] at h
          exact .cons (sound A e g h.1).1 (soundF A es fs g h.2)
        | _ => simp [chkF] at h
      | _ => simp [chkF] at h
  | [], _ :: _, X, C, T, n, N, sc, raw, W, c, as, g, h => by simp [chkF] at h
  | _ :: _, [], X, C, T, n, N, sc, raw, W, c, as, g, h => by simp [chkF] at h
theorem soundL (A : Facts) : ∀ (es : List E) {X : Cx} {C : Cfg} {T : Tb} {n : Nat} {N : List Str} {sc raw : Scope} {W : WX} {c : Bool} {as : List Expr}, Good X C T n N sc raw W c → chkL C N c es sc as = true → Paired (PE X) as (es.map (tE C T X.K (callN C n) W)) ∧ as.all (fun e => !isStar e) = true
  | [], X, C, T, n, N, sc, raw, W, c, as, g, h => by
    cases as with
    | nil => exact ⟨.nil, rfl⟩
    | cons _ _ => simp [chkL] at h
  | e :: es, X, C, T, n, N, sc, raw, W, c, as, g, h => by
    cases as with
    | nil => simp [chkL] at h
    | cons a as =>
      simp only [chkL, Bool.and_eq_true] at h
      obtain ⟨hp, hs⟩ := soundL A es g h.2
      refine ⟨.cons (sound A e g h.1.2).1 hp, ?_⟩
      simp only [List.all_cons, Bool.and_eq_true]
      exact ⟨h.1.1, hs⟩
theorem soundC (A : Facts) : ∀ (o : Option E) {X : Cx} {C : Cfg} {T : Tb} {n : Nat} {N : List Str} {sc raw : Scope} {c : Bool} {ifs : List Expr}, Good X C T n N sc raw NoW c → chkC C N c o sc ifs = true → PTs X ifs (tCond C T X.K n o)
  | none, X, C, T, n, N, sc, raw, c, ifs, g, h => by
    cases ifs with
    | nil => exact pts_nil
    | cons _ _ => simp [chkC] at h
  | some e, X, C, T, n, N, sc, raw, c, ifs, g, h => by
    rcases ifs with _ | ⟨a, _ | ⟨b, r⟩⟩
    · simp [chkC] at h
    · simp only [chkC] at h
      exact pts_one (sound A e g h).2
    · simp [chkC] at h
end
end Ev

/-! Ev20: operations over data. -/
namespace Ev
open PySem PySem.Spec PyProof.Rows L2

section
variable {K : PySem.W.Frag} {bn : Addr → Prop} {H : Hp}
mutual
theorem Den.dp : ∀ (d : PyData) (v : V), Den K bn H v d → Dp K H v d ∧ d.plain = true
  | .none, _, h => by cases h; exact ⟨.non, rfl⟩
  | .bool _, _, h => by cases h; exact ⟨.bl _, rfl⟩
  | .int _, _, h => by cases h; exact ⟨.int _, rfl⟩
  | .str _, _, h => by cases h; exact ⟨.str _, rfl⟩
  | .list ds, _, h => by
    cases h with
    | lst a b =>
      obtain ⟨h1, h2⟩ := Dens.dp ds _ b
      exact ⟨.lst a.sq h1, h2⟩
  | .tuple ds, _, h => by
    cases h with
    | tup a b =>
      obtain ⟨h1, h2⟩ := Dens.dp ds _ b
      exact ⟨.tup a h1, h2⟩
  | .dict _, _, h => by cases h
theorem Dens.dp : ∀ (ds : List PyData) (vs : List V), Dens K bn H vs ds → DpAll K H vs ds ∧ PyData.plainAll ds = true
  | [], _, h => by cases h; exact ⟨.nil, rfl⟩
  | d :: ds, _, h => by
    cases h with
    | cons a b =>
      obtain ⟨h1, h2⟩ := Den.dp d _ a
      obtain ⟨h3, h4⟩ := Dens.dp ds _ b
      refine ⟨.cons h1 h3, ?_⟩
      show (d.plain && PyData.plainAll ds) = true
      rw [h2, h4]
      rfl
end
theorem Vw.dp {v : V} {d : PyData} (h : Vw K bn H v d) : Dp K H v d ∧ d.plain = true := by
  rcases h with h | ⟨a, xs, ds, e1, e2, e3, e4⟩
  · exact Den.dp d v h
  · subst e1 e2
    obtain ⟨h1, h2⟩ := Dens.dp ds xs e4
    exact ⟨.lst (SqL.of e3) h1, h2⟩
end
/-- values as data, and what is wanted of the result -/
structure GP (K : PySem.W.Frag) (bn : Addr → Prop) (H : Hp) (Q : VK) (d : PyData) : Prop where
  fresh : ∀ p, H p = none → ¬ bn p
  fr : ∀ p u, H p = none → Fr [] H (upd H p u)
  now : ∀ z, Den K bn H z d → Q z H
  new : ∀ p u z, H p = none → Den K bn (upd H p u) z d → Q z (upd H p u)
  keep : ∀ p u v e, H p = none → Den K bn H v e → Den K bn (upd H p u) v e
  keeps : ∀ p u vs es, H p = none → Dens K bn H vs es → Dens K bn (upd H p u) vs es
theorem views_ok {T : Tb} {K : PySem.W.Frag} {bo : Addr → Prop} {n0 : Nat} {io : List Addr} {S : Store} {H : Hp} (R : Rep K bo n0 io S H) : ∀ {vs : List Val} {xs : List V} {ds : List PyData}, DenVs T K bo io H xs vs → views S vs = some ds → Paired (Vw K (bnO bo io) H) xs ds
  | [], _, _, .nil, e => by cases e; exact .nil
  | v :: vs, _, ds, .cons r rs, e => by
    unfold views at e
    cases h : view S v with
    | none => rw [h] at e; cases e
    | some d =>
      rw [h] at e
      dsimp only at e
      cases h2 : views S vs with
      | none => rw [h2] at e; cases e
      | some es =>
        rw [h2] at e
        cases e
        exact .cons (view_ok R r h) (views_ok R rs h2)
theorem gp_rep {T : Tb} {K : PySem.W.Frag} {bo : Addr → Prop} {n0 : Nat} {io : List Addr} {S : Store} {H : Hp} {Q : VK} {d : PyData} (R : Rep K bo n0 io S H) (ok : OkC T K bo n0 io H Q (.p d) S) : GP K (bnO bo io) H Q d where
  fresh := fun p hp z => by
    rcases z with z | z
    · exact R.out p z hp
    · exact R.cl.some z hp
  fr := fun p u hp a o h _ => by rw [upd_ne (ne_of_none h hp)]; exact h
  now := fun z r => ok z H io Ext.refl R (.p r)
  new := fun p u z hp r => ok z _ io (Ext.laid hp) (R.laid hp) (.p r)
  keep := fun p u v e hp r => (Ext.laid (io := io) hp).den R.cl r
  keeps := fun p u v e hp r => (Ext.laid (io := io) hp).dens R.cl r
/-- an operation over data alone -/
theorem gp_of {C : Cfg} {T : Tb} {K : PySem.W.Frag} {o : Op} {xs : List V} {H : Hp} {Q : VK} (ho : ∀ vs S, prim C o vs S = match views S vs with
    | some ds => (primP o ds).map fun d => (.p d, S)
    | none => none) (h : rP C T K o xs H Q) : ∃ ds d bn, primP o ds = some d ∧ Paired (Vw K bn H) xs ds ∧ GP K bn H Q d := by
  obtain ⟨bo, n0, io, S, vs, v, S1, R, rv, hp, ok⟩ := h
  rw [ho] at hp
  cases hv : views S vs with
  | none => rw [hv] at hp; cases hp
  | some ds =>
    rw [hv] at hp
    dsimp only at hp
    cases hd : primP o ds with
    | none => rw [hd] at hp; cases hp
    | some d =>
      rw [hd] at hp
      cases hp
      exact ⟨ds, d, _, hd, views_ok R rv hv, gp_rep R ok⟩
section
variable {K : PySem.W.Frag} {bn : Addr → Prop} {H : Hp} {Q : VK}
theorem GP.lst {ds : List PyData} (g : GP K bn H Q (.list ds)) {ys : List V} (h : Dens K bn H ys ds) : ∀ p, H p = none → Q (.ref p) (upd H p (.lst ys)) := fun p hp =>
  g.new p _ _ hp (.lst (.inl ⟨.inl upd_same, g.fresh p hp⟩) (g.keeps p _ ys ds hp h))
theorem GP.tup {ds : List PyData} (g : GP K bn H Q (.tuple ds)) {ys : List V} (h : Dens K bn H ys ds) : ∀ p, H p = none → Q (.ref p) (upd H p (.tup ys)) := fun p hp =>
  g.new p _ _ hp (.tup (.inl (.inl upd_same)) (g.keeps p _ ys ds hp h))
theorem GP.int {i : Int} (g : GP K bn H Q (.int i)) : Q (.int i) H := g.now _ (.int i)
theorem GP.bl {i : Bool} (g : GP K bn H Q (.bool i)) : Q (.bl i) H := g.now _ (.bl i)
theorem GP.str {i : Str} (g : GP K bn H Q (.str i)) : Q (.str i) H := g.now _ (.str i)
theorem GP.non (g : GP K bn H Q .none) : Q .non H := g.now _ .non
theorem vw_two {x y : V} {ds : List PyData} (h : Paired (Vw K bn H) [x, y] ds) : ∃ d e, ds = [d, e] ∧ Vw K bn H x d ∧ Vw K bn H y e := by
  cases h with
  | cons a h =>
    cases h with
    | cons b h =>
      cases h
      exact ⟨_, _, rfl, a, b⟩
theorem vw_one {x : V} {ds : List PyData} (h : Paired (Vw K bn H) [x] ds) : ∃ d, ds = [d] ∧ Vw K bn H x d := by
  cases h with
  | cons a h =>
    cases h
    exact ⟨_, rfl, a⟩
end
theorem list_exact {X : Cx} {pins : List (Addr × Obj)} {sg : L2.St} {H : Hp} {s : Shared} {a : Addr} {xs : List V} (I : Inv X pins sg H s) (h : SqL X.K H a xs) : ∃ (its : List Value) (dd : Option Addr) (n : Nat) (sl : Array (Option Value)), Vals xs its ∧ its.length ≤ sizeLine ∧ s.heap.get? a = some { cls := .type "list", dict := dd, data := .seq its.toArray n, slots := sl } := by
  obtain ⟨its, rv, ⟨⟨cls, dd, data, sls⟩, n, ho, hc, hdn, hdt⟩, hlen⟩ := I.list h
  simp only at hc hdt
  subst hc hdt
  exact ⟨its, dd, n, sls, rv, by rw [← rv.length]; omega, ho⟩
section
variable {X : Cx} {C : Cfg} {T : Tb}
theorem r_add : OpR X (binaryOp .Add) (fun x y H Q => rP C T X.K .add [x, y] H Q) := by
  intro pins s sg H x y v u Q I rx ry h
  obtain ⟨ds, d, bn, hp, hv, g⟩ := gp_of (fun _ _ => rfl) h
  obtain ⟨d1, d2, rfl, v1, v2⟩ := vw_two hv
  replace hp : addP d1 d2 = some d := hp
  unfold addP at hp
  split at hp
  · cases hp
    exact op_add pins s sg H x y v u Q I rx ry ⟨_, _, v1.int, v2.int, g.int⟩
  · split at hp
    · rename_i hb
      cases hp
      exact op_add_str pins s sg H x y v u Q I rx ry ⟨_, _, v1.str, v2.str, Nat.le_trans hb big_line, g.str⟩
    · cases hp
  · split at hp
    · rename_i hb
      cases hp
      obtain ⟨a, xs, rfl, hs1, hd1⟩ := v1.list
      obtain ⟨b, ys, rfl, hs2, hd2⟩ := v2.list
      cases rx
      cases ry
      obtain ⟨its, dd, n, sl, r1, z1, e1⟩ := list_exact I hs1
      obtain ⟨its2, dd2, n2, sl2, r2, z2, e2⟩ := list_exact I hs2
      have hl1 := r1.length
      have hl2 := r2.length
      have hd1l := hd1.length
      have hd2l := hd2.length
      have bl := big_line
      have hsz : its.length + its2.length ≤ sizeLine := by omega
      have ea : its.toArray ++ its2.toArray = (its ++ its2).toArray := by simp
      refine concat_meets ⟨_, e1, rfl⟩ ⟨_, e2, rfl⟩ noFill_list_add seq_list_add PySem.F.slot_list_add PySem.F.entry_list_add (PySem.F.args_list_add_2 _ _) (list_addW a b its.toArray its2.toArray n n2 dd dd2 sl sl2 (by simpa using hsz)) ⟨e1, e2, ?_⟩
      rw [ea]
      exact ⟨.ref _, _, I.lnew (t' := s.toks) (r1.append r2) (by rw [List.length_append]; omega), rfl, g.lst (hd1.append hd2) _ I.fresh⟩
    · cases hp
  · split at hp
    · rename_i hb
      cases hp
      obtain ⟨a, xs, rfl, hs1, hd1⟩ := v1.tup
      obtain ⟨b, ys, rfl, hs2, hd2⟩ := v2.tup
      have hd1l := hd1.length
      have hd2l := hd2.length
      have bl := big_line
      refine op_catA pins s sg H _ _ v u Q I rx ry ⟨a, b, xs, ys, rfl, rfl, hs1, hs2, by omega, fun e => ?_, fun _ e => ?_, fun _ _ => g.tup (hd1.append hd2)⟩
      · subst e
        cases hd1
        exact g.now _ (.tup hs2 hd2)
      · subst e
        cases hd2
        exact g.now _ (.tup hs1 (by rw [List.append_nil]; exact hd1))
    · cases hp
  · cases hp
theorem r_sub : OpR X (binaryOp .Sub) (fun x y H Q => rP C T X.K .sub [x, y] H Q) := by
  intro pins s sg H x y v u Q I rx ry h
  obtain ⟨ds, d, bn, hp, hv, g⟩ := gp_of (fun _ _ => rfl) h
  obtain ⟨d1, d2, rfl, v1, v2⟩ := vw_two hv
  cases d1 <;> cases d2 <;> first
    | (cases hp; exact op_sub pins s sg H x y v u Q I rx ry ⟨_, _, v1.int, v2.int, g.int⟩)
    | (simp [primP] at hp; done)
theorem r_fdiv : OpR X (binaryOp .FloorDiv) (fun x y H Q => rP C T X.K .fdiv [x, y] H Q) := by
  intro pins s sg H x y v u Q I rx ry h
  obtain ⟨ds, d, bn, hp, hv, g⟩ := gp_of (fun _ _ => rfl) h
  obtain ⟨d1, d2, rfl, v1, v2⟩ := vw_two hv
  cases d1 <;> cases d2 <;> first
    | (simp [primP] at hp; done)
    | skip
  rename_i i j
  have hp' : (if 0 < j ∧ j.natAbs.log2 < 9000 then some (PyData.int (i / j)) else none) = some d := hp
  split at hp'
  · rename_i hc
    cases hp'
    exact op_fdivW pins s sg H x y v u Q I rx ry ⟨_, _, v1.int, v2.int, hc, g.int⟩
  · cases hp'
theorem r_mod : OpR X (binaryOp .Mod) (fun x y H Q => rP C T X.K .mod [x, y] H Q) := by
  intro pins s sg H x y v u Q I rx ry h
  obtain ⟨ds, d, bn, hp, hv, g⟩ := gp_of (fun _ _ => rfl) h
  obtain ⟨d1, d2, rfl, v1, v2⟩ := vw_two hv
  cases d1 <;> cases d2 <;> first
    | (simp [primP] at hp; done)
    | skip
  rename_i i j
  have hp' : (if 0 < j then some (PyData.int (i % j)) else none) = some d := hp
  split at hp'
  · rename_i hc
    cases hp'
    exact op_mod pins s sg H x y v u Q I rx ry ⟨_, _, v1.int, v2.int, hc, g.int⟩
  · cases hp'
theorem r_pow : OpR X (binaryOp .Pow) (fun x y H Q => rP C T X.K .pow [x, y] H Q) := by
  intro pins s sg H x y v u Q I rx ry h
  obtain ⟨ds, d, bn, hp, hv, g⟩ := gp_of (fun _ _ => rfl) h
  obtain ⟨d1, d2, rfl, v1, v2⟩ := vw_two hv
  cases d1 <;> cases d2 <;> first
    | (simp [primP] at hp; done)
    | skip
  rename_i i j
  have hp' : (if 0 ≤ j ∧ j ≤ 100 ∧ i.natAbs.log2 < 250 then some (PyData.int (i ^ j.toNat)) else none) = some d := hp
  split at hp'
  · rename_i hc
    cases hp'
    obtain rfl := v1.int
    obtain rfl := v2.int
    obtain ⟨t, rfl⟩ := rx
    obtain ⟨t2, rfl⟩ := ry
    have hb : Builtin.Int.intBits i ≤ i.natAbs.log2 + 1 := by
      unfold Builtin.Int.intBits
      first
        | omega
        | (split <;> omega)
    have hb2 : (Builtin.Int.intBits i : Int) ≤ 250 := by have := hc.2.2; omega
    have hm : (Builtin.Int.intBits i : Int) * j ≤ 250 * 100 := Int.mul_le_mul hb2 hc.2.1 hc.1 (by decide)
    exact pow_int hc.1 (Int.le_trans hm (by decide)) ⟨.int _, H, I.tok _, ⟨_, rfl⟩, g.int⟩
  · cases hp'
theorem rep_flat (l : List Nat) : ∀ n : Nat, ((List.replicate n l.toArray).foldl (· ++ ·) #[]) = ((List.replicate n l).flatten).toArray := by
  have key : ∀ (n : Nat) (acc : List Nat), (List.replicate n l.toArray).foldl (· ++ ·) acc.toArray = (acc ++ (List.replicate n l).flatten).toArray := by
    intro n
    induction n with
    | zero => intro acc; simp
    | succ n ih =>
      intro acc
      rw [List.replicate_succ, List.foldl_cons, List.replicate_succ, List.flatten_cons]
      have e : acc.toArray ++ l.toArray = (acc ++ l).toArray := by simp
      rw [e, ih, List.append_assoc]
  intro n
  have z := key n []
  simpa using z
theorem r_mul : OpR X (binaryOp .Mult) (fun x y H Q => rP C T X.K .mul [x, y] H Q) := by
  intro pins s sg H x y v u Q I rx ry h
  obtain ⟨ds, d, bn, hp, hv, g⟩ := gp_of (fun _ _ => rfl) h
  obtain ⟨d1, d2, rfl, v1, v2⟩ := vw_two hv
  replace hp : mulP d1 d2 = some d := hp
  unfold mulP at hp
  split at hp
  · split at hp
    · rename_i hc
      cases hp
      refine op_mul pins s sg H x y v u Q I rx ry ⟨_, _, v1.int, v2.int, ?_, g.int⟩
      unfold CMul
      omega
    · cases hp
  · split at hp
    · rename_i z j hc
      cases hp
      obtain rfl := v1.str
      obtain rfl := v2.int
      obtain ⟨t, rfl⟩ := rx
      obtain ⟨t2, rfl⟩ := ry
      obtain ⟨c1, c2, c3⟩ := hc
      have bl : big ≤ sizeLine := big_line
      have hlen : (List.replicate j.toNat z.cps.toList).flatten.length = j.toNat * z.length := by
        rw [List.length_flatten, List.map_replicate, List.sum_replicate_nat]
        rfl
      have hR : ∀ (t' : Tok) (k : Nat), EP X pins sg Q (.str ⟨(List.replicate j.toNat z.cps.toList).flatten.toArray⟩ t') { s with toks := k } := fun t' k => ⟨.str _, H, I.tok k, ⟨t', rfl⟩, g.str⟩
      refine PySem.P.mul_str (by rw [decide_eq_false (by omega), decide_eq_false (by omega)]; rfl) (fun h1 _ h2 => ?_) (fun h1 _ => ?_) ?_
      · have hj : 1 ≤ j := by omega
        have h3 : (z.length : Int) * j ≤ 5000000 := by
          have e : (j.toNat : Int) = j := by omega
          have c1' : ((z.length * j.toNat : Nat) : Int) ≤ ((5000000 : Nat) : Int) := Int.ofNat_le.mpr c1
          rw [Int.natCast_mul, e] at c1'
          omega
        have h4 : (z.length : Int) ≤ (2 ^ 63 - 1) / j := (Int.le_ediv_iff_mul_le (by omega)).mpr (by omega)
        omega
      · unfold Builtin.Str.tooLong sizeLine
        refine decide_eq_false ?_
        have c1' : z.length * j.toNat ≤ 5000000 := c1
        omega
      · by_cases h1 : j < 1
        · rw [if_pos h1]
          refine ⟨by decide, ?_⟩
          have e : j.toNat = 0 := by omega
          have z1 := hR s.toks (s.toks + 1)
          rw [e] at z1
          exact z1
        · rw [if_neg h1]
          by_cases h2 : (j == 1 || z.length == 0) = true
          · rw [if_pos h2]
            have e : (⟨(List.replicate j.toNat z.cps.toList).flatten.toArray⟩ : Str) = z := by
              rw [Bool.or_eq_true, beq_iff_eq, beq_iff_eq] at h2
              rcases h2 with h2 | h2
              · subst h2
                obtain ⟨c⟩ := z
                simp
              · obtain ⟨c⟩ := z
                have hc0 : c = #[] := Array.eq_empty_of_size_eq_zero h2
                subst hc0
                simp
            have z1 := hR t s.toks
            rw [e] at z1
            exact z1
          · rw [if_neg h2]
            have e := rep_flat z.cps.toList j.toNat
            rw [Array.toArray_toList] at e
            refine ⟨?_, ?_⟩
            · show (List.foldl (· ++ ·) #[] (List.replicate j.toNat z.cps)).size ≤ sizeLine
              rw [e, List.size_toArray, hlen]
              have c1' : z.length * j.toNat ≤ 5000000 := c1
              rw [Nat.mul_comm] at c1'
              have bl' : 5000000 ≤ sizeLine := bl
              omega
            · have z1 := hR s.toks (s.toks + 1)
              rw [← e] at z1
              exact z1
    · cases hp
  · cases hp
end
end Ev

/-! Ev21: comparisons. -/
namespace Ev
open PySem PySem.Spec PyProof.Rows L2

section
variable {X : Cx} {C : Cfg} {T : Tb}
theorem bl_some {z : Option Bool} {d : PyData} (h : bl z = some d) : ∃ b, z = some b ∧ d = .bool b := by
  cases z with
  | none => cases h
  | some b => cases h; exact ⟨b, rfl, rfl⟩
theorem eqP_ok {x y : V} {v u : Value} {d e : PyData} {b : Bool} {bn : Addr → Prop} {H : Hp} {pins : List (Addr × Obj)} {sg : L2.St} {s : Shared} {E : Value → Shared → Prop} {P : Value → Shared → Prop} (hu : X.A.units + 64 < cLine) (I : Inv X pins sg H s) (rx : RelV x v) (ry : RelV y u) (v1 : Vw X.K bn H x d) (v2 : Vw X.K bn H y e) (h : eqP d e = some b) :
    ∃ as bs, Reads s.heap v d as ∧ Reads s.heap u e bs ∧ d.plain = true ∧ e.plain = true ∧ X.A.units + min d.depth e.depth < cLine ∧ PyData.eqv d e = b := by
  obtain ⟨p1, q1⟩ := v1.dp
  obtain ⟨p2, q2⟩ := v2.dp
  obtain ⟨as, r1⟩ := Dp.reads I d x v p1 rx
  obtain ⟨bs, r2⟩ := Dp.reads I e y u p2 ry
  have hd : (d.depth ≤ 64 ∨ e.depth ≤ 64) ∧ PyData.eqv d e = b := by
    unfold eqP at h
    split at h <;> first
      | (cases h; exact ⟨.inl (by simp [PyData.depth]), by simp [PyData.eqv]⟩)
      | (split at h
         · rename_i hc
           cases h
           exact ⟨hc, rfl⟩
         · cases h)
  exact ⟨as, bs, r1, r2, q1, q2, by omega, hd.2⟩
theorem r_eq (hu : X.A.units + 64 < cLine) : OpR X (compareOp .Eq) (fun x y H Q => rP C T X.K .eq [x, y] H Q) := by
  intro pins s sg H x y v u Q I rx ry h
  obtain ⟨ds, d, bn, hp, hv, g⟩ := gp_of (fun _ _ => rfl) h
  obtain ⟨d1, d2, rfl, v1, v2⟩ := vw_two hv
  obtain ⟨b, hb, rfl⟩ := bl_some (show bl (eqP d1 d2) = some d from hp)
  obtain ⟨as, bs, r1, r2, q1, q2, hd, e⟩ := eqP_ok (E := X.xe) (P := fun _ _ => True) hu I rx ry v1 v2 hb
  exact SeqAt.eq_plain r1 r2 q1 q2 hd ⟨.bl _, H, I, rfl, by rw [e]; exact g.bl⟩
theorem r_ne (hu : X.A.units + 64 < cLine) : OpR X (compareOp .NotEq) (fun x y H Q => rP C T X.K .ne [x, y] H Q) := by
  intro pins s sg H x y v u Q I rx ry h
  obtain ⟨ds, d, bn, hp, hv, g⟩ := gp_of (fun _ _ => rfl) h
  obtain ⟨d1, d2, rfl, v1, v2⟩ := vw_two hv
  obtain ⟨b, hb, rfl⟩ := bl_some (show bl ((eqP d1 d2).map not) = some d from hp)
  cases hq : eqP d1 d2 with
  | none => rw [hq] at hb; cases hb
  | some c =>
    rw [hq] at hb
    cases hb
    obtain ⟨as, bs, r1, r2, q1, q2, hd, e⟩ := eqP_ok (E := X.xe) (P := fun _ _ => True) hu I rx ry v1 v2 hq
    exact SeqAt.ne_plain r1 r2 q1 q2 hd ⟨.bl _, H, I, rfl, by rw [e]; exact g.bl⟩
theorem r_lt (hu : X.A.units + 64 < cLine) : OpR X (compareOp .Lt) (fun x y H Q => rP C T X.K .lt [x, y] H Q) := by
  intro pins s sg H x y v u Q I rx ry h
  obtain ⟨ds, d, bn, hp, hv, g⟩ := gp_of (fun _ _ => rfl) h
  obtain ⟨d1, d2, rfl, v1, v2⟩ := vw_two hv
  obtain ⟨b, hb, rfl⟩ := bl_some (show bl (ltP d1 d2) = some d from hp)
  unfold ltP at hb
  split at hb
  · cases hb
    exact op_lt pins s sg H x y v u Q I rx ry ⟨_, _, v1.int, v2.int, g.bl⟩
  · cases hb
    exact op_lt_str pins s sg H x y v u Q I rx ry ⟨_, _, v1.str, v2.str, g.bl⟩
  · cases hb
  · rename_i hn
    split at hb
    · rename_i hc
      cases hb
      obtain ⟨p1, q1⟩ := v1.dp
      obtain ⟨p2, q2⟩ := v2.dp
      obtain ⟨as, r1⟩ := Dp.reads I d1 x v p1 rx
      obtain ⟨bs, r2⟩ := Dp.reads I d2 y u p2 ry
      exact PySem.W.lt_data r1 r2 hc.1 (fun e => by subst e; simp_all) (by have := hc.2; omega) ⟨.bl _, H, I, rfl, g.bl⟩
    · cases hb
theorem r_le : OpR X (compareOp .LtE) (fun x y H Q => rP C T X.K .le [x, y] H Q) := by
  intro pins s sg H x y v u Q I rx ry h
  obtain ⟨ds, d, bn, hp, hv, g⟩ := gp_of (fun _ _ => rfl) h
  obtain ⟨d1, d2, rfl, v1, v2⟩ := vw_two hv
  cases d1 <;> cases d2 <;> first
    | (cases hp; exact op_le pins s sg H x y v u Q I rx ry ⟨_, _, v1.int, v2.int, g.bl⟩)
    | (simp [primP] at hp; done)
theorem r_gt : OpR X (compareOp .Gt) (fun x y H Q => rP C T X.K .gt [x, y] H Q) := by
  intro pins s sg H x y v u Q I rx ry h
  obtain ⟨ds, d, bn, hp, hv, g⟩ := gp_of (fun _ _ => rfl) h
  obtain ⟨d1, d2, rfl, v1, v2⟩ := vw_two hv
  cases d1 <;> cases d2 <;> first
    | (cases hp; exact op_gt pins s sg H x y v u Q I rx ry ⟨_, _, v1.int, v2.int, g.bl⟩)
    | (simp [primP] at hp; done)
theorem r_ge : OpR X (compareOp .GtE) (fun x y H Q => rP C T X.K .ge [x, y] H Q) := by
  intro pins s sg H x y v u Q I rx ry h
  obtain ⟨ds, d, bn, hp, hv, g⟩ := gp_of (fun _ _ => rfl) h
  obtain ⟨d1, d2, rfl, v1, v2⟩ := vw_two hv
  cases d1 <;> cases d2 <;> first
    | (cases hp; exact op_ge pins s sg H x y v u Q I rx ry ⟨_, _, v1.int, v2.int, g.bl⟩)
    | (simp [primP] at hp; done)
theorem inP_ok {x y : V} {v u : Value} {d e : PyData} {b : Bool} {bn : Addr → Prop} {H : Hp} {pins : List (Addr × Obj)} {sg : L2.St} {s : Shared} {Q : VK} (hu : X.A.units + 66 < cLine) (I : Inv X pins sg H s) (rx : RelV x v) (ry : RelV y u) (v1 : Vw X.K bn H x d) (v2 : Vw X.K bn H y e) (h : inP d e = some b) :
    (∀ Q : VK, Q (.bl b) H → wpAny (model X.prog X.w) X.A (compareOp .In v u) (EP X pins sg Q) X.xe s) ∧ (∀ Q : VK, Q (.bl (!b)) H → wpAny (model X.prog X.w) X.A (compareOp .NotIn v u) (EP X pins sg Q) X.xe s) := by
  obtain ⟨p1, q1⟩ := v1.dp
  obtain ⟨p2, q2⟩ := v2.dp
  obtain ⟨as, r1⟩ := Dp.reads I d x v p1 rx
  obtain ⟨bs, r2⟩ := Dp.reads I e y u p2 ry
  unfold inP at h
  split at h
  · split at h
    · cases h
      exact ⟨fun Q q => op_in_str pins s sg H x y v u Q I rx ry ⟨_, _, v1.str, v2.str, q⟩, fun Q q => op_notin_str pins s sg H x y v u Q I rx ry ⟨_, _, v1.str, v2.str, q⟩⟩
    · cases h
  · split at h
    · rename_i hc
      cases h
      exact ⟨fun Q q => SeqAt.in_list_data r2 r1 q2 q1 (by omega) ⟨.bl _, H, I, rfl, q⟩, fun Q q => SeqAt.notIn_list_data r2 r1 q2 q1 (by omega) ⟨.bl _, H, I, rfl, q⟩⟩
    · cases h
  · split at h
    · rename_i hc
      cases h
      exact ⟨fun Q q => SeqAt.in_tuple_data r2 r1 q2 q1 (by omega) ⟨.bl _, H, I, rfl, q⟩, fun Q q => SeqAt.notIn_tuple_data r2 r1 q2 q1 (by omega) ⟨.bl _, H, I, rfl, q⟩⟩
    · cases h
  · cases h
theorem r_in (hu : X.A.units + 66 < cLine) : OpR X (compareOp .In) (fun x y H Q => rP C T X.K .isin [x, y] H Q) := by
  intro pins s sg H x y v u Q I rx ry h
  obtain ⟨ds, d, bn, hp, hv, g⟩ := gp_of (fun _ _ => rfl) h
  obtain ⟨d1, d2, rfl, v1, v2⟩ := vw_two hv
  obtain ⟨b, hb, rfl⟩ := bl_some (show bl (inP d1 d2) = some d from hp)
  exact (inP_ok (Q := Q) (by omega) I rx ry v1 v2 hb).1 Q g.bl
theorem r_notin (hu : X.A.units + 66 < cLine) : OpR X (compareOp .NotIn) (fun x y H Q => rP C T X.K .notin [x, y] H Q) := by
  intro pins s sg H x y v u Q I rx ry h
  obtain ⟨ds, d, bn, hp, hv, g⟩ := gp_of (fun _ _ => rfl) h
  obtain ⟨d1, d2, rfl, v1, v2⟩ := vw_two hv
  obtain ⟨b, hb, rfl⟩ := bl_some (show bl ((inP d1 d2).map not) = some d from hp)
  cases hq : inP d1 d2 with
  | none => rw [hq] at hb; cases hb
  | some c =>
    rw [hq] at hb
    cases hb
    exact (inP_ok (Q := Q) (by omega) I rx ry v1 v2 hq).2 Q g.bl
end
end Ev

/-! Ev22: the operations by their texts: two-place, comparisons, items, slices, displays. -/
namespace Ev
open PySem PySem.Spec PyProof.Rows L2

theorem CmpOk_all : ∀ o, CmpOk o := fun o X C T n N sc raw W c g hc p hp => by
  have hu := g.un
  cases o <;> first
    | (cases hp; first
        | exact r_eq (by omega)
        | exact r_ne (by omega)
        | exact r_lt (by omega)
        | exact r_le
        | exact r_gt
        | exact r_ge
        | exact r_in (by omega)
        | exact r_notin (by omega))
    | cases hp
section
variable {X : Cx} {C : Cfg} {T : Tb}
theorem two_ts {X : Cx} {a b : Expr} {ts : List TE} (h : Paired (PE X) [a, b] ts) : ∃ ta tb, ts = [ta, tb] ∧ PE X a ta ∧ PE X b tb := by
  cases h with
  | cons p h =>
    cases h with
    | cons q h =>
      cases h
      exact ⟨_, _, rfl, p, q⟩
theorem one_ts {X : Cx} {a : Expr} {ts : List TE} (h : Paired (PE X) [a] ts) : ∃ ta, ts = [ta] ∧ PE X a ta := by
  cases h with
  | cons p h =>
    cases h
    exact ⟨_, rfl, p⟩
theorem o_bin {o : Op} {op : Operator} {e : Expr} {as : List Expr} {ts : List TE} (hr : OpR X (binaryOp op) (fun x y H Q => rP C T X.K o [x, y] H Q)) (hsh : ∃ a b pos, e = .BinOp a op b pos ∧ as = [a, b]) (hp : Paired (PE X) as ts) :
    PE X e (fun sg H Q => chainT ts sg H fun xs H1 => rP C T X.K o xs H1 Q) := by
  obtain ⟨a, b, pos, rfl, rfl⟩ := hsh
  obtain ⟨ta, tb, rfl, pa, pb⟩ := two_ts hp
  exact PE.mono (pe_op hr pa pb) fun sg H Q h => h
theorem o_cmp {o : Op} {op : CmpOp} {e : Expr} {as : List Expr} {ts : List TE} (hr : OpR X (compareOp op) (fun x y H Q => rP C T X.K o [x, y] H Q)) (hsh : ∃ a b pos, e = .Compare a [op] [b] pos ∧ as = [a, b] ∧ behindInMarks op b = false) (hp : Paired (PE X) as ts) :
    PE X e (fun sg H Q => chainT ts sg H fun xs H1 => rP C T X.K o xs H1 Q) ∧ PT X e (fun sg H Q => chainT ts sg H fun xs H1 => rP C T X.K o xs H1 fun x H2 => ∃ k, x = .bl k ∧ Q k H2) := by
  obtain ⟨a, b, pos, rfl, rfl, hb⟩ := hsh
  obtain ⟨ta, tb, rfl, pa, pb⟩ := two_ts hp
  exact ⟨PE.mono (pe_cmpR hr pa pb hb) fun sg H Q h => h, PT.mono (pt_cmpR hr pa pb hb) fun sg H Q h => h⟩
theorem cmp_shape {C : Cfg} {sc : Scope} {o : Op} {p : CmpOp} {e : Expr} {as : List Expr} (hp : cmpAll o = some p) (h : opArgs C sc o e = some as) : ∃ a b pos, e = .Compare a [p] [b] pos ∧ as = [a, b] ∧ behindInMarks p b = false := by
  cases o <;> first
    | (cases hp; exact cmpA_ok h)
    | (cases hp; done)
theorem o_isn {neg : Bool} {o : Op} {e a : Expr} {ta : TE} (ho : ∀ v S, prim C o [v] S = (nonV v).map fun b => (.p (.bool (if neg then !b else b)), S)) (hsh : ∃ j p pos, e = .Compare a [if neg then .IsNot else .Is] [.Constant .none j p] pos) (pa : PE X a ta) :
    PE X e (fun sg H Q => ta sg H fun x H1 => rP C T X.K o [x] H1 Q) ∧ PT X e (fun sg H Q => ta sg H fun x H1 => rP C T X.K o [x] H1 fun x H2 => ∃ k, x = .bl k ∧ Q k H2) := by
  obtain ⟨j, p, pos, rfl⟩ := hsh
  have key : ∀ {x : V} {H : Hp} {Q : VK}, rP C T X.K o [x] H Q → Q (.bl (if neg then !decide (x = .non) else decide (x = .non))) H := fun {x H Q} h => by
    obtain ⟨bo, n0, io, S, vs, w, S1, R, rv, hp, ok⟩ := h
    cases rv with
    | cons r rv =>
      cases rv
      rename_i v
      rw [ho] at hp
      cases hn : nonV v with
      | none => rw [hn] at hp; cases hp
      | some b =>
        rw [hn] at hp
        cases hp
        have hb : decide (x = .non) = b := by
          unfold nonV at hn
          split at hn
          · cases hn
            cases r with
            | p r => cases r; rfl
          · rename_i d hd
            cases hn
            cases r with
            | p r => cases r <;> first | rfl | exact absurd rfl hd
          · cases hn; cases r; rfl
          · cases hn; cases r; rfl
          · cases hn; cases r <;> rfl
          · cases hn
        rw [hb]
        exact ok _ H io Ext.refl R (.p (.bl _))
  cases neg with
  | false =>
    refine ⟨pe_cmp (pos := pos) ⟨fun pins s sg H Q I h => ?_⟩ rfl, ?_⟩
    · refine thn (pa.run pins s sg H _ I h) fun v s1 ⟨x, H1, I1, r1, q1⟩ => ?_
      exact Constant_none (is_none_gen ⟨.bl _, H1, I1, by rw [r1.none_iff]; rfl, key q1⟩)
    · refine PT.mono (pt_cmp (pos := pos) (t := fun sg H Q => ta sg H fun x H1 => rP C T X.K o [x] H1 Q) ⟨fun pins s sg H Q I h => ?_⟩ rfl) fun sg H Q h => h
      refine thn (pa.run pins s sg H _ I h) fun v s1 ⟨x, H1, I1, r1, q1⟩ => ?_
      exact Constant_none (is_none_gen ⟨.bl _, H1, I1, by rw [r1.none_iff]; rfl, key q1⟩)
  | true =>
    refine ⟨pe_cmp (pos := pos) ⟨fun pins s sg H Q I h => ?_⟩ rfl, ?_⟩
    · refine thn (pa.run pins s sg H _ I h) fun v s1 ⟨x, H1, I1, r1, q1⟩ => ?_
      exact Constant_none (isnot_none_gen ⟨.bl _, H1, I1, by rw [r1.none_iff]; rfl, key q1⟩)
    · refine PT.mono (pt_cmp (pos := pos) (t := fun sg H Q => ta sg H fun x H1 => rP C T X.K o [x] H1 Q) ⟨fun pins s sg H Q I h => ?_⟩ rfl) fun sg H Q h => h
      refine thn (pa.run pins s sg H _ I h) fun v s1 ⟨x, H1, I1, r1, q1⟩ => ?_
      exact Constant_none (isnot_none_gen ⟨.bl _, H1, I1, by rw [r1.none_iff]; rfl, key q1⟩)
theorem o_neg {a : Expr} {pos : Pos} {ta : TE} (pa : PE X a ta) : PE X (.UnaryOp .USub a pos) (fun sg H Q => ta sg H fun x H1 => rP C T X.K .neg [x] H1 Q) := by
  refine pe_un (r := fun x H Q => rP C T X.K .neg [x] H Q) (fun pins s sg H x v Q I rx h => ?_) pa
  obtain ⟨ds, d, bn, hp, hv, g⟩ := gp_of (fun _ _ => rfl) h
  obtain ⟨d1, rfl, v1⟩ := vw_one hv
  cases d1 <;> first
    | (cases hp; exact un_neg pins s sg H x v Q I rx ⟨_, v1.int, g.int⟩)
    | (simp [primP] at hp; done)
theorem atI_dens {K : PySem.W.Frag} {bn : Addr → Prop} {H : Hp} {xs : List V} {ds : List PyData} {i : Int} {d : PyData} (h : Dens K bn H xs ds) (e : atI ds i = some d) : ∃ v, atI xs i = some v ∧ Den K bn H v d := by
  unfold atI at e ⊢
  rw [h.length]
  cases hj : ixN ds.length i with
  | none => rw [hj] at e; cases e
  | some j =>
    rw [hj] at e
    obtain ⟨v, h1, h2⟩ := h.get e
    exact ⟨v, h1, h2⟩
theorem atI_denvs {T : Tb} {K : PySem.W.Frag} {bo : Addr → Prop} {io : List Addr} {H : Hp} {xs : List V} {ds : List Val} {i : Int} {d : Val} (h : DenVs T K bo io H xs ds) (e : atI ds i = some d) : ∃ v, atI xs i = some v ∧ DenV T K bo io H v d := by
  unfold atI at e ⊢
  rw [h.length]
  cases hj : ixN ds.length i with
  | none => rw [hj] at e; cases e
  | some j =>
    rw [hj] at e
    obtain ⟨v, h1, h2⟩ := h.get e
    exact ⟨v, h1, h2⟩
theorem r_ix : IxR X (fun x y H Q => rP C T X.K .ix [x, y] H Q) := by
  intro value slice pins s sg H x y v u Q I rx ry h hs
  refine ix_seq value slice pins s sg H x y v u Q I rx ry ?_ hs
  have gen : (∃ ds d bn, primP .ix ds = some d ∧ Paired (Vw X.K bn H) [x, y] ds ∧ GP X.K bn H Q d) → rIx X.K x y H Q := fun ⟨ds, d, bn, hp, hv, g⟩ => by
    obtain ⟨d1, d2, rfl, v1, v2⟩ := vw_two hv
    replace hp : ixP d1 d2 = some d := hp
    unfold ixP at hp
    split at hp
    · obtain ⟨a, xs, rfl, hs1, hd1⟩ := v1.list
      obtain ⟨z, hz, rz⟩ := atI_dens hd1 hp
      exact .inl ⟨a, xs, _, z, rfl, v2.int, hs1, hz, g.now _ rz⟩
    · obtain ⟨a, xs, rfl, hs1, hd1⟩ := v1.tup
      obtain ⟨z, hz, rz⟩ := atI_dens hd1 hp
      exact .inr (.inl ⟨a, xs, _, z, rfl, v2.int, hs1, hz, g.now _ rz⟩)
    · rename_i z i
      split at hp
      · rename_i hb
        cases hc : atI z.cps.toList i with
        | none => rw [hc] at hp; cases hp
        | some c =>
          rw [hc] at hp
          cases hp
          exact .inr (.inr ⟨z, i, c, v1.str, v2.int, Nat.le_trans hb big_line, hc, g.str⟩)
      · cases hp
    · cases hp
  obtain ⟨bo, n0, io, S, vs, w, S1, R, rv, hp, ok⟩ := h
  have views_case : ∀ vs, DenVs T X.K bo io H [x, y] vs → (match views S vs with
      | some ds => (primP .ix ds).map fun d => (Val.p d, S)
      | none => none) = some (w, S1) → rIx X.K x y H Q := fun vs rv hp => by
    cases hv : views S vs with
    | none => rw [hv] at hp; cases hp
    | some ds =>
      rw [hv] at hp
      dsimp only at hp
      cases hd : primP .ix ds with
      | none => rw [hd] at hp; cases hp
      | some d =>
        rw [hd] at hp
        cases hp
        exact gen ⟨ds, d, _, hd, views_ok R rv hv, gp_rep R ok⟩
  cases rv with
  | cons r1 rv =>
    cases rv with
    | cons r2 rv =>
      cases rv
      rename_i v1 v2
      cases v1 with
      | seq t xs =>
        have hk : ∃ k, v2 = .p (.int k) := by
          cases v2 with
          | p d2 =>
            cases d2 with
            | int k => exact ⟨k, rfl⟩
            | _ => cases hp
          | _ => cases hp
        obtain ⟨k, rfl⟩ := hk
        have hp2 : (atI xs k).map (fun v => (v, S)) = some (w, S1) := hp
        cases hc : atI xs k with
        | none => rw [hc] at hp2; cases hp2
        | some z =>
          rw [hc] at hp2
          cases hp2
          cases r2 with
          | p r2 =>
            cases r2
            cases r1 with
            | seqT h1 h2 =>
              obtain ⟨q, hq, rq⟩ := atI_denvs h2 hc
              exact .inr (.inl ⟨_, _, k, q, rfl, rfl, h1, hq, ok q H io Ext.refl R rq⟩)
            | seqL h1 h2 =>
              obtain ⟨q, hq, rq⟩ := atI_denvs h2 hc
              exact .inl ⟨_, _, k, q, rfl, rfl, h1.sq, hq, ok q H io Ext.refl R rq⟩
      | _ => exact views_case _ (.cons r1 (.cons r2 .nil)) hp
theorem plainIx_ok {b : Expr} (h : plainIxB b = true) : PlainIx b := fun o i => by
  cases b <;> first
    | rfl
    | cases h
/-! ### slices -/
theorem r_sl {l h : Bool} {x : V} {lo hi : Option Int} {xs : List V} {H : Hp} {Q : VK} (hq : rP C T X.K (.sl l h) xs H Q) (hx : ∀ ds, (∃ bn, Paired (Vw X.K bn H) xs ds) → ∃ d0, (match ds with
      | x :: ds => match optI l ds with
        | some (lo, ds) => match optI h ds with
          | some (hi, []) => slP x lo hi
          | _ => none
        | none => none
      | [] => none) = slP d0 lo hi ∧ ∀ bn, Paired (Vw X.K bn H) xs ds → Vw X.K bn H x d0) : rSlL X.K x lo hi H Q ∨ rSlA X.K x lo hi H Q ∨ rSlS x lo hi H Q := by
  obtain ⟨ds, d, bn, hp, hv, g⟩ := gp_of (fun _ _ => rfl) hq
  obtain ⟨d0, e, hv0⟩ := hx ds ⟨bn, hv⟩
  have v0 := hv0 bn hv
  have hp' : slP d0 lo hi = some d := by
    rw [← e]
    cases ds with
    | nil => simp [primP] at hp
    | cons a b => exact hp
  unfold slP at hp'
  split at hp'
  · cases hp'
    obtain ⟨a, ys, rfl, hs1, hd1⟩ := v0.list
    refine .inl ⟨a, ys, rfl, hs1, g.lst ?_⟩
    unfold cutV cutL
    rw [hd1.length]
    exact (hd1.drop _).take _
  · cases hp'
    obtain ⟨a, ys, rfl, hs1, hd1⟩ := v0.tup
    refine .inr (.inl ⟨a, ys, rfl, hs1, fun hw => ?_, fun _ => g.tup ?_⟩)
    · refine g.now _ (.tup hs1 ?_)
      unfold cutL
      rw [← hd1.length, hw.1, hw.2, List.drop_zero, Nat.sub_zero, hd1.length, List.take_length]
      exact hd1
    · unfold cutV cutL
      rw [hd1.length]
      exact (hd1.drop _).take _
  · split at hp'
    · rename_i hb
      cases hp'
      exact .inr (.inr ⟨_, v0.str, Nat.le_trans hb big_line, g.str⟩)
    · cases hp'
  · cases hp'
end
end Ev

/-! Ev23: slices and displays by their texts. -/
namespace Ev
open PySem PySem.Spec PyProof.Rows L2

section
variable {X : Cx} {C : Cfg} {T : Tb}
theorem SlR.all : SlR X (fun x lo hi H Q => rSlL X.K x lo hi H Q ∨ rSlA X.K x lo hi H Q ∨ rSlS x lo hi H Q) := sl_list.or (sl_tupA.or sl_str)
theorem sl_end {pins : List (Addr × Obj)} {s3 : Shared} {sg : L2.St} {H3 : Hp} {Q : VK} {r : V → Option Int → Option Int → Hp → VK → Prop} {e : Expr} {lo hi : Option Expr} {p2 : Pos} {x : V} {v vl vu : Value} {l u : Option Int} (hr : SlR X r) (I3 : Inv X pins sg H3 s3) (r1 : RelV x v) (pl : IsPart vl l) (pu : IsPart vu u) (q3 : r x l u H3 Q) :
    wpAny (model X.prog X.w) X.A (subscriptTail e (.Slice lo hi none p2) v (.ref s3.heap.objs.size)) (EP X pins sg Q) X.xe { s3 with heap := s3.heap.push { cls := .type "slice", data := .fields #[vl, vu, .none] } } := by
  have I4 : Inv X pins sg H3 { s3 with heap := s3.heap.push { cls := .type "slice", data := .fields #[vl, vu, .none] } } := I3.kept (t' := s3.toks) fun b ob q => Heap.get?_push_of_some _ q
  obtain ⟨T, id, hT, ht, hg⟩ := hr pins { s3 with heap := s3.heap.push { cls := .type "slice", data := .fields #[vl, vu, .none] } } sg H3 x v vl vu l u s3.heap.objs.size Q I4 r1 (Heap.IsSliceOf.new ..) pl pu q3
  exact tail_any (ops := [.ref s3.heap.objs.size, v]) ht hT hg (by with_unfolding_all rfl)
theorem vw_three {K : PySem.W.Frag} {bn : Addr → Prop} {H : Hp} {x y z : V} {ds : List PyData} (h : Paired (Vw K bn H) [x, y, z] ds) : ∃ d e f, ds = [d, e, f] ∧ Vw K bn H x d ∧ Vw K bn H y e ∧ Vw K bn H z f := by
  cases h with
  | cons a h =>
    cases h with
    | cons b h =>
      cases h with
      | cons c h =>
        cases h
        exact ⟨_, _, _, rfl, a, b, c⟩
theorem sl_int {l h : Bool} {xs : List V} {H : Hp} {Q : VK} (hq : rP C T X.K (.sl l h) xs H Q) : ∃ ds d bn, primP (.sl l h) ds = some d ∧ Paired (Vw X.K bn H) xs ds ∧ GP X.K bn H Q d := gp_of (fun _ _ => rfl) hq
theorem sl_res {K : PySem.W.Frag} {bn : Addr → Prop} {x : V} {lo hi : Option Int} {H : Hp} {Q : VK} {d0 d : PyData} (v0 : Vw K bn H x d0) (hp' : slP d0 lo hi = some d) (g : GP K bn H Q d) : rSlL K x lo hi H Q ∨ rSlA K x lo hi H Q ∨ rSlS x lo hi H Q := by
  unfold slP at hp'
  split at hp'
  · cases hp'
    obtain ⟨a, ys, rfl, hs1, hd1⟩ := v0.list
    refine .inl ⟨a, ys, rfl, hs1, g.lst ?_⟩
    unfold cutV cutL
    rw [hd1.length]
    exact (hd1.drop _).take _
  · cases hp'
    obtain ⟨a, ys, rfl, hs1, hd1⟩ := v0.tup
    refine .inr (.inl ⟨a, ys, rfl, hs1, fun hw => ?_, fun _ => g.tup ?_⟩)
    · refine g.now _ (.tup hs1 ?_)
      unfold cutL
      rw [← hd1.length, hw.1, hw.2, List.drop_zero, Nat.sub_zero, hd1.length, List.take_length]
      exact hd1
    · unfold cutV cutL
      rw [hd1.length]
      exact (hd1.drop _).take _
  · split at hp'
    · rename_i hb
      cases hp'
      exact .inr (.inr ⟨_, v0.str, Nat.le_trans hb big_line, g.str⟩)
    · cases hp'
  · cases hp'
theorem three_ts {a b c : Expr} {ts : List TE} (h : Paired (PE X) [a, b, c] ts) : ∃ ta tb tc, ts = [ta, tb, tc] ∧ PE X a ta ∧ PE X b tb ∧ PE X c tc := by
  cases h with
  | cons p h =>
    obtain ⟨tb, tc, rfl, p2, p3⟩ := two_ts h
    exact ⟨_, _, _, rfl, p, p2, p3⟩
theorem o_sl {l h : Bool} {e : Expr} {as : List Expr} {ts : List TE} {sc : Scope} (hsh : opArgs C sc (.sl l h) e = some as) (hp : Paired (PE X) as ts) : PE X e (fun sg H Q => chainT ts sg H fun xs H1 => rP C T X.K (.sl l h) xs H1 Q) := by
  obtain ⟨a, lo, hi, p2, pos, xs, ys, rfl, hx, hy, rfl⟩ := slA_ok hsh
  · cases l <;> cases h <;> cases lo <;> cases hi <;> first
      | (simp [optE] at hx; done)
      | (simp [optE] at hy; done)
      | skip
    · cases hx
      cases hy
      obtain ⟨ta, rfl, pa⟩ := one_ts hp
      refine ⟨fun pins s sg H Q I hq => ?_⟩
      refine Subscript_ (thn (pa.run pins s sg H _ I hq) fun v s1 ⟨x, H1, I1, r1, q1⟩ => ?_)
      refine wpAny_Slice ?_
      rw [evalPart_none]
      refine wpAny_pure (wpAny_pure (wpAny_pure ?_))
      obtain ⟨ds, d, bn, hpp, hv, g⟩ := sl_int q1
      obtain ⟨d0, rfl, v0⟩ := vw_one hv
      exact sl_end SlR.all I1 r1 .none .none (sl_res v0 (show slP d0 none none = some d from hpp) g)
    · cases hx
      cases hy
      obtain ⟨ta, tb, rfl, pa, pb⟩ := two_ts hp
      refine ⟨fun pins s sg H Q I hq => ?_⟩
      refine Subscript_ (thn (pa.run pins s sg H _ I hq) fun v s1 ⟨x, H1, I1, r1, q1⟩ => ?_)
      refine wpAny_Slice ?_
      rw [evalPart_none, evalPart_some]
      refine wpAny_pure (thn (pb.run pins s1 sg H1 _ I1 q1) fun w s2 ⟨y, H2, I2, r2, q2⟩ => ?_)
      refine wpAny_pure ?_
      obtain ⟨ds, d, bn, hpp, hv, g⟩ := sl_int q2
      obtain ⟨d0, d1, rfl, v0, v1⟩ := vw_two hv
      cases d1 with
      | int i =>
        obtain rfl := v1.int
        obtain ⟨t, rfl⟩ := r2
        exact sl_end SlR.all I2 r1 .none (.int _ _) (sl_res v0 (show slP d0 none (some i) = some d from hpp) g)
      | _ => simp [primP, optI] at hpp
    · cases hx
      cases hy
      obtain ⟨ta, tb, rfl, pa, pb⟩ := two_ts hp
      refine ⟨fun pins s sg H Q I hq => ?_⟩
      refine Subscript_ (thn (pa.run pins s sg H _ I hq) fun v s1 ⟨x, H1, I1, r1, q1⟩ => ?_)
      refine wpAny_Slice ?_
      rw [evalPart_none, evalPart_some]
      refine thn (pb.run pins s1 sg H1 _ I1 q1) fun w s2 ⟨y, H2, I2, r2, q2⟩ => ?_
      refine wpAny_pure (wpAny_pure ?_)
      obtain ⟨ds, d, bn, hpp, hv, g⟩ := sl_int q2
      obtain ⟨d0, d1, rfl, v0, v1⟩ := vw_two hv
      cases d1 with
      | int i =>
        obtain rfl := v1.int
        obtain ⟨t, rfl⟩ := r2
        exact sl_end SlR.all I2 r1 (.int _ _) .none (sl_res v0 (show slP d0 (some i) none = some d from hpp) g)
      | _ => simp [primP, optI] at hpp
    · cases hx
      cases hy
      obtain ⟨ta, tb, tc, rfl, pa, pb, pc⟩ := three_ts hp
      refine ⟨fun pins s sg H Q I hq => ?_⟩
      refine Subscript_ (thn (pa.run pins s sg H _ I hq) fun v s1 ⟨x, H1, I1, r1, q1⟩ => ?_)
      refine wpAny_Slice ?_
      rw [evalPart_some]
      refine thn (pb.run pins s1 sg H1 _ I1 q1) fun w s2 ⟨y, H2, I2, r2, q2⟩ => ?_
      rw [evalPart_some]
      refine thn (pc.run pins s2 sg H2 _ I2 q2) fun w3 s3 ⟨z, H3, I3, r3, q3⟩ => ?_
      rw [evalPart_none]
      refine wpAny_pure ?_
      obtain ⟨ds, d, bn, hpp, hv, g⟩ := sl_int q3
      obtain ⟨d0, d1, d2, rfl, v0, v1, v2⟩ := vw_three hv
      cases d1 with
      | int i =>
        cases d2 with
        | int j =>
          obtain rfl := v1.int
          obtain ⟨t, rfl⟩ := r2
          obtain rfl := v2.int
          obtain ⟨t3, rfl⟩ := r3
          exact sl_end SlR.all I3 r1 (.int _ _) (.int _ _) (sl_res v0 (show slP d0 (some i) (some j) = some d from hpp) g)
        | _ => simp [primP, optI] at hpp
      | _ => simp [primP, optI] at hpp
/-! ### displays -/
theorem mk_den {T : Tb} {K : PySem.W.Frag} {bo : Addr → Prop} {io : List Addr} {H : Hp} {t : Bool} {vs : List Val} {x : V} (h : DenV T K bo io H x (.seq t vs)) : DenV T K bo io H x (mkSeq t vs) := by
  unfold mkSeq
  cases e : pures vs with
  | none => exact h
  | some ds =>
    cases t with
    | true =>
      cases h with
      | seqT h1 h2 => exact .p (.tup h1 (h2.pures e))
    | false =>
      cases h with
      | seqL h1 h2 => exact .p (.lst h1 (h2.pures e))
theorem o_tup {es : List Expr} {ts : List TE} {k : Nat} {pos : Pos} (hp : Paired (PE X) es ts) (hs : es.all (fun e => !isStar e) = true) : PE X (.Tuple es k pos) (fun sg H Q => chainT ts sg H fun xs H1 => rP C T X.K .tup xs H1 Q) := by
  refine ⟨fun pins s sg H Q I hq => ?_⟩
  refine wpAny_Tuple_spliced (thn ((pa_all hp hs).run pos pins s sg H _ I hq) fun us s1 ⟨xs, H1, I1, r, q⟩ => ?_)
  obtain ⟨bo, n0, io, S, vs, v, S1, R, rv, hpp, ok⟩ := q
  replace hpp : (if vs.length ≤ big then some (mkSeq true vs, S) else none) = some (v, S1) := hpp
  split at hpp
  · rename_i hb
    cases hpp
    have hl := rv.length
    have hl2 := r.length
    have bl := big_line
    have z : xs.length ≤ sizeLine := by omega
    refine ⟨by omega, ?_⟩
    have hf : H1 s1.heap.objs.size = none := I1.hok.fresh (Nat.le_refl _)
    refine ⟨.ref s1.heap.objs.size, upd H1 s1.heap.objs.size (.tup xs), I1.laid (t' := s1.toks) (fun b u e => Heap.get?_push_of_some _ e) (Nat.le_refl _) ⟨z, us, r, ⟨_, Heap.get?_push_size _ rfl, rfl, _, rfl⟩⟩, rfl, ?_⟩
    exact ok _ _ io (Ext.laid hf) (R.laid hf) (mk_den (.seqT (.inl (.inl upd_same)) ((Ext.laid (io := io) hf).denVs R.cl rv)))
  · cases hpp
theorem o_lst_run {cell : Bool} {es : List Expr} {pos : Pos} {pins : List (Addr × Obj)} {s : Shared} {sg : L2.St} {Q : VK} (hr : wpAny (model X.prog X.w) X.A (spliced (backTo pos (starEach es X.env))) (AP X pins sg (fun xs H1 => rP C T X.K (if cell then .mk .lst else .lst) xs H1 Q)) X.xe s) :
    wpAny (model X.prog X.w) X.A (eval (.List es pos) X.env) (EP X pins sg Q) X.xe s := by
  refine wpAny_List_spliced (thn hr fun us s1 ⟨xs, H1, I1, r, q⟩ => ?_)
  obtain ⟨bo, n0, io, S, vs, v, S1, R, rv, hpp, ok⟩ := q
  have hf : H1 s1.heap.objs.size = none := I1.hok.fresh (Nat.le_refl _)
  have hl := rv.length
  have hl2 := r.length
  have bl := big_line
  have lay : vs.length ≤ big → xs.length ≤ sizeLine ∧ us.length ≤ sizeLine ∧ Inv X pins sg (upd H1 s1.heap.objs.size (.lst xs)) { s1 with heap := s1.heap.push { cls := .type "list", data := .seq us.toArray } } := fun hb => by
    have z : xs.length ≤ sizeLine := by omega
    exact ⟨z, by omega, I1.laid (t' := s1.toks) (fun b u e => Heap.get?_push_of_some _ e) (Nat.le_refl _) ⟨z, us, 0, r, Heap.get?_push_size _ rfl⟩⟩
  have nb : ¬ bnO bo io s1.heap.objs.size := fun z => by
    rcases z with z | z
    · exact R.out _ z hf
    · exact R.cl.some z hf
  cases cell with
  | false =>
    replace hpp : (if vs.length ≤ big then some (mkSeq false vs, S) else none) = some (v, S1) := hpp
    split at hpp
    · rename_i hb
      cases hpp
      obtain ⟨z1, z2, J⟩ := lay hb
      refine ⟨z2, .ref s1.heap.objs.size, _, J, rfl, ?_⟩
      exact ok _ _ io (Ext.laid hf) (R.laid hf) (mk_den (.seqL (.inl ⟨.inl upd_same, nb⟩) ((Ext.laid (io := io) hf).denVs R.cl rv)))
    · cases hpp
  | true =>
    replace hpp : (match (if vs.length ≤ big then some (mkSeq false vs, S) else none) with
      | some (.p (.list ds), S1) => some (Val.loc S1.length, S1 ++ [Cell.lst ds])
      | _ => none) = some (v, S1) := hpp
    by_cases hb : vs.length ≤ big
    · rw [if_pos hb] at hpp
      obtain ⟨z1, z2, J⟩ := lay hb
      refine ⟨z2, .ref s1.heap.objs.size, _, J, rfl, ?_⟩
      unfold mkSeq at hpp
      cases e : pures vs with
      | none => rw [e] at hpp; cases hpp
      | some ds =>
        rw [e] at hpp
        cases hpp
        have E : Ext io H1 (io ++ [s1.heap.objs.size]) (upd H1 s1.heap.objs.size (.lst xs)) := Ext.cell hf
        refine ok _ _ (io ++ [s1.heap.objs.size]) E (R.cellNew hf ⟨xs, upd_same, E.dens R.cl (rv.pures e)⟩) (.loc ?_)
        rw [← R.len, List.getElem?_append_right (Nat.le_refl _)]
        simp
    · rw [if_neg hb] at hpp
      cases hpp
theorem o_lst {cell : Bool} {es : List Expr} {ts : List TE} {pos : Pos} (hp : Paired (PE X) es ts) (hs : es.all (fun e => !isStar e) = true) : PE X (.List es pos) (fun sg H Q => chainT ts sg H fun xs H1 => rP C T X.K (if cell then .mk .lst else .lst) xs H1 Q) := ⟨fun pins s sg H Q I hq => o_lst_run ((pa_all hp hs).run pos pins s sg H _ I hq)⟩

theorem o_dnew {pos : Pos} : PE X (.Dict [] [] pos) (fun sg H Q => chainT [] sg H fun xs H1 => rP C T X.K .dnew xs H1 Q) := by
  refine PE.mono pe_dnewK fun sg H Q h p hp => ?_
  obtain ⟨bo, n0, io, S, vs, v, S1, R, rv, hpp, ok⟩ := h
  cases rv
  cases hpp
  exact ok _ _ io (Ext.laid hp) (R.laid hp) (.dic upd_same fun z => by
    rcases z with z | z
    · exact R.out _ z hp
    · exact R.cl.some z hp)
end
end Ev

/-! Ev24: built-in functions. -/
namespace Ev
open PySem PySem.Spec PyProof.Rows L2

section
variable {X : Cx} {C : Cfg} {T : Tb}
mutual
theorem noDict_of_plain : ∀ d : PyData, d.plain = true → d.hasDict = false
  | .none, _ => rfl
  | .bool _, _ => rfl
  | .int _, _ => rfl
  | .str _, _ => rfl
  | .list xs, h => noDict_all xs h
  | .tuple xs, h => noDict_all xs h
  | .dict _, h => by cases h
theorem noDict_all : ∀ ds : List PyData, PyData.plainAll ds = true → PyData.hasDictAll ds = false
  | [], _ => rfl
  | d :: ds, h => by
    have h' : (d.plain && PyData.plainAll ds) = true := h
    rw [Bool.and_eq_true] at h'
    show (d.hasDict || PyData.hasDictAll ds) = false
    rw [noDict_of_plain d h'.1, noDict_all ds h'.2]
    rfl
end
theorem vws1 {K : PySem.W.Frag} {bn : Addr → Prop} {H : Hp} {xs : List V} {d : PyData} (h : Paired (Vw K bn H) xs [d]) : ∃ x, xs = [x] ∧ Vw K bn H x d := by
  cases h with
  | cons a h => cases h; exact ⟨_, rfl, a⟩
theorem vws2 {K : PySem.W.Frag} {bn : Addr → Prop} {H : Hp} {xs : List V} {d e : PyData} (h : Paired (Vw K bn H) xs [d, e]) : ∃ x y, xs = [x, y] ∧ Vw K bn H x d ∧ Vw K bn H y e := by
  cases h with
  | cons a h =>
    obtain ⟨y, rfl, b⟩ := vws1 h
    exact ⟨_, _, rfl, a, b⟩
theorem r_len : CallR X (.builtin "len") (fun xs H Q => rP C T X.K (.bi .len) xs H Q) := by
  intro pins s sg H xs us Q I r h
  obtain ⟨ds, d, bn, hp, hv, g⟩ := gp_of (fun _ _ => rfl) h
  rcases ds with _ | ⟨d1, _ | ⟨d2, ds⟩⟩
  · simp [primP, biP] at hp
  · obtain ⟨x, rfl, v⟩ := vws1 hv
    cases d1 with
    | str z =>
      replace hp : (if z.length ≤ big then some (PyData.int z.length) else none) = some d := hp
      split at hp
      · rename_i hb
        cases hp
        exact call_len_str pins s sg H _ us Q I r ⟨_, by rw [v.str], Nat.le_trans hb big_line, g.int⟩
      · cases hp
    | list es =>
      cases hp
      obtain ⟨a, ys, rfl, hs, hd⟩ := v.list
      exact call_len_seq pins s sg H _ us Q I r ⟨a, ys, rfl, .inl hs, by rw [hd.length]; exact g.int⟩
    | tuple es =>
      cases hp
      obtain ⟨a, ys, rfl, hs, hd⟩ := v.tup
      exact call_len_seq pins s sg H _ us Q I r ⟨a, ys, rfl, .inr hs, by rw [hd.length]; exact g.int⟩
    | _ => simp [primP, biP] at hp
  · simp [primP, biP] at hp
theorem r_abs : CallR X (.builtin "abs") (fun xs H Q => rP C T X.K (.bi .abs) xs H Q) := by
  intro pins s sg H xs us Q I r h
  obtain ⟨ds, d, bn, hp, hv, g⟩ := gp_of (fun _ _ => rfl) h
  rcases ds with _ | ⟨d1, _ | ⟨d2, ds⟩⟩ <;> first
    | (simp [primP, biP] at hp; done)
    | (cases d1 <;> first | (simp [primP, biP] at hp; done) | skip)
  rename_i i
  cases hp
  obtain ⟨x, rfl, v⟩ := vws1 hv
  refine call_abs pins s sg H _ us Q I r ⟨i, by rw [v.int], ?_⟩
  have e : (if i < 0 then -i else i) = (i.natAbs : Int) := by split <;> omega
  rw [e]
  exact g.int
theorem r_max (hc : X.calm = true) : CallR X (.builtin "max") (fun xs H Q => rP C T X.K (.bi .max) xs H Q) := by
  intro pins s sg H xs us Q I r h
  obtain ⟨ds, d, bn, hp, hv, g⟩ := gp_of (fun _ _ => rfl) h
  rcases ds with _ | ⟨d1, _ | ⟨d2, _ | ⟨d3, ds⟩⟩⟩ <;> first
    | (simp [primP, biP] at hp; done)
    | (cases d1 <;> cases d2 <;> first | (simp [primP, biP] at hp; done) | skip)
  cases hp
  obtain ⟨x, y, rfl, v, w⟩ := vws2 hv
  exact call_max2 hc pins s sg H _ us Q I r ⟨_, _, by rw [v.int, w.int], g.int⟩
theorem r_min (hc : X.calm = true) : CallR X (.builtin "min") (fun xs H Q => rP C T X.K (.bi .min) xs H Q) := by
  intro pins s sg H xs us Q I r h
  obtain ⟨ds, d, bn, hp, hv, g⟩ := gp_of (fun _ _ => rfl) h
  rcases ds with _ | ⟨d1, _ | ⟨d2, _ | ⟨d3, ds⟩⟩⟩ <;> first
    | (simp [primP, biP] at hp; done)
    | (cases d1 <;> cases d2 <;> first | (simp [primP, biP] at hp; done) | skip)
  cases hp
  obtain ⟨x, y, rfl, v, w⟩ := vws2 hv
  exact call_min2 hc pins s sg H _ us Q I r ⟨_, _, by rw [v.int, w.int], g.int⟩
theorem r_int : CallR X (.type "int") (fun xs H Q => rP C T X.K (.bi .int) xs H Q) := by
  intro pins s sg H xs us Q I r h
  obtain ⟨ds, d, bn, hp, hv, g⟩ := gp_of (fun _ _ => rfl) h
  rcases ds with _ | ⟨d1, _ | ⟨d2, ds⟩⟩
  · simp [primP, biP] at hp
  · obtain ⟨x, rfl, v⟩ := vws1 hv
    cases d1 with
    | int i =>
      cases hp
      exact call_int1 pins s sg H _ us Q I r (.inl ⟨i, by rw [v.int], g.int⟩)
    | bool b =>
      cases hp
      exact call_int1 pins s sg H _ us Q I r (.inr ⟨b, by rw [v.bl], g.int⟩)
    | str z =>
      replace hp : (if z.length ≤ 640 then (PySem.intText? z).map .int else none) = some d := hp
      split at hp
      · rename_i hb
        cases hn : PySem.intText? z with
        | none => rw [hn] at hp; cases hp
        | some k =>
          rw [hn] at hp
          cases hp
          exact call_int_str pins s sg H _ us Q I r ⟨z, k, by rw [v.str], hn, hb, g.int⟩
      · cases hp
    | _ => simp [primP, biP] at hp
  · simp [primP, biP] at hp
theorem r_str : CallR X (.type "str") (fun xs H Q => rP C T X.K (.bi .str) xs H Q) := by
  intro pins s sg H xs us Q I r h
  obtain ⟨ds, d, bn, hp, hv, g⟩ := gp_of (fun _ _ => rfl) h
  rcases ds with _ | ⟨d1, _ | ⟨d2, ds⟩⟩
  · simp [primP, biP] at hp
  · obtain ⟨x, rfl, v⟩ := vws1 hv
    cases d1 with
    | int i =>
      replace hp : (if i.natAbs.log2 < 1920 then some (PyData.str (intStr i)) else none) = some d := hp
      split at hp
      · rename_i hb
        cases hp
        exact call_str_int pins s sg H _ us Q I r ⟨i, by rw [v.int], hb, g.str⟩
      · cases hp
    | str z =>
      cases hp
      exact SkE.call_str_str pins s sg H _ us Q I r ⟨z, by rw [v.str], g.str⟩
    | _ => simp [primP, biP, strP] at hp
  · simp [primP, biP] at hp
theorem r_tuple : CallR X (.type "tuple") (fun xs H Q => rP C T X.K (.bi .tuple) xs H Q) := by
  intro pins s sg H xs us Q I r h
  obtain ⟨ds, d, bn, hp, hv, g⟩ := gp_of (fun _ _ => rfl) h
  rcases ds with _ | ⟨d1, _ | ⟨d2, ds⟩⟩
  · simp [primP, biP] at hp
  · obtain ⟨x, rfl, v⟩ := vws1 hv
    cases d1 with
    | list es =>
      cases hp
      obtain ⟨a, ys, rfl, hs, hd⟩ := v.list
      exact call_tuple_of pins s sg H _ us Q I r ⟨a, ys, rfl, .inl ⟨hs, g.tup hd⟩⟩
    | tuple es =>
      cases hp
      obtain ⟨a, ys, rfl, hs, hd⟩ := v.tup
      exact call_tuple_of pins s sg H _ us Q I r ⟨a, ys, rfl, .inr ⟨hs, g.now _ (.tup hs hd)⟩⟩
    | _ => simp [primP, biP] at hp
  · simp [primP, biP] at hp
theorem r_list : CallR X (.type "list") (fun xs H Q => rP C T X.K (.bi .list) xs H Q) := by
  intro pins s sg H xs us Q I r h
  obtain ⟨ds, d, bn, hp, hv, g⟩ := gp_of (fun _ _ => rfl) h
  rcases ds with _ | ⟨d1, _ | ⟨d2, ds⟩⟩
  · simp [primP, biP] at hp
  · obtain ⟨x, rfl, v⟩ := vws1 hv
    cases d1 with
    | list es =>
      cases hp
      obtain ⟨a, ys, rfl, hs, hd⟩ := v.list
      exact call_list_of pins s sg H _ us Q I r ⟨a, ys, rfl, .inl hs, g.lst hd⟩
    | tuple es =>
      cases hp
      obtain ⟨a, ys, rfl, hs, hd⟩ := v.tup
      exact call_list_of pins s sg H _ us Q I r ⟨a, ys, rfl, .inr hs, g.lst hd⟩
    | _ => simp [primP, biP] at hp
  · simp [primP, biP] at hp
theorem trus_ok : ∀ {ds : List PyData} {bs : List Bool}, trusOf ds = some bs → ds.map PyData.truthy = bs ∧ ∀ d ∈ ds, d.fits63
  | [], bs, h => by
    cases h
    exact ⟨rfl, fun d m => absurd m List.not_mem_nil⟩
  | d :: ds, bs, h => by
    unfold trusOf at h
    cases hd : truF d with
    | none => rw [hd] at h; cases h
    | some b =>
      rw [hd] at h
      dsimp only at h
      cases ht : trusOf ds with
      | none => rw [ht] at h; cases h
      | some cs =>
        rw [ht] at h
        cases h
        obtain ⟨h1, h2⟩ := trus_ok ht
        have key : d.truthy = b ∧ d.fits63 := by
          unfold truF at hd
          split at hd
          · cases hd; exact ⟨rfl, trivial⟩
          · cases hd; exact ⟨rfl, trivial⟩
          · cases hd; exact ⟨rfl, trivial⟩
          · split at hd
            · rename_i hb
              cases hd
              refine ⟨rfl, ?_⟩
              have hb' : _ ≤ 5000000 := hb
              show (_ : Int) < 2 ^ 63
              omega
            · cases hd
          · cases hd
        refine ⟨by rw [List.map_cons, h1, key.1], fun e m => ?_⟩
        rcases List.mem_cons.mp m with rfl | m
        · exact key.2
        · exact h2 e m
theorem r_all (hc : X.calm = true) : CallR X (.builtin "all") (fun xs H Q => rP C T X.K (.bi .all) xs H Q) := by
  intro pins s sg H xs us Q I r h
  obtain ⟨ds, d, bn, hp, hv, g⟩ := gp_of (fun _ _ => rfl) h
  rcases ds with _ | ⟨d1, _ | ⟨d2, ds⟩⟩
  · simp [primP, biP] at hp
  · obtain ⟨x, rfl, v⟩ := vws1 hv
    cases d1 with
    | list es =>
      replace hp : ((trusOf es).map fun bs => PyData.bool (bs.all id)) = some d := hp
      cases ht : trusOf es with
      | none => rw [ht] at hp; cases hp
      | some bs =>
        rw [ht] at hp
        cases hp
        obtain ⟨h1, h2⟩ := trus_ok ht
        obtain ⟨a, ys, rfl, hs, hd⟩ := v.list
        obtain ⟨q1, q2⟩ := Dens.dp _ _ hd
        cases r with
        | cons r0 r =>
          cases r
          cases r0
          obtain ⟨its, rv, pl, hz⟩ := I.list hs
          obtain ⟨as, ra⟩ := Dp.readsAll I es ys its q1 rv
          refine PySem.W.all_list_data (I.ok.hd hc) pl.isList ra q2 h2 fun h' tk hk => ⟨.bl _, H, I.kept (t' := tk) hk, rfl, ?_⟩
          have e : es.all PyData.truthy = bs.all id := by rw [← h1, List.all_map]; rfl
          rw [e]
          exact g.bl
    | _ => simp [primP, biP] at hp
  · simp [primP, biP] at hp
theorem r_any (hc : X.calm = true) : CallR X (.builtin "any") (fun xs H Q => rP C T X.K (.bi .any) xs H Q) := by
  intro pins s sg H xs us Q I r h
  obtain ⟨ds, d, bn, hp, hv, g⟩ := gp_of (fun _ _ => rfl) h
  rcases ds with _ | ⟨d1, _ | ⟨d2, ds⟩⟩
  · simp [primP, biP] at hp
  · obtain ⟨x, rfl, v⟩ := vws1 hv
    cases d1 with
    | list es =>
      replace hp : ((trusOf es).map fun bs => PyData.bool (bs.any id)) = some d := hp
      cases ht : trusOf es with
      | none => rw [ht] at hp; cases hp
      | some bs =>
        rw [ht] at hp
        cases hp
        obtain ⟨h1, h2⟩ := trus_ok ht
        obtain ⟨a, ys, rfl, hs, hd⟩ := v.list
        obtain ⟨q1, q2⟩ := Dens.dp _ _ hd
        cases r with
        | cons r0 r =>
          cases r
          cases r0
          obtain ⟨its, rv, pl, hz⟩ := I.list hs
          obtain ⟨as, ra⟩ := Dp.readsAll I es ys its q1 rv
          refine PySem.W.any_list_data (I.ok.hd hc) pl.isList ra q2 h2 fun h' tk hk => ⟨.bl _, H, I.kept (t' := tk) hk, rfl, ?_⟩
          have e : es.any PyData.truthy = bs.any id := by rw [← h1, List.any_map]; rfl
          rw [e]
          exact g.bl
    | _ => simp [primP, biP] at hp
  · simp [primP, biP] at hp
theorem ints_ok {K : PySem.W.Frag} {bn : Addr → Prop} {H : Hp} : ∀ {ds : List PyData} {is : List Int} {ys : List V}, intsOf ds = some is → Dens K bn H ys ds → ys = is.map V.int
  | [], is, _, h, .nil => by cases h; rfl
  | d :: ds, is, _, h, .cons r rs => by
    cases d with
    | int i =>
      unfold intsOf at h
      cases hd : intsOf ds with
      | none => rw [hd] at h; cases h
      | some js =>
        rw [hd] at h
        cases h
        cases r
        rw [ints_ok hd rs]
        rfl
    | _ => simp [intsOf] at h
theorem r_sum (hc : X.calm = true) : CallR X (.builtin "sum") (fun xs H Q => rP C T X.K (.bi .sum) xs H Q) := by
  intro pins s sg H xs us Q I r h
  obtain ⟨ds, d, bn, hp, hv, g⟩ := gp_of (fun _ _ => rfl) h
  rcases ds with _ | ⟨d1, _ | ⟨d2, ds⟩⟩
  · simp [primP, biP] at hp
  · obtain ⟨x, rfl, v⟩ := vws1 hv
    cases d1 with
    | list es =>
      replace hp : ((intsOf es).map fun is => PyData.int is.sum) = some d := hp
      cases ht : intsOf es with
      | none => rw [ht] at hp; cases hp
      | some is =>
        rw [ht] at hp
        cases hp
        obtain ⟨a, ys, rfl, hs, hd⟩ := v.list
        rw [ints_ok ht hd] at hs
        exact cr_sum hc pins s sg H _ us Q I r ⟨a, is, rfl, hs, g.int⟩
    | _ => simp [primP, biP] at hp
  · simp [primP, biP] at hp
theorem r_repr (hg : X.A.guards = some []) (hu : X.A.units + 100 < cLine) : CallR X (.builtin "repr") (fun xs H Q => rP C T X.K (.bi .repr) xs H Q) := by
  intro pins s sg H xs us Q I r h
  obtain ⟨ds, d, bn, hp, hv, g⟩ := gp_of (fun _ _ => rfl) h
  rcases ds with _ | ⟨d1, _ | ⟨d2, ds⟩⟩
  · simp [primP, biP] at hp
  · obtain ⟨x, rfl, v⟩ := vws1 hv
    cases r with
    | cons r0 r =>
      cases r
      cases d1 with
      | str z =>
        replace hp : (if (reprText z).length ≤ big then some (PyData.str (reprText z)) else none) = some d := hp
        split at hp
        · rename_i hb
          cases hp
          obtain rfl := v.str
          obtain ⟨t, rfl⟩ := r0
          exact PySem.P.repr_of_str ⟨.str _, H, I.tok _, ⟨_, rfl⟩, g.str⟩ (Nat.le_trans hb big_line)
        · cases hp
      | list es =>
        replace hp : (if PyData.showable (.list es) = true ∧ (PyData.list es).shown.length ≤ big ∧ (PyData.list es).depth ≤ 64 then some (PyData.str (PyData.list es).shown) else none) = some d := hp
        split at hp
        · rename_i hb
          cases hp
          obtain ⟨q1, q2⟩ := v.dp
          obtain ⟨a, ys, rfl, hs, hd⟩ := v.list
          obtain ⟨as, ra⟩ := Dp.reads I _ _ _ q1 r0
          cases r0
          exact repr_of_reads' ra hb.1 (fun hd' => absurd hd' (by rw [noDict_of_plain _ q2]; exact Bool.false_ne_true)) hg (by have := hb.2.2; omega) (fun _ _ e => e) (fun h' u tk hk => ⟨.str _, H, I.kept (t' := tk) hk, ⟨_, rfl⟩, g.str⟩) (Nat.le_trans hb.2.1 big_line)
        · cases hp
      | tuple es =>
        replace hp : (if PyData.showable (.tuple es) = true ∧ (PyData.tuple es).shown.length ≤ big ∧ (PyData.tuple es).depth ≤ 64 then some (PyData.str (PyData.tuple es).shown) else none) = some d := hp
        split at hp
        · rename_i hb
          cases hp
          obtain ⟨q1, q2⟩ := v.dp
          obtain ⟨a, ys, rfl, hs, hd⟩ := v.tup
          obtain ⟨as, ra⟩ := Dp.reads I _ _ _ q1 r0
          cases r0
          exact repr_of_reads' ra hb.1 (fun hd' => absurd hd' (by rw [noDict_of_plain _ q2]; exact Bool.false_ne_true)) hg (by have := hb.2.2; omega) (fun _ _ e => e) (fun h' u tk hk => ⟨.str _, H, I.kept (t' := tk) hk, ⟨_, rfl⟩, g.str⟩) (Nat.le_trans hb.2.1 big_line)
        · cases hp
      | _ => simp [primP, biP] at hp
  · simp [primP, biP] at hp
end
end Ev

/-! Ev25: sorted, isinstance. -/
namespace Ev
open PySem PySem.Spec PyProof.Rows L2

section
variable {X : Cx} {C : Cfg} {T : Tb}
theorem each_of {K : PySem.W.Frag} {bn : Addr → Prop} {H : Hp} : ∀ {its : List Value} {ys : List V} {es : List PyData}, Vals ys its → Dens K bn H ys es → PySem.W.EachIs (fun u (b : V × PyData) => RelV b.1 u ∧ Den K bn H b.1 b.2) its (ys.zip es) ∧ (ys.zip es).map (·.2) = es
  | [], _, _, .nil, h => by
    cases h
    exact ⟨.nil, rfl⟩
  | u :: us, _, _, .cons r rs, h => by
    cases h with
    | cons d ds =>
      obtain ⟨h1, h2⟩ := each_of rs ds
      exact ⟨.cons ⟨r, d⟩ h1, by rw [List.zip_cons_cons, List.map_cons, h2]⟩
theorem each_back {K : PySem.W.Frag} {bn : Addr → Prop} {H : Hp} {out : List Value} {bs : List (V × PyData)} (h : PySem.W.EachIs (fun u (b : V × PyData) => RelV b.1 u ∧ Den K bn H b.1 b.2) out bs) : Vals (bs.map (·.1)) out ∧ Dens K bn H (bs.map (·.1)) (bs.map (·.2)) := by
  induction h with
  | nil => exact ⟨.nil, .nil⟩
  | cons a _ ih => exact ⟨.cons a.1 ih.1, .cons a.2 ih.2⟩
theorem sortOk_ok {es : List PyData} (h : sortOk es = true) : PySem.W.AllAlike es ∧ PySem.W.Sortable es ∧ ∀ d ∈ es, d.depth ≤ 64 := by
  unfold sortOk at h
  simp only [Bool.and_eq_true, Bool.or_eq_true, List.all_eq_true, decide_eq_true_eq] at h
  obtain ⟨⟨h1, h2⟩, h3⟩ := h
  refine ⟨fun d hd e he => h1 d hd e he, ?_, h2⟩
  rcases h3 with h3 | h3
  · refine .inl fun d hd => ?_
    have z := h3 d hd
    split at z
    · exact ⟨_, _, rfl⟩
    · cases z
  · refine .inr fun d hd => ?_
    have z := h3 d hd
    split at z
    · cases z
    · cases z
    · rename_i n1 n2
      exact ⟨fun e => n1 e, fun xs e => n2 xs e⟩
theorem r_sorted (hu : X.A.units + 100 < cLine) : CallR X (.builtin "sorted") (fun xs H Q => rP C T X.K (.bi .sorted) xs H Q) := by
  intro pins s sg H xs us Q I r h
  obtain ⟨ds, d, bn, hp, hv, g⟩ := gp_of (fun _ _ => rfl) h
  rcases ds with _ | ⟨d1, _ | ⟨d2, ds⟩⟩
  · simp [primP, biP] at hp
  · obtain ⟨x, rfl, v⟩ := vws1 hv
    cases d1 with
    | list es =>
      replace hp : (if sortOk es = true ∧ es.length ≤ big then some (PyData.list (isort es)) else none) = some d := hp
      split at hp
      · rename_i hc
        cases hp
        obtain ⟨k1, k2, k3⟩ := sortOk_ok hc.1
        obtain ⟨a, ys, rfl, hs, hd⟩ := v.list
        cases r with
        | cons r0 r =>
          cases r
          cases r0
          obtain ⟨its, rv, pl, hz⟩ := I.list hs
          obtain ⟨e1, e2⟩ := each_of rv hd
          have hl1 := rv.length
          have hl2 := hd.length
          have bl := big_line
          have hlen : (ys.zip es).length = es.length := by rw [List.length_zip]; omega
          refine PySem.W.sorted_data (enc := fun b : V × PyData => b.2) pl.isList e1 (e1.mono fun u b hb => ?_) (by rw [e2]; exact k1) (by rw [e2]; exact k2) (by have := hc.2; omega) (fun b hb => ?_) fun out ho1 ho2 => ?_
          · obtain ⟨q1, _⟩ := Den.dp _ _ hb.2
            exact Dp.reads I b.2 b.1 u q1 hb.1
          · have := k3 b.2 (by rw [← e2]; exact List.mem_map_of_mem hb)
            omega
          · obtain ⟨w1, w2⟩ := each_back ho2
            have e3 : ((ys.zip es).mergeSort (PySem.W.dataLe false fun b : V × PyData => b.2)).map (fun b : V × PyData => b.2) = isort es := by
              exact (List.map_mergeSort (r := PySem.W.dataLe false fun b : V × PyData => b.2) (s := PySem.W.dataLe false id) (f := fun b : V × PyData => b.2) (fun a _ b _ => rfl)).trans (congrArg (fun l => List.mergeSort l (PySem.W.dataLe false id)) e2)
            rw [e3] at w2
            obtain ⟨ep, he'⟩ := PyProof.Rows.sortedAll_at s.heap its out.toArray
            have hl3 := w1.length
            have hz2 : (((ys.zip es).mergeSort (PySem.W.dataLe false fun b : V × PyData => b.2)).map (·.1)).length ≤ sizeLine := by
              have := hc.2
              omega
            exact ⟨.ref _, upd H (s.heap.objs.size + 1) (.lst (((ys.zip es).mergeSort (PySem.W.dataLe false fun b : V × PyData => b.2)).map (·.1))), I.laid (t' := s.toks) (fun _ _ => PyProof.Rows.sortedAll_old) (Nat.le_succ _) ⟨hz2, out, ep, w1, he'⟩, rfl, g.lst w2 _ (I.hok.fresh (Nat.le_succ _))⟩
      · cases hp
    | _ => simp [primP, biP] at hp
  · simp [primP, biP] at hp
/-- isinstance of data -/
theorem r_isb (t : String) : CallR X (.builtin "isinstance") (fun xs H Q => ∃ x, xs = [x, .ty t] ∧ rP C T X.K (.isi (.bt t)) [x] H Q) := by
  intro pins s sg H xs us Q I r h
  obtain ⟨x, rfl, h⟩ := h
  obtain ⟨bo, n0, io, S, vs, w, S1, R, rv, hp, ok⟩ := h
  cases rv with
  | cons r1 rv =>
    cases rv
    rename_i v
    cases r with
    | cons rx r =>
      cases r with
      | cons rt r =>
        cases r
        rename_i u1 u2
        obtain rfl : u2 = .type t := rt
        have step : ∃ d as, Reads s.heap u1 d as ∧ ((isaP t d).map fun b => (Val.p (.bool b), S)) = some (w, S1) := by
          replace hp : ((isiV C S (.bt t) v).map fun b => (Val.p (.bool b), S)) = some (w, S1) := hp
          have gen : (match view S v with
            | some d => isaP t d
            | none => none).map (fun b => (Val.p (.bool b), S)) = some (w, S1) → ∃ d as, Reads s.heap u1 d as ∧ ((isaP t d).map fun b => (Val.p (.bool b), S)) = some (w, S1) := fun hp => by
            cases hv : view S v with
            | none => rw [hv] at hp; cases hp
            | some d =>
              rw [hv] at hp
              have vw := view_ok R r1 hv
              obtain ⟨q1, q2⟩ := vw.dp
              obtain ⟨as, ra⟩ := Dp.reads I d x u1 q1 rx
              exact ⟨d, as, ra, hp⟩
          cases v with
          | dic kvs =>
            cases r1 with
            | dic h0 hb =>
              obtain rfl : u1 = .ref _ := rx
              obtain ⟨_, _, vs, kv, o, es, ep, g1, g2, g3, _, g5, _⟩ := I.hok _ _ h0
              cases kv
              cases hes : es.toList with
              | cons e es' => rw [hes] at g5; cases g5
              | nil =>
                exact ⟨.dict [], _, .dict g1 g2.1 g3 (by rw [hes]; exact .nil) (by rw [hes]; exact .nil), hp⟩
          | _ => exact gen hp
        obtain ⟨d, as, ra, hp⟩ := step
        cases hb : isaP t d with
        | none => rw [hb] at hp; cases hp
        | some b =>
            rw [hb] at hp
            cases hp
            have fin : ∀ tk, s.toks ≤ tk → EP X pins sg Q (.bool b) { s with toks := tk } := fun tk _ => ⟨.bl b, H, I.tok tk, rfl, ok _ H io Ext.refl R (.p (.bl b))⟩
            unfold isaP at hb
            split at hb
            · rename_i e; subst e; cases hb; exact PySem.W.isinstance_int_data ra fin
            · split at hb
              · rename_i e; subst e; cases hb; exact PySem.W.isinstance_bool_data ra fin
              · split at hb
                · rename_i e; subst e; cases hb; exact PySem.W.isinstance_str_data ra fin
                · split at hb
                  · rename_i e; subst e; cases hb; exact PySem.W.isinstance_tuple_data ra fin
                  · split at hb
                    · rename_i e; subst e; cases hb; exact PySem.W.isinstance_list_data ra fin
                    · split at hb
                      · rename_i e; subst e; cases hb; exact PySem.W.isinstance_dict_data ra fin
                      · cases hb
end
end Ev

/-! Ev26: the operations, all. -/
namespace Ev
open PySem PySem.Spec PyProof.Rows L2

theorem pe_bi {X : Cx} {sc : Scope} {C : Cfg} {T : Tb} {n : Nat} {N : List Str} {raw : Scope} {W : WX} {c : Bool} (g : Good X C T n N sc raw W c) {b : Bi} {as : List Expr} {ts : List TE} {p q : Pos} (hg : glB sc (biName b) = true) (hf : biName b ∈ C.free) (hl : as.length = biArity b) (hp : Paired (PE X) as ts) (hs : as.all (fun e => !isStar e) = true)
    {u : Value} (hu : bootBuiltins (biName b) = some u) (hk : (∃ id, u = .builtin id) ∨ ∃ t, u = .type t) (hr : CallR X u (fun xs H Q => rP C T X.K (.bi b) xs H Q)) : PE X (.Call (.Name (biName b) p) as [] q) (fun sg H Q => chainT ts sg H fun xs H1 => rP C T X.K (.bi b) xs H1 Q) := by
  cases hp with
  | nil => cases b <;> cases hl
  | cons h1 h2 =>
    have hs' := hs
    simp only [List.all_cons, Bool.and_eq_true, Bool.not_eq_true'] at hs'
    rcases hk with ⟨id, rfl⟩ | ⟨t, rfl⟩
    · exact PE.mono (pe_callB hr (g.gl hg) (g.mod.free _ hf) hu (pa_all (.cons h1 h2) hs) (glB_ok hg).2.2 (glB_ok hg).2.1 (star_of hs'.1 _ _) (any_of hs'.2 _ _)) fun _ _ _ h => h
    · exact PE.mono (pe_callTy hr (g.gl hg) (g.mod.free _ hf) hu (pa_all (.cons h1 h2) hs) (glB_ok hg).2.2 (glB_ok hg).2.1 (star_of hs'.1 _ _) (any_of hs'.2 _ _)) fun _ _ _ h => h
def biVal : Bi → Value
  | .int => .type "int"
  | .str => .type "str"
  | .tuple => .type "tuple"
  | .list => .type "list"
  | .len => .builtin "len" | .abs => .builtin "abs" | .max => .builtin "max" | .min => .builtin "min" | .repr => .builtin "repr" | .sorted => .builtin "sorted" | .all => .builtin "all" | .any => .builtin "any" | .sum => .builtin "sum"
theorem boot_bi (b : Bi) : bootBuiltins (biName b) = some (biVal b) := by
  cases b <;> decide +kernel
theorem kind_bi (b : Bi) : (∃ id, biVal b = .builtin id) ∨ ∃ t, biVal b = .type t := by
  cases b <;> first
    | exact .inl ⟨_, rfl⟩
    | exact .inr ⟨_, rfl⟩
theorem rule_bi {X : Cx} {C : Cfg} {T : Tb} {n : Nat} {N : List Str} {sc raw : Scope} {W : WX} (g : Good X C T n N sc raw W true) (b : Bi) : CallR X (biVal b) (fun xs H Q => rP C T X.K (.bi b) xs H Q) := by
  cases b with
  | len => exact r_len
  | abs => exact r_abs
  | max => exact r_max (g.calm rfl)
  | min => exact r_min (g.calm rfl)
  | int => exact r_int
  | str => exact r_str
  | repr => exact r_repr (g.room rfl).gd g.un
  | tuple => exact r_tuple
  | list => exact r_list
  | sorted => exact r_sorted g.un
  | all => exact r_all (g.calm rfl)
  | any => exact r_any (g.calm rfl)
  | sum => exact r_sum (g.calm rfl)
theorem boot_ty {t : String} (h : btOk t = true) : bootBuiltins (Str.ofString t) = some (.type t) := by
  unfold btOk at h
  simp only [Bool.or_eq_true, beq_iff_eq] at h
  rcases h with ((((h | h) | h) | h) | h) | h <;> subst h <;> decide +kernel
theorem boot_isi : bootBuiltins ("isinstance" : Str) = some (.builtin "isinstance") := by decide +kernel
theorem pe_arg2 {X : Cx} {x : Str} {id : String} {a b : Expr} {ta : TE} {v : V} {p pos : Pos} {r : V → Hp → VK → Prop} (hc : CallR X (.builtin id) (fun xs H Q => ∃ x, xs = [x, v] ∧ r x H Q)) (hg : Gl X x) (hm : X.mg x = none) (hv : bootBuiltins x = some (.builtin id)) (pa : PE X a ta) (pb : PE X b (tC v)) (hn : x ≠ "__name__") (hdb : (x == ("__debug__" : Str)) = false)
    (he : starEach [a, b] X.env = (false, eval a X.env) :: starEach [b] X.env) (hpl : (backTo pos (starEach [b] X.env)).any (·.1) = false) (hb : starEach [b] X.env = (false, eval b X.env) :: starEach [] X.env) : PE X (.Call (.Name x p) [a, b] [] pos) (fun sg H Q => ta sg H fun x H1 => r x H1 Q) := by
  refine ⟨fun pins s sg H Q I h => ?_⟩
  refine wpAny_Call_Name_kw (ld_blt I hg hm hv ?_ hn hdb)
  refine PyProof.Rows.callWith_builtin1 ?_ he hpl
  rw [he]
  show wpAny _ _ (spliced ((false, eval a X.env) :: backTo pos (starEach [b] X.env))) _ _ s
  refine Calls.spliced_cons (thn (pa.run pins s sg H _ I h) fun u s1 ⟨x, H1, I1, r1, q1⟩ => ?_)
  refine thn ((pa_cons pb pa_nil hb).run pos pins s1 sg H1 (fun vs H2 => vs = [v] ∧ r x H2 Q) I1 ⟨rfl, q1⟩) fun us s2 ⟨vs, H2, I2, r2, e, q2⟩ => ?_
  subst e
  exact hc pins s2 sg H2 [x, v] (u :: us) Q I2 (.cons r1 r2) ⟨x, rfl, q2⟩
theorem r_isc {X : Cx} {C : Cfg} {T : Tb} {n : Nat} {N : List Str} {sc raw : Scope} {W : WX} {c : Bool} (g : Good X C T n N sc raw W c) (k : Nat) : CallR X (.builtin "isinstance") (fun xs H Q => ∃ x, xs = [x, .ref (T.ca k)] ∧ rP C T X.K (.isi (.cls k)) [x] H Q) := by
  intro pins s sg H xs us Q I r h
  obtain ⟨x, rfl, h⟩ := h
  obtain ⟨bo, n0, io, S, vs, w, S1, R, rv, hp, ok⟩ := h
  cases rv with
  | cons r1 rv =>
    cases rv
    rename_i v
    cases v with
    | exc c0 as =>
      cases as with
      | cons _ _ => cases hp
      | nil =>
        replace hp : ((match C.clss[c0]? with
          | some i => if (C.clss[k]?).isSome then some (i.anc.contains k) else none
          | none => none).map fun b => (Val.p (.bool b), S)) = some (w, S1) := hp
        cases hi : C.clss[c0]? with
        | none => rw [hi] at hp; cases hp
        | some i =>
          rw [hi] at hp
          dsimp only at hp
          cases hk : C.clss[k]? with
          | none => rw [hk] at hp; cases hp
          | some j =>
            rw [hk] at hp
            have hif : (some j).isSome = true := rfl
            rw [if_pos hif] at hp
            cases hp
            cases r1 with
            | exc hx =>
              exact g.isE _ c0 hx pins s sg H _ us Q I r ⟨_, .ref (T.ca k), _, rfl, fun u ru => ru, ((g.mod.clss c0 i hi).kit k j hk).1, ok _ H io Ext.refl R (.p (.bl _))⟩
    | _ => cases hp
theorem OpOk_all : ∀ o, OpOk o := fun o X C T n N sc raw W c g hc e as ha ts hp hs => by
  have hu := g.un
  cases o with
  | add => exact o_bin r_add (binA_ok ha) hp
  | sub => exact o_bin r_sub (binA_ok ha) hp
  | mul => exact o_bin r_mul (binA_ok ha) hp
  | fdiv => exact o_bin r_fdiv (binA_ok ha) hp
  | mod => exact o_bin r_mod (binA_ok ha) hp
  | pow => exact o_bin r_pow (binA_ok ha) hp
  | neg =>
    obtain ⟨a, p, rfl, rfl⟩ := unA_ok ha
    obtain ⟨ta, rfl, pa⟩ := one_ts hp
    exact o_neg pa
  | eq => exact (o_cmp (r_eq (by omega)) (cmpA_ok ha) hp).1
  | ne => exact (o_cmp (r_ne (by omega)) (cmpA_ok ha) hp).1
  | lt => exact (o_cmp (r_lt (by omega)) (cmpA_ok ha) hp).1
  | le => exact (o_cmp r_le (cmpA_ok ha) hp).1
  | gt => exact (o_cmp r_gt (cmpA_ok ha) hp).1
  | ge => exact (o_cmp r_ge (cmpA_ok ha) hp).1
  | isin => exact (o_cmp (r_in (by omega)) (cmpA_ok ha) hp).1
  | notin => exact (o_cmp (r_notin (by omega)) (cmpA_ok ha) hp).1
  | isnone =>
    obtain ⟨a, j, p, q, rfl, rfl⟩ := nonA_ok ha
    obtain ⟨ta, rfl, pa⟩ := one_ts hp
    exact (o_isn (neg := false) (fun _ _ => rfl) ⟨j, p, q, rfl⟩ pa).1
  | notnone =>
    obtain ⟨a, j, p, q, rfl, rfl⟩ := nonA_ok ha
    obtain ⟨ta, rfl, pa⟩ := one_ts hp
    exact (o_isn (neg := true) (fun _ _ => rfl) ⟨j, p, q, rfl⟩ pa).1
  | ix =>
    obtain ⟨a, b, p, rfl, rfl, hb⟩ := subA_ok ha
    obtain ⟨ta, tb, rfl, pa, pb⟩ := two_ts hp
    exact PE.mono (pe_ix r_ix pa pb (plainIx_ok hb)) fun _ _ _ h => h
  | sl l u => exact o_sl (sc := sc) ha hp
  | tup =>
    obtain ⟨k, p, rfl⟩ := tupA_ok ha
    exact o_tup hp hs
  | lst =>
    obtain ⟨p, rfl⟩ := lstA_ok ha
    exact o_lst (cell := false) hp hs
  | dnew =>
    obtain ⟨p, rfl, rfl⟩ := dctA_ok ha
    cases hp
    exact o_dnew
  | mk o =>
    obtain ⟨rfl, h1⟩ := opArgs_mk ha
    obtain ⟨p, rfl⟩ := lstA_ok h1
    exact o_lst (cell := true) hp hs
  | bi b =>
    obtain ⟨p, q, rfl, h1, h2, h3⟩ := biA_ok ha
    have hct : c = true := by
      cases c with
      | true => rfl
      | false => cases hc
    subst hct
    exact pe_bi g h1 h2 h3 hp hs (boot_bi b) (kind_bi b) (rule_bi g b)
  | isi t =>
    cases t with
    | bt t =>
      obtain ⟨a, p, q, r, rfl, rfl, h1, h2, h3, h4, h5⟩ := isbA_ok ha
      obtain ⟨ta, rfl, pa⟩ := one_ts hp
      have pt : PE X (.Name (Str.ofString t) q) (tC (.ty t)) := pe_bltn (u := .type t) (g.gl h3) (g.mod.free _ h4) (boot_ty h5) rfl (glB_ok h3).2.2 (glB_ok h3).2.1
      have hs' := hs
      simp only [List.all_cons, Bool.and_eq_true, Bool.not_eq_true'] at hs'
      exact PE.mono (pe_arg2 (r := fun x H Q => rP C T X.K (.isi (.bt t)) [x] H Q) (r_isb (C := C) (T := T) t) (g.gl h1) (g.mod.free _ h2) boot_isi pa pt (by decide) (by decide) (star_of hs'.1 _ _) (any_of (by rfl) _ _) rfl) fun _ _ _ h => h
    | cls k =>
      obtain ⟨a, y, p, q, r, rfl, rfl, h1, h2, h3, h4⟩ := iscA_ok ha
      obtain ⟨ta, rfl, pa⟩ := one_ts hp
      have hs' := hs
      simp only [List.all_cons, Bool.and_eq_true, Bool.not_eq_true'] at hs'
      cases hi : C.clss[k]? with
      | none => rw [hi] at h4; cases h4
      | some i =>
        rw [hi] at h4
        have e : i.name = y := Option.some.inj h4
        have hm := (g.mod.clss k i hi).g
        rw [e] at hm
        have pt : PE X (.Name y q) (tC (.ref (T.ca k))) := pe_glob (v := .ref (T.ca k)) (g.gl h3) hm rfl (glB_ok h3).2.1
        exact PE.mono (pe_arg2 (r := fun x H Q => rP C T X.K (.isi (.cls k)) [x] H Q) (r_isc g k) (g.gl h1) (g.mod.free _ h2) boot_isi pa pt (by decide) (by decide) (star_of hs'.1 _ _) (any_of (by rfl) _ _) rfl) fun _ _ _ h => h
theorem OpT_all : ∀ o, cmpLike o = true → OpT o := fun o ho X C T n N sc raw W c g hc e as ha ts hp hs => by
  have hu := g.un
  cases o with
  | eq => exact (o_cmp (r_eq (by omega)) (cmpA_ok ha) hp).2
  | ne => exact (o_cmp (r_ne (by omega)) (cmpA_ok ha) hp).2
  | lt => exact (o_cmp (r_lt (by omega)) (cmpA_ok ha) hp).2
  | le => exact (o_cmp r_le (cmpA_ok ha) hp).2
  | gt => exact (o_cmp r_gt (cmpA_ok ha) hp).2
  | ge => exact (o_cmp r_ge (cmpA_ok ha) hp).2
  | isin => exact (o_cmp (r_in (by omega)) (cmpA_ok ha) hp).2
  | notin => exact (o_cmp (r_notin (by omega)) (cmpA_ok ha) hp).2
  | isnone =>
    obtain ⟨a, j, p, q, rfl, rfl⟩ := nonA_ok ha
    obtain ⟨ta, rfl, pa⟩ := one_ts hp
    exact (o_isn (neg := false) (fun _ _ => rfl) ⟨j, p, q, rfl⟩ pa).2
  | notnone =>
    obtain ⟨a, j, p, q, rfl, rfl⟩ := nonA_ok ha
    obtain ⟨ta, rfl, pa⟩ := one_ts hp
    exact (o_isn (neg := true) (fun _ _ => rfl) ⟨j, p, q, rfl⟩ pa).2
  | _ => cases ho
end Ev

/-! Ev27: methods. -/
namespace Ev
open PySem PySem.Spec PyProof.Rows L2

section
variable {X : Cx} {C : Cfg} {T : Tb}
/-- a method over data alone -/
theorem gm_of {K : PySem.W.Frag} {m : Me} {xs : List V} {H : Hp} {Q : VK} {cell : Bool} (hm : ∀ vs S, primM m vs S = match views S vs with
    | some ds => (meP m ds).map fun d => (.p d, S)
    | none => none) (h : rM T K cell m xs H Q) : ∃ ds d bn, meP m ds = some d ∧ Paired (Vw K bn H) xs ds ∧ (∀ p, H p = none → ¬ bn p) ∧ (cell = false → GP K bn H Q d) ∧ (cell = true → ∃ es, d = .list es ∧ ∀ p ys, H p = none → Dens K bn H ys es → Q (.ref p) (upd H p (.lst ys))) := by
  obtain ⟨bo, n0, io, S, vs, v, S1, R, rv, hp, ok⟩ := h
  rw [hm] at hp
  cases hv : views S vs with
  | none => rw [hv] at hp; cases hp
  | some ds =>
    rw [hv] at hp
    dsimp only at hp
    cases hd : meP m ds with
    | none => rw [hd] at hp; cases hp
    | some d =>
      rw [hd] at hp
      cases hp
      refine ⟨ds, d, bnO bo io, hd, views_ok R rv hv, fun p hp z => ?_, fun e => ?_, fun e => ?_⟩
      · rcases z with z | z
        · exact R.out p z hp
        · exact R.cl.some z hp
      · subst e
        exact gp_rep R ok
      · subst e
        rw [if_pos rfl] at ok
        obtain ⟨es, e1, ok⟩ := ok
        cases e1
        refine ⟨es, rfl, fun p ys hp hys => ?_⟩
        have E : Ext io H (io ++ [p]) (upd H p (.lst ys)) := Ext.cell hp
        refine ok _ _ (io ++ [p]) E (R.cellNew hp ⟨ys, upd_same, E.dens R.cl hys⟩) (.loc ?_)
        rw [← R.len, List.getElem?_append_right (Nat.le_refl _)]
        simp
theorem noc {cell : Bool} {d : PyData} {R : List PyData → Prop} (h : cell = true → ∃ es, d = .list es ∧ R es) (hd : ∀ es, d ≠ .list es) : cell = false := by
  cases cell with
  | false => rfl
  | true =>
    obtain ⟨es, e, _⟩ := h rfl
    exact absurd e (hd es)
theorem m_sindex {cell : Bool} : MtR X "str.index" (fun x xs H Q => (∃ z, x = .str z) ∧ rM T X.K cell .index (x :: xs) H Q) := by
  intro pins s sg H x xs v us Q I rx rs h
  obtain ⟨⟨z, rfl⟩, h⟩ := h
  obtain ⟨ds, d, bn, hp, hv, hf, g1, g2⟩ := gm_of (fun _ _ => rfl) h
  rcases ds with _ | ⟨d1, _ | ⟨d2, _ | ⟨d3, ds⟩⟩⟩ <;> first
    | (simp [meP] at hp; done)
    | skip
  obtain ⟨x, y, e, v1, v2⟩ := vws2 hv
  cases e
  cases d1 with
  | str z1 =>
    cases d2 with
    | str z2 =>
      replace hp : (Txt.index0 z1 z2).map (fun k => PyData.int k) = some d := hp
      cases hi : Txt.index0 z1 z2 with
      | none => rw [hi] at hp; cases hp
      | some k =>
        rw [hi] at hp
        cases hp
        have hc := noc g2 (fun es z => by cases z)
        obtain rfl := v2.str
        have e1 := v1.str
        cases e1
        unfold Txt.index0 at hi
        cases ho : Builtin.Str.occurrences z z2 0 z.length 1 with
        | nil => rw [ho] at hi; cases hi
        | cons i rest =>
          rw [ho] at hi
          cases hi
          exact mt_sindex pins s sg H _ _ v us Q I rx rs ⟨z, z2, _, rest, rfl, rfl, ho, (g1 hc).int⟩
    | _ => simp [meP] at hp
  | list es =>
    rcases v1 with h | ⟨_, _, _, e1, _⟩
    · cases h
    · cases e1
  | _ => simp [meP] at hp
theorem m_scount {cell : Bool} : MtR X "str.count" (fun x xs H Q => (∃ z, x = .str z) ∧ rM T X.K cell .count (x :: xs) H Q) := by
  intro pins s sg H x xs v us Q I rx rs h
  obtain ⟨⟨z, rfl⟩, h⟩ := h
  obtain ⟨ds, d, bn, hp, hv, hf, g1, g2⟩ := gm_of (fun _ _ => rfl) h
  rcases ds with _ | ⟨d1, _ | ⟨d2, _ | ⟨d3, ds⟩⟩⟩ <;> first
    | (simp [meP] at hp; done)
    | skip
  obtain ⟨x, y, e, v1, v2⟩ := vws2 hv
  cases e
  cases d1 with
  | str z1 =>
    cases d2 with
    | str z2 =>
      cases hp
      have hc := noc g2 (fun es z => by cases z)
      obtain rfl := v2.str
      have e1 := v1.str
      cases e1
      exact mt_count pins s sg H _ _ v us Q I rx rs ⟨z, z2, rfl, rfl, (g1 hc).int⟩
    | _ => simp [meP] at hp
  | list es =>
    rcases v1 with h | ⟨_, _, _, e1, _⟩
    · cases h
    · cases e1
  | _ => simp [meP] at hp
theorem strs_ok {K : PySem.W.Frag} {bn : Addr → Prop} {H : Hp} : ∀ {ds : List PyData} {is : List Str} {ys : List V}, strsOf ds = some is → Dens K bn H ys ds → ys = is.map V.str
  | [], is, _, h, .nil => by cases h; rfl
  | d :: ds, is, _, h, .cons r rs => by
    cases d with
    | str i =>
      unfold strsOf at h
      cases hd : strsOf ds with
      | none => rw [hd] at h; cases h
      | some js =>
        rw [hd] at h
        cases h
        cases r
        rw [strs_ok hd rs]
        rfl
    | _ => simp [strsOf] at h
theorem m_join {cell : Bool} : MtR X "str.join" (fun x xs H Q => (∃ z, x = .str z) ∧ rM T X.K cell .join (x :: xs) H Q) := by
  intro pins s sg H x xs v us Q I rx rs h
  obtain ⟨⟨z, rfl⟩, h⟩ := h
  obtain ⟨ds, d, bn, hp, hv, hf, g1, g2⟩ := gm_of (fun _ _ => rfl) h
  rcases ds with _ | ⟨d1, _ | ⟨d2, _ | ⟨d3, ds⟩⟩⟩ <;> first
    | (simp [meP] at hp; done)
    | skip
  obtain ⟨x, y, e, v1, v2⟩ := vws2 hv
  cases e
  have hb5 : big ≤ 16777216 := by decide
  cases d1 with
  | str z1 =>
    have e1 := v1.str
    cases e1
    cases d2 with
    | list es =>
      replace hp : (match strsOf es with
        | some ys => if (ys.map (·.length)).sum + ys.length * z.length ≤ big then some (PyData.str (Txt.join z ys)) else none
        | none => none) = some d := hp
      cases hs : strsOf es with
      | none => rw [hs] at hp; cases hp
      | some ys =>
        rw [hs] at hp
        dsimp only at hp
        split at hp
        · rename_i hb
          cases hp
          have hc := noc g2 (fun es z => by cases z)
          obtain ⟨a, ws, rfl, hsq, hd⟩ := v2.list
          rw [strs_ok hs hd] at hsq
          exact mt_join pins s sg H _ _ v us Q I rx rs ⟨z, a, ys, rfl, rfl, .inl hsq, Nat.le_trans hb hb5, (g1 hc).str⟩
        · cases hp
    | tuple es =>
      replace hp : (match strsOf es with
        | some ys => if (ys.map (·.length)).sum + ys.length * z.length ≤ big then some (PyData.str (Txt.join z ys)) else none
        | none => none) = some d := hp
      cases hs : strsOf es with
      | none => rw [hs] at hp; cases hp
      | some ys =>
        rw [hs] at hp
        dsimp only at hp
        split at hp
        · rename_i hb
          cases hp
          have hc := noc g2 (fun es z => by cases z)
          obtain ⟨a, ws, rfl, hsq, hd⟩ := v2.tup
          rw [strs_ok hs hd] at hsq
          exact mt_join pins s sg H _ _ v us Q I rx rs ⟨z, a, ys, rfl, rfl, .inr hsq, Nat.le_trans hb hb5, (g1 hc).str⟩
        · cases hp
    | _ => simp [meP] at hp
  | _ => simp [meP] at hp
theorem m_upper {cell : Bool} : MtR X "str.upper" (fun x xs H Q => (∃ z, x = .str z) ∧ rM T X.K cell .upper (x :: xs) H Q) := by
  intro pins s sg H x xs v us Q I rx rs h
  obtain ⟨⟨z, rfl⟩, h⟩ := h
  obtain ⟨ds, d, bn, hp, hv, hf, g1, g2⟩ := gm_of (fun _ _ => rfl) h
  rcases ds with _ | ⟨d1, _ | ⟨d2, ds⟩⟩ <;> first
    | (simp [meP] at hp; done)
    | skip
  obtain ⟨x, e, v1⟩ := vws1 hv
  cases e
  cases d1 with
  | str z1 =>
    replace hp : (if z1.length ≤ big then some (PyData.str (Txt.upper z1)) else none) = some d := hp
    split at hp
    · rename_i hb
      cases hp
      have hc := noc g2 (fun es z => by cases z)
      have e1 := v1.str
      cases e1
      exact mt_upper pins s sg H _ _ v us Q I rx rs ⟨z, rfl, rfl, Nat.le_trans hb (by decide), (g1 hc).str⟩
    · cases hp
  | _ => simp [meP] at hp
theorem dens_strs {K : PySem.W.Frag} {bn : Addr → Prop} {H : Hp} : ∀ xs : List Str, Dens K bn H (xs.map V.str) (xs.map PyData.str)
  | [] => .nil
  | x :: xs => .cons (.str x) (dens_strs xs)
theorem m_split {cell : Bool} : MtR X "str.split" (fun x xs H Q => (∃ z, x = .str z) ∧ rM T X.K cell .split (x :: xs) H Q) := by
  intro pins s sg H x xs v us Q I rx rs h
  obtain ⟨⟨z, rfl⟩, h⟩ := h
  obtain ⟨ds, d, bn, hp, hv, hf, g1, g2⟩ := gm_of (fun _ _ => rfl) h
  rcases ds with _ | ⟨d1, _ | ⟨d2, _ | ⟨d3, ds⟩⟩⟩ <;> first
    | (simp [meP] at hp; done)
    | skip
  obtain ⟨x, y, e, v1, v2⟩ := vws2 hv
  cases e
  cases d1 with
  | str z1 =>
    cases d2 with
    | str z2 =>
      replace hp : (if (z2.length == 0) = false ∧ z1.length + 2 ≤ big then some (PyData.list ((Txt.split z1 z2).map .str)) else none) = some d := hp
      split at hp
      · rename_i hb
        cases hp
        obtain rfl := v2.str
        have e1 := v1.str
        cases e1
        refine mt_split pins s sg H _ _ v us Q I rx rs ⟨z, z2, rfl, rfl, hb.1, Nat.le_trans hb.2 big_line, fun p hp => ?_⟩
        cases cell with
        | false => exact (g1 rfl).lst (dens_strs _) p hp
        | true =>
          obtain ⟨es, e, q⟩ := g2 rfl
          cases e
          exact q p _ hp (dens_strs _)
      · cases hp
    | _ => simp [meP] at hp
  | _ => simp [meP] at hp
/-! ### lists -/
theorem m_lcount {cell : Bool} (hu : X.A.units + 100 < cLine) : MtR X "list.count" (fun x xs H Q => (∃ p, x = .ref p) ∧ rM T X.K cell .count (x :: xs) H Q) := by
  intro pins s sg H x xs v us Q I rx rs h
  obtain ⟨⟨p0, rfl⟩, h⟩ := h
  obtain ⟨ds, d, bn, hp, hv, hf, g1, g2⟩ := gm_of (fun _ _ => rfl) h
  rcases ds with _ | ⟨d1, _ | ⟨d2, _ | ⟨d3, ds⟩⟩⟩ <;> first
    | (simp [meP] at hp; done)
    | skip
  obtain ⟨x, y, e, v1, v2⟩ := vws2 hv
  cases e
  cases d1 with
  | list es =>
    replace hp : (if d2.depth ≤ 64 then some (PyData.int (es.countP fun y => PyData.eqv y d2 : Nat)) else none) = some d := by
      cases d2 <;> exact hp
    split at hp
    · rename_i hd
      cases hp
      have hc := noc g2 (fun es z => by cases z)
      obtain ⟨a, ws, e1, hsq, hdn⟩ := v1.list
      cases e1
      obtain ⟨q1, q2⟩ := Dens.dp _ _ hdn
      obtain ⟨q3, q4⟩ := v2.dp
      cases rx
      cases rs with
      | cons r2 rs =>
        cases rs
        obtain ⟨its, rv, pl, hz⟩ := I.list hsq
        obtain ⟨as, ra⟩ := Dp.readsAll I es ws its q1 rv
        obtain ⟨bs, rb⟩ := Dp.reads I d2 y _ q3 r2
        exact SeqAt.count_list_data pl.isList (show ReadsAll s.heap its.toArray.toList es as from ra) rb q2 q4 (by omega) ⟨.int _, H, I.tok _, ⟨_, rfl⟩, (g1 hc).int⟩
    · cases hp
  | str z =>
    rcases v1 with h | ⟨_, _, _, _, e1, _⟩
    · cases h
    · cases e1
  | _ => cases d2 <;> simp [meP] at hp
theorem m_lindex {cell : Bool} (hu : X.A.units + 100 < cLine) : MtR X "list.index" (fun x xs H Q => (∃ p, x = .ref p) ∧ rM T X.K cell .index (x :: xs) H Q) := by
  intro pins s sg H x xs v us Q I rx rs h
  obtain ⟨⟨p0, rfl⟩, h⟩ := h
  obtain ⟨ds, d, bn, hp, hv, hf, g1, g2⟩ := gm_of (fun _ _ => rfl) h
  rcases ds with _ | ⟨d1, _ | ⟨d2, _ | ⟨d3, ds⟩⟩⟩ <;> first
    | (simp [meP] at hp; done)
    | skip
  obtain ⟨x, y, e, v1, v2⟩ := vws2 hv
  cases e
  cases d1 with
  | list es =>
    replace hp : (if d2.depth ≤ 64 then (es.findIdx? fun y => PyData.eqv y d2).map fun k => PyData.int k else none) = some d := by
      cases d2 <;> exact hp
    split at hp
    · rename_i hd
      cases hj : (es.findIdx? fun y => PyData.eqv y d2) with
      | none => rw [hj] at hp; cases hp
      | some j =>
        rw [hj] at hp
        cases hp
        have hc := noc g2 (fun es z => by cases z)
        obtain ⟨a, ws, e1, hsq, hdn⟩ := v1.list
        cases e1
        obtain ⟨q1, q2⟩ := Dens.dp _ _ hdn
        obtain ⟨q3, q4⟩ := v2.dp
        cases rx
        cases rs with
        | cons r2 rs =>
          cases rs
          obtain ⟨its, dd, n, sl, rv, hz, ho⟩ := list_exact I hsq
          obtain ⟨as, ra⟩ := Dp.readsAll I es ws its q1 rv
          obtain ⟨bs, rb⟩ := Dp.reads I d2 y _ q3 r2
          have ra' : ReadsAll s.heap its.toArray.toList es as := ra
          obtain ⟨hj2, hit, hno⟩ := SeqAt.hit_at ra' q2 (d := d2) (j := j) hj
          have sl63 := line63
          have hjs : j < its.length := by simpa using hj2
          exact call_meets PySem.F.slot_list_index ⟨_, ho, rfl⟩ PySem.F.entry_list_index (PySem.F.args_list_index_2 _ _) (SeqAt.list_indexAt _ its.toArray n dd sl _ (fun u => PyData.eqv (SeqAt.readOf s.heap u) d2) j hj2 (by omega) hit hno) ⟨ho, SeqAt.items_plain ra' rb q2 q4 (by omega), ⟨.int _, H, I.tok _, ⟨_, rfl⟩, (g1 hc).int⟩⟩
    · cases hp
  | str z =>
    rcases v1 with h | ⟨_, _, _, _, e1, _⟩
    · cases h
    · cases e1
  | _ => cases d2 <;> simp [meP] at hp
/-- a cell is rewritten -/
theorem m_write {K : PySem.W.Frag} {bo : Addr → Prop} {n0 : Nat} {io : List Addr} {S : Store} {H : Hp} {Q : VK} {cell : Bool} {i : Nat} {a : Addr} {ds ds' : List PyData} {d : PyData} {x : V} {ys : List V} (R : Rep K bo n0 io S H) (ha : io[i]? = some a)
    (ok : if cell then ∃ es, Val.p d = .p (.list es) ∧ OkC T K bo n0 io H Q (.loc (S.set i (.lst ds')).length) (S.set i (.lst ds') ++ [.lst es]) else OkC T K bo n0 io H Q (.p d) (S.set i (.lst ds'))) (hnl : ∀ es, d ≠ .list es ∨ cell = false) (hd : Dens K (bnO bo io) H ys ds') (rx : Den K (bnO bo io) H x d) : Q x (upd H a (.lst ys)) := by
  have hc : cell = false := by
    cases cell with
    | false => rfl
    | true =>
      rw [if_pos rfl] at ok
      obtain ⟨es, e, _⟩ := ok
      rcases hnl es with h | h
      · cases e; exact absurd rfl h
      · exact h
  subst hc
  have E : Ext io H io (upd H a (.lst ys)) := Ext.write (List.mem_of_getElem? ha)
  exact ok x _ io E (R.write ha ⟨ys, upd_same, E.dens R.cl hd⟩) (.p (E.den R.cl rx))
theorem m_append {cell : Bool} : MtR X "list.append" (fun x xs H Q => (∃ p, x = .ref p) ∧ rM T X.K cell .append (x :: xs) H Q) := by
  intro pins s sg H x xs v us Q I rx rs h
  obtain ⟨_, bo, n0, io, S, vs, w, S1, R, rv, hp, ok⟩ := h
  replace hp : appM vs S = some (w, S1) := hp
  unfold appM at hp
  split at hp
  · rename_i i d
    cases rv with
    | cons r1 rv =>
      cases rv with
      | cons r2 rv =>
        cases rv
        cases r1 with
        | loc ha =>
          cases r2 with
          | p r2 =>
            obtain ⟨c, hc, okc⟩ := R.cell ha
            rw [hc] at hp
            cases c with
            | lst ds =>
              dsimp only at hp
              split at hp
              · rename_i hb
                cases hp
                obtain ⟨zs, h1, h2⟩ := okc
                have hl := h2.length
                have bl := big_line
                refine mt_append pins s sg H _ _ v us Q I rx rs ⟨_, zs, _, rfl, rfl, h1, by omega, ?_⟩
                exact m_write (ds := ds) R ha ok (fun es => .inl (fun z => by cases z)) (h2.append (.cons r2 .nil)) .non
              · cases hp
            | dic _ => exact okc.elim
  · cases hp
theorem m_pop : MtR X "list.pop" (fun x xs H Q => (∃ p, x = .ref p) ∧ rM T X.K false .pop (x :: xs) H Q) := by
  intro pins s sg H x xs v us Q I rx rs h
  obtain ⟨_, bo, n0, io, S, vs, w, S1, R, rv, hp, ok⟩ := h
  replace hp : popM vs S = some (w, S1) := hp
  unfold popM at hp
  split at hp
  · rename_i i
    cases rv with
    | cons r1 rv =>
      cases rv
      cases r1 with
      | loc ha =>
        obtain ⟨c, hc, okc⟩ := R.cell ha
        rw [hc] at hp
        cases c with
        | lst ds =>
          dsimp only at hp
          split at hp
          · rename_i d hd
            cases hp
            obtain ⟨zs, h1, h2⟩ := okc
            obtain ⟨y, hy, ry⟩ := h2.get hd
            rw [← h2.length] at hy
            refine mt_pop pins s sg H _ _ v us Q I rx rs ⟨_, zs, y, rfl, rfl, h1, hy, ?_⟩
            exact m_write (ds := ds) R ha ok (fun es => .inr rfl) h2.dropLast ry
          · cases hp
        | dic _ => exact okc.elim
  · cases hp
theorem m_popAt : MtR X "list.pop" (fun x xs H Q => (∃ p, x = .ref p) ∧ rM T X.K false .popAt (x :: xs) H Q) := by
  intro pins s sg H x xs v us Q I rx rs h
  obtain ⟨_, bo, n0, io, S, vs, w, S1, R, rv, hp, ok⟩ := h
  replace hp : popAtM vs S = some (w, S1) := hp
  unfold popAtM at hp
  split at hp
  · rename_i i k
    cases rv with
    | cons r1 rv =>
      cases rv with
      | cons r2 rv =>
        cases rv
        cases r1 with
        | loc ha =>
          cases r2 with
          | p r2 =>
            cases r2
            obtain ⟨c, hc, okc⟩ := R.cell ha
            rw [hc] at hp
            cases c with
            | lst ds =>
              dsimp only at hp
              split at hp
              · rename_i hb
                split at hp
                · rename_i j hj
                  split at hp
                  · rename_i d hd
                    cases hp
                    obtain ⟨zs, h1, h2⟩ := okc
                    obtain ⟨y, hy, ry⟩ := h2.get hd
                    refine mt_popAt pins s sg H _ _ v us Q I rx rs ⟨_, zs, k, j, y, rfl, rfl, h1, hb.1, hb.2, by rw [h2.length]; exact hj, hy, ?_⟩
                    exact m_write (ds := ds) R ha ok (fun es => .inr rfl) (h2.eraseIdx j) ry
                  · cases hp
                · cases hp
              · cases hp
            | dic _ => exact okc.elim
  · cases hp
/-! ### by their texts -/
/-- one method of a builtin type -/
structure Mth (X : Cx) (T : Tb) (cell : Bool) (m : Me) (ty : String) (id : String) : Prop where
  pa : PlainAttrs ty
  slot : Slot ty (meName m) id
  hty : typeOf (.builtin id) = pure (.type "method_descriptor")
  rule : MtR X id (fun x xs H Q => (if ty = "str" then ∃ z, x = .str z else ∃ p, x = .ref p) ∧ rM T X.K cell m (x :: xs) H Q)
theorem base_ok {o : Expr} {name : Str} {env : Env} {whole : Sem Value} (h : noSup o = true) : attributeBase o name env whole = whole := by
  cases o with
  | Call f as ks p =>
    cases as with
    | nil => cases h
    | cons _ _ => cases f <;> rfl
  | _ => rfl
theorem pe_md {cell : Bool} {m : Me} {o : Expr} {as : List Expr} {to : TE} {ts : List TE} {ap cp : Pos} (hM : ∀ x H, tyM m X.K x H → ∃ ty id, Mth X T cell m ty id ∧ tyV X.K ty x H ∧ (if ty = "str" then ∃ z, x = .str z else ∃ p, x = .ref p)) (hn : noSup o = true) (hl : (ap.endLine == cp.line) = true) (hlen : as.length ≤ 2)
    (ho : PE X o to) (hp : Paired (PE X) as ts) (hs : as.all (fun e => !isStar e) = true) : PE X (.Call (.Attribute o (meName m) ap) as [] cp) (fun sg H Q => to sg H fun x H1 => tyM m X.K x H1 ∧ chainT ts sg H1 fun xs H2 => rM T X.K cell m (x :: xs) H2 Q) := by
  refine ⟨fun pins s sg H Q I h => ?_⟩
  have hany : (backTo cp (starEach as X.env)).any (·.1) = false := any_of hs _ _
  refine wpAny_Call_method_late (base_ok hn) ?_ hl rfl (thn (ho.run pins s sg H _ I h) fun v s1 ⟨x, H1, I1, r1, ty, q1⟩ => ?_)
  · rcases as with _ | ⟨a, _ | ⟨b, _ | ⟨c, as⟩⟩⟩
    · rfl
    · simp only [List.all_cons, Bool.and_eq_true, Bool.not_eq_true'] at hs
      rw [star_of hs.1]
      rfl
    · simp only [List.all_cons, Bool.and_eq_true, Bool.not_eq_true'] at hs
      rw [star_of hs.1, star_of hs.2.1]
      rfl
    · simp at hlen
  obtain ⟨T0, id, M, tyv, hx⟩ := hM x H1 ty
  obtain ⟨h1, h2⟩ := tyV_is I1 r1 tyv
  refine ⟨T0, id, M.pa, M.slot, M.hty, h1, h2, ?_⟩
  cases hp with
  | nil => exact Calls.callWith_builtin rfl (PySem.evalArgs_none (M.rule pins s1 sg H1 x [] v [] Q I1 r1 .nil ⟨hx, q1⟩))
  | cons p1 p2 =>
    have hA := (pa_all (.cons p1 p2) hs).run cp pins s1 sg H1 _ I1 q1
    have hs' := hs
    simp only [List.all_cons, Bool.and_eq_true, Bool.not_eq_true'] at hs'
    rw [star_of hs'.1] at hA hany ⊢
    refine Calls.callWith_builtin hany (Calls.evalArgs_plain ?_)
    exact thn hA fun us s2 ⟨vs, H2, I2, r2, q2⟩ => M.rule pins s2 sg H2 x vs v us Q I2 r1 r2 ⟨hx, q2⟩
theorem ty_str {x : V} {H : Hp} {K : PySem.W.Frag} (h : tyV K "str" x H) : ∃ z, x = .str z := by
  cases x with
  | str z => exact ⟨z, rfl⟩
  | int i => exact absurd (show ("str" : String) = "int" from h) (by decide)
  | ref p => rcases h with h | h | h | h <;> exact absurd h.1 (by decide)
  | _ => exact h.elim
theorem ty_lst {x : V} {H : Hp} {K : PySem.W.Frag} (h : tyV K "list" x H) : ∃ p, x = .ref p := by
  cases x with
  | str z => exact absurd (show ("list" : String) = "str" from h) (by decide)
  | int i => exact absurd (show ("list" : String) = "int" from h) (by decide)
  | ref p => exact ⟨p, rfl⟩
  | _ => exact h.elim
end
theorem MtR.imp {X : Cx} {id : String} {r r' : V → List V → Hp → VK → Prop} (h : MtR X id r) (i : ∀ x xs H Q, r' x xs H Q → r x xs H Q) : MtR X id r' := fun pins s sg H x xs v us Q I rx rs q => h pins s sg H x xs v us Q I rx rs (i _ _ _ _ q)
theorem MeOk_all : ∀ m, MeOk m := fun m cell hmc X C T n N sc raw W g o ap as cp ha hn hl to ts ho hp hs => by
  have hu := g.un
  have hlen : as.length ≤ 2 := by
    rw [ha]
    cases m <;> decide
  refine pe_md (fun x H ty => ?_) hn hl hlen ho hp hs
  have nc : m ≠ .split → cell = false := fun h => by
    cases m <;> first
      | exact absurd rfl h
      | (cases hmc; done)
      | (cases cell <;> first | rfl | cases hmc)
  cases m with
  | append => exact ⟨"list", "list.append", ⟨PySem.F.plainAttrs_list, PySem.F.slot_list_append, PySem.F.type_list_append, m_append⟩, ty, ty_lst ty⟩
  | pop =>
    obtain rfl := nc (fun z => by cases z)
    exact ⟨"list", "list.pop", ⟨PySem.F.plainAttrs_list, PySem.F.slot_list_pop, PySem.F.type_list_pop, m_pop⟩, ty, ty_lst ty⟩
  | popAt =>
    obtain rfl := nc (fun z => by cases z)
    exact ⟨"list", "list.pop", ⟨PySem.F.plainAttrs_list, PySem.F.slot_list_pop, PySem.F.type_list_pop, m_popAt⟩, ty, ty_lst ty⟩
  | index =>
    rcases ty with ty | ty
    · exact ⟨"list", "list.index", ⟨PySem.F.plainAttrs_list, PySem.F.slot_list_index, PySem.F.type_list_index, m_lindex hu⟩, ty, ty_lst ty⟩
    · exact ⟨"str", "str.index", ⟨PySem.F.plainAttrs_str, PySem.F.slot_str_index, PySem.F.type_str_index, m_sindex⟩, ty, ty_str ty⟩
  | count =>
    rcases ty with ty | ty
    · exact ⟨"list", "list.count", ⟨PySem.F.plainAttrs_list, PySem.F.slot_list_count, PySem.F.type_list_count, m_lcount hu⟩, ty, ty_lst ty⟩
    · exact ⟨"str", "str.count", ⟨PySem.F.plainAttrs_str, PySem.F.slot_str_count, PySem.F.type_str_count, m_scount⟩, ty, ty_str ty⟩
  | join => exact ⟨"str", "str.join", ⟨PySem.F.plainAttrs_str, PySem.F.slot_str_join, PySem.F.type_str_join, m_join⟩, ty, ty_str ty⟩
  | split => exact ⟨"str", "str.split", ⟨PySem.F.plainAttrs_str, PySem.F.slot_str_split, PySem.F.type_str_split, m_split⟩, ty, ty_str ty⟩
  | upper => exact ⟨"str", "str.upper", ⟨PySem.F.plainAttrs_str, PySem.F.slot_str_upper, PySem.F.type_str_upper, m_upper⟩, ty, ty_str ty⟩
  | replace => cases hmc
end Ev

/-! Ev28: what a for walks. -/
namespace Ev
open PySem PySem.Spec PyProof.Rows L2

theorem PE.up {X : Cx} {e : Expr} {t : TE} (h : PE X e t) : PE X e (fun sg H Q => ∃ R, t sg H R ∧ ∀ x H1, R x H1 → Q x H1) := ⟨fun pins s sg H Q I ⟨R, h1, m⟩ => thn (h.run pins s sg H R I h1) fun v s1 ⟨x, H1, I1, r1, q1⟩ => ⟨x, H1, I1, r1, m x H1 q1⟩⟩
theorem PA.up {X : Cx} {es : List Expr} {t : TA} (h : PA X es t) : PA X es (fun sg H Q => ∃ R, t sg H R ∧ ∀ xs H1, R xs H1 → Q xs H1) := ⟨fun pos pins s sg H Q I ⟨R, h1, m⟩ => thn (h.run pos pins s sg H R I h1) fun v s1 ⟨x, H1, I1, r1, q1⟩ => ⟨x, H1, I1, r1, m x H1 q1⟩⟩
section
variable {X : Cx} {tg : Expr} {pins : List (Addr × Obj)} {s1 : Shared} {sg : L2.St} {H1 : Hp} {R : It → Hp → Prop} {a : Addr} {xs : List V}
theorem iter_lst (I1 : Inv X pins sg H1 s1) (hq : SqL X.K H1 a xs) (q : R (Itl X.K a) H1) : wpAny (model X.prog X.w) X.A (pyIter (.ref a)) (PIE X pins sg tg R) X.xe s1 := by
  obtain ⟨its, rv, p, hz⟩ := I1.list hq
  refine wpAny_pyIter_list p.isList ?_
  refine ⟨s1.heap.objs.size, [s1.heap.objs.size], _, _, H1, rfl, I1.kept (t' := s1.toks) fun b o e => Heap.get?_push_of_some _ e, turn_list a _, ⟨_, Heap.get?_push_size _ rfl, rfl, rfl⟩, fun b hb => ?_, q⟩
  have e : b = s1.heap.objs.size := by simpa using hb
  subst e
  exact I1.fpOk (Nat.le_refl _) (I1.hok.fresh (Nat.le_refl _))
theorem iter_tup (I1 : Inv X pins sg H1 s1) (hq : SqT X.K H1 a xs) (q : R (Itt X.K a) H1) : wpAny (model X.prog X.w) X.A (pyIter (.ref a)) (PIE X pins sg tg R) X.xe s1 := by
  obtain ⟨its, rv, p, hz⟩ := I1.tuple hq
  refine wpAny_pyIter_tuple (show s1.heap.IsTuple a its.toArray from p) ?_
  refine ⟨s1.heap.objs.size, [s1.heap.objs.size], _, _, H1, rfl, I1.kept (t' := s1.toks) fun b o e => Heap.get?_push_of_some _ e, turn_tuple a _, ⟨_, Heap.get?_push_size _ rfl, rfl, rfl⟩, fun b hb => ?_, q⟩
  have e : b = s1.heap.objs.size := by simpa using hb
  subst e
  exact I1.fpOk (Nat.le_refl _) (I1.hok.fresh (Nat.le_refl _))
theorem iter_str {x : Str} {t : Tok} (I1 : Inv X pins sg H1 s1) (q : R (Its x) H1) : wpAny (model X.prog X.w) X.A (pyIter (.str x t)) (PIE X pins sg tg R) X.xe s1 := by
  cases ha : x.cps.all (· < 128)
  · exact wpAny_pyIter_wide ha (pi_one (tk := s1.toks) I1 _ (turn_str _ x t "str_iterator" (.inr rfl)) ⟨_, Heap.get?_push_size _ rfl, rfl, rfl⟩ q)
  · exact wpAny_pyIter_ascii ha (pi_one (tk := s1.toks) I1 _ (turn_str _ x t "str_ascii_iterator" (.inl rfl)) ⟨_, Heap.get?_push_size _ rfl, rfl, rfl⟩ q)
end
section
variable {T : Tb} {K : PySem.W.Frag} {bo : Addr → Prop} {n0 : Nat} {io : List Addr} {S : Store} {H : Hp}
/-- walking a list that stands -/
theorem wlk_lst {a : Addr} {xs : List V} {ys : List Val} (hs : SqL K H a xs) (hd : DenVs T K bo io H xs ys) (R : Rep K bo n0 io S H) : Wlk T K bo n0 (Itl K a) io S H ys where
  go := fun i hi => by
    have hl := hd.length
    have hx : i < xs.length := by omega
    exact ⟨xs, xs[i], hs, List.getElem?_eq_getElem hx⟩
  stop := ⟨xs, hs, by rw [hd.length]; exact Nat.le_refl _⟩
  yld := fun i v x H1 hv h => by
    obtain ⟨rfl, hx⟩ := h
    obtain ⟨u, hu, ru⟩ := hd.get hv
    have e := hx xs hs
    rw [hu] at e
    cases e
    exact ⟨Ext.refl, R, ru⟩
theorem wlk_tup {a : Addr} {xs : List V} {ys : List Val} (hs : SqT K H a xs) (hd : DenVs T K bo io H xs ys) (R : Rep K bo n0 io S H) : Wlk T K bo n0 (Itt K a) io S H ys where
  go := fun i hi => by
    have hl := hd.length
    have hx : i < xs.length := by omega
    exact ⟨xs, xs[i], hs, List.getElem?_eq_getElem hx⟩
  stop := ⟨xs, hs, by rw [hd.length]; exact Nat.le_refl _⟩
  yld := fun i v x H1 hv h => by
    obtain ⟨rfl, hx⟩ := h
    obtain ⟨u, hu, ru⟩ := hd.get hv
    have e := hx xs hs
    rw [hu] at e
    cases e
    exact ⟨Ext.refl, R, ru⟩
/-- a sequence that nobody changes, off the heap, now and later -/
inductive SqD (T : Tb) (K : PySem.W.Frag) (bo : Addr → Prop) (io : List Addr) (H : Hp) : Bool → V → List Val → Prop
  | lst {a : Addr} {xs : List V} {ys : List Val} : LstAt K (bnO bo io) H a xs → DenVs T K bo io H xs ys → SqD T K bo io H false (.ref a) ys
  | tup {a : Addr} {xs : List V} {ys : List Val} : SqT K H a xs → DenVs T K bo io H xs ys → SqD T K bo io H true (.ref a) ys
theorem seqV_ok {v : Val} {x : V} {t : Bool} {ys : List Val} (h : seqV v = some (t, ys)) (r : DenV T K bo io H x v) : SqD T K bo io H t x ys := by
  unfold seqV at h
  split at h
  · cases h
    cases r with
    | p r =>
      cases r with
      | lst h1 h2 => exact .lst h1 h2.vals
  · cases h
    cases r with
    | p r =>
      cases r with
      | tup h1 h2 => exact .tup h1 h2.vals
  · cases h
    cases r with
    | seqT h1 h2 => exact .tup h1 h2
    | seqL h1 h2 => exact .lst h1 h2
  · cases h
theorem SqD.fr {bo1 : Addr → Prop} {io1 : List Addr} {H1 : Hp} {t : Bool} {x : V} {ys : List Val} (h : SqD T K bo io H t x ys) (f : Fr io H H1) (c : Cl io H) (hg : ∀ (i : Nat) (a : Addr), io[i]? = some a → io1[i]? = some a) (h2 : ∀ a, H a ≠ none → bnO bo1 io1 a → bnO bo io a) : SqD T K bo1 io1 H1 t x ys := by
  cases h with
  | lst a b => exact .lst (a.fr f c (fun _ => bn_io) h2) (DenVs.fr f c hg h2 _ _ b)
  | tup a b => exact .tup (f.sqt c a) (DenVs.fr f c hg h2 _ _ b)
end
theorem ItOk_val : ItOk .val := fun X C T n N sc raw W c g hc tg e as ha ts hp hs => by
  have hsh : as = [e] := by
    cases e <;> first
      | (cases ha; rfl)
      | cases ha
  subst hsh
  obtain ⟨ta, rfl, pa⟩ := one_ts hp
  refine ⟨fun pins s sg H R I h => ?_⟩
  refine thn (pa.run pins s sg H _ I h) fun v s1 ⟨x, H1, I1, r1, q1⟩ => ?_
  obtain ⟨bo, n0, io, S, vs, ys, lk, Rp, rv, hi, q⟩ := q1
  cases rv with
  | cons rx rv =>
    cases rv
    rename_i w
    replace hi : itemsV S w = some (ys, lk) := hi
    have fin : ∀ t ys, seqV w = some (t, ys) → (∀ J, WlkS T X.K J none ys bo io H1 → R J H1) → wpAny (model X.prog X.w) X.A (pyIter v) (PIE X pins sg tg R) X.xe s1 := fun t ys hw q => by
      have sq := seqV_ok hw rx
      cases sq with
      | lst h1 h2 =>
        cases r1
        refine iter_lst I1 h1.sq (q _ fun bo1 n1 io1 S1 H2 f hg hb R1 _ => ?_)
        cases (SqD.lst h1 h2 : SqD T X.K bo io H1 false _ ys).fr f Rp.cl hg hb with
        | lst k1 k2 => exact wlk_lst k1.sq k2 R1
      | tup h1 h2 =>
        cases r1
        refine iter_tup I1 h1 (q _ fun bo1 n1 io1 S1 H2 f hg hb R1 _ => ?_)
        cases (SqD.tup h1 h2 : SqD T X.K bo io H1 true _ ys).fr f Rp.cl hg hb with
        | tup k1 k2 => exact wlk_tup k1 k2 R1
    have q' : ∀ J, WlkS T X.K J lk ys bo io H1 → R J H1 := fun J hJ => q J H1 Ext.refl Rp hJ
    unfold itemsV at hi
    split at hi
    · cases hi
      exact fin false _ rfl q'
    · cases hi
      exact fin true _ rfl q'
    · rename_i z
      cases hi
      cases rx with
      | p rx =>
        cases rx
        obtain ⟨t, rfl⟩ := r1
        refine iter_str I1 (q' _ fun bo1 n1 io1 S1 H2 f hg hb R1 _ => ⟨fun i hi => ?_, ?_, fun i v x H3 hv h => ?_⟩)
        · have hi' : i < (z.cps.toList.map fun c => Val.p (.str ⟨#[c]⟩)).length := hi
          rw [List.length_map, Array.length_toList] at hi'
          exact hi'
        · show z.cps.size ≤ (z.cps.toList.map fun c => Val.p (.str ⟨#[c]⟩)).length
          rw [List.length_map, Array.length_toList]
          exact Nat.le_refl _
        · obtain ⟨rfl, c, hc2, rfl⟩ := h
          rw [List.getElem?_map, Array.getElem?_toList, hc2] at hv
          cases hv
          exact ⟨Ext.refl, R1, .p (.str _)⟩
    · rename_i t vs
      cases hi
      exact fin t _ rfl q'
    · rename_i i
      cases rx with
      | loc ha =>
        rename_i a
        obtain ⟨cc, hcc, okc⟩ := Rp.cell ha
        rw [hcc] at hi
        cases cc with
        | lst ds =>
          cases hi
          obtain ⟨zs, h1, h2⟩ := okc
          cases r1
          refine iter_lst I1 (SqL.of h1) (q' _ fun bo1 n1 io1 S1 H2 f hg hb R1 hck => ?_)
          have ha1 := hg i a ha
          obtain ⟨c2, hc2, ok2⟩ := R1.cell ha1
          unfold ckS at hck
          dsimp only at hck
          rw [hc2] at hck
          cases c2 with
          | lst es =>
            obtain rfl := beqDs_eq hck
            obtain ⟨zs2, k1, k2⟩ := ok2
            exact wlk_lst (SqL.of k1) k2.vals R1
          | dic _ => exact ok2.elim
        | dic _ => exact okc.elim
    · cases hi
end Ev

/-! Ev29: ranges, zip, enumerate; all facts. -/
namespace Ev
open PySem PySem.Spec PyProof.Rows L2

section
variable {T : Tb} {K : PySem.W.Frag} {bo : Addr → Prop} {n0 : Nat} {io : List Addr} {S : Store} {H : Hp}
theorem wlk_rng {lo : Int} {n : Nat} (R : Rep K bo n0 io S H) : Wlk T K bo n0 (Itr lo n) io S H ((List.range n).map fun (k : Nat) => .p (.int (lo + (k : Int)))) where
  go := fun i hi => by
    rw [List.length_map, List.length_range] at hi
    exact hi
  stop := by
    show n ≤ _
    rw [List.length_map, List.length_range]
    exact Nat.le_refl _
  yld := fun i v x H1 hv h => by
    obtain ⟨rfl, rfl⟩ := h
    have hi : i < n := by
      have := (List.getElem?_eq_some_iff.mp hv).1
      rw [List.length_map, List.length_range] at this
      exact this
    rw [List.getElem?_map, List.getElem?_range hi] at hv
    cases hv
    exact ⟨Ext.refl, R, .p (.int _)⟩
theorem zipV_get : ∀ {xs ys : List Val} {i : Nat} {v : Val}, (zipV xs ys)[i]? = some v → ∃ a b, xs[i]? = some a ∧ ys[i]? = some b ∧ v = mkSeq true [a, b]
  | a :: as, b :: bs, 0, v, h => by
    have h' : some (mkSeq true [a, b]) = some v := by simpa [zipV] using h
    cases h'
    exact ⟨a, b, rfl, rfl, rfl⟩
  | a :: as, b :: bs, i + 1, v, h => by
    have h' : (zipV as bs)[i]? = some v := by simpa [zipV] using h
    obtain ⟨x, y, h1, h2, h3⟩ := zipV_get h'
    exact ⟨x, y, by simpa using h1, by simpa using h2, h3⟩
  | [], _, i, v, h => by simp [zipV] at h
  | _ :: _, [], i, v, h => by simp [zipV] at h
theorem zipV_len : ∀ (xs ys : List Val), (zipV xs ys).length = min xs.length ys.length
  | a :: as, b :: bs => by simp [zipV, zipV_len as bs]
  | [], _ => by simp [zipV]
  | _ :: _, [] => by simp [zipV]
theorem pair_den {p : Addr} {x y : V} {v w : Val} (hp : H p = none) (R : Rep K bo n0 io S H) (rx : DenV T K bo io H x v) (ry : DenV T K bo io H y w) : DenV T K bo io (upd H p (.tup [x, y])) (.ref p) (mkSeq true [v, w]) := by
  have E : Ext io H io (upd H p (.tup [x, y])) := Ext.laid hp
  exact mk_den (.seqT (.inl (.inl upd_same)) (.cons (E.denV R.cl rx) (.cons (E.denV R.cl ry) .nil)))
theorem wlk_zip {a b : Addr} {xs ys : List V} {us ws : List Val} (hs : SqL K H a xs) (hd : DenVs T K bo io H xs us) (ht : SqL K H b ys) (he : DenVs T K bo io H ys ws) (R : Rep K bo n0 io S H) : Wlk T K bo n0 (Itz K a b) io S H (zipV us ws) where
  go := fun i hi => by
    rw [zipV_len] at hi
    have h1 := hd.length
    have h2 := he.length
    have hx : i < xs.length := by omega
    have hy : i < ys.length := by omega
    exact ⟨xs, ys, xs[i], ys[i], hs, ht, List.getElem?_eq_getElem hx, List.getElem?_eq_getElem hy⟩
  stop := by
    refine ⟨xs, ys, hs, ht, ?_⟩
    rw [zipV_len, hd.length, he.length]
    omega
  yld := fun i v x H1 hv h => by
    obtain ⟨p, x1, y1, rfl, hp, rfl, h1, h2⟩ := h
    obtain ⟨u, w, e1, e2, rfl⟩ := zipV_get hv
    obtain ⟨vx, hx, rx⟩ := hd.get e1
    obtain ⟨vy, hy, ry⟩ := he.get e2
    have z1 := h1 xs hs
    have z2 := h2 ys ht
    rw [hx] at z1
    rw [hy] at z2
    cases z1
    cases z2
    exact ⟨Ext.laid hp, R.laid hp, pair_den hp R rx ry⟩
theorem wlk_zipT {a b : Addr} {xs ys : List V} {us ws : List Val} (hs : SqT K H a xs) (hd : DenVs T K bo io H xs us) (ht : SqT K H b ys) (he : DenVs T K bo io H ys ws) (R : Rep K bo n0 io S H) : Wlk T K bo n0 (RZ.ItzT K a b) io S H (zipV us ws) where
  go := fun i hi => by
    rw [zipV_len] at hi
    have h1 := hd.length
    have h2 := he.length
    have hx : i < xs.length := by omega
    have hy : i < ys.length := by omega
    exact ⟨xs, ys, xs[i], ys[i], hs, ht, List.getElem?_eq_getElem hx, List.getElem?_eq_getElem hy⟩
  stop := by
    refine ⟨xs, ys, hs, ht, ?_⟩
    rw [zipV_len, hd.length, he.length]
    omega
  yld := fun i v x H1 hv h => by
    obtain ⟨p, x1, y1, rfl, hp, rfl, h1, h2⟩ := h
    obtain ⟨u, w, e1, e2, rfl⟩ := zipV_get hv
    obtain ⟨vx, hx, rx⟩ := hd.get e1
    obtain ⟨vy, hy, ry⟩ := he.get e2
    have z1 := h1 xs hs
    have z2 := h2 ys ht
    rw [hx] at z1
    rw [hy] at z2
    cases z1
    cases z2
    exact ⟨Ext.laid hp, R.laid hp, pair_den hp R rx ry⟩
theorem enum_get : ∀ {xs : List Val} {k i : Nat} {v : Val}, (enumFrom k xs)[i]? = some v → ∃ a, xs[i]? = some a ∧ v = mkSeq true [.p (.int ((k + i : Nat) : Int)), a]
  | a :: as, k, 0, v, h => by
    have h' : some (mkSeq true [.p (.int k), a]) = some v := by simpa [enumFrom] using h
    cases h'
    exact ⟨a, rfl, rfl⟩
  | a :: as, k, i + 1, v, h => by
    have h' : (enumFrom (k + 1) as)[i]? = some v := by simpa [enumFrom] using h
    obtain ⟨x, h1, h2⟩ := enum_get h'
    exact ⟨x, by simpa using h1, by rw [h2, show k + 1 + i = k + (i + 1) by omega]⟩
  | [], k, i, v, h => by simp [enumFrom] at h
theorem enum_len : ∀ (xs : List Val) (k : Nat), (enumFrom k xs).length = xs.length
  | [], _ => rfl
  | a :: as, k => by simp [enumFrom, enum_len as (k + 1)]
theorem wlk_enum {a : Addr} {xs : List V} {us : List Val} (hs : SqL K H a xs) (hd : DenVs T K bo io H xs us) (R : Rep K bo n0 io S H) : Wlk T K bo n0 (Ite K a) io S H (enumFrom 0 us) where
  go := fun i hi => by
    rw [enum_len] at hi
    have h1 := hd.length
    have hx : i < xs.length := by omega
    exact ⟨xs, xs[i], hs, List.getElem?_eq_getElem hx⟩
  stop := ⟨xs, hs, by rw [enum_len, hd.length]; exact Nat.le_refl _⟩
  yld := fun i v x H1 hv h => by
    obtain ⟨p, x1, rfl, hp, rfl, h1⟩ := h
    obtain ⟨u, e1, rfl⟩ := enum_get hv
    obtain ⟨vx, hx, rx⟩ := hd.get e1
    have z1 := h1 xs hs
    rw [hx] at z1
    cases z1
    rw [Nat.zero_add]
    exact ⟨Ext.laid hp, R.laid hp, pair_den hp R (.p (.int _)) rx⟩
end
theorem star1 {a : Expr} (h : isStar a = false) (env : Env) : starEach [a] env = [(false, eval a env)] := star_of h [] env
theorem star2 {a b : Expr} (h : isStar a = false) (h2 : isStar b = false) (env : Env) : starEach [a, b] env = [(false, eval a env), (false, eval b env)] := by rw [star_of h, star1 h2]
theorem rng_shape {C : Cfg} {sc : Scope} {tg e : Expr} {as : List Expr} {ik : IK} {x : Str} (h : iterArgs C sc tg ik e = some as) (hk : (ik = .rng1 ∧ x = "range") ∨ (ik = .rng2 ∧ x = "range") ∨ (ik = .enum ∧ x = "enumerate") ∨ (ik = .zip ∧ x = "zip")) : ∃ p q, e = .Call (.Name x p) as [] q ∧ glB sc x = true ∧ x ∈ C.free ∧
    ((ik = .rng1 ∨ ik = .enum) → ∃ a, as = [a]) ∧ ((ik = .rng2 ∨ ik = .zip) → ∃ a b, as = [a, b]) ∧ ((ik = .enum ∨ ik = .zip) → isTup tg = true) := by
  unfold iterArgs at h
  split at h
  · rcases hk with ⟨e, _⟩ | ⟨e, _⟩ | ⟨e, _⟩ | ⟨e, _⟩ <;> cases e
  · split at h
    · rename_i hc
      cases h
      simp only [Bool.and_eq_true, beq_iff_eq, List.contains_iff_mem] at hc
      rcases hk with ⟨e, rfl⟩ | ⟨e, rfl⟩ | ⟨e, rfl⟩ | ⟨e, rfl⟩ <;> first
        | (cases e; done)
        | skip
      obtain ⟨⟨rfl, h2⟩, h3⟩ := hc
      exact ⟨_, _, rfl, h2, h3, fun _ => ⟨_, rfl⟩, fun z => (by rcases z with z | z <;> cases z), fun z => (by rcases z with z | z <;> cases z)⟩
    · cases h
  · split at h
    · rename_i hc
      cases h
      simp only [Bool.and_eq_true, beq_iff_eq, List.contains_iff_mem] at hc
      rcases hk with ⟨e, rfl⟩ | ⟨e, rfl⟩ | ⟨e, rfl⟩ | ⟨e, rfl⟩ <;> first
        | (cases e; done)
        | skip
      obtain ⟨⟨rfl, h2⟩, h3⟩ := hc
      exact ⟨_, _, rfl, h2, h3, fun z => (by rcases z with z | z <;> cases z), fun _ => ⟨_, _, rfl⟩, fun z => (by rcases z with z | z <;> cases z)⟩
    · cases h
  · split at h
    · rename_i hc
      cases h
      simp only [Bool.and_eq_true, beq_iff_eq, List.contains_iff_mem] at hc
      rcases hk with ⟨e, rfl⟩ | ⟨e, rfl⟩ | ⟨e, rfl⟩ | ⟨e, rfl⟩ <;> first
        | (cases e; done)
        | skip
      obtain ⟨⟨⟨rfl, h2⟩, h3⟩, h4⟩ := hc
      exact ⟨_, _, rfl, h2, h3, fun _ => ⟨_, rfl⟩, fun z => (by rcases z with z | z <;> cases z), fun _ => h4⟩
    · cases h
  · split at h
    · rename_i hc
      cases h
      simp only [Bool.and_eq_true, beq_iff_eq, List.contains_iff_mem] at hc
      rcases hk with ⟨e, rfl⟩ | ⟨e, rfl⟩ | ⟨e, rfl⟩ | ⟨e, rfl⟩ <;> first
        | (cases e; done)
        | skip
      obtain ⟨⟨⟨rfl, h2⟩, h3⟩, h4⟩ := hc
      exact ⟨_, _, rfl, h2, h3, fun z => (by rcases z with z | z <;> cases z), fun _ => ⟨_, _, rfl⟩, fun _ => h4⟩
    · cases h
  · cases h
theorem ItOk_rng1 : ItOk .rng1 := fun X C T n N sc raw W c g hc tg e as ha ts hp hs => by
  obtain ⟨p, q, rfl, h1, h2, h3, _, _⟩ := rng_shape ha (.inl ⟨rfl, rfl⟩)
  obtain ⟨a, rfl⟩ := h3 (.inl rfl)
  have hs' := hs
  simp only [List.all_cons, Bool.and_eq_true, Bool.not_eq_true'] at hs'
  have pi := pi_range1 (tg := tg) (p := p) (pos := q) (g.gl h1) (g.mod.free _ h2) (PA.up (pa_all hp hs)) (star1 hs'.1 _)
  refine ⟨fun pins s sg H R I h => pi.run pins s sg H R I ⟨_, h, fun xs H1 ⟨bo, n0, io, S, vs, ys, lk, Rp, rv, hi, qq⟩ => ?_⟩⟩
  unfold items at hi
  dsimp only at hi
  split at hi
  · rename_i k
    split at hi
    · rename_i hb
      cases hi
      cases rv with
      | cons r rv =>
        cases rv
        cases r with
        | p r =>
          cases r
          have hb' : k ≤ 5000000 := hb.1
          refine ⟨k, rfl, hb.2, by omega, qq _ H1 Ext.refl Rp fun bo1 n1 io1 S1 H2 f hg hbn R1 _ => ?_⟩
          have z := wlk_rng (T := T) (lo := 0) (n := k.toNat) R1
          simpa using z
    · cases hi
  · cases hi
theorem ItOk_rng2 : ItOk .rng2 := fun X C T n N sc raw W c g hc tg e as ha ts hp hs => by
  obtain ⟨p, q, rfl, h1, h2, _, h3, _⟩ := rng_shape ha (.inr (.inl ⟨rfl, rfl⟩))
  obtain ⟨a, b, rfl⟩ := h3 (.inl rfl)
  have hs' := hs
  simp only [List.all_cons, Bool.and_eq_true, Bool.not_eq_true'] at hs'
  have pi := pi_range2 (tg := tg) (p := p) (pos := q) (g.gl h1) (g.mod.free _ h2) (PA.up (pa_all hp hs)) (star2 hs'.1 hs'.2.1 _) (star1 hs'.2.1 _)
  refine ⟨fun pins s sg H R I h => pi.run pins s sg H R I ⟨_, h, fun xs H1 ⟨bo, n0, io, S, vs, ys, lk, Rp, rv, hi, qq⟩ => ?_⟩⟩
  unfold items at hi
  dsimp only at hi
  split at hi
  · rename_i k l
    split at hi
    · rename_i hb
      cases hi
      obtain ⟨rx, ry⟩ : (∃ x y, xs = [x, y] ∧ DenV T X.K bo io H1 x (.p (.int k)) ∧ DenV T X.K bo io H1 y (.p (.int l))) ∧ True := ⟨by
        cases rv with
        | cons r rv =>
          cases rv with
          | cons r2 rv =>
            cases rv
            exact ⟨_, _, rfl, r, r2⟩, trivial⟩
      obtain ⟨x, y, rfl, rx, ry⟩ := rx
      cases rx with
      | p rx =>
        cases rx
        cases ry with
        | p ry =>
          cases ry
          exact ⟨k, l, rfl, hb.2, qq _ H1 Ext.refl Rp fun bo1 n1 io1 S1 H2 f hg hbn R1 _ => wlk_rng R1⟩
    · cases hi
  · cases hi
theorem isTup_ok {tg : Expr} (h : isTup tg = true) : ∃ es k p, tg = .Tuple es k p := by
  cases tg <;> first
    | exact ⟨_, _, _, rfl⟩
    | cases h
theorem ItOk_enum : ItOk .enum := fun X C T n N sc raw W c g hc tg e as ha ts hp hs => by
  obtain ⟨p, q, rfl, h1, h2, h3, _, h4⟩ := rng_shape ha (.inr (.inr (.inl ⟨rfl, rfl⟩)))
  obtain ⟨a, rfl⟩ := h3 (.inr rfl)
  obtain ⟨es, k, tp, rfl⟩ := isTup_ok (h4 (.inl rfl))
  have hs' := hs
  simp only [List.all_cons, Bool.and_eq_true, Bool.not_eq_true'] at hs'
  have pi := pi_enum (elts := es) (kk := k) (tpos := tp) (p := p) (pos := q) (g.gl h1) (g.mod.free _ h2) (PA.up (pa_all hp hs)) (star1 hs'.1 _)
  refine ⟨fun pins s sg H R I h => pi.run pins s sg H R I ⟨_, h, fun xs H1 ⟨bo, n0, io, S, vs, ys, lk, Rp, rv, hi, qq⟩ => ?_⟩⟩
  unfold items at hi
  dsimp only at hi
  split at hi
  · rename_i v
    split at hi
    · rename_i us hv
      cases hi
      cases rv with
      | cons r rv =>
        cases rv
        have sq := seqV_ok hv r
        cases sq with
        | lst k1 k2 =>
          refine ⟨_, _, rfl, k1.sq, qq _ H1 Ext.refl Rp fun bo1 n1 io1 S1 H2 f hg hbn R1 _ => ?_⟩
          cases (SqD.lst k1 k2 : SqD T X.K bo io H1 false _ us).fr f Rp.cl hg hbn with
          | lst l1 l2 => exact wlk_enum l1.sq l2 R1
    · cases hi
  · cases hi
theorem ItOk_zip : ItOk .zip := fun X C T n N sc raw W c g hc tg e as ha ts hp hs => by
  obtain ⟨p, q, rfl, h1, h2, _, h3, h4⟩ := rng_shape ha (.inr (.inr (.inr ⟨rfl, rfl⟩)))
  obtain ⟨a, b, rfl⟩ := h3 (.inr rfl)
  obtain ⟨es, k, tp, rfl⟩ := isTup_ok (h4 (.inr rfl))
  have hs' := hs
  simp only [List.all_cons, Bool.and_eq_true, Bool.not_eq_true'] at hs'
  have pi := RZ.pi_zipA (elts := es) (kk := k) (tpos := tp) (p := p) (pos := q) (g.gl h1) (g.mod.free _ h2) (PA.up (pa_all hp hs)) (star_of hs'.1 _ _) (any_of (by simp [hs'.2.1]) _ _)
  refine ⟨fun pins s sg H R I h => pi.run pins s sg H R I ⟨_, h, fun xs H1 ⟨bo, n0, io, S, vs, ys, lk, Rp, rv, hi, qq⟩ => ?_⟩⟩
  unfold items at hi
  dsimp only at hi
  split at hi
  · rename_i v w
    split at hi
    · rename_i t us t2 ws hv hw
      split at hi
      · rename_i ht
        subst ht
        cases hi
        obtain ⟨x, y, rfl, rx, ry⟩ : ∃ x y, xs = [x, y] ∧ DenV T X.K bo io H1 x v ∧ DenV T X.K bo io H1 y w := by
          cases rv with
          | cons r rv =>
            cases rv with
            | cons r2 rv =>
              cases rv
              exact ⟨_, _, rfl, r, r2⟩
        have s1 := seqV_ok hv rx
        have s2 := seqV_ok hw ry
        cases s1 with
        | lst k1 k2 =>
          cases s2 with
          | lst l1 l2 =>
            refine ⟨_, _, _, _, rfl, .inl ⟨k1.sq, l1.sq, qq _ H1 Ext.refl Rp fun bo1 n1 io1 S1 H2 f hg hbn R1 _ => ?_⟩⟩
            cases (SqD.lst k1 k2 : SqD T X.K bo io H1 false _ us).fr f Rp.cl hg hbn with
            | lst i1 i2 =>
              cases (SqD.lst l1 l2 : SqD T X.K bo io H1 false _ ws).fr f Rp.cl hg hbn with
              | lst j1 j2 => exact wlk_zip i1.sq i2 j1.sq j2 R1
        | tup k1 k2 =>
          cases s2 with
          | tup l1 l2 =>
            refine ⟨_, _, _, _, rfl, .inr ⟨k1, l1, qq _ H1 Ext.refl Rp fun bo1 n1 io1 S1 H2 f hg hbn R1 _ => ?_⟩⟩
            cases (SqD.tup k1 k2 : SqD T X.K bo io H1 true _ us).fr f Rp.cl hg hbn with
            | tup i1 i2 =>
              cases (SqD.tup l1 l2 : SqD T X.K bo io H1 true _ ws).fr f Rp.cl hg hbn with
              | tup j1 j2 => exact wlk_zipT i1 i2 j1 j2 R1
      · cases hi
    · cases hi
  · cases hi
theorem facts : Facts where
  me := MeOk_all
  op := OpOk_all
  tst := OpT_all
  cmp := CmpOk_all
  it := fun ik => by
    cases ik
    · exact ItOk_val
    · exact ItOk_rng1
    · exact ItOk_rng2
    · exact ItOk_enum
    · exact ItOk_zip
end Ev

/-! Ev12: statements. -/
namespace Ev
open PySem PySem.Spec PyProof.Rows L2

section
variable (T : Tb) (K : PySem.W.Frag) (bo : Addr → Prop) (n0 : Nat) (io : List Addr) (H : Hp)
def RS (W : WX) (D : Ends) : SRes → Prop
  | .nx env S => ∀ sg1 H1 io1, Ext io H io1 H1 → Rep K bo n0 io1 S H1 → EnvOk T K bo io1 H1 sg1 env → D.nx sg1 H1
  | .bk env S => ∀ sg1 H1 io1, Ext io H io1 H1 → Rep K bo n0 io1 S H1 → EnvOk T K bo io1 H1 sg1 env → D.bk sg1 H1
  | .ct env S => ∀ sg1 H1 io1, Ext io H io1 H1 → Rep K bo n0 io1 S H1 → EnvOk T K bo io1 H1 sg1 env → D.ct sg1 H1
  | .rt v S => ∀ x H1 io1, Ext io H io1 H1 → Rep K bo n0 io1 S H1 → DenV T K bo io1 H1 x v → D.rt x H1
  | .ex c as env S => ∀ sg1 H1 io1 d, Ext io H io1 H1 → Rep K bo n0 io1 S H1 → EnvOk T K bo io1 H1 sg1 env → ExArg T K bo io1 H1 d as → W (.ref (T.ca c)) d sg1 H1
  | .bad => False
end
section
variable {T : Tb} {K : PySem.W.Frag} {bo : Addr → Prop} {n0 : Nat} {io io1 : List Addr} {H H1 : Hp} {W : WX} {D : Ends}
theorem RS.ext : ∀ {r : SRes}, RS T K bo n0 io H W D r → Ext io H io1 H1 → RS T K bo n0 io1 H1 W D r
  | .nx _ _, h, a => fun sg H2 io2 b => h sg H2 io2 (a.trans b)
  | .bk _ _, h, a => fun sg H2 io2 b => h sg H2 io2 (a.trans b)
  | .ct _ _, h, a => fun sg H2 io2 b => h sg H2 io2 (a.trans b)
  | .rt _ _, h, a => fun x H2 io2 b => h x H2 io2 (a.trans b)
  | .ex _ _ _ _, h, a => fun sg H2 io2 d b => h sg H2 io2 d (a.trans b)
  | .bad, h, _ => h
end
section
variable (C : Cfg) (T : Tb) (K : PySem.W.Frag) (F : Nat → List Val → Store → Res) (W : WX)
def tS (s : St) : TS := fun D sg H => ∃ bo n0 io S env, Rep K bo n0 io S H ∧ EnvOk T K bo io H sg env ∧ RS T K bo n0 io H W D (evS C F s env S)
def tB (ss : List St) : TS := fun D sg H => ∃ bo n0 io S env, Rep K bo n0 io S H ∧ EnvOk T K bo io H sg env ∧ RS T K bo n0 io H W D (evB C F ss env S)
end
section
variable {C : Cfg} {T : Tb} {K : PySem.W.Frag} {F : Nat → List Val → Store → Res} {W : WX} {bo : Addr → Prop} {n0 : Nat} {io : List Addr} {S : Store} {H : Hp} {sg : L2.St} {env : Slots} {D : Ends}
/-- an expression, and what is done behind it -/
theorem sbind {x : E} {Q : VK} {k : Res → SRes} (R : Rep K bo n0 io S H) (e : EnvOk T K bo io H sg env) (hk1 : ∀ c as S1, k (.ex c as S1) = .ex c as env S1) (hk2 : k .bad = .bad) (h : RS T K bo n0 io H W D (k (ev C F x env S)))
    (q : ∀ v S1 y H1 io1, ev C F x env S = .ok v S1 → Ext io H io1 H1 → Rep K bo n0 io1 S1 H1 → EnvOk T K bo io1 H1 sg env → DenV T K bo io1 H1 y v → RS T K bo n0 io1 H1 W D (k (.ok v S1)) → Q y H1) : tE C T K F W x sg H Q := by
  refine ⟨bo, n0, io, S, env, R, e, ?_⟩
  cases hx : ev C F x env S with
  | bad => rw [hx, hk2] at h; exact h
  | ex c as S1 =>
    rw [hx, hk1] at h
    exact fun H1 io1 d a R1 r => h sg H1 io1 d a R1 (e.ext a R.cl) r
  | ok v S1 =>
    rw [hx] at h
    intro y H1 io1 a R1 r1
    exact q v S1 y H1 io1 hx a R1 (e.ext a R.cl) r1 (h.ext a)
theorem sbindL {xs : List E} {Q : List V → Hp → Prop} {k : ResL → SRes} (R : Rep K bo n0 io S H) (e : EnvOk T K bo io H sg env) (hk1 : ∀ c as S1, k (.ex c as S1) = .ex c as env S1) (hk2 : k .bad = .bad) (h : RS T K bo n0 io H W D (k (evL C F xs env S)))
    (q : ∀ vs S1 ys H1 io1, evL C F xs env S = .ok vs S1 → Ext io H io1 H1 → Rep K bo n0 io1 S1 H1 → EnvOk T K bo io1 H1 sg env → DenVs T K bo io1 H1 ys vs → RS T K bo n0 io1 H1 W D (k (.ok vs S1)) → Q ys H1) : chainT (xs.map (tE C T K F W)) sg H Q := by
  refine chain_of xs R e ?_
  cases hx : evL C F xs env S with
  | bad => rw [hx, hk2] at h; exact h
  | ex c as S1 =>
    rw [hx, hk1] at h
    exact fun H1 io1 d a R1 r => h sg H1 io1 d a R1 (e.ext a R.cl) r
  | ok v S1 =>
    rw [hx] at h
    intro y H1 io1 a R1 r1
    exact q v S1 y H1 io1 hx a R1 (e.ext a R.cl) r1 (h.ext a)
theorem sbindT {x : E} {Q : Bool → Hp → Prop} {k : Res → SRes} (R : Rep K bo n0 io S H) (e : EnvOk T K bo io H sg env) (hk1 : ∀ c as S1, k (.ex c as S1) = .ex c as env S1) (hk2 : k .bad = .bad) (h : RS T K bo n0 io H W D (k (ev C F x env S)))
    (hk3 : ∀ v S1, truV S1 v = none → k (.ok v S1) = .bad)
    (q : ∀ v S1 b H1 io1, ev C F x env S = .ok v S1 → truV S1 v = some b → Ext io H io1 H1 → Rep K bo n0 io1 S1 H1 → EnvOk T K bo io1 H1 sg env → RS T K bo n0 io1 H1 W D (k (.ok v S1)) → Q b H1) : tT C T K F W x sg H Q := by
  refine ⟨bo, n0, io, S, env, R, e, ?_⟩
  cases hx : ev C F x env S with
  | bad => rw [hx, hk2] at h; exact h
  | ex c as S1 =>
    rw [hx, hk1] at h
    exact fun H1 io1 d a R1 r => h sg H1 io1 d a R1 (e.ext a R.cl) r
  | ok v S1 =>
    rw [hx] at h
    cases ht : truV S1 v with
    | none => rw [hk3 v S1 ht] at h; exact h.elim
    | some b => exact ⟨b, ht, fun H1 io1 a R1 => q v S1 b H1 io1 hx ht a R1 (e.ext a R.cl) (h.ext a)⟩
theorem tB_nil {h : tB C T K F W [] D sg H} : tNext D sg H := by
  obtain ⟨bo, n0, io, S, env, R, e, h⟩ := h
  exact h sg H io Ext.refl R e
theorem tB_cons {s : St} {ss : List St} (h : tB C T K F W (s :: ss) D sg H) : tSeq (tS C T K F W s) (tB C T K F W ss) D sg H := by
  obtain ⟨bo, n0, io, S, env, R, e, h⟩ := h
  refine ⟨bo, n0, io, S, env, R, e, ?_⟩
  unfold evB at h
  cases hx : evS C F s env S with
  | nx env1 S1 =>
    rw [hx] at h
    exact fun sg1 H1 io1 a R1 e1 => ⟨bo, n0, io1, S1, env1, R1, e1, h.ext a⟩
  | bk env1 S1 => rw [hx] at h; exact h
  | ct env1 S1 => rw [hx] at h; exact h
  | rt v S1 => rw [hx] at h; exact h
  | ex c as env1 S1 => rw [hx] at h; exact h
  | bad => rw [hx] at h; exact h
end
section
variable {X : Cx} {C : Cfg} {T : Tb} {n : Nat} {N : List Str} {sc : Scope} {W : WX} {c : Bool}
/-- the statement's context -/
structure GoodS (X : Cx) (C : Cfg) (T : Tb) (n : Nat) (N : List Str) (sc : Scope) (W : WX) (c : Bool) : Prop extends Good X C T n N sc sc W c where
  stk : c = true → X.stack = X.env :: X.outer
  frm : c = true → X.env.frame = some X.env.locals
theorem st_pass {p : Pos} : PS X (.Pass p) (tS C T X.K (callN C n) W .pass) := PS.mono ps_pass fun D sg H ⟨bo, n0, io, S, env, R, e, h⟩ => h sg H io Ext.refl R e
theorem st_brk {p : Pos} : PS X (.Break p) (tS C T X.K (callN C n) W .brk) := PS.mono ps_break fun D sg H ⟨bo, n0, io, S, env, R, e, h⟩ => h sg H io Ext.refl R e
theorem st_cont {p : Pos} : PS X (.Continue p) (tS C T X.K (callN C n) W .cont) := PS.mono ps_continue fun D sg H ⟨bo, n0, io, S, env, R, e, h⟩ => h sg H io Ext.refl R e
theorem st_retN {p : Pos} : PS X (.Return none p) (tS C T X.K (callN C n) W .retN) := PS.mono ps_retN fun D sg H ⟨bo, n0, io, S, env, R, e, h⟩ => h .non H io Ext.refl R (.p .non)
theorem st_ret {x : E} {a : Expr} {p : Pos} (h : PE X a (tE C T X.K (callN C n) W x)) : PS X (.Return (some a) p) (tS C T X.K (callN C n) W (.ret x)) :=
  PS.mono (ps_ret h) fun D sg H ⟨bo, n0, io, S, env, R, e, h⟩ => sbind (D := D) (k := fun r => match r with
    | .ok v S1 => .rt v S1
    | .ex c as S1 => .ex c as env S1
    | .bad => .bad) R e (fun _ _ _ => rfl) rfl (by unfold evS at h; exact h) fun v S1 y H1 io1 _ a R1 e1 r1 q => q y H1 io1 Ext.refl R1 r1
theorem isComp_sw {e : Expr} (h : isComp e = false) (t : Option Expr) (l : Nat) (env : Env) : swapsWith e t l env = pure false := by
  cases e <;> first
    | rfl
    | cases h
theorem st_expr {x : E} {a : Expr} {p : Pos} (h : PE X a (tE C T X.K (callN C n) W x)) (hc : isComp a = false) : PS X (.Expr a p) (tS C T X.K (callN C n) W (.expr x)) :=
  PS.mono (ps_expr h (isComp_sw hc _ _ _)) fun D sg H ⟨bo, n0, io, S, env, R, e, h⟩ => sbind (D := D) (k := fun r => match r with
    | .ok _ S1 => .nx env S1
    | .ex c as S1 => .ex c as env S1
    | .bad => .bad) R e (fun _ _ _ => rfl) rfl (by unfold evS at h; exact h) fun v S1 y H1 io1 _ a R1 e1 r1 q => q sg H1 io1 Ext.refl R1 e1
theorem st_if {x : E} {a : Expr} {p : Pos} {s1 s2 : List St} {b1 b2 : List Stmt} (h : PT X a (tT C T X.K (callN C n) W x)) (h1 : PSs X b1 (tB C T X.K (callN C n) W s1)) (h2 : PSs X b2 (tB C T X.K (callN C n) W s2)) : PS X (.If a b1 b2 p) (tS C T X.K (callN C n) W (.ifs x s1 s2)) :=
  PS.mono (ps_if h h1 h2) fun D sg H ⟨bo, n0, io, S, env, R, e, h⟩ => by
    refine sbindT (D := D) (k := fun r => match r with
      | .ok v S1 => match truV S1 v with
        | some true => evB C (callN C n) s1 env S1
        | some false => evB C (callN C n) s2 env S1
        | none => .bad
      | .ex c as S1 => .ex c as env S1
      | .bad => .bad) R e (fun _ _ _ => rfl) rfl (by unfold evS at h; exact h) (fun v S1 ht => by simp only [ht]) fun v S1 k H1 io1 _ ht ax R1 e1 q => ?_
    dsimp only at q
    rw [ht] at q
    cases k with
    | true => exact ⟨bo, n0, io1, S1, env, R1, e1, q⟩
    | false => exact ⟨bo, n0, io1, S1, env, R1, e1, q⟩
theorem wk_nameB (g : Good X C T n N sc sc W c) {i : Nat} {t : Expr} (h : nameB N sc i t = true) : ∃ x p, t = .Name x p ∧ N[i]? = some x ∧ Loc X.env.scope x ∧ (X.fn x = true ∨ X.env.scope.names.lookup x = some .local) := by
  unfold nameB at h
  split at h
  · rename_i x p
    simp only [Bool.and_eq_true, beq_iff_eq] at h
    obtain ⟨h1, h2⟩ := g.sto x (stoB_ok h.2)
    exact ⟨x, p, rfl, h.1, h1, h2⟩
  · cases h
theorem asg_go {tg : Tg} {x : E} {D : Ends} {sg : L2.St} {H : Hp} (h : tS C T X.K (callN C n) W (.asg tg x) D sg H) : tAsg (tE C T X.K (callN C n) W x) (tG X.K tg) D sg H := by
  obtain ⟨bo, n0, io, S, env, R, e, h⟩ := h
  refine sbind (D := D) (k := fun r => match r with
    | .ok v S1 => match bindTg S1 tg v env with
      | some env1 => .nx env1 S1
      | none => .bad
    | .ex c as S1 => .ex c as env S1
    | .bad => .bad) R e (fun _ _ _ => rfl) rfl (by unfold evS at h; exact h) fun v S1 y H1 io1 _ a R1 e1 r1 q => ?_
  dsimp only at q
  cases hb : bindTg S1 tg v env with
  | none => rw [hb] at q; exact q.elim
  | some env1 =>
    rw [hb] at q
    exact bind_ok hb r1 e1 fun sg1 e2 _ => q sg1 H1 io1 Ext.refl R1 e2
theorem st_set (g : Good X C T n N sc sc W c) {i : Nat} {x : E} {t a : Expr} {p : Pos} (ht : nameB N sc i t = true) (h : PE X a (tE C T X.K (callN C n) W x)) (hc : isComp a = false) : PS X (.Assign [t] a p) (tS C T X.K (callN C n) W (.asg (.nm i) x)) := by
  obtain ⟨y, py, rfl, h1, h2, h3⟩ := wk_nameB g ht
  exact PS.mono (ps_set (by rw [g.hN]; exact g.nd) (by rw [g.hN]; exact h1) h2 h (isComp_sw hc _ _ _) h3) fun D sg H => asg_go
theorem swapped_none {ts : List Expr} {kt : Nat} {pt : Pos} {a : Expr} (h : isTup a = false) (env : Env) : swappedStores [.Tuple ts kt pt] a env = pure none := by
  cases a <;> first
    | rfl
    | cases h
theorem st_unp (g : Good X C T n N sc sc W true) {is : List Nat} {x : E} {t a : Expr} {p : Pos} (ht : chkTg N sc (.tp is) t = true) (h : PE X a (tE C T X.K (callN C n) W x)) (hc : isComp a = false) (hu : isTup a = false) : PS X (.Assign [t] a p) (tS C T X.K (callN C n) W (.asg (.tp is) x)) := by
  have pg := pg_tg g.hN g.nd g.sto (g.calm rfl) ht
  cases t with
  | Tuple es k pt => exact PS.mono (ps_asg h pg (isComp_sw hc (some (.Tuple es k pt)) p.line X.env) (swapped_none hu _)) fun D sg H => asg_go
  | _ => cases ht
end
end Ev

/-! Ev13: more statements. -/
namespace Ev
open PySem PySem.Spec PyProof.Rows L2

theorem localB_ok {sc : Scope} {x : Str} (h : localB sc x = true) : sc.names.lookup x = some .local := by
  unfold localB at h
  split at h
  · assumption
  · cases h
section
variable {X : Cx} {C : Cfg} {T : Tb} {n : Nat} {N : List Str} {sc : Scope} {W : WX} {c : Bool}
/-- the parts of a comprehension -/
theorem comp_parts (A : Facts) (g : Good X C T n N sc sc W true) {own : List Nat} {elt : E} {tg : Tg} {ik : IK} {its : List E} {cond : Option E} {x t it : Expr} {ifs : List Expr} {scope : Scope} {ns : List Str} {as : List Expr}
    (hns : namesAt N own = some ns) (hb : blkC N sc scope (ns.zip own) = true) (ht : chkTg N scope tg t = true) (hi : iterArgs C sc t ik it = some as) (h1 : chkL C N true its sc as = true) (h2 : chk C N true elt (relS scope sc) x = true) (h3 : chkC C N true cond (relS scope sc) ifs = true) :
    PI X t it (fun sg H R => chainT (its.map (tE C T X.K (callN C n) W)) sg H fun xs H1 => rIt T X.K ik xs H1 R) ∧ BlkOk X.N X.env.scope scope (ns.zip own) ∧
    (∀ (s : Shared) (H : Hp) (C0 : Addr) (cl : List (Str × Addr)) (fp : List Addr), PG (X.blk s H scope (compEnvC scope cl C0 X.env) fp) t (tG X.K tg)) ∧ (∀ (s : Shared) (H : Hp) (C0 : Addr) (cl : List (Str × Addr)) (fp : List Addr), PTs (X.blk s H scope (compEnvC scope cl C0 X.env) fp) ifs (tCond C T X.K n cond)) ∧
    (∀ (s : Shared) (H : Hp) (C0 : Addr) (cl : List (Str × Addr)) (fp : List Addr), PE (X.blk s H scope (compEnvC scope cl C0 X.env) fp) x (tE C T X.K (callN C n) NoW elt)) := by
  obtain ⟨hp, hs⟩ := soundL A its g h1
  refine ⟨A.it ik X C T n N sc sc W true g rfl t it as hi _ hp hs, ?_, fun s H C0 cl fp => pg_tg (good_blk g (scope := scope) s H C0 cl fp).hN g.nd (good_blk g (scope := scope) s H C0 cl fp).sto (g.calm rfl) ht,
    fun s H C0 cl fp => soundC A cond (good_blk g (scope := scope) s H C0 cl fp) h3, fun s H C0 cl fp => (sound A elt (good_blk g (scope := scope) s H C0 cl fp) h2).1⟩
  rw [g.hN, g.sc]
  exact blkOk_by hb
theorem tE_mono {e : E} {sg : L2.St} {H : Hp} {Q Q' : VK} (m : ∀ v H, Q v H → Q' v H) (h : tE C T X.K (callN C n) W e sg H Q) : tE C T X.K (callN C n) W e sg H Q' := by
  obtain ⟨bo, n0, io, S, env, R, e1, h⟩ := h
  refine ⟨bo, n0, io, S, env, R, e1, ?_⟩
  cases hx : ev C (callN C n) e env S with
  | bad => rw [hx] at h; exact h
  | ex c as S1 => rw [hx] at h; exact h
  | ok v S1 =>
    rw [hx] at h
    exact fun y H1 io1 a R1 r1 => m _ _ (h y H1 io1 a R1 r1)
theorem st_setc (A : Facts) (g : Good X C T n N sc sc W true) {i : Nat} {e : E} {t v : Expr} {p : Pos} (ht : nameB N sc i t = true) (hv : chk C N true e sc v = true) (he : isCE e = true) (hs : swB sc t v = true) : PS X (.Assign [t] v p) (tS C T X.K (callN C n) W (.asg (.nm i) e)) := by
  unfold swB at hs
  split at hs
  · rename_i y py elt gs scope pos
    simp only [Bool.and_eq_true, decide_eq_true_eq, Bool.not_eq_true'] at hs
    obtain ⟨⟨⟨hk, hl⟩, hln⟩, ha⟩ := hs
    have hl := localB_ok hl
    obtain ⟨y', py', e1, h1, h2, h3⟩ := wk_nameB g ht
    cases e1
    cases e with
    | comp cell own el tg ik its cond =>
      obtain ⟨x, t, it, ifs, scope, pos, ns, as, e2, _, hns, hb, hin, ht, hi, c1, c2, c3⟩ := chk_comp hv
      cases e2
      obtain ⟨p1, p2, p3, p4, p5⟩ := comp_parts A g hns hb ht hi c1 c2 c3
      have sw : swapsWith (.ListComp elt [⟨t, it, ifs, 0⟩] scope pos) (some (.Name y py)) p.line X.env = pure true := sw_true (by rw [g.sc]; exact hk) (by rw [g.sc]; exact hl) hln ha
      have ps := ps_setLc (spos := p) (g.calm rfl) (by rw [g.hN]; exact g.nd) (by rw [g.hN]; exact h1) (by rw [g.sc]; exact hl) sw p1 p2 p3 p4 p5 (iter_fold hi _)
      rw [own_of hns] at ps
      refine PS.mono ps fun D sg H h => ?_
      have h' := asg_go h
      exact comp_lc (W := W) hin h'
    | _ => cases he
  · cases hs
theorem st_raise (g : Good X C T n N sc sc W true) {k : Nat} {x m : Str} {j : Nat} {p p2 p3 p4 : Pos} (hg : glB sc x = true) (hc : (C.clss[k]?.map (·.name)) = some x) :
    PS X (.Raise (some (.Call (.Name x p) [.Constant (.str m) j p2] [] p3)) none p4) (tS C T X.K (callN C n) W (.raise k [])) := by
  cases hi : C.clss[k]? with
  | none => rw [hi] at hc; cases hc
  | some i =>
    rw [hi] at hc
    have e : i.name = x := Option.some.inj hc
    have f := g.mod.clss k i hi
    obtain ⟨B, nw, it, bm, F, q⟩ := f.made
    refine PS.mono (ps_raise (g.calm rfl) g.takes (pmk_own (m := m) (j := j) (p := p) (p2 := p2) (pos := p3) F q (by rw [← e]; exact f.g) f.k (raises_own f.e.hs f.t) (g.gl hg) (glB_ok hg).2.1)) fun D sg H ⟨bo, n0, io, S, env, R, e1, h⟩ => ?_
    exact h sg H io none Ext.refl R e1 (.inl ⟨rfl, rfl⟩)
theorem st_for (A : Facts) (g : Good X C T n N sc sc W true) {tg : Tg} {ik : IK} {its : List E} {body : List St} {t it : Expr} {b : List Stmt} {p : Pos} {as : List Expr} (ht : chkTg N sc tg t = true) (hi : iterArgs C sc t ik it = some as) (h1 : chkL C N true its sc as = true) (hb : PSs X b (tB C T X.K (callN C n) W body)) :
    PS X (.For t it b [] p) (tS C T X.K (callN C n) W (.for tg ik its body)) := by
  obtain ⟨hp, hs⟩ := soundL A its g h1
  refine PS.mono (ps_for g.owns (g.calm rfl) (A.it ik X C T n N sc sc W true g rfl t it as hi _ hp hs) (pg_tg g.hN g.nd g.sto (g.calm rfl) ht) hb (iter_fold hi _)) fun D sg H ⟨bo, n0, io, S, env, R, e, h⟩ => ?_
  refine sbindL (D := D) (W := W) (k := fun r => match r with
    | .ok vs S1 => match items S1 ik vs with
      | some (xs, lk) => forGo (ckS lk) (evB C (callN C n) body) tg xs env S1
      | none => .bad
    | .ex c as S1 => .ex c as env S1
    | .bad => .bad) R e (fun _ _ _ => rfl) rfl (by unfold evS at h; exact h) fun vs S1 xs H1 io1 _ a1 R1 e1 r1 q => ?_
  dsimp only at q
  cases hit : items S1 ik vs with
  | none => rw [hit] at q; exact q.elim
  | some z =>
    obtain ⟨ys, lk⟩ := z
    rw [hit] at q
    dsimp only at q
    refine ⟨bo, n0, io1, S1, vs, ys, lk, R1, r1, hit, fun J H2 a2 R2 wl => ?_⟩
    refine ⟨fun i m sg' H' => m = ys.length - i ∧ i ≤ ys.length ∧ ∃ io3 S3 env3, Rep X.K bo n0 io3 S3 H' ∧ Ext io1 H2 io3 H' ∧ EnvOk T X.K bo io3 H' sg' env3 ∧ RS T X.K bo n0 io3 H' W D (forGo (ckS lk) (evB C (callN C n) body) tg (ys.drop i) env3 S3),
      ⟨ys.length, rfl, Nat.zero_le _, io1, S1, env, R2, Ext.refl, e1.ext a2 R1.cl, q.ext a2⟩, ?_⟩
    rintro i m sg' H' ⟨rfl, hi', io3, S3, env3, R3, a3, e3, hr⟩
    have hck : ckS lk S3 = true := by
      cases hk : ckS lk S3 with
      | true => rfl
      | false =>
        exfalso
        cases hd : ys.drop i with
        | nil => rw [hd] at hr; unfold forGo at hr; rw [hk] at hr; exact hr
        | cons y yr => rw [hd] at hr; unfold forGo at hr; rw [hk] at hr; exact hr
    have wk := wl bo n0 io3 S3 H' a3.fr (fun _ _ => a3.get) a3.ban R3 hck
    by_cases hlt : i < ys.length
    · refine .inr ⟨wk.go i hlt, _, fun sg'' H'' q => ⟨_, (show ys.length - (i + 1) < ys.length - i by omega), rfl, hlt, q⟩, fun x H'' hy => ?_⟩
      obtain ⟨a4, R4, r4⟩ := wk.yld i ys[i] x H'' (List.getElem?_eq_getElem hlt) hy
      rw [List.drop_eq_getElem_cons hlt] at hr
      unfold forGo at hr
      rw [if_pos hck] at hr
      cases hbt : bindTg S3 tg ys[i] env3 with
      | none => rw [hbt] at hr; exact hr.elim
      | some env1 =>
        rw [hbt] at hr
        dsimp only at hr
        refine bind_ok hbt r4 (e3.ext a4 R3.cl) fun sg1 e5 _ => ?_
        refine ⟨bo, n0, io3, S3, env1, R4, e5, ?_⟩
        have hr := hr.ext a4
        cases hx : evB C (callN C n) body env1 S3 with
        | nx env2 S2 =>
          rw [hx] at hr
          exact fun sg2 H5 io5 a5 R5 e6 => ⟨io5, S2, env2, R5, a3.trans (a4.trans a5), e6, hr.ext a5⟩
        | ct env2 S2 =>
          rw [hx] at hr
          exact fun sg2 H5 io5 a5 R5 e6 => ⟨io5, S2, env2, R5, a3.trans (a4.trans a5), e6, hr.ext a5⟩
        | bk env2 S2 => rw [hx] at hr; exact hr
        | rt v S2 => rw [hx] at hr; exact hr
        | ex c as env2 S2 => rw [hx] at hr; exact hr
        | bad => rw [hx] at hr; exact hr
    · have hie : i = ys.length := by omega
      subst hie
      rw [List.drop_length] at hr
      unfold forGo at hr
      rw [if_pos hck] at hr
      exact .inl ⟨wk.stop, hr sg' H' io3 Ext.refl R3 e3⟩
theorem st_while (g : Good X C T n N sc sc W true) {x : E} {a : Expr} {body : List St} {b : List Stmt} {p : Pos} (hc : PT X a (tT C T X.K (callN C n) W x)) (hb : PSs X b (tB C T X.K (callN C n) W body)) : PS X (.While a b [] p) (tS C T X.K (callN C n) W (.while x body)) := by
  refine PS.mono (ps_while g.owns hc hb) fun D sg H ⟨bo, n0, io, S, env, R, e, h⟩ => ?_
  refine ⟨fun m sg' H' => ∃ io3 S3 env3, Rep X.K bo n0 io3 S3 H' ∧ EnvOk T X.K bo io3 H' sg' env3 ∧ RS T X.K bo n0 io3 H' W D (whileGo (ev C (callN C n) x) (evB C (callN C n) body) m env3 S3), ⟨fuel, io, S, env, R, e, by unfold evS at h; exact h⟩, ?_⟩
  rintro m sg' H' ⟨io3, S3, env3, R3, e3, hr⟩
  cases m with
  | zero => exact hr.elim
  | succ m =>
    unfold whileGo at hr
    refine sbindT (D := D) (k := fun r => match r with
      | .ok v S1 => match truV S1 v with
        | some true => match evB C (callN C n) body env3 S1 with
          | .nx env2 S2 => whileGo (ev C (callN C n) x) (evB C (callN C n) body) m env2 S2
          | .ct env2 S2 => whileGo (ev C (callN C n) x) (evB C (callN C n) body) m env2 S2
          | .bk env2 S2 => .nx env2 S2
          | r => r
        | some false => .nx env3 S1
        | none => .bad
      | .ex c as S1 => .ex c as env3 S1
      | .bad => .bad) R3 e3 (fun _ _ _ => rfl) rfl hr (fun v S1 ht => by simp only [ht]) fun v S1 k H1 io1 _ ht ax R1 e1 q => ?_
    dsimp only at q
    rw [ht] at q
    cases k with
    | false => exact q sg' H1 io1 Ext.refl R1 e1
    | true =>
      refine ⟨_, fun sg'' H'' q => ⟨m, Nat.lt_succ_self _, q⟩, bo, n0, io1, S1, env3, R1, e1, ?_⟩
      dsimp only at q
      cases hx : evB C (callN C n) body env3 S1 with
      | nx env2 S2 =>
        rw [hx] at q
        exact fun sg2 H5 io5 a5 R5 e6 => ⟨io5, S2, env2, R5, e6, q.ext a5⟩
      | ct env2 S2 =>
        rw [hx] at q
        exact fun sg2 H5 io5 a5 R5 e6 => ⟨io5, S2, env2, R5, e6, q.ext a5⟩
      | bk env2 S2 => rw [hx] at q; exact q
      | rt v S2 => rw [hx] at q; exact q
      | ex c as env2 S2 => rw [hx] at q; exact q
      | bad => rw [hx] at q; exact q
end
end Ev

/-! Ev14: parallel stores, items, try. -/
namespace Ev
open PySem PySem.Spec PyProof.Rows L2

theorem unpack_mk (S : Store) (t : Bool) (vs : List Val) : unpack S (mkSeq t vs) = some vs := by
  have key : ∀ {vs : List Val} {ds : List PyData}, pures vs = some ds → ds.map Val.p = vs := by
    intro vs
    induction vs with
    | nil => intro ds h; cases h; rfl
    | cons v vs ih =>
      intro ds h
      cases v with
      | p d =>
        unfold pures at h
        cases q : pures vs with
        | none => rw [q] at h; cases h
        | some es =>
          rw [q] at h
          cases h
          rw [List.map_cons, ih q]
      | _ => cases h
  unfold mkSeq
  cases h : pures vs with
  | none => rfl
  | some ds => cases t <;> (show some (ds.map Val.p) = some vs; rw [key h])
section
variable {X : Cx} {C : Cfg} {T : Tb} {n : Nat} {N : List Str} {sc : Scope} {W : WX} {c : Bool}
theorem names_of {N : List Str} {raw : Scope} : ∀ {is : List Nat} {ts : List Expr}, namesB N raw is ts = true → is.length = ts.length ∧ ∀ t ∈ ts, ∃ x p, t = .Name x p
  | [], [], _ => ⟨rfl, fun _ h => absurd h List.not_mem_nil⟩
  | i :: is, e :: es, h => by
    have h' : (nameB N raw i e && namesB N raw is es) = true := h
    rw [Bool.and_eq_true] at h'
    obtain ⟨l, r⟩ := names_of h'.2
    refine ⟨by simp [l], fun t m => ?_⟩
    rcases List.mem_cons.mp m with rfl | m
    · have z := h'.1
      unfold nameB at z
      split at z
      · exact ⟨_, _, rfl⟩
      · cases z
    · exact r t m
  | [], _ :: _, h => by cases h
  | _ :: _, [], h => by cases h
/-- the names that swapped stores would have -/
def swN (sc : Scope) (line : Nat) (t : Expr) : Option Str := match t with
  | .Name id pos => if sc.names.lookup id == some .local && pos.line == line then some id else none
  | _ => none
theorem filt_len {α β : Type} (f : α → Option β) : ∀ (l : List α), (l.filterMap f).length ≤ l.length
  | [] => Nat.le_refl _
  | a :: l => by
    rw [List.filterMap_cons]
    cases f a with
    | none => exact Nat.le_succ_of_le (filt_len f l)
    | some b => exact Nat.succ_le_succ (filt_len f l)
theorem filt_lt {α β : Type} (f : α → Option β) : ∀ (l : List α), (∃ a ∈ l, f a = none) → (l.filterMap f).length < l.length
  | [], ⟨_, h, _⟩ => absurd h List.not_mem_nil
  | a :: l, ⟨b, hb, e⟩ => by
    rw [List.filterMap_cons]
    cases hf : f a with
    | none => exact Nat.lt_succ_of_le (filt_len f l)
    | some c =>
      rcases List.mem_cons.mp hb with rfl | hb
      · rw [hf] at e; cases e
      · exact Nat.succ_lt_succ (filt_lt f l ⟨b, hb, e⟩)
theorem swap_none {ts vs : List Expr} {kt kv : Nat} {pt pv : Pos} {env : Env} (hs : env.scope = sc) (h : parTup sc ts vs = true) : swappedStores [.Tuple ts kt pt] (.Tuple vs kv pv) env = pure none := by
  unfold parTup at h
  simp only [Bool.and_eq_true, Bool.or_eq_true] at h
  obtain ⟨⟨h1, h2⟩, h3⟩ := h
  have hk : ∀ id, env.kindOf id = sc.names.lookup id := fun id => by rw [← hs]; rfl
  unfold swappedStores
  simp only []
  split
  · rfl
  · split
    · rfl
    · split
      · rfl
      · rename_i hn
        rcases h3 with h3 | h3
        · exfalso
          apply hn
          rw [Bool.or_eq_true]
          left
          obtain ⟨t, ht, q⟩ := List.any_eq_true.mp h3
          have z := filt_lt (fun t : Expr => match t with
            | .Name id pos => if env.kindOf id == some .local && pos.line == (ts.head?.map (·.pos.line)).getD 0 then some id else none
            | _ => none) ts ⟨t, ht, by
              cases t with
              | Name x p =>
                dsimp only at q ⊢
                have q' : localB sc x = false := by simpa using q
                rw [if_neg]
                intro z
                rw [Bool.and_eq_true] at z
                rw [hk] at z
                have z1 : sc.names.lookup x = some .local := by simpa using z.1
                unfold localB at q'
                rw [z1] at q'
                cases q'
              | _ => rfl⟩
          exact bne_iff_ne.mpr (Nat.ne_of_lt z)
        · rw [if_pos h3]
theorem swap_some {ts vs : List Expr} {xs : List Str} {kt kv : Nat} {pt pv : Pos} {env : Env} (hs : env.scope = sc) (h : parSwap sc ts vs = true) (hx : ts.map (fun t => match t with
      | .Name x _ => x
      | _ => ("" : Str)) = xs) (hnd : xs.eraseDups.length = xs.length) : swappedStores [.Tuple ts kt pt] (.Tuple vs kv pv) env = pure (some xs) := by
  unfold parSwap at h
  simp only [Bool.and_eq_true, Bool.not_eq_true', decide_eq_true_eq] at h
  obtain ⟨⟨⟨⟨⟨⟨hk, hlen⟩, hl2⟩, hst⟩, hall⟩, hf⟩, hcn⟩ := h
  have hb : env.blockKind = .function := by unfold Env.blockKind; rw [hs, hk]; rfl
  have hkk : ∀ id, env.kindOf id = sc.names.lookup id := fun id => by rw [← hs]; rfl
  have hl2' : vs.length = ts.length := by simpa using hl2
  have hany : (vs.any fun | .Starred .. => true | _ => false) = false := by
    rw [List.any_eq_false]
    intro e he
    have z := List.all_eq_true.mp hst e he
    cases e <;> first
      | (simp [isStar] at z; done)
      | simp
  have hfm : ts.filterMap (fun
    | .Name id pos => if env.kindOf id == some .local && pos.line == (ts.head?.map (·.pos.line)).getD 0 then some id else none
    | _ => none) = xs := by
    generalize (ts.head?.map (·.pos.line)).getD 0 = line at hall ⊢
    clear hlen hl2 hl2' hst hf hcn hany hnd
    induction ts generalizing xs with
    | nil => exact hx
    | cons t ts ih =>
      rw [List.all_cons, Bool.and_eq_true] at hall
      rw [List.map_cons] at hx
      subst hx
      rw [List.filterMap_cons]
      cases t with
      | Name x p =>
        dsimp only at hall ⊢
        rw [Bool.and_eq_true] at hall
        have z1 := localB_ok hall.1.1
        rw [if_pos (by rw [Bool.and_eq_true, hkk, z1]; exact ⟨by simp, hall.1.2⟩)]
        dsimp only
        rw [ih rfl hall.2]
      | _ => simp at hall
  have hxl : xs.length = ts.length := by rw [← hx, List.length_map]
  have hxl2 : xs.length = ts.length := hxl
  unfold swappedStores
  simp only []
  split
  · rename_i h1
    exfalso
    rw [hb, hl2'] at h1
    simp only [Bool.or_eq_true, beq_iff_eq] at hlen
    rcases hlen with hlen | hlen <;> (rw [hlen] at h1; simp at h1)
  · split
    · rename_i h2
      exact absurd (h2.symm.trans hany) (by decide)
    · split
      · rename_i h3
        exfalso
        have h4 : (xs.length != ts.length || xs.eraseDups.length != xs.length) = true := by
          have e := congrArg (fun z : List Str => (z.length != ts.length || z.eraseDups.length != z.length)) hfm
          exact e.symm.trans h3
        simp [hxl, hnd] at h4
      · split
        · rename_i h5
          rw [hf] at h5
          cases h5
        · split
          · rename_i h6
            rw [hcn] at h6
            cases h6
          · exact congrArg (fun z => (pure (some z) : Sem (Option (List Str)))) hfm
end
end Ev

/-! Ev15: parallel stores, items, try; the look at statements is sound. -/
namespace Ev
open PySem PySem.Spec PyProof.Rows L2

section
variable {X : Cx} {C : Cfg} {T : Tb} {n : Nat} {N : List Str} {sc : Scope} {W : WX} {c : Bool}
theorem evL_len {C : Cfg} {F : Nat → List Val → Store → Res} : ∀ {es : List E} {env : Slots} {S S1 : Store} {vs : List Val}, evL C F es env S = .ok vs S1 → vs.length = es.length
  | [], env, S, S1, vs, h => by
    unfold evL at h
    cases h
    rfl
  | e :: es, env, S, S1, vs, h => by
    unfold evL at h
    cases h1 : ev C F e env S with
    | bad => rw [h1] at h; cases h
    | ex c as S2 => rw [h1] at h; cases h
    | ok v S2 =>
      rw [h1] at h
      dsimp only at h
      cases h2 : evL C F es env S2 with
      | bad => rw [h2] at h; cases h
      | ex c as S3 => rw [h2] at h; cases h
      | ok ws S3 =>
        rw [h2] at h
        cases h
        simp [evL_len h2]
theorem tup_ok {C : Cfg} {vs : List Val} {S : Store} (h : vs.length ≤ 1000) : prim C .tup vs S = some (mkSeq true vs, S) := by
  show (if vs.length ≤ big then some (mkSeq true vs, S) else none) = _
  rw [if_pos (Nat.le_trans h (by decide))]
theorem par_eq {F : Nat → List Val → Store → Res} {is : List Nat} {es : List E} {env : Slots} {S : Store} (hlen : es.length ≤ 1000) : evS C F (.par is es) env S = evS C F (.asg (.tp is) (.op .tup es)) env S := by
  unfold evS
  unfold ev
  cases h : evL C F es env S with
  | bad => rfl
  | ex c as S1 => rfl
  | ok vs S1 =>
    dsimp only
    rw [tup_ok (by rw [evL_len h]; exact hlen)]
    show (match setAll is vs env with
      | some env1 => SRes.nx env1 S1
      | none => .bad) = (match (match unpack S1 (mkSeq true vs) with
        | some vs => setAll is vs env
        | none => none) with
      | some env1 => SRes.nx env1 S1
      | none => .bad)
    rw [unpack_mk]
theorem par_go {is : List Nat} {es : List E} {D : Ends} {sg : L2.St} {H : Hp} (h : tS C T X.K (callN C n) W (.par is es) D sg H) : chainT (es.map (tE C T X.K (callN C n) W)) sg H fun xs H1 => xs.length = is.length ∧ D.nx (setAllV is xs sg) H1 := by
  obtain ⟨bo, n0, io, S, env, R, e, h⟩ := h
  refine sbindL (D := D) (W := W) (k := fun r => match r with
    | .ok vs S1 => match setAll is vs env with
      | some env1 => .nx env1 S1
      | none => .bad
    | .ex c as S1 => .ex c as env S1
    | .bad => .bad) R e (fun _ _ _ => rfl) rfl (by unfold evS at h; exact h) fun vs S1 xs H1 io1 _ a1 R1 e1 r1 q => ?_
  dsimp only at q
  cases hb : setAll is vs env with
  | none => rw [hb] at q; exact q.elim
  | some env1 =>
    rw [hb] at q
    obtain ⟨e2, hl⟩ := env_setAll hb r1 e1
    exact ⟨hl, q _ H1 io1 Ext.refl R1 e2⟩
theorem chain_mono : ∀ {es : List E} {sg : L2.St} {H : Hp} {Q Q' : List V → Hp → Prop}, (∀ xs H, Q xs H → Q' xs H) → chainT (es.map (tE C T X.K (callN C n) W)) sg H Q → chainT (es.map (tE C T X.K (callN C n) W)) sg H Q'
  | [], _, _, _, _, m, h => m _ _ h
  | e :: es, sg, H, Q, Q', m, h => tE_mono (fun v H1 h1 => chain_mono (fun xs H2 h2 => m _ _ h2) h1) h
theorem nodup_at {N : List Str} (hN : N.Nodup) {i j : Nat} {x : Str} (a : N[i]? = some x) (b : N[j]? = some x) : i = j := by
  obtain ⟨h1, e1⟩ := List.getElem?_eq_some_iff.mp a
  obtain ⟨h2, e2⟩ := List.getElem?_eq_some_iff.mp b
  exact (List.getElem_inj hN).mp (e1.trans e2.symm)
theorem st_par (A : Facts) (g : Good X C T n N sc sc W true) {is : List Nat} {es : List E} {ts vs : List Expr} {kt kv : Nat} {pt pv p : Pos} (ht : namesB N sc is ts = true) (hv : chkL C N true es sc vs = true) (hnd : is.Nodup) (hlen : es.length ≤ 1000) (hsw : (parSwap sc ts vs || parTup sc ts vs) = true) :
    PS X (.Assign [.Tuple ts kt pt] (.Tuple vs kv pv) p) (tS C T X.K (callN C n) W (.par is es)) := by
  obtain ⟨hp, hs⟩ := soundL A es g hv
  rw [Bool.or_eq_true] at hsw
  rcases hsw with hsw | hsw
  · have hsw' := hsw
    unfold parSwap at hsw'
    simp only [Bool.and_eq_true, decide_eq_true_eq] at hsw'
    obtain ⟨⟨⟨⟨⟨⟨hk, hlen⟩, hl2⟩, hst⟩, hall⟩, hf⟩, hcn⟩ := hsw'
    have hloc : ∀ x p, Expr.Name x p ∈ ts → sc.names.lookup x = some .local := fun x p m => by
      have z := List.all_eq_true.mp hall _ m
      dsimp only at z
      rw [Bool.and_eq_true] at z
      exact localB_ok z.1
    obtain ⟨hil, hnm⟩ := names_of ht
    have hpa := pa_all hp hs
    simp only [Bool.or_eq_true, beq_iff_eq] at hlen hl2
    rcases hlen with hlen | hlen
    · rcases ts with _ | ⟨t1, _ | ⟨t2, _ | ⟨t3, ts⟩⟩⟩ <;> simp at hlen
      rcases is with _ | ⟨i, _ | ⟨j, _ | ⟨k, is⟩⟩⟩ <;> simp at hil
      rcases vs with _ | ⟨v1, _ | ⟨v2, _ | ⟨v3, vs⟩⟩⟩ <;> simp at hl2
      obtain ⟨x, px, rfl⟩ := hnm t1 List.mem_cons_self
      obtain ⟨y, py, rfl⟩ := hnm t2 (List.mem_cons_of_mem _ List.mem_cons_self)
      simp only [namesB, nameB, Bool.and_eq_true, beq_iff_eq] at ht
      have hij : i ≠ j := fun z => (List.nodup_cons.mp hnd).1 (by rw [z]; exact List.mem_cons_self)
      have hxy : x ≠ y := fun z => hij (nodup_at g.nd ht.1.1 (by rw [z]; exact ht.2.1.1))
      have hw := swap_some (kt := kt) (kv := kv) (pt := pt) (pv := pv) (env := X.env) g.sc hsw (xs := [x, y]) rfl (by simp [List.eraseDups_cons, Ne.symm hxy])
      refine PS.mono (ps_par (pos := p) (g.calm rfl) (by rw [g.hN]; exact g.nd) (by rw [g.hN]; exact ht.1.1) (by rw [g.hN]; exact ht.2.1.1) hij (by rw [g.sc]; exact hloc x px List.mem_cons_self) (by rw [g.sc]; exact hloc y py (List.mem_cons_of_mem _ List.mem_cons_self)) hpa hw rfl) fun D sg H h => ?_
      refine chain_mono (fun xs H1 h1 => ?_) (par_go h)
      obtain ⟨hl, h1⟩ := h1
      rcases xs with _ | ⟨a, _ | ⟨b, _ | ⟨d, xs⟩⟩⟩ <;> simp at hl
      exact ⟨a, b, rfl, h1⟩
    · rcases ts with _ | ⟨t1, _ | ⟨t2, _ | ⟨t3, _ | ⟨t4, ts⟩⟩⟩⟩ <;> simp at hlen
      rcases is with _ | ⟨i, _ | ⟨j, _ | ⟨k, _ | ⟨l, is⟩⟩⟩⟩ <;> simp at hil
      rcases vs with _ | ⟨v1, _ | ⟨v2, _ | ⟨v3, _ | ⟨v4, vs⟩⟩⟩⟩ <;> simp at hl2
      obtain ⟨x, px, rfl⟩ := hnm t1 List.mem_cons_self
      obtain ⟨y, py, rfl⟩ := hnm t2 (List.mem_cons_of_mem _ List.mem_cons_self)
      obtain ⟨z, pz, rfl⟩ := hnm t3 (List.mem_cons_of_mem _ (List.mem_cons_of_mem _ List.mem_cons_self))
      simp only [namesB, nameB, Bool.and_eq_true, beq_iff_eq] at ht
      have hij : i ≠ j := fun z => (List.nodup_cons.mp hnd).1 (by rw [z]; exact List.mem_cons_self)
      have hik : i ≠ k := fun z => (List.nodup_cons.mp hnd).1 (by rw [z]; exact List.mem_cons_of_mem _ List.mem_cons_self)
      have hjk : j ≠ k := fun z => (List.nodup_cons.mp (List.nodup_cons.mp hnd).2).1 (by rw [z]; exact List.mem_cons_self)
      have hxy : x ≠ y := fun q => hij (nodup_at g.nd ht.1.1 (by rw [q]; exact ht.2.1.1))
      have hxz : x ≠ z := fun q => hik (nodup_at g.nd ht.1.1 (by rw [q]; exact ht.2.2.1.1))
      have hyz : y ≠ z := fun q => hjk (nodup_at g.nd ht.2.1.1 (by rw [q]; exact ht.2.2.1.1))
      have hw := swap_some (kt := kt) (kv := kv) (pt := pt) (pv := pv) (env := X.env) g.sc hsw (xs := [x, y, z]) rfl (by simp [List.eraseDups_cons, Ne.symm hxy, Ne.symm hxz, Ne.symm hyz])
      refine PS.mono (ps_par3 (pos := p) (g.calm rfl) (by rw [g.hN]; exact g.nd) (by rw [g.hN]; exact ht.1.1) (by rw [g.hN]; exact ht.2.1.1) (by rw [g.hN]; exact ht.2.2.1.1) hij hik hjk (by rw [g.sc]; exact hloc x px List.mem_cons_self) (by rw [g.sc]; exact hloc y py (List.mem_cons_of_mem _ List.mem_cons_self))
        (by rw [g.sc]; exact hloc z pz (List.mem_cons_of_mem _ (List.mem_cons_of_mem _ List.mem_cons_self))) hpa hw rfl) fun D sg H h => ?_
      refine chain_mono (fun xs H1 h1 => ?_) (par_go h)
      obtain ⟨hl, h1⟩ := h1
      rcases xs with _ | ⟨a, _ | ⟨b, _ | ⟨d, _ | ⟨d2, xs⟩⟩⟩⟩ <;> simp at hl
      exact ⟨a, b, d, rfl, h1⟩
  · have he : PE X (.Tuple vs kv pv) (tE C T X.K (callN C n) W (.op .tup es)) := s_op g (A.op .tup) rfl rfl hp hs
    have pg : PG X (.Tuple ts kt pt) (tG X.K (.tp is)) := pg_tg g.hN g.nd g.sto (g.calm rfl) (show chkTg N sc (.tp is) (.Tuple ts kt pt) = true from ht)
    refine PS.mono (ps_asg he pg rfl (swap_none g.sc hsw)) fun D sg H h => ?_
    obtain ⟨bo, n0, io, S, env, R, e, h⟩ := h
    rw [par_eq hlen] at h
    exact asg_go ⟨bo, n0, io, S, env, R, e, h⟩
theorem pg_subB {o i : Expr} {to ti : TE} {t : TSet} {p : Pos} (ho : PE X o to) (hi : PE X i ti) (hs : PSet X t) (hp : plainIxB i = true) : PG X (.Subscript o i p) (gSub to ti t) := by
  refine pg_sub ho hi hs ?_
  intro v
  cases i <;> first
    | rfl
    | cases hp
/-- one item stored -/
theorem set_ok {K : PySem.W.Frag} {bo : Addr → Prop} {n0 : Nat} {io : List Addr} {S S2 : Store} {H : Hp} {x y z : V} {o i v : Val} {Q : Hp → Prop} (R : Rep K bo n0 io S H) (rx : DenV T K bo io H x o) (ry : DenV T K bo io H y i) (rz : DenV T K bo io H z v) (h : setIxV S o i v = some S2)
    (q : ∀ H1, Ext io H io H1 → Rep K bo n0 io S2 H1 → Q H1) : rSetL x y z H Q := by
  unfold setIxV at h
  split at h
  · rename_i k j d
    cases rx with
    | loc ha =>
      rename_i a
      cases ry with
      | p ry =>
        cases ry
        cases rz with
        | p rz =>
          split at h
          · rename_i ds hk
            split at h
            · rename_i m hm
              cases h
              obtain ⟨c, hc, ok⟩ := R.cell ha
              rw [hk] at hc
              cases hc
              obtain ⟨xs, hH, hd⟩ := ok
              refine ⟨a, xs, j, m, rfl, rfl, hH, by rw [hd.length]; exact hm, ?_⟩
              have E : Ext io H io (upd H a (.lst (xs.set m z))) := Ext.write (List.mem_of_getElem? ha)
              refine q _ E (R.write ha ⟨_, upd_same, ?_⟩)
              exact Dens.set (E.den R.cl rz) m (E.dens R.cl hd)
            · cases h
          · cases h
  · cases h
theorem st_setIx (A : Facts) (g : Good X C T n N sc sc W true) {o ix e : E} {a b v : Expr} {p p2 : Pos} (hv : chk C N true e sc v = true) (ho : chk C N true o sc a = true) (hi : chk C N true ix sc b = true) (hp : plainIxB b = true) (hc : isComp v = false) :
    PS X (.Assign [.Subscript a b p] v p2) (tS C T X.K (callN C n) W (.setIx o ix e)) := by
  have h1 := (sound A e g hv).1
  have h2 := (sound A o g ho).1
  have h3 := (sound A ix g hi).1
  refine PS.mono (ps_asg h1 (pg_subB (p := p) h2 h3 set_list hp) (isComp_sw hc (some (.Subscript a b p)) p2.line X.env) rfl) fun D sg H ⟨bo, n0, io, S, env, R, e1, h⟩ => ?_
  refine sbindL (D := D) (W := W) (xs := [e, o, ix]) (Q := fun ys H3 => match ys with
    | [v, x, y] => rSetL x y v H3 (fun H4 => D.nx sg H4)
    | _ => False) (k := fun r => match r with
    | .ok [v, o, i] S1 => match setIxV S1 o i v with
      | some S2 => .nx env S2
      | none => .bad
    | .ex c as S1 => .ex c as env S1
    | _ => .bad) R e1 (fun _ _ _ => rfl) rfl (by unfold evS at h; exact h) fun vs S1 xs H1 io1 _ a1 R1 e1 r1 q => ?_
  split at q
  · rename_i hq
    cases hq
    cases r1 with
    | cons rv r1 =>
      cases r1 with
      | cons ro r1 =>
        cases r1 with
        | cons ri r1 =>
          cases r1
          split at q
          · rename_i hs
            exact set_ok R1 ro ri rv hs fun H2 a2 R2 => q sg H2 io1 a2 R2 (e1.ext a2 R1.cl)
          · exact q.elim
  · rename_i hq
    cases hq
  · exact q.elim
theorem two_of {K : PySem.W.Frag} {bo : Addr → Prop} {io : List Addr} {H : Hp} {xs : List V} {v w : Val} (h : DenVs T K bo io H xs [v, w]) : ∃ x y, xs = [x, y] ∧ DenV T K bo io H x v ∧ DenV T K bo io H y w := by
  cases h with
  | cons a h =>
    cases h with
    | cons b h =>
      cases h
      exact ⟨_, _, rfl, a, b⟩
theorem mkT_ok {K : PySem.W.Frag} {bo : Addr → Prop} {io : List Addr} {H : Hp} {x : V} {vs : List Val} (r : DenV T K bo io H x (mkSeq true vs)) : ∃ a xs, x = .ref a ∧ SqT K H a xs ∧ DenVs T K bo io H xs vs := by
  obtain ⟨a, xs, e, _, hd⟩ := unpack_ok (S := []) (unpack_mk [] true vs) r
  have key : ∃ xs, SqT K H a xs ∧ DenVs T K bo io H xs vs := by
    have u := unpack_mk [] true vs
    unfold mkSeq at r u
    cases hp : pures vs with
    | none =>
      rw [hp] at r
      cases r with
      | seqT h1 h2 =>
        cases e
        exact ⟨_, h1, h2⟩
    | some ds =>
      rw [hp] at r u
      cases r with
      | p r =>
        cases r with
        | tup h1 h2 =>
          cases e
          have u' : some (ds.map Val.p) = some vs := u
          cases u'
          exact ⟨_, h1, h2.vals⟩
  obtain ⟨xs, h1, h2⟩ := key
  exact ⟨a, xs, e, h1, h2⟩
theorem st_swapIx (A : Facts) (g : Good X C T n N sc sc W true) {o1 i1 o2 i2 a b : E} {x1 y1 x2 y2 v w : Expr} {p1 p2 p3 p4 p5 : Pos} {kt kv : Nat} (h1 : chk C N true o1 sc x1 = true) (h2 : chk C N true i1 sc y1 = true) (h3 : chk C N true o2 sc x2 = true) (h4 : chk C N true i2 sc y2 = true)
    (hv : chkL C N true [a, b] sc [v, w] = true) (q1 : plainIxB y1 = true) (q2 : plainIxB y2 = true) :
    PS X (.Assign [.Tuple [.Subscript x1 y1 p1, .Subscript x2 y2 p2] kt p3] (.Tuple [v, w] kv p4) p5) (tS C T X.K (callN C n) W (.swapIx o1 i1 o2 i2 a b)) := by
  obtain ⟨hp, hs⟩ := soundL A [a, b] g hv
  have he : PE X (.Tuple [v, w] kv p4) (tE C T X.K (callN C n) W (.op .tup [a, b])) := s_op g (A.op .tup) rfl rfl hp hs
  have pg : PG X (.Tuple [.Subscript x1 y1 p1, .Subscript x2 y2 p2] kt p3) (gTup X.K 2 _) := pg_tup (g.calm rfl) (pgs_cons (pg_subB (p := p1) (sound A o1 g h1).1 (sound A i1 g h2).1 set_list q1) (pgs_cons (pg_subB (p := p2) (sound A o2 g h3).1 (sound A i2 g h4).1 set_list q2) pgs_nil)) rfl rfl
  have hw : swappedStores [.Tuple [.Subscript x1 y1 p1, .Subscript x2 y2 p2] kt p3] (.Tuple [v, w] kv p4) X.env = pure none := swap_none (sc := sc) g.sc (by
    unfold parTup
    simp only [chkL, Bool.and_eq_true, Bool.not_eq_true'] at hv
    simp [hv.1.1, hv.2.1.1])
  refine PS.mono (ps_asg he pg rfl hw) fun D sg H ⟨bo, n0, io, S, env, R, e, h⟩ => ?_
  refine sbind (D := D) (W := W) (x := .op .tup [a, b]) (k := fun r => match r with
    | .ok t S1 => match unpack S1 t with
      | some [x, y] => match evL C (callN C n) [o1, i1] env S1 with
        | .ok [o, i] S2 => match setIxV S2 o i x with
          | some S3 => match evL C (callN C n) [o2, i2] env S3 with
            | .ok [o, i] S4 => match setIxV S4 o i y with
              | some S5 => .nx env S5
              | none => .bad
            | .ex c as S1 => .ex c as env S1
            | _ => .bad
          | none => .bad
        | .ex c as S1 => .ex c as env S1
        | _ => .bad
      | _ => .bad
    | .ex c as S1 => .ex c as env S1
    | _ => .bad) R e (fun _ _ _ => rfl) rfl ?_ fun t S1 z H1 io1 hx a1 R1 e1 r1 q => ?_
  · unfold evS at h
    unfold ev
    cases hl : evL C (callN C n) [a, b] env S with
    | bad => rw [hl] at h; exact h
    | ex c as S2 => rw [hl] at h; exact h
    | ok vs S2 =>
      rw [hl] at h
      dsimp only
      rw [tup_ok (by rw [evL_len hl]; show 2 ≤ 1000; decide)]
      show RS T X.K bo n0 io H W D (match unpack S2 (mkSeq true vs) with
        | some [x, y] => _
        | _ => _)
      rw [unpack_mk]
      rcases vs with _ | ⟨x, _ | ⟨y, _ | ⟨u, vs⟩⟩⟩ <;> exact h
  · dsimp only at q
    have ht : ∃ vs, t = mkSeq true vs := by
      unfold ev at hx
      cases hl : evL C (callN C n) [a, b] env S with
      | bad => rw [hl] at hx; cases hx
      | ex c as S2 => rw [hl] at hx; cases hx
      | ok vs S2 =>
        rw [hl] at hx
        dsimp only at hx
        rw [tup_ok (by rw [evL_len hl]; show 2 ≤ 1000; decide)] at hx
        have hx' : Res.ok (mkSeq true vs) S2 = Res.ok t S1 := hx
        cases hx'
        exact ⟨vs, rfl⟩
    obtain ⟨vs, rfl⟩ := ht
    rw [unpack_mk] at q
    obtain ⟨ad, xs, rfl, hsq, hd⟩ := mkT_ok r1
    split at q
    · rename_i x y hu
      cases hu
      obtain ⟨vx, vy, rfl, rx, ry⟩ := two_of hd
      · 
          refine ⟨ad, [vx, vy], rfl, hsq, rfl, vx, [vy], rfl, ?_⟩
          refine sbindL (D := D) (W := W) (xs := [o1, i1]) (Q := fun ys H3 => match ys with
            | [o, i] => rSetL o i vx H3 (fun H4 => gCons (gSub (tE C T X.K (callN C n) W o2) (tE C T X.K (callN C n) W i2) rSetL) gNil [vy] sg H4 D.nx)
            | _ => False) (k := fun r => match r with
            | .ok [o, i] S2 => match setIxV S2 o i x with
              | some S3 => match evL C (callN C n) [o2, i2] env S3 with
                | .ok [o, i] S4 => match setIxV S4 o i y with
                  | some S5 => .nx env S5
                  | none => .bad
                | .ex c as S1 => .ex c as env S1
                | _ => .bad
              | none => .bad
            | .ex c as S1 => .ex c as env S1
            | _ => .bad) R1 e1 (fun _ _ _ => rfl) rfl q fun ws S2 zs H2 io2 _ a2 R2 e2 r2 q => ?_
          split at q
          · rename_i hq
            cases hq
            cases r2 with
            | cons ro r2 =>
              cases r2 with
              | cons ri r2 =>
                cases r2
                split at q
                · rename_i S3 hs
                  refine set_ok R2 ro ri (a2.denV R1.cl rx) hs fun H3 a3 R3 => ?_
                  refine ⟨vy, [], rfl, ?_⟩
                  have e3 := e2.ext a3 R2.cl
                  have ry3 := a3.denV R2.cl (a2.denV R1.cl ry)
                  refine sbindL (D := D) (W := W) (xs := [o2, i2]) (Q := fun ys H5 => match ys with
                    | [o, i] => rSetL o i vy H5 (fun H4 => gNil [] sg H4 D.nx)
                    | _ => False) (k := fun r => match r with
                    | .ok [o, i] S4 => match setIxV S4 o i y with
                      | some S5 => .nx env S5
                      | none => .bad
                    | .ex c as S1 => .ex c as env S1
                    | _ => .bad) R3 e3 (fun _ _ _ => rfl) rfl (q.ext a3) fun ws S4 zs H4 io4 _ a4 R4 e4 r4 q => ?_
                  split at q
                  · rename_i hq
                    cases hq
                    cases r4 with
                    | cons ro r4 =>
                      cases r4 with
                      | cons ri r4 =>
                        cases r4
                        split at q
                        · rename_i S5 hs5
                          exact set_ok R4 ro ri (a4.denV R3.cl ry3) hs5 fun H5 a5 R5 => ⟨rfl, q sg H5 io4 a5 R5 (e4.ext a5 R4.cl)⟩
                        · exact q.elim
                  · rename_i hq
                    cases hq
                  · exact q.elim
                · exact q.elim
          · rename_i hq
            cases hq
          · exact q.elim
    · exact q.elim
end
/-! ### held exceptions -/
section
variable {T T' : Tb} {K : PySem.W.Frag} {bo : Addr → Prop} {io : List Addr} {H : Hp}
mutual
theorem DenV.wkx (hf : T'.fa = T.fa) : ∀ (v : Val) (x : V), noExc v = true → DenV T' K bo io H x v → DenV T K bo io H x v
  | .p _, _, _, h => by
    cases h with
    | p h => exact .p h
  | .loc _, _, _, h => by
    cases h with
    | loc h => exact .loc h
  | .seq true vs, _, n, h => by
    cases h with
    | seqT h hs => exact .seqT h (DenVs.wkx hf vs _ n hs)
  | .seq false vs, _, n, h => by
    cases h with
    | seqL h hs => exact .seqL h (DenVs.wkx hf vs _ n hs)
  | .dic _, _, _, h => by
    cases h with
    | dic h hb => exact .dic h hb
  | .st _, _, _, h => by cases h
  | .fn g, _, _, h => by
    cases h
    rw [hf]
    exact .fn g
  | .exc _ _, _, n, _ => by cases n
theorem DenVs.wkx (hf : T'.fa = T.fa) : ∀ (vs : List Val) (xs : List V), noExcs vs = true → DenVs T' K bo io H xs vs → DenVs T K bo io H xs vs
  | [], _, _, h => by cases h; exact .nil
  | v :: vs, _, n, h => by
    have n' : (noExc v && noExcs vs) = true := n
    rw [Bool.and_eq_true] at n'
    cases h with
    | cons a b => exact .cons (DenV.wkx hf v _ n'.1 a) (DenVs.wkx hf vs _ n'.2 b)
end
mutual
theorem DenV.upx (hf : T'.fa = T.fa) (hx : ∀ p, p ∈ T'.xa → p ∈ T.xa) : ∀ (v : Val) (x : V), DenV T' K bo io H x v → DenV T K bo io H x v
  | .p _, _, h => by
    cases h with
    | p h => exact .p h
  | .loc _, _, h => by
    cases h with
    | loc h => exact .loc h
  | .seq true vs, _, h => by
    cases h with
    | seqT h hs => exact .seqT h (DenVs.upx hf hx vs _ hs)
  | .seq false vs, _, h => by
    cases h with
    | seqL h hs => exact .seqL h (DenVs.upx hf hx vs _ hs)
  | .dic _, _, h => by
    cases h with
    | dic h hb => exact .dic h hb
  | .st _, _, h => by cases h
  | .fn g, _, h => by
    cases h
    rw [hf]
    exact .fn g
  | .exc _ _, _, h => by
    cases h with
    | exc h => exact .exc (hx _ h)
theorem DenVs.upx (hf : T'.fa = T.fa) (hx : ∀ p, p ∈ T'.xa → p ∈ T.xa) : ∀ (vs : List Val) (xs : List V), DenVs T' K bo io H xs vs → DenVs T K bo io H xs vs
  | [], _, h => by cases h; exact .nil
  | v :: vs, _, h => by
    cases h with
    | cons a b => exact .cons (DenV.upx hf hx v _ a) (DenVs.upx hf hx vs _ b)
end
theorem EnvOk.upx {sg : L2.St} {env : Slots} (hf : T'.fa = T.fa) (hx : ∀ p, p ∈ T'.xa → p ∈ T.xa) (h : EnvOk T' K bo io H sg env) : EnvOk T K bo io H sg env := ⟨h.len, fun i x e => by
  obtain ⟨v, h1, h2⟩ := h.at_ i x e
  exact ⟨v, h1, DenV.upx hf hx x v h2⟩⟩
theorem EnvOk.wkx {sg : L2.St} {env : Slots} (hf : T'.fa = T.fa) (n : noExcE env = true) (h : EnvOk T' K bo io H sg env) : EnvOk T K bo io H sg env := ⟨h.len, fun i x e => by
  obtain ⟨v, h1, h2⟩ := h.at_ i x e
  have z := List.all_eq_true.mp n _ (List.mem_of_getElem? e)
  exact ⟨v, h1, DenV.wkx hf x v z h2⟩⟩
end
end Ev

/-! Ev16: try; the look at statements is sound. -/
namespace Ev
open PySem PySem.Spec PyProof.Rows L2

section
variable {X : Cx} {C : Cfg} {T : Tb} {n : Nat} {N : List Str} {sc : Scope} {W : WX} {c : Bool}
/-- the table with one held exception more -/
abbrev Tb.held (T : Tb) (a : Addr) (k : Nat) : Tb := { T with xa := (a, k, none) :: T.xa }
theorem takes_no {Y : Cx} : Takes Y NoW := fun u s' h => by
  obtain ⟨a, B, sI, pins, σ, H1, cls, d, _, _, _, _, _, _, _, _, w⟩ := h
  exact w.elim
theorem good_tr (g : GoodS X C T n N sc W true) {W' : WX} {pn : List (Addr × Obj)} {xe : Value → Shared → Prop} (tk : Takes (X.tr pn xe) W') (po : PassesOwn (model X.prog X.w) X.A X.env xe) : GoodS (X.tr pn xe) C T n N sc W' true where
  hN := g.hN
  nd := g.nd
  sc := g.sc
  sto := g.sto
  calm := g.calm
  room := g.room
  un := g.un
  takes := tk
  owns := po
  mod := g.mod
  fns := g.fns
  xa := g.xa
  isE := fun a d m => absurd m (by rw [g.xa rfl]; exact List.not_mem_nil)
  stk := g.stk
  frm := g.frm
theorem good_suite (g : GoodS X C T n N sc W true) {a : Addr} {oe : Obj} {pn : List (Addr × Obj)} {k : Nat} {i : ClsI} (hi : C.clss[k]? = some i) (hz : Zc (.ref (T.ca k)) none oe) (hf : ∃ vs, oe.data = .fields vs) : GoodS (X.suite a ((a, oe) :: pn)) C (T.held a k) n N sc NoW false where
  hN := g.hN
  nd := g.nd
  sc := g.sc
  sto := g.sto
  calm := fun z => absurd z Bool.false_ne_true
  room := fun z => absurd z Bool.false_ne_true
  un := g.un
  takes := takes_no
  owns := fun e s' h => h.elim
  mod := ⟨g.mod.defs, fun c i h => let f := g.mod.clss c i h; ⟨f.g, f.k, f.e, f.t, f.made, f.kit⟩, g.mod.free, g.mod.cons⟩
  fns := fun z => absurd z Bool.false_ne_true
  xa := fun z => absurd z Bool.false_ne_true
  isE := fun b d m => by
    have m' : (b, d, none) ∈ [(a, k, (none : Option Addr))] := by
      have e : (T.held a k).xa = [(a, k, none)] := by show (a, k, none) :: T.xa = _; rw [g.xa rfl]
      rw [← e]
      exact m
    have e := List.mem_singleton.mp m'
    cases e
    exact call_isE (g.mod.clss k i hi).e hz hf
  stk := fun z => absurd z Bool.false_ne_true
  frm := fun z => absurd z Bool.false_ne_true
theorem st_try (g : GoodS X C T n N sc W true) {body suite : List St} {h k : Nat} {x nm : Str} {p p2 p3 : Pos} {b ss : List Stmt} {s0 : Stmt} (hg : glB sc x = true) (hc : (C.clss[h]?.map (·.name)) = some x) (hk : N[k]? = some nm) (hl : localB sc nm = true)
    (hb : ∀ (W' : WX) (pn : List (Addr × Obj)) (xe : Value → Shared → Prop), GoodS (X.tr pn xe) C T n N sc W' true → PSs (X.tr pn xe) b (tB C T X.K (callN C n) W' body))
    (hs : ∀ (a : Addr) (j : Nat) (pn : List (Addr × Obj)), GoodS (X.suite a pn) C (T.held a j) n N sc NoW false → PSs (X.suite a pn) (s0 :: ss) (tB C (T.held a j) X.K (callN C n) NoW suite)) :
    PS X (.Try b [.ExceptHandler (some (.Name x p)) (some nm) (s0 :: ss) p2] [] [] p3) (tS C T X.K (callN C n) W (.tryAs body [h] (some k) suite)) := by
  cases hi : C.clss[h]? with
  | none => rw [hi] at hc; cases hc
  | some i =>
    rw [hi] at hc
    have e : i.name = x := Option.some.inj hc
    have f := g.mod.clss h i hi
    refine PS.mono (ps_try_as (c := .ref (T.ca h)) (Wout := W) (tb := fun W' => tB C T X.K (callN C n) W' body) (ts := fun a cls d D sg H => ∃ j ij, C.clss[j]? = some ij ∧ cls = .ref (T.ca j) ∧ d = none ∧ tB C (T.held a j) X.K (callN C n) NoW suite D sg H)
      (g.stk rfl) (g.frm rfl) (by rw [g.hN]; exact g.nd) (by rw [g.hN]; exact hk) (by show X.env.scope.names.lookup nm = _; rw [g.sc]; exact localB_ok hl) ⟨g.gl hg, (glB_ok hg).2.1, .inl (by rw [← e]; exact f.g)⟩ g.takes
      (fun W' pn xe tk po => hb W' pn xe (good_tr g tk po)) (fun a oe cls d pn hz hf => ⟨fun pins s sg H D I hw => ?_⟩)) fun D sg H ⟨bo, n0, io, S, env, R, e1, hr⟩ => ?_
    · obtain ⟨j, ij, hj, rfl, rfl, hw⟩ := hw
      exact (hs a j _ (good_suite g hj hz hf)).run pins s sg H D I hw
    · refine ⟨bo, n0, io, S, env, R, e1, ?_⟩
      unfold evS at hr
      cases hx : evB C (callN C n) body env S with
      | nx env2 S2 => rw [hx] at hr; exact hr
      | ct env2 S2 => rw [hx] at hr; exact hr
      | bk env2 S2 => rw [hx] at hr; exact hr
      | rt v S2 => rw [hx] at hr; exact hr
      | bad => rw [hx] at hr; exact hr
      | ex c as env2 S2 =>
        rw [hx] at hr
        dsimp only at hr
        cases hci : C.clss[c]? with
        | none => rw [hci] at hr; exact hr.elim
        | some ic =>
          rw [hci] at hr
          dsimp only at hr
          have fc := g.mod.clss c ic hci
          intro sg1 H1 io1 d a1 R1 e2 ra
          refine ⟨ic.anc.contains h, (fc.kit h i hi).2, fun hyes a ha => ?_, fun hno => ?_⟩
          · rw [if_pos hyes] at hr
            by_cases hem : as.isEmpty = true
            · rw [if_pos hem] at hr
              have has : as = [] := List.isEmpty_iff.mp hem
              subst has
              have hd : d = none := by
                rcases ra with ra | ⟨_, _, _, _, _, _, z, _⟩
                · exact ra.1
                · cases z
              subst hd
              have e3 : EnvOk (T.held a c) X.K bo io1 H1 (sg1.set k (some (.ref a))) (env2.set k (some (.exc c []))) := EnvOk.set (EnvOk.upx (T' := T) (T := T.held a c) rfl (fun p m => List.mem_cons_of_mem _ m) e2) (.exc List.mem_cons_self)
              refine ⟨c, ic, hci, rfl, rfl, bo, n0, io1, S2, _, R1, e3, ?_⟩
              have hr := hr.ext a1
              cases hy : evB C (callN C n) suite (env2.set k (some (.exc c []))) S2 with
              | nx env3 S3 =>
                rw [hy] at hr
                dsimp only at hr
                by_cases hn : noExcE (env3.set k none) = true
                · rw [if_pos hn] at hr
                  exact fun sg4 H4 io4 a4 R4 e4 => hr _ H4 io4 a4 R4 (EnvOk.wkx (T' := T.held a c) (T := T) rfl hn e4.unset)
                · rw [if_neg hn] at hr
                  exact hr.elim
              | rt v S3 =>
                rw [hy] at hr
                dsimp only at hr
                by_cases hn : noExc v = true
                · rw [if_pos hn] at hr
                  exact fun y H4 io4 a4 R4 r4 => hr y H4 io4 a4 R4 (DenV.wkx (T' := T.held a c) (T := T) rfl v y hn r4)
                · rw [if_neg hn] at hr
                  exact hr.elim
              | ct env3 S3 => rw [hy] at hr; exact hr.elim
              | bk env3 S3 => rw [hy] at hr; exact hr.elim
              | ex c3 as3 env3 S3 => rw [hy] at hr; exact hr.elim
              | bad => rw [hy] at hr; exact hr.elim
            · rw [if_neg hem] at hr
              exact hr.elim
          · rw [if_neg (by rw [hno]; exact Bool.false_ne_true)] at hr
            exact hr sg1 H1 io1 d a1 R1 e2 ra
end
mutual
theorem soundS (A : Facts) : ∀ (st : St) {X : Cx} {C : Cfg} {T : Tb} {n : Nat} {N : List Str} {sc : Scope} {W : WX} {c : Bool} {s : Stmt}, GoodS X C T n N sc W c → chkS C N sc c st s = true → PS X s (tS C T X.K (callN C n) W st)
  | .asg (.nm i) e, X, C, T, n, N, sc, W, c, s, g, h => by
    unfold chkS at h
    split at h
    · rename_i t v hs
      obtain ⟨p, rfl⟩ := shAsg_ok hs
      simp only [Bool.and_eq_true, Bool.or_eq_true, Bool.not_eq_true'] at h
      obtain ⟨⟨h1, h2⟩, h3⟩ := h
      rcases h3 with h3 | ⟨⟨rfl, h3⟩, h4⟩
      · exact st_set g.toGood h1 (sound A e g.toGood h2).1 h3
      · exact st_setc A g.toGood h1 h2 h3 h4
    · cases h
  | .asg (.tp is) e, X, C, T, n, N, sc, W, c, s, g, h => by
    unfold chkS at h
    split at h
    · rename_i es v hs
      obtain ⟨k, p, q, rfl⟩ := shUnp_ok hs
      simp only [Bool.and_eq_true, Bool.not_eq_true'] at h
      obtain ⟨⟨⟨⟨rfl, h1⟩, h2⟩, h3⟩, h4⟩ := h
      exact st_unp g.toGood h1 (sound A e g.toGood h2).1 h4 h3
    · cases h
  | .par is es, X, C, T, n, N, sc, W, c, s, g, h => by
    unfold chkS at h
    split at h
    · rename_i ts vs hs
      obtain ⟨k, p, k2, p2, q, rfl⟩ := shPar_ok hs
      simp only [Bool.and_eq_true, decide_eq_true_eq] at h
      obtain ⟨⟨⟨⟨rfl, h1⟩, h2⟩, h3⟩, h4⟩ := h
      exact st_par A g.toGood h1 h2 h3.1 h3.2 h4
    · cases h
  | .setIx o ix e, X, C, T, n, N, sc, W, c, s, g, h => by
    unfold chkS at h
    split at h
    · rename_i a b v hs
      obtain ⟨p, q, rfl⟩ := shSet_ok hs
      simp only [Bool.and_eq_true, Bool.not_eq_true'] at h
      obtain ⟨⟨⟨⟨⟨rfl, h1⟩, h2⟩, h3⟩, h4⟩, h5⟩ := h
      exact st_setIx A g.toGood h1 h2 h3 h4 h5
    · cases h
  | .swapIx o1 i1 o2 i2 a b, X, C, T, n, N, sc, W, c, s, g, h => by
    unfold chkS at h
    split at h
    · rename_i x1 y1 x2 y2 v w hs
      obtain ⟨p1, p2, k, p3, k2, p4, q, rfl⟩ := shSwap_ok hs
      simp only [Bool.and_eq_true] at h
      obtain ⟨⟨⟨⟨⟨⟨⟨rfl, h1⟩, h2⟩, h3⟩, h4⟩, h5⟩, h6⟩, h7⟩ := h
      exact st_swapIx A g.toGood h1 h2 h3 h4 h5 h6 h7
    · cases h
  | .aug i o e, X, C, T, n, N, sc, W, c, s, g, h => by
    unfold chkS at h
    cases h
  | .expr e, X, C, T, n, N, sc, W, c, s, g, h => by
    unfold chkS at h
    split at h
    · rename_i v hs
      obtain ⟨p, rfl⟩ := shExpr_ok hs
      simp only [Bool.and_eq_true, Bool.not_eq_true'] at h
      exact st_expr (sound A e g.toGood h.1).1 h.2
    · cases h
  | .ret e, X, C, T, n, N, sc, W, c, s, g, h => by
    unfold chkS at h
    split at h
    · rename_i v hs
      obtain ⟨p, rfl⟩ := shRet_ok hs
      exact st_ret (sound A e g.toGood h).1
    · cases h
  | .retN, X, C, T, n, N, sc, W, c, s, g, h => by
    unfold chkS at h
    obtain ⟨p, rfl⟩ := shRetN_ok h
    exact st_retN
  | .ifs x s1 s2, X, C, T, n, N, sc, W, c, s, g, h => by
    unfold chkS at h
    split at h
    · rename_i a b1 b2 hs
      obtain ⟨p, rfl⟩ := shIf_ok hs
      simp only [Bool.and_eq_true] at h
      exact st_if (sound A x g.toGood h.1.1).2 (soundB A s1 g h.1.2) (soundB A s2 g h.2)
    · cases h
  | .for tg ik its body, X, C, T, n, N, sc, W, c, s, g, h => by
    unfold chkS at h
    split at h
    · rename_i t it b hs
      obtain ⟨p, rfl⟩ := shFor_ok hs
      simp only [Bool.and_eq_true] at h
      obtain ⟨⟨⟨rfl, h1⟩, h2⟩, h3⟩ := h
      cases hi : iterArgs C sc t ik it with
      | none => rw [hi] at h2; cases h2
      | some as =>
        rw [hi] at h2
        exact st_for A g.toGood h1 hi h2 (soundB A body g h3)
    · cases h
  | .while x body, X, C, T, n, N, sc, W, c, s, g, h => by
    unfold chkS at h
    split at h
    · rename_i a b hs
      obtain ⟨p, rfl⟩ := shWhile_ok hs
      simp only [Bool.and_eq_true] at h
      obtain ⟨⟨rfl, h1⟩, h2⟩ := h
      exact st_while g.toGood (sound A x g.toGood h1).2 (soundB A body g h2)
    · cases h
  | .raise k es, X, C, T, n, N, sc, W, c, s, g, h => by
    unfold chkS at h
    rw [Bool.and_eq_true] at h
    obtain ⟨h0, h⟩ := h
    have he : es = [] := List.isEmpty_iff.mp h0
    subst he
    split at h
    · rename_i x hs
      obtain ⟨p, m, j, p2, p3, p4, rfl⟩ := shRaise_ok hs
      simp only [Bool.and_eq_true, beq_iff_eq] at h
      obtain ⟨⟨rfl, h1⟩, h2⟩ := h
      exact st_raise g.toGood h1 h2
    · cases h
  | .tryAs body cs slot suite, X, C, T, n, N, sc, W, c, s, g, h => by
    unfold chkS at h
    split at h
    · rename_i b x nm s0 ss hs
      obtain ⟨p, p2, p3, rfl⟩ := shTry_ok hs
      simp only [Bool.and_eq_true] at h
      obtain ⟨⟨⟨⟨⟨rfl, h1⟩, h2⟩, h3⟩, h4⟩, h5⟩ := h
      split at h2
      · rename_i k i
        simp only [Bool.and_eq_true, beq_iff_eq] at h2
        exact st_try g h1 h2.1 h2.2 h3 (fun W' pn xe g' => soundB A body g' h4) (fun a j pn g' => soundB A suite g' h5)
      · cases h2
    · cases h
  | .pass, X, C, T, n, N, sc, W, c, s, g, h => by
    unfold chkS at h
    obtain ⟨p, rfl⟩ := shPass_ok h
    exact st_pass
  | .brk, X, C, T, n, N, sc, W, c, s, g, h => by
    unfold chkS at h
    obtain ⟨p, rfl⟩ := shBrk_ok h
    exact st_brk
  | .cont, X, C, T, n, N, sc, W, c, s, g, h => by
    unfold chkS at h
    obtain ⟨p, rfl⟩ := shCont_ok h
    exact st_cont
theorem soundB (A : Facts) : ∀ (ss : List St) {X : Cx} {C : Cfg} {T : Tb} {n : Nat} {N : List Str} {sc : Scope} {W : WX} {c : Bool} {s : List Stmt}, GoodS X C T n N sc W c → chkB C N sc c ss s = true → PSs X s (tB C T X.K (callN C n) W ss)
  | [], X, C, T, n, N, sc, W, c, s, g, h => by
    cases s with
    | nil => exact PSs.mono pss_nil fun D sg H h => tB_nil (h := h)
    | cons _ _ => simp [chkB] at h
  | x :: xs, X, C, T, n, N, sc, W, c, s, g, h => by
    cases s with
    | nil => simp [chkB] at h
    | cons y ys =>
      simp only [chkB, Bool.and_eq_true] at h
      exact PSs.mono (pss_cons (soundS A x g h.1) (soundB A xs g h.2)) fun D sg H h => tB_cons h
end
end Ev

/-! Ev17: a call's entry and exit; the promises of all defs. -/
namespace Ev
open PySem PySem.Spec PyProof.Rows L2

theorem locs_lt {vs : List Val} {ls : List Nat} (h : locsOf vs = some ls) : ∀ v ∈ vs, (∀ i, v = .loc i → i ∈ ls) ∧ (∀ t xs, v ≠ .seq t xs) ∧ ∀ c as, v ≠ .exc c as := by
  induction vs generalizing ls with
  | nil => intro v m; cases m
  | cons u us ih =>
    intro v m
    have key : ∀ ls', locsOf us = some ls' → (∀ i, i ∈ ls' → i ∈ ls) → v ∈ us → (∀ i, v = .loc i → i ∈ ls) ∧ (∀ t xs, v ≠ .seq t xs) ∧ ∀ c as, v ≠ .exc c as := fun ls' h' hs m => by
      obtain ⟨a, b⟩ := ih h' v m
      exact ⟨fun i e => hs i (a i e), b⟩
    cases u with
    | loc i =>
      unfold locsOf at h
      cases e : locsOf us with
      | none => rw [e] at h; cases h
      | some ls' =>
        rw [e] at h
        cases h
        rcases List.mem_cons.mp m with rfl | m
        · exact ⟨fun j z => by cases z; exact List.mem_cons_self, fun _ _ z => (by cases z), fun _ _ z => (by cases z)⟩
        · exact key ls' e (fun i hi => List.mem_cons_of_mem _ hi) m
    | seq t xs => unfold locsOf at h; cases h
    | exc c as => unfold locsOf at h; cases h
    | p d =>
      rcases List.mem_cons.mp m with rfl | m
      · exact ⟨fun _ z => (by cases z), fun _ _ z => (by cases z), fun _ _ z => (by cases z)⟩
      · exact key ls h (fun _ z => z) m
    | dic d =>
      rcases List.mem_cons.mp m with rfl | m
      · exact ⟨fun _ z => (by cases z), fun _ _ z => (by cases z), fun _ _ z => (by cases z)⟩
      · exact key ls h (fun _ z => z) m
    | st d =>
      rcases List.mem_cons.mp m with rfl | m
      · exact ⟨fun _ z => (by cases z), fun _ _ z => (by cases z), fun _ _ z => (by cases z)⟩
      · exact key ls h (fun _ z => z) m
    | fn d =>
      rcases List.mem_cons.mp m with rfl | m
      · exact ⟨fun _ z => (by cases z), fun _ _ z => (by cases z), fun _ _ z => (by cases z)⟩
      · exact key ls h (fun _ z => z) m
theorem cellsAt_ok {S : Store} : ∀ {ls : List Nat} {S0 : Store}, cellsAt S ls = some S0 → S0.length = ls.length ∧ ∀ (j i : Nat), ls[j]? = some i → S0[j]? = S[i]? ∧ i < S.length
  | [], S0, h => by
    cases h
    exact ⟨rfl, fun j i e => by simp at e⟩
  | l :: ls, S0, h => by
    unfold cellsAt at h
    cases e : S[l]? with
    | none => rw [e] at h; cases h
    | some c =>
      rw [e] at h
      dsimp only at h
      cases e2 : cellsAt S ls with
      | none => rw [e2] at h; cases h
      | some S1 =>
        rw [e2] at h
        cases h
        obtain ⟨h1, h2⟩ := cellsAt_ok e2
        refine ⟨by simp [h1], fun j i hj => ?_⟩
        cases j with
        | zero =>
          simp at hj
          subst hj
          exact ⟨by simp [e], (List.getElem?_eq_some_iff.mp e).1⟩
        | succ j => exact h2 j i (by simpa using hj)
section
variable {T : Tb} {K : PySem.W.Frag} {bo : Addr → Prop} {n0 : Nat} {io : List Addr} {S : Store} {H : Hp}
/-- the callee's cells -/
def ioOf (io : List Addr) (ls : List Nat) : List Addr := ls.filterMap (io[·]?)
theorem ioOf_ok : ∀ {ls : List Nat}, (∀ i ∈ ls, i < io.length) → (ioOf io ls).length = ls.length ∧ ∀ (j i : Nat), ls[j]? = some i → (ioOf io ls)[j]? = io[i]?
  | [], _ => ⟨rfl, fun j i e => by simp at e⟩
  | l :: ls, h => by
    have hl : l < io.length := h l List.mem_cons_self
    obtain ⟨h1, h2⟩ := ioOf_ok (ls := ls) fun i hi => h i (List.mem_cons_of_mem _ hi)
    have e : ioOf io (l :: ls) = io[l] :: ioOf io ls := by
      unfold ioOf
      rw [List.filterMap_cons, List.getElem?_eq_getElem hl]
    rw [e]
    refine ⟨by simp [h1], fun j i hj => ?_⟩
    cases j with
    | zero =>
      simp at hj
      subst hj
      simp [hl]
    | succ j => simpa using h2 j i (by simpa using hj)
theorem ioOf_sub {ls : List Nat} {a : Addr} (h : a ∈ ioOf io ls) : ∃ i, i ∈ ls ∧ io[i]? = some a := by
  obtain ⟨i, h1, h2⟩ := List.mem_filterMap.mp h
  exact ⟨i, h1, h2⟩
theorem nodup_at' {l : List Addr} (hN : l.Nodup) {i j : Nat} {x : Addr} (a : l[i]? = some x) (b : l[j]? = some x) : i = j := by
  obtain ⟨h1, e1⟩ := List.getElem?_eq_some_iff.mp a
  obtain ⟨h2, e2⟩ := List.getElem?_eq_some_iff.mp b
  exact (List.getElem_inj hN).mp (e1.trans e2.symm)
theorem ioOf_nd : ∀ {ls : List Nat}, ls.Nodup → (∀ i ∈ ls, i < io.length) → io.Nodup → (ioOf io ls).Nodup
  | [], _, _, _ => List.nodup_nil
  | l :: ls, hn, h, hN => by
    have hl : l < io.length := h l List.mem_cons_self
    have e : ioOf io (l :: ls) = io[l] :: ioOf io ls := by
      unfold ioOf
      rw [List.filterMap_cons, List.getElem?_eq_getElem hl]
    rw [e]
    refine List.nodup_cons.mpr ⟨fun m => ?_, ioOf_nd (List.nodup_cons.mp hn).2 (fun i hi => h i (List.mem_cons_of_mem _ hi)) hN⟩
    obtain ⟨i, hi, q⟩ := ioOf_sub m
    have z := nodup_at' hN q (List.getElem?_eq_getElem hl)
    exact (List.nodup_cons.mp hn).1 (z ▸ hi)
theorem ban_in {ls : List Nat} : ∀ a, bnO (bnO bo io) (ioOf io ls) a → bnO bo io a := fun a h => by
  rcases h with h | h
  · exact h
  · obtain ⟨i, _, e⟩ := ioOf_sub h
    exact .inr (List.mem_of_getElem? e)
theorem fr_id {l : List Addr} : Fr l H H := fun _ _ h _ => h
/-- entry -/
theorem rep_in (R : Rep K bo n0 io S H) {ls : List Nat} {S0 : Store} (hn : ls.Nodup) (hc : cellsAt S ls = some S0) : Rep K (bnO bo io) ls.length (ioOf io ls) S0 H := by
  obtain ⟨c1, c2⟩ := cellsAt_ok hc
  have hlt : ∀ i ∈ ls, i < io.length := fun i hi => by
    obtain ⟨j, e⟩ := List.mem_iff_getElem?.mp hi
    rw [R.len]
    exact (c2 j i e).2
  obtain ⟨i1, i2⟩ := ioOf_ok hlt
  refine ⟨i1.trans c1.symm, ioOf_nd hn hlt R.nd, fun j a e h1 h2 => ?_, fun a h => ?_, fun j a h1 h2 => ?_⟩
  · have hj : j < ls.length := by
      have := (List.getElem?_eq_some_iff.mp h1).1
      omega
    have e1 := List.getElem?_eq_getElem hj
    rw [i2 j _ e1] at h1
    rw [(c2 j _ e1).1] at h2
    exact CellOk.fr fr_id R.cl (fun _ => bn_io) (fun a _ z => ban_in a z) rfl (R.cells _ a e h1 h2)
  · rcases h with h | h
    · exact R.out a h
    · exact R.cl.some h
  · have := (List.getElem?_eq_some_iff.mp h2).1
    omega
theorem den_in (R : Rep K bo n0 io S H) {ls : List Nat} {S0 : Store} (hc : cellsAt S ls = some S0) {vs : List Val} (hl : locsOf vs = some ls) {v : Val} {x : V} (hv : v ∈ vs) (r : DenV T K bo io H x v) : DenV T K (bnO bo io) (ioOf io ls) H x (inV ls v) := by
  obtain ⟨l1, l2, l3⟩ := locs_lt hl v hv
  have hb : ∀ a, H a ≠ none → bnO (bnO bo io) (ioOf io ls) a → bnO bo io a := fun a _ z => ban_in a z
  cases v with
  | p d =>
    cases r with
    | p r => exact .p (Den.fr fr_id R.cl (fun _ => bn_io) hb d x r)
  | loc i =>
    cases r with
    | loc ha =>
      have hi := l1 i rfl
      obtain ⟨c1, c2⟩ := cellsAt_ok hc
      have hlt : ∀ i ∈ ls, i < io.length := fun i hi => by
        obtain ⟨j, e⟩ := List.mem_iff_getElem?.mp hi
        rw [R.len]
        exact (c2 j i e).2
      obtain ⟨i1, i2⟩ := ioOf_ok hlt
      have hx : ls[ls.idxOf i]? = some i := by
        have := List.idxOf_lt_length_of_mem hi
        rw [List.getElem?_eq_getElem this, List.getElem_idxOf this]
      exact .loc (by rw [i2 _ _ hx]; exact ha)
  | seq t xs => exact absurd rfl (l2 t xs)
  | exc c as => exact absurd rfl (l3 c as)
  | dic kvs =>
    cases r with
    | dic h1 h2 => exact .dic h1 fun z => h2 (ban_in _ z)
  | st ks => cases r
  | fn f =>
    cases r
    exact .fn f

/-! ### exit -/
theorem putBack_len : ∀ (ls : List Nat) (cs S : Store), (putBack ls cs S).length = S.length
  | [], _, _ => rfl
  | _ :: _, [], _ => rfl
  | i :: is, c :: cs, S => by
    show (putBack is cs (S.set i c)).length = _
    rw [putBack_len, List.length_set]
theorem putBack_ne : ∀ {ls : List Nat} {cs S : Store} {i : Nat}, i ∉ ls → (putBack ls cs S)[i]? = S[i]?
  | [], _, _, _, _ => rfl
  | _ :: _, [], _, _, _ => rfl
  | l :: ls, c :: cs, S, i, h => by
    show (putBack ls cs (S.set l c))[i]? = _
    rw [putBack_ne fun m => h (List.mem_cons_of_mem _ m), List.getElem?_set_ne (fun z : l = i => h (by rw [z]; exact List.mem_cons_self))]
theorem putBack_at : ∀ {ls : List Nat} {cs S : Store} {i j : Nat}, ls.Nodup → ls[j]? = some i → i < S.length → j < cs.length → (putBack ls cs S)[i]? = cs[j]?
  | [], _, _, _, _, _, h, _, _ => by simp at h
  | _ :: _, [], _, _, _, _, _, _, h => by simp at h
  | l :: ls, c :: cs, S, i, j, hn, h, hi, hj => by
    show (putBack ls cs (S.set l c))[i]? = _
    cases j with
    | zero =>
      simp at h
      subst h
      rw [putBack_ne (List.nodup_cons.mp hn).1, List.getElem?_set_self hi]
      simp
    | succ j =>
      have h' : ls[j]? = some i := by simpa using h
      rw [putBack_at (List.nodup_cons.mp hn).2 h' (by rw [List.length_set]; exact hi) (by simpa using hj)]
      simp
/-- the caller's cells behind the call -/
def ioAf (keep : Bool) (ls : List Nat) (io io1 : List Addr) : List Addr := if keep then io ++ io1.drop ls.length else io
section
variable {ls : List Nat} {S0 S1 : Store} {io1 : List Addr} {H1 : Hp} {keep : Bool}
theorem pre_at (hn : ∀ i ∈ ls, i < io.length) (a : Ext (ioOf io ls) H io1 H1) {j i : Nat} (h : ls[j]? = some i) : io1[j]? = io[i]? := by
  obtain ⟨i1, i2⟩ := ioOf_ok hn
  have hj : j < (ioOf io ls).length := by
    rw [i1]
    exact (List.getElem?_eq_some_iff.mp h).1
  obtain ⟨m, e⟩ := a.pre
  rw [e, List.getElem?_append_left hj, i2 j i h]
theorem drop_new (hn : ∀ i ∈ ls, i < io.length) (R1 : Rep K (bnO bo io) ls.length io1 S1 H1) {a : Addr} (h : a ∈ io1.drop ls.length) : ∃ j, ls.length ≤ j ∧ io1[j]? = some a ∧ ¬ bnO bo io a := by
  obtain ⟨j, e⟩ := List.mem_iff_getElem?.mp h
  rw [List.getElem?_drop] at e
  exact ⟨ls.length + j, Nat.le_add_right _ _, e, R1.new _ a (Nat.le_add_right _ _) e⟩
theorem ban_out (hn : ∀ i ∈ ls, i < io.length) (a1 : Ext (ioOf io ls) H io1 H1) : ∀ a, bnO bo (ioAf keep ls io io1) a → bnO (bnO bo io) io1 a := fun a h => by
  rcases h with h | h
  · exact .inl (.inl h)
  · unfold ioAf at h
    cases keep with
    | false => exact .inl (.inr h)
    | true =>
      rcases List.mem_append.mp h with h | h
      · exact .inl (.inr h)
      · exact .inr (List.mem_of_mem_drop h)
theorem ext_out (R : Rep K bo n0 io S H) (hn : ∀ i ∈ ls, i < io.length) (a1 : Ext (ioOf io ls) H io1 H1) (R1 : Rep K (bnO bo io) ls.length io1 S1 H1) : Ext io H (ioAf keep ls io io1) H1 := by
  refine ⟨?_, fun a h => ?_, fun a o h hi => a1.fr a o h fun m => ?_⟩
  · unfold ioAf
    cases keep with
    | false => exact ⟨[], by simp⟩
    | true => exact ⟨_, rfl⟩
  · unfold ioAf at h
    cases keep with
    | false => exact .inl h
    | true =>
      rcases List.mem_append.mp h with h | h
      · exact .inl h
      · obtain ⟨j, hj, e, hb⟩ := drop_new hn R1 h
        rcases a1.new a (List.mem_of_getElem? e) with z | z
        · obtain ⟨i, _, q⟩ := ioOf_sub z
          exact .inl (List.mem_of_getElem? q)
        · exact .inr z
  · obtain ⟨i, _, q⟩ := ioOf_sub m
    exact hi (List.mem_of_getElem? q)
theorem rep_out (R : Rep K bo n0 io S H) (hl : ls.Nodup) (hn : ∀ i ∈ ls, i < io.length) (hS : ls.length ≤ S1.length) (a1 : Ext (ioOf io ls) H io1 H1) (R1 : Rep K (bnO bo io) ls.length io1 S1 H1) : Rep K bo n0 (ioAf keep ls io io1) (after keep ls S S1) H1 := by
  have hb : ∀ a, H1 a ≠ none → bnO bo (ioAf keep ls io io1) a → bnO (bnO bo io) io1 a := fun a _ z => ban_out hn a1 a z
  have hold : ∀ (i : Nat) (a : Addr) (c : Cell), io[i]? = some a → (putBack ls S1 S)[i]? = some c → CellOk K (bnO bo (ioAf keep ls io io1)) H1 a c := fun i a c h1 h2 => by
    by_cases hi : i ∈ ls
    · obtain ⟨j, e⟩ := List.mem_iff_getElem?.mp hi
      have hj := (List.getElem?_eq_some_iff.mp e).1
      have hiS : i < S.length := by rw [← R.len]; exact hn i hi
      rw [putBack_at hl e hiS (by omega)] at h2
      have h3 := pre_at hn a1 e
      rw [h1] at h3
      exact CellOk.fr fr_id R1.cl (fun _ => bn_io) hb rfl (R1.cells j a c h3 h2)
    · rw [putBack_ne hi] at h2
      have ha : a ∉ ioOf io ls := fun m => by
        obtain ⟨j, hj, q⟩ := ioOf_sub m
        exact hi (nodup_at' R.nd q h1 ▸ hj)
      have hc := R.cells i a c h1 h2
      have hH : H1 a = H a := by
        cases q : H a with
        | none => exact absurd q (R.cl.some (List.mem_of_getElem? h1))
        | some o => exact a1.fr a o q ha
      refine CellOk.fr a1.fr (fun b m => ?_) (fun b m => ?_) (fun b hn' z => ?_) hH hc
      · obtain ⟨j, _, q⟩ := ioOf_sub m
        exact R.cl b (List.mem_of_getElem? q)
      · obtain ⟨j, _, q⟩ := ioOf_sub m
        exact .inr (List.mem_of_getElem? q)
      · exact (ext_out (keep := keep) R hn a1 R1).ban b hn' z
  have hlen : (putBack ls S1 S).length = io.length := by rw [putBack_len, R.len]
  have hout : ∀ a, bo a → H1 a ≠ none := fun a h => R1.out a (.inl h)
  unfold ioAf after at *
  cases keep with
  | false => exact ⟨hlen.symm, R.nd, hold, hout, R.new⟩
  | true =>
    have hb' : ∀ a, H1 a ≠ none → bnO bo (io ++ io1.drop ls.length) a → bnO (bnO bo io) io1 a := hb
    have hold' : ∀ (i : Nat) (a : Addr) (c : Cell), io[i]? = some a → (putBack ls S1 S)[i]? = some c → CellOk K (bnO bo (io ++ io1.drop ls.length)) H1 a c := hold
    show Rep K bo n0 (io ++ io1.drop ls.length) (putBack ls S1 S ++ S1.drop ls.length) H1
    refine ⟨by simp [hlen, R1.len], ?_, fun i a c h1 h2 => ?_, hout, fun i a h1 h2 => ?_⟩
    · rw [List.nodup_append]
      refine ⟨R.nd, R1.nd.sublist (List.drop_sublist _ _), fun a ha b hb z => ?_⟩
      obtain ⟨j, _, e, nb⟩ := drop_new hn R1 hb
      exact nb (.inr (z ▸ ha))
    · rcases Nat.lt_or_ge i io.length with hi | hi
      · rw [List.getElem?_append_left hi] at h1
        rw [List.getElem?_append_left (by rw [hlen]; exact hi)] at h2
        exact hold' i a c h1 h2
      · rw [List.getElem?_append_right hi, List.getElem?_drop] at h1
        rw [List.getElem?_append_right (by rw [hlen]; exact hi), List.getElem?_drop, hlen] at h2
        exact CellOk.fr fr_id R1.cl (fun _ => bn_io) hb' rfl (R1.cells _ a c h1 h2)
    · rcases Nat.lt_or_ge i io.length with hi | hi
      · rw [List.getElem?_append_left hi] at h2
        exact R.new i a h1 h2
      · rw [List.getElem?_append_right hi] at h2
        obtain ⟨j, _, e, nb⟩ := drop_new hn R1 (List.mem_of_getElem? h2)
        exact fun z => nb (.inl z)
theorem den_out (R : Rep K bo n0 io S H) (hn : ∀ i ∈ ls, i < io.length) (a1 : Ext (ioOf io ls) H io1 H1) (R1 : Rep K (bnO bo io) ls.length io1 S1 H1) {v w : Val} {x : V} (h : outV keep ls.length S.length ls S1 v = some w) (r : DenV T K (bnO bo io) io1 H1 x v) :
    DenV T K bo (ioAf keep ls io io1) H1 x w := by
  have hb : ∀ a, H1 a ≠ none → bnO bo (ioAf keep ls io io1) a → bnO (bnO bo io) io1 a := fun a _ z => ban_out hn a1 a z
  cases v with
  | p d =>
    cases h
    cases r with
    | p r => exact .p (Den.fr fr_id R1.cl (fun _ => bn_io) hb d x r)
  | seq t xs => cases h
  | exc c as => cases h
  | st ks => cases r
  | fn f =>
    cases h
    cases r
    exact .fn f
  | dic kvs =>
    cases h
    cases r with
    | dic h1 h2 => exact .dic h1 fun z => h2 (ban_out hn a1 _ z)
  | loc i =>
    cases r with
    | loc ha =>
      rename_i a
      have h0 : (if i < ls.length then (ls[i]?).map .loc else if keep then some (.loc (S.length + (i - ls.length))) else match S1[i]? with
        | some (.lst ds) => some (.p (.list ds))
        | some (.dic kvs) => some (.dic kvs)
        | _ => none) = some w := h
      clear h
      have h := h0
      by_cases hi : i < ls.length
      · rw [if_pos hi] at h
        cases e : ls[i]? with
        | none => rw [e] at h; cases h
        | some j =>
          rw [e] at h
          cases h
          have h3 := pre_at hn a1 e
          rw [ha] at h3
          refine .loc ?_
          unfold ioAf
          cases keep with
          | false => exact h3.symm
          | true =>
            show (io ++ io1.drop ls.length)[j]? = some a
            rw [List.getElem?_append_left (hn j (List.mem_of_getElem? e))]
            exact h3.symm
      · rw [if_neg hi] at h
        cases keep with
        | true =>
          cases h
          refine .loc ?_
          show (io ++ io1.drop ls.length)[S.length + (i - ls.length)]? = some a
          rw [List.getElem?_append_right (by rw [R.len]; omega), List.getElem?_drop, R.len]
          rw [show ls.length + (S.length + (i - ls.length) - S.length) = i by omega]
          exact ha
        | false =>
          have h' : (match S1[i]? with
            | some (.lst ds) => some (Val.p (.list ds))
            | some (.dic kvs) => some (.dic kvs)
            | _ => none) = some w := h
          obtain ⟨c, hc, ok⟩ := R1.cell ha
          rw [hc] at h'
          cases c with
          | lst ds =>
            cases h'
            obtain ⟨vs, e1, e2⟩ := ok
            have nb := R1.new i a (by omega) ha
            exact .p (.lst (.inl ⟨.inl e1, nb⟩) (Dens.fr fr_id R1.cl (fun _ => bn_io) hb ds vs e2))
          | dic kvs => exact ok.elim
theorem dens_out (R : Rep K bo n0 io S H) (hn : ∀ i ∈ ls, i < io.length) (a1 : Ext (ioOf io ls) H io1 H1) (R1 : Rep K (bnO bo io) ls.length io1 S1 H1) : ∀ {vs ws : List Val} {xs : List V}, outVs keep ls.length S.length ls S1 vs = some ws → DenVs T K (bnO bo io) io1 H1 xs vs →
    DenVs T K bo (ioAf keep ls io io1) H1 xs ws
  | [], _, _, h, .nil => by cases h; exact .nil
  | v :: vs, ws, _, h, .cons r rs => by
    unfold outVs at h
    cases e : outV keep ls.length S.length ls S1 v with
    | none => rw [e] at h; cases h
    | some w =>
      rw [e] at h
      dsimp only at h
      cases e2 : outVs keep ls.length S.length ls S1 vs with
      | none => rw [e2] at h; cases h
      | some ws' =>
        rw [e2] at h
        cases h
        exact .cons (den_out R hn a1 R1 e r) (dens_out R hn a1 R1 e2 rs)
end
end
theorem mkSeq_den {T : Tb} {K : PySem.W.Frag} {bo : Addr → Prop} {io : List Addr} {H : Hp} {t : Bool} {vs : List Val} {x : V} (h : DenV T K bo io H x (.seq t vs)) : DenV T K bo io H x (mkSeq t vs) := by
  unfold mkSeq
  cases e : pures vs with
  | none => exact h
  | some ds =>
    cases t with
    | true =>
      cases h with
      | seqT h1 h2 => exact .p (.tup h1 (h2.pures e))
    | false =>
      cases h with
      | seqL h1 h2 => exact .p (.lst h1 (h2.pures e))
theorem outT_ok {T : Tb} {K : PySem.W.Frag} {bo : Addr → Prop} {n0 : Nat} {io : List Addr} {S : Store} {H : Hp} {ls : List Nat} {S1 : Store} {io1 : List Addr} {H1 : Hp} {keep : Bool} (R : Rep K bo n0 io S H) (hn : ∀ i ∈ ls, i < io.length) (a1 : Ext (ioOf io ls) H io1 H1) (R1 : Rep K (bnO bo io) ls.length io1 S1 H1) {v w : Val} {x : V}
    (h : outT keep ls.length S.length ls S1 v = some w) (r : DenV T K (bnO bo io) io1 H1 x v) : DenV T K bo (ioAf keep ls io io1) H1 x w := by
  unfold outT at h
  split at h
  · rename_i t vs
    cases e : outVs keep ls.length S.length ls S1 vs with
    | none => rw [e] at h; cases h
    | some ws =>
      rw [e] at h
      cases h
      refine mkSeq_den ?_
      cases r with
      | seqT h1 h2 => exact .seqT h1 (dens_out R hn a1 R1 e h2)
      | seqL h1 h2 =>
        refine .seqL ?_ (dens_out R hn a1 R1 e h2)
        exact h1.fr fr_id R1.cl (fun _ => bn_io) fun a _ z => ban_out hn a1 a z
  · exact den_out R hn a1 R1 h r
end Ev

/-! Ev18: the promises of all defs, by induction on the depth of the calls. -/
namespace Ev
open PySem PySem.Spec PyProof.Rows L2

/-- where a def stands, and that its text is what the small language says -/
def DFact (K : PySem.W.Frag) (C : Cfg) (T : Tb) (f : Nat) (d : DefI) : Prop :=
  ∃ (oc : Value) (od : Option Addr) (osl : Array (Option Value)) (name qual : Str) (params : Arguments) (body : List Stmt) (scope : Scope) (dV kV doc pm : Value) (an : Option Addr) (cdv ct : Value),
    K.lookup (T.fa f) = some ⟨oc, od, .func (PySem.W.fnOf name qual params body scope dV kV doc pm an cdv ct), osl⟩ ∧ PySem.W.codeIn K cdv qual = true ∧ FnScope d.N d.ps scope ∧ chkB C d.N scope true d.body body = true ∧
    Binds K (PySem.W.fnOf name qual params body scope dV kV doc pm an cdv ct) d.ps []
theorem env_in {T : Tb} {K : PySem.W.Frag} {bo : Addr → Prop} {n0 : Nat} {io : List Addr} {S S0 : Store} {H : Hp} {ls : List Nat} {N ps : List Str} {vs : List V} {ws : List Val} (R : Rep K bo n0 io S H) (hc : cellsAt S ls = some S0) (hl : locsOf ws = some ls) (rv : DenVs T K bo io H vs ws) (hp : ws.length = ps.length) :
    EnvOk T K (bnO bo io) (ioOf io ls) H (L2.start N vs) ((ws.map fun v => some (inV ls v)) ++ List.replicate (N.length - ps.length) none) := by
  have hlen := rv.length
  refine ⟨by unfold L2.start; simp [hlen, hp], fun i x e => ?_⟩
  have hi : i < ws.length := by
    rcases Nat.lt_or_ge i ws.length with h | h
    · exact h
    · rw [List.getElem?_append_right (by simpa using h), List.getElem?_replicate] at e
      split at e <;> cases e
  rw [List.getElem?_append_left (by simpa using hi), List.getElem?_map, List.getElem?_eq_getElem hi] at e
  cases e
  obtain ⟨v, h1, h2⟩ := rv.get (List.getElem?_eq_getElem hi)
  refine ⟨v, ?_, den_in R hc hl (List.getElem_mem hi) h2⟩
  unfold L2.start
  rw [List.getElem?_append_left (by rw [List.length_map, hlen]; exact hi), List.getElem?_map, h1]
  rfl
section
variable {P : Program} {w : World} {K : PySem.W.Frag} {mg : Str → Option Value} {base : Heap} {C : Cfg} {T : Tb}
theorem good_def (M : MFacts K mg C T) (hx : T.xa = []) {n : Nat} (F : FFacts P w K mg base C T n) {N ps : List Str} {qual : Str} {scope : Scope} {f : Addr} {cd : Value} {A : Around} {outer : List Env} {s : Shared} {H : Hp} {E : XK} (S : FnScope N ps scope) (hr : RoomG n (A.deeper (envOfC qual scope s.heap.objs.size f cd))) :
    GoodS (cxOf (L2.CX P w) P w K mg base N qual scope f cd A outer s H E) C T n N scope (fun cls d _ H' => E cls d H') true where
  hN := rfl
  nd := S.nd
  sc := rfl
  sto := fun x h => ⟨h, .inl rfl⟩
  calm := fun _ => rfl
  room := fun _ => hr
  un := by
    have h := hr.room.un
    have h' : (A.deeper (envOfC qual scope s.heap.objs.size f cd)).units + 16 * n + 200 < cLine := h
    show (A.deeper (envOfC qual scope s.heap.objs.size f cd)).units + 100 < cLine
    omega
  takes := takes_of (X := cxOf (L2.CX P w) P w K mg base N qual scope f cd A outer s H E) rfl rfl rfl rfl
  owns := passes_of (X := cxOf (L2.CX P w) P w K mg base N qual scope f cd A outer s H E) rfl
  mod := M
  fns := fun _ => F
  xa := fun _ => hx
  isE := fun a d m => absurd m (by rw [hx]; exact List.not_mem_nil)
  stk := fun _ => rfl
  frm := fun _ => rfl
/-- a def shown by hand -/
def DHand (P : Program) (w : World) (K : PySem.W.Frag) (mg : Str → Option Value) (base : Heap) (C : Cfg) (T : Tb) (f : Nat) (d : DefI) : Prop :=
  ∃ fd, (∃ oc od osl, K.lookup (T.fa f) = some ⟨oc, od, .func fd, osl⟩) ∧ Binds K fd d.ps [] ∧ ∀ n, FFacts P w K mg base C T n → FnG P w K mg base (n + 1) (T.fa f) fd d.ps (spF C T K (n + 1) f d.ps.length)
theorem fns_ok (A : Facts) (M : MFacts K mg C T) (hx : T.xa = []) (D : ∀ (f : Nat) (d : DefI), C.defs[f]? = some d → DFact K C T f d ∨ DHand P w K mg base C T f d) : ∀ n, FFacts P w K mg base C T n
  | 0 => fun f d hd => by
    rcases D f d hd with D1 | ⟨fd, lk, hb, _⟩
    case inr =>
      refine ⟨fd, lk, hb, fun vs H Q E h => h.1, fun A outer s H args us vs Q E hr e0 hb r h => ?_⟩
      obtain ⟨_, bo, n0, io, S, ws, _, _, rc⟩ := h
      exact rc.elim
    obtain ⟨oc, od, osl, name, qual, params, body, scope, dV, kV, doc, pm, an, cdv, ct, lk, hcd, S, hchk, hb⟩ := D1
    refine ⟨_, ⟨_, _, _, lk⟩, hb, fun vs H Q E h => h.1, fun A outer s H args us vs Q E hr e0 hb r h => ?_⟩
    obtain ⟨_, bo, n0, io, S, ws, _, _, rc⟩ := h
    exact rc.elim
  | n + 1 => fun f d hd => by
    have F := fns_ok A M hx D n
    rcases D f d hd with D1 | ⟨fd, lk, hb, hG⟩
    case inr => exact ⟨fd, lk, hb, hG n F⟩
    obtain ⟨oc, od, osl, name, qual, params, body, scope, dV, kV, doc, pm, an, cdv, ct, lk, hcd, S, hchk, hb⟩ := D1
    refine ⟨_, ⟨_, _, _, lk⟩, hb, fn_ofG lk hcd S (fun vs H Q E h => h.1) fun A0 outer s H vs Q E hr h => ?_⟩
    obtain ⟨hl, bo, n0, io, St, ws, R, rv, rc⟩ := h
    have e1 : callN C (n + 1) f ws St = callD C (callN C n) d ws St := by
      show (match C.defs[f]? with
        | some d => callD C (callN C n) d ws St
        | none => .bad) = _
      rw [hd]
    rw [e1] at rc
    unfold callD at rc
    by_cases hp : ws.length ≠ d.ps.length
    · rw [if_pos hp] at rc
      exact rc.elim
    rw [if_neg hp] at rc
    have hp' : ws.length = d.ps.length := Decidable.not_not.mp hp
    cases hls : locsOf ws with
    | none => rw [hls] at rc; exact rc.elim
    | some ls =>
      rw [hls] at rc
      dsimp only at rc
      by_cases hnd : ls.Nodup
      · rw [if_pos hnd] at rc
        cases hc : cellsAt St ls with
        | none => rw [hc] at rc; exact rc.elim
        | some S0 =>
          rw [hc] at rc
          dsimp only at rc
          have hlt : ∀ i ∈ ls, i < io.length := fun i hi => by
            obtain ⟨j, e⟩ := List.mem_iff_getElem?.mp hi
            rw [R.len]
            exact ((cellsAt_ok hc).2 j i e).2
          have hlen : ∀ {io1 : List Addr} {H1 : Hp} {S1 : Store}, Ext (ioOf io ls) H io1 H1 → Rep K (bnO bo io) ls.length io1 S1 H1 → ls.length ≤ S1.length := fun {io1 H1 S1} a R1 => by
            obtain ⟨m, e⟩ := a.pre
            rw [← R1.len, e, List.length_append, (ioOf_ok hlt).1]
            omega
          have g := good_def (P := P) (w := w) (base := base) (A := A0) (outer := outer) (s := s) (H := H) (E := E) (qual := qual) (f := T.fa f) (cd := cdv) M hx F S hr
          refine ⟨_, soundB A d.body g hchk, bnO bo io, ls.length, ioOf io ls, S0, _, rep_in R hnd hc, env_in R hc hls rv hp', ?_⟩
          cases hx1 : evB C (callN C n) d.body ((ws.map fun v => some (inV ls v)) ++ List.replicate (d.N.length - d.ps.length) none) S0 with
          | bad => rw [hx1] at rc; exact rc.elim
          | bk env1 S1 => rw [hx1] at rc; exact rc.elim
          | ct env1 S1 => rw [hx1] at rc; exact rc.elim
          | nx env1 S1 =>
            rw [hx1] at rc
            intro sg1 H1 io1 a1 R1 e2
            exact rc .non H1 (ioAf d.keep ls io io1) (ext_out R hlt a1 R1) (rep_out R hnd hlt (hlen a1 R1) a1 R1) (.p .non)
          | rt v S1 =>
            rw [hx1] at rc
            dsimp only at rc
            cases ho : outT d.keep ls.length St.length ls S1 v with
            | none => rw [ho] at rc; exact rc.elim
            | some u =>
              rw [ho] at rc
              intro x H1 io1 a1 R1 r1
              exact rc x H1 (ioAf d.keep ls io io1) (ext_out R hlt a1 R1) (rep_out R hnd hlt (hlen a1 R1) a1 R1) (outT_ok R hlt a1 R1 ho r1)
          | ex c as env1 S1 =>
            rw [hx1] at rc
            dsimp only at rc
            cases ho : outVs d.keep ls.length St.length ls S1 as with
            | none => rw [ho] at rc; exact rc.elim
            | some bs =>
              rw [ho] at rc
              intro sg1 H1 io1 dd a1 R1 e2 ra
              refine rc H1 (ioAf d.keep ls io io1) dd (ext_out R hlt a1 R1) (rep_out R hnd hlt (hlen a1 R1) a1 R1) ?_
              rcases ra with ⟨h1, h2⟩ | ⟨a, nm, v, x, h1, h2, h3, h4⟩
              · subst h2
                cases ho
                exact .inl ⟨h1, rfl⟩
              · subst h3
                have hd2 := dens_out R hlt a1 R1 ho (.cons h4 .nil)
                cases hd2 with
                | cons r rs =>
                  cases rs
                  exact .inr ⟨a, nm, v, _, h1, h2, rfl, r⟩
      · rw [if_neg hnd] at rc
        exact rc.elim
end
end Ev

/-! Ev30: the law's end. -/
namespace Ev
open PySem PySem.Spec PyProof.Rows L2

/-- the law's def called on the script: the caller's room, nothing shown, nothing handled -/
theorem call_G {P : Program} {w : World} {K : PySem.W.Frag} {mg mb : Str → Option Value} {k : Nat} {fa a : Addr} {fd : FuncData} {x : Str} {sp : Sp} {s1 : Shared} {vs : List Value} {ns : List Int}
    (KX : K.In s1.heap) (hns : s1.heap.Ns mainGlobals mg) (hb : s1.heap.Ns builtinsNs mb) (hbb : ∀ x : Str, x ≠ "__name__" → mb x = bootBuiltins x) (hlim : s1.heap.NoLimit) (hg : s1.gens = #[])
    (ha : s1.heap.get? a = some { cls := .type "list", data := .seq vs.toArray }) (hi : IntsAre vs ns) (hl : ns.length ≤ sizeLine) (hr : Room k callerA)
    (F : ∀ base : Heap, K.In base → base.Ns mainGlobals mg → FnG P w K mg base k fa fd [x] sp) (hbind : ∀ u : Value, BindsTo s1 fd ⟨[u], []⟩ [(x, u)])
    (hsp : ∀ H : Hp, Only H → SqL K H a (ns.map V.int) → sp [.ref a] H (fun v _ => v = .bl true) fun _ _ _ => False) :
    codeAny (model P w) callerA (.call (.ref fa) ⟨[.ref a], []⟩) (fun r s' => r = .ok (.ret (.bool true)) ∧ OldK s1.heap s'.heap ∧ s'.os = s1.os ∧ AllBare s'.gens) s1 := by
  have rv := vals_ints hi
  have lenV := hi.length
  have go : ∀ H : Hp, Only H → SqL K H a (ns.map V.int) → HOk P w H s1.heap → (∀ b, H b ≠ none → b = a) → (H a ≠ none → K.lookup a = none) →
      codeAny (model P w) callerA (.call (.ref fa) ⟨[.ref a], []⟩) (fun r s' => r = .ok (.ret (.bool true)) ∧ OldK s1.heap s'.heap ∧ s'.os = s1.os ∧ AllBare s'.gens) s1 := by
    intro H hO hS hok hA hK
    have at_none : ∀ {b : Addr}, b ≠ a → H b = none := fun {b} hb => by
      cases q : H b with
      | none => rfl
      | some u => exact absurd (hA b (by rw [q]; simp)) hb
    have noD : ∀ {b : Addr} {o : Obj} {es : Array DictEntry} {ep : Nat}, s1.heap.get? b = some o → o.data = .dict es ep → H b = none := fun {b o es ep} e d => by
      by_cases hb : b = a
      · subst hb
        rw [ha] at e
        cases e
        cases d
      · exact at_none hb
    have nsK : ∀ {b : Addr} {m : Str → Option Value}, s1.heap.Ns b m → (hidT s1.heap H).Ns b m := fun {b m} ⟨o, es, ep, e, d, r⟩ => ⟨o, es, ep, hidT_get e (noD e d), d, r⟩
    have hKb : K.In (hidT s1.heap H) := fun b o e => hidT_get (KX b o e) (by
      by_cases hb : b = a
      · subst hb
        cases q : H b with
        | none => rfl
        | some u =>
          have z := hK (by rw [q]; simp)
          rw [z] at e
          cases e
      · exact at_none hb)
    have hM : Mod K mg (hidT s1.heap H) := ⟨hKb, nsK hns, ⟨mb, nsK hb, hbb⟩, let ⟨mc, h1, h2⟩ := hlim; ⟨mc, nsK h1, h2⟩⟩
    have e0 : Env0 P w K mg (hidT s1.heap H) callerA [] s1 H := ⟨rfl, hM, fun b o e => of_hidT e, Nat.le_of_eq (hidT_size _ _), trivial, fun b hb => absurd (show b ∈ ([] : List Addr) from hb) (by simp), hok, .of_eq hg⟩
    refine codeAny_mono ((F _ hKb (nsK hns)).run callerA [] s1 H ⟨[.ref a], []⟩ [.ref a] [.ref a] _ _ ⟨hr, rfl⟩ e0 (hbind (.ref a)) (.cons rfl .nil) (hsp H hO hS)) fun r s' h => ?_
    cases r with
    | error e =>
      obtain ⟨ad, B, H', cls, d, _, _, _, _, _, _, _, z⟩ := h
      exact z.elim
    | ok fl =>
      cases fl with
      | next => exact False.elim h
      | brk => exact False.elim h
      | cont => exact False.elim h
      | ret u =>
        obtain ⟨v, H', os, bare, un, hok', r', q⟩ := h
        have q' : v = .bl true := q
        subst q'
        obtain rfl : u = Value.bool true := r'
        refine ⟨rfl, OldK.of_keep fun b o e => ?_, os, bare⟩
        rcases hO b with z | ⟨ob, xs, z⟩
        · exact un.keep b o e z (by intro y; exact absurd (show b ∈ ([] : List Addr) from y) (by simp)) (by simp)
        · obtain ⟨e1, _⟩ := hok b _ z
          obtain ⟨e2, _⟩ := hok' b _ (un.frzs b ob _ z)
          rw [e] at e1
          cases e1
          exact e2
  cases hk : K.lookup a with
  | some o =>
    have e := KX a o hk
    rw [ha] at e
    cases e
    exact go (fun _ => none) (fun _ => .inl rfl) (.inr ⟨_, vs.toArray, _, hk, rfl, rfl, rfl, by rw [List.size_toArray, lenV]; exact hl, by simpa using rv⟩) (fun b u z => by have z' : (none : Option HO) = some u := z; cases z') (fun b z => absurd rfl z) fun z => absurd rfl z
  | none =>
    refine go (fun b => if b = a then some (.frz { cls := .type "list", data := .seq vs.toArray } (.lst (ns.map V.int))) else none) (fun b => ?_) (.inl (.inr ⟨{ cls := .type "list", data := .seq vs.toArray }, if_pos rfl⟩)) (fun b u z => ?_) (fun b z => ?_) fun _ => hk
    · by_cases hb : b = a
      · exact .inr ⟨_, _, if_pos hb⟩
      · exact .inl (if_neg hb)
    · by_cases hb : b = a
      · have z' := (if_pos hb).symm.trans z
        cases z'
        subst hb
        exact ⟨ha, by rw [List.length_map]; exact hl, vs, _, rv, ha⟩
      · have z' := (if_neg hb).symm.trans z
        cases z'
    · by_cases hb : b = a
      · exact hb
      · exact absurd (if_neg hb) z
/-- a law by its evaluation: L its def, k the depth -/
theorem walk_Ev {l : PySem.W.OpenLaw} {n k L : Nat} {q : Program} {loose : List Str} {XP : (Str → Option Value) → Heap → Prop} {YP : World → Heap → Prop} {d : DefRec} {x : Str} {C : Cfg} {dl : DefI}
    (hn : l.most = some n) (hn2 : n ≤ sizeLine) (hdf : d.params.defaults = []) (hr : Room k callerA) (hL : C.defs[L]? = some dl) (hname : dl.name = d.name) (hps : dl.ps = [x])
    (F : ∀ (w : World) (mg : Str → Option Value) (h : Heap), YP w h → h.Ns mainGlobals mg → ∃ (K : PySem.W.Frag) (T : Tb), K.In h ∧ MFacts K mg C T ∧ T.xa = [] ∧
      ∀ (base : Heap), K.In base → base.Ns mainGlobals mg → FFacts l.prog w K mg base C T k)
    (law : ∀ ns : List Int, ns.length ≤ n → (∀ z ∈ ns, Builtin.Int.intBits z ≤ 1048576) → ∃ S, callN C k L [.p (.list (ns.map .int))] [] = .ok (.p (.bool true)) S) :
    PySem.W.WalkO q loose XP YP l.row.toRowW d [] (fun f vs => PySem.call f vs) := by
  refine Att.attach_callB hn hdf fun w s0 s1 mg mb fa o pm cd doc a vs ns G Y ho hd hcd hmg hobj hints hlen hbits hg => ?_
  obtain ⟨K, T, KX, M, hx, hF⟩ := F w mg _ Y G.T.g
  have hfa : T.fa L = fa := by
    have z := (M.defs L dl hL).1
    rw [hname, hmg] at z
    exact (Value.ref.inj (Option.some.inj z)).symm
  obtain ⟨fd0, ⟨oc, od, osl, lk0⟩, hb0, _⟩ := hF s1.heap KX G.T.g L dl hL
  have hfd : ∀ base, K.In base → base.Ns mainGlobals mg → FnG l.prog w K mg base k fa fd0 [x] (spF C T K k L 1) := fun base h1 h2 => by
    obtain ⟨fd1, ⟨oc1, od1, osl1, lk1⟩, _, G1⟩ := hF base h1 h2 L dl hL
    rw [lk0] at lk1
    cases lk1
    rw [hfa, hps] at G1
    exact G1
  obtain ⟨S, hS⟩ := law ns hlen hbits
  refine call_G KX G.T.g G.T.b G.T.builtins G.T.nolimit hg hobj hints (Nat.le_trans hlen hn2) hr hfd (fun u => ?_) fun H hO hS' => ?_
  · have z := hb0 s1 [u] KX (by rw [hps]; rfl)
    rw [hps] at z
    exact z
  · have hl : LstAt K (bnO (fun _ => False) []) H a (ns.map V.int) := by
      rcases hS' with h | h
      · exact .inl ⟨h, fun z => by
          rcases z with z | z
          · exact z
          · cases z⟩
      · exact .inr h
    have hd : Dens K (bnO (fun _ => False) []) H (ns.map V.int) (ns.map PyData.int) := by
      clear hS' hl hS hobj hints hlen hbits
      induction ns with
      | nil => exact .nil
      | cons n ns ih => exact .cons (.int n) ih
    refine ⟨rfl, fun _ => False, 0, [], [], [.p (.list (ns.map .int))], ⟨rfl, List.nodup_nil, fun i a c h => (by simp at h), fun a h => h.elim, fun i a _ h => (by simp at h)⟩, .cons (.p (.lst hl hd)) .nil, ?_⟩
    rw [hS]
    intro y H1 io1 a1 R1 r1
    cases r1 with
    | p r1 =>
      cases r1
      rfl
end Ev

/-! Ev19: str.replace of two written texts: a def by hand, a token out. -/
namespace Ev
open PySem PySem.Spec PyProof.Rows L2 CwR

theorem PET.mono {X : Cx} {e : Expr} {t u : TE} (h : PET X e t) (m : ∀ sg H Q, u sg H Q → t sg H Q) : PET X e u := fun pins s sg H Q h0 I q => h pins s sg H Q h0 I (m sg H Q q)
theorem PST.mono {X : Cx} {e : Stmt} {t u : TS} (h : PST X e t) (m : ∀ D sg H, u D sg H → t D sg H) : PST X e u := fun pins s sg H D h0 I q => h pins s sg H D h0 I (m D sg H q)
theorem PSsT.mono {X : Cx} {e : List Stmt} {t u : TS} (h : PSsT X e t) (m : ∀ D sg H, u D sg H → t D sg H) : PSsT X e u := fun pins s sg H D h0 I q => h pins s sg H D h0 I (m D sg H q)
theorem pat_all {X : Cx} : ∀ {es : List Expr} {ts : List TE}, Paired (PET X) es ts → es.all (fun e => !isStar e) = true → PAT X es (chainT ts)
  | [], [], .nil, _ => pat_nil
  | e :: es, t :: ts, .cons h hs, ha => by
    simp only [List.all_cons, Bool.and_eq_true, Bool.not_eq_true'] at ha
    exact pat_cons h (pat_all hs ha.2) (star_of ha.1 es X.env)
section
variable {X : Cx} {C : Cfg} {T : Tb} {n : Nat} {N : List Str} {sc raw : Scope} {W : WX} {c : Bool}
theorem pet_lst' {es : List Expr} {us : List E} {pos : Pos} (hp : Paired (PET X) es (us.map (tE C T X.K (callN C n) W))) (hs : es.all (fun e => !isStar e) = true) : PET X (.List es pos) (tE C T X.K (callN C n) W (.op .lst us)) :=
  fun pins s sg H Q h0 I hq => by
    obtain ⟨bo, n0, io, S, env, R, e, h⟩ := hq
    exact o_lst_run (C := C) (cell := false) (pat_all hp hs pos pins s sg H _ h0 I (op_of R e h))
theorem pet_ix' {a b : Expr} {u v : E} {pos : Pos} (ha : PET X a (tE C T X.K (callN C n) W u)) (hb : PE X b (tE C T X.K (callN C n) W v)) (hs : PlainIx b) : PET X (.Subscript a b pos) (tE C T X.K (callN C n) W (.op .ix [u, v])) :=
  fun pins s sg H Q h0 I hq => by
    obtain ⟨bo, n0, io, S, env, R, e, h⟩ := hq
    have h := op_of (T := T) (W := W) R e h
    refine Subscript_ (thn (ha pins s sg H _ h0 I h) fun x s1 ⟨xv, H1, I1, r1, q1⟩ => thn (hb.run pins s1 sg H1 _ I1 q1) fun y s2 ⟨yv, H2, I2, r2, q2⟩ => ?_)
    exact r_ix (C := C) (T := T) a b pins s2 sg H2 xv yv x y Q I2 r1 r2 q2 (hs _ _)
/-- o.replace(y, z) -/
theorem pet_repl' {o : Expr} {u : E} {y z : Str} {j k : Nat} {c0 c1 apos pos : Pos} (ho : PE X o (tE C T X.K (callN C n) W u)) (hn : noSup o = true) (hl : (apos.endLine == pos.line) = true) (hyz : (y == z) = false) :
    PET X (.Call (.Attribute o "replace" apos) [.Constant (.str y) j c0, .Constant (.str z) k c1] [] pos) (tE C T X.K (callN C n) W (.meth false .replace u [.lit (.str y), .lit (.str z)])) := by
  refine PET.mono (pet_replC ho hyz rfl (base_ok hn) hl) fun sg H Q ⟨bo, n0, io, S, env, R, e, h⟩ => ?_
  refine bind_of (k := fun r => match r with
    | .ok v S1 => if recvOk S1 .replace v then match evL C (callN C n) [.lit (.str y), .lit (.str z)] env S1 with
      | .ok vs S2 => match primM .replace (v :: vs) S2 with
        | some (w, S3) => .ok w S3
        | none => .bad
      | .ex c as S2 => .ex c as S2
      | .bad => .bad
      else .bad
    | r => r) R e (fun _ _ _ => rfl) rfl (by unfold ev at h; exact h) fun v S1 x H1 io1 _ a1 R1 e1 r1 q => ?_
  dsimp only at q
  by_cases hr : recvOk S1 .replace v = true
  · rw [if_pos hr] at q
    have hs : ∃ w, v = .p (.str w) := by
      unfold recvOk at hr
      split at hr
      · exact ⟨_, rfl⟩
      · cases hr
      · cases hr
      · cases hr
    obtain ⟨w, rfl⟩ := hs
    replace q : RC T X.K bo n0 io1 H1 (WE W sg) Q (match ((if w.length + (w.length + 1) * z.length ≤ 16777216 ∧ (y == z) = false then some (PyData.str (Txt.replace w y z)) else none).map fun d => (Val.p d, S1)) with
        | some (w, S3) => .ok w S3
        | none => .bad) := q
    split at q
    · rename_i w' S3 hw
      split at hw
      · rename_i hz
        cases hw
        cases r1 with
        | p r1 =>
          cases r1
          exact ⟨w, rfl, hz.1, q _ H1 io1 Ext.refl R1 (.p (.str _))⟩
      · cases hw
    · exact q.elim
  · rw [if_neg hr] at q
    exact q.elim
theorem st_retT {x : E} {a : Expr} {p : Pos} (h : PET X a (tE C T X.K (callN C n) W x)) : PST X (.Return (some a) p) (tS C T X.K (callN C n) W (.ret x)) :=
  PST.mono (pst_ret h) fun D sg H ⟨bo, n0, io, S, env, R, e, h⟩ => sbind (D := D) (k := fun r => match r with
    | .ok v S1 => .rt v S1
    | .ex c as S1 => .ex c as env S1
    | .bad => .bad) R e (fun _ _ _ => rfl) rfl (by unfold evS at h; exact h) fun v S1 y H1 io1 _ a R1 e1 r1 q => q y H1 io1 Ext.refl R1 r1
theorem st_ifT {x : E} {a : Expr} {p : Pos} {s1 s2 : List St} {b1 b2 : List Stmt} (h : PT X a (tT C T X.K (callN C n) W x)) (h1 : PSsT X b1 (tB C T X.K (callN C n) W s1)) (h2 : PSsT X b2 (tB C T X.K (callN C n) W s2)) : PST X (.If a b1 b2 p) (tS C T X.K (callN C n) W (.ifs x s1 s2)) :=
  PST.mono (pst_if h h1 h2) fun D sg H ⟨bo, n0, io, S, env, R, e, h⟩ => by
    refine sbindT (D := D) (k := fun r => match r with
      | .ok v S1 => match truV S1 v with
        | some true => evB C (callN C n) s1 env S1
        | some false => evB C (callN C n) s2 env S1
        | none => .bad
      | .ex c as S1 => .ex c as env S1
      | .bad => .bad) R e (fun _ _ _ => rfl) rfl (by unfold evS at h; exact h) (fun v S1 ht => by simp only [ht]) fun v S1 k H1 io1 _ ht ax R1 e1 q => ?_
    dsimp only at q
    rw [ht] at q
    cases k with
    | true => exact ⟨bo, n0, io1, S1, env, R1, e1, q⟩
    | false => exact ⟨bo, n0, io1, S1, env, R1, e1, q⟩
theorem stb_consT {s : St} {ss : List St} {y : Stmt} {ys : List Stmt} (h1 : PST X y (tS C T X.K (callN C n) W s)) (h2 : PSsT X ys (tB C T X.K (callN C n) W ss)) : PSsT X (y :: ys) (tB C T X.K (callN C n) W (s :: ss)) :=
  PSsT.mono (psst_cons h1 h2) fun D sg H h => tB_cons h
theorem stb_nilT : PSsT X [] (tB C T X.K (callN C n) W []) := PSsT.mono psst_nil fun D sg H h => tB_nil (h := h)
end
/-! ### the look, one token out -/
def replA : Expr → Option (Expr × Str × Str × Bool)
  | .Call (.Attribute a name ap) [.Constant (.str y) _ _, .Constant (.str z) _ _] [] cp => if name == ("replace" : Str) && noSup a && ap.endLine == cp.line && !(y == z) then some (a, y, z, true) else none
  | _ => none
theorem replA_ok {e a : Expr} {y z : Str} {b : Bool} (h : replA e = some (a, y, z, b)) : ∃ ap j c0 k c1 cp, e = .Call (.Attribute a "replace" ap) [.Constant (.str y) j c0, .Constant (.str z) k c1] [] cp ∧ noSup a = true ∧ (ap.endLine == cp.line) = true ∧ (y == z) = false := by
  unfold replA at h
  split at h
  · split at h
    · rename_i hb
      cases h
      simp only [Bool.and_eq_true, Bool.not_eq_true'] at hb
      obtain ⟨⟨⟨h1, h2⟩, h3⟩, h4⟩ := hb
      have e1 := eq_of_beq h1
      subst e1
      exact ⟨_, _, _, _, _, _, rfl, h2, h3, h4⟩
    · cases h
  · cases h
mutual
def chkX (C : Cfg) (N : List Str) (sc : Scope) : E → Expr → Bool
  | .meth false .replace o [.lit (.str y), .lit (.str z)], e => match replA e with
    | some (a, y', z', _) => y == y' && z == z' && chk C N true o sc a
    | none => false
  | .op .lst us, e => match lstA e with
    | some es => chkXL C N sc us es
    | none => false
  | .op .ix [u, v], e => match subA e with
    | some [a, b] => chkX C N sc u a && chk C N true v sc b && plainIxB b
    | _ => false
  | e, a => chk C N true e sc a
def chkXL (C : Cfg) (N : List Str) (sc : Scope) : List E → List Expr → Bool
  | [], [] => true
  | u :: us, e :: es => !isStar e && (chk C N true u sc e || chkX C N sc u e) && chkXL C N sc us es
  | _, _ => false
end
mutual
def chkY (C : Cfg) (N : List Str) (sc : Scope) : St → Stmt → Bool
  | .ret x, .Return (some a) _ => chkX C N sc x a
  | .ifs x s1 s2, .If a b1 b2 _ => chk C N true x sc a && chkYB C N sc s1 b1 && chkYB C N sc s2 b2
  | _, _ => false
def chkYB (C : Cfg) (N : List Str) (sc : Scope) : List St → List Stmt → Bool
  | [], [] => true
  | s :: ss, y :: ys => (chkS C N sc true s y || chkY C N sc s y) && chkYB C N sc ss ys
  | _, _ => false
end
section
variable {X : Cx} {C : Cfg} {T : Tb} {n : Nat} {N : List Str} {sc raw : Scope} {W : WX}
mutual
theorem soundX (A : Facts) (g : Good X C T n N sc raw W true) : ∀ (u : E) (e : Expr), chkX C N sc u e = true → PET X e (tE C T X.K (callN C n) W u) := fun u e h => by
  unfold chkX at h
  split at h
  · rename_i o y z
    split at h
    · rename_i a y' z' b hr
      obtain ⟨ap, j, c0, k, c1, cp, rfl, h2, h3, h4⟩ := replA_ok hr
      simp only [Bool.and_eq_true] at h
      obtain ⟨⟨h5, h6⟩, h7⟩ := h
      have e1 := eq_of_beq h5
      have e2 := eq_of_beq h6
      subst e1 e2
      exact pet_repl' (sound A o g h7).1 h2 h3 h4
    · cases h
  · rename_i us
    split at h
    · rename_i es hl
      obtain ⟨p, rfl⟩ := lstA_ok hl
      obtain ⟨hp, hs⟩ := soundXL A g us es h
      exact pet_lst' hp hs
    · cases h
  · rename_i u v
    split at h
    · rename_i a b hl
      obtain ⟨a', b', p, rfl, e2, hb⟩ := subA_ok hl
      cases e2
      simp only [Bool.and_eq_true] at h
      exact pet_ix' (soundX A g u a h.1.1) (sound A v g h.1.2).1 (plainIx_ok hb)
    · cases h
  · exact PET.of (sound A _ g h).1
termination_by u => sizeOf u
theorem soundXL (A : Facts) (g : Good X C T n N sc raw W true) : ∀ (us : List E) (es : List Expr), chkXL C N sc us es = true → Paired (PET X) es (us.map (tE C T X.K (callN C n) W)) ∧ es.all (fun e => !isStar e) = true
  | [], es, h => by
    cases es with
    | nil => exact ⟨.nil, rfl⟩
    | cons _ _ => simp [chkXL] at h
  | u :: us, es, h => by
    cases es with
    | nil => simp [chkXL] at h
    | cons e es =>
      simp only [chkXL, Bool.and_eq_true, Bool.or_eq_true] at h
      obtain ⟨⟨h0, h1⟩, h2⟩ := h
      obtain ⟨hp, hs⟩ := soundXL A g us es h2
      refine ⟨.cons ?_ hp, by simp only [List.all_cons, Bool.and_eq_true]; exact ⟨h0, hs⟩⟩
      rcases h1 with h1 | h1
      · exact PET.of (sound A u g h1).1
      · exact soundX A g u e h1
termination_by us => sizeOf us
end
mutual
theorem soundY (A : Facts) (g : GoodS X C T n N sc W true) : ∀ (u : St) (e : Stmt), chkY C N sc u e = true → PST X e (tS C T X.K (callN C n) W u)
  | .ret x, e, h => by
    cases e with
    | Return o p =>
      cases o with
      | none => simp [chkY] at h
      | some a =>
        simp only [chkY] at h
        exact st_retT (soundX A g.toGood x a h)
    | _ => simp [chkY] at h
  | .ifs x s1 s2, e, h => by
    cases e with
    | If a b1 b2 p =>
      simp only [chkY, Bool.and_eq_true] at h
      exact st_ifT (sound A x g.toGood h.1.1).2 (soundYB A g s1 b1 h.1.2) (soundYB A g s2 b2 h.2)
    | _ => simp [chkY] at h
  | .asg _ _, e, h => by simp [chkY] at h
  | .par _ _, e, h => by simp [chkY] at h
  | .setIx _ _ _, e, h => by simp [chkY] at h
  | .swapIx _ _ _ _ _ _, e, h => by simp [chkY] at h
  | .aug _ _ _, e, h => by simp [chkY] at h
  | .expr _, e, h => by simp [chkY] at h
  | .retN, e, h => by simp [chkY] at h
  | .for _ _ _ _, e, h => by simp [chkY] at h
  | .while _ _, e, h => by simp [chkY] at h
  | .raise _ _, e, h => by simp [chkY] at h
  | .tryAs _ _ _ _, e, h => by simp [chkY] at h
  | .pass, e, h => by simp [chkY] at h
  | .brk, e, h => by simp [chkY] at h
  | .cont, e, h => by simp [chkY] at h
theorem soundYB (A : Facts) (g : GoodS X C T n N sc W true) : ∀ (us : List St) (es : List Stmt), chkYB C N sc us es = true → PSsT X es (tB C T X.K (callN C n) W us)
  | [], es, h => by
    cases es with
    | nil => exact stb_nilT
    | cons _ _ => simp [chkYB] at h
  | u :: us, es, h => by
    cases es with
    | nil => simp [chkYB] at h
    | cons e es =>
      simp only [chkYB, Bool.and_eq_true, Bool.or_eq_true] at h
      refine stb_consT ?_ (soundYB A g us es h.2)
      rcases h.1 with h1 | h1
      · exact PST.of (soundS A u g h1)
      · exact soundY A g u e h1
end
end
/-- a def's body, a token out (the library's fn_ofT, turned to FnG) -/
theorem fn_ofTG {P : Program} {w : World} {K : PySem.W.Frag} {mg : Str → Option Value} {base : Heap} {k : Nat} {f : Addr} {name qual : Str} {params : Arguments} {body : List Stmt} {scope : Scope} {dV kV doc pm cdv ct oc : Value} {an od : Option Addr}
    {osl : Array (Option Value)} {N ps : List Str} {sp : Sp} (lk : K.lookup f = some ⟨oc, od, .func (PySem.W.fnOf name qual params body scope dV kV doc pm an cdv ct), osl⟩) (hcd : PySem.W.codeIn K cdv qual = true) (S : FnScope N ps scope)
    (hnc : ∀ y ∈ scope.names, y.2 ≠ .cell) (hps : 1 ≤ ps.length) (len : ∀ vs H Q E, sp vs H Q E → vs.length = ps.length)
    (hbody : ∀ (A : Around) (outer : List Env) (s : Shared) (H : Hp) (vs : List V) (Q : VK) (E : XK), RoomG k (A.deeper (envOfC qual scope s.heap.objs.size f cdv)) → sp vs H Q E →
      ∃ t, PSsT (cxOf (L2.CX P w) P w K mg base N qual scope f cdv A outer s H E) body t ∧ t { nx := fun _ H' => Q .non H', rt := Q } (start N vs) H) :
    FnG P w K mg base (k + 1) f (PySem.W.fnOf name qual params body scope dV kV doc pm an cdv ct) ps sp := by
  refine ⟨len, fun A outer s H args us vs Q E hr e0 hb r hsp => ?_⟩
  have hl := len _ _ _ _ hsp
  have hul : us.length = ps.length := by rw [← r.length, hl]
  have KX : K.In s.heap := e0.mod.kin.keeps fun b o e => (e0.bs b o e).1
  have lim : s.heap.NoLimit := e0.mod.nolimit.keeps fun b o e => (e0.bs b o e).1
  have hloc : ∀ y ∈ ps.zip us, scope.names.lookup y.1 = some .local := fun ⟨n, v⟩ hy => by
    rcases S.par n (List.of_mem_zip hy).1 with q | q
    · exact q
    · exact absurd rfl (hnc _ (PySem.mem_of_lookup q))
  refine codeAny_call_function hr.room.depth (KX _ _ lk) rfl S.co S.gen rfl (PySem.W.codeRec_of KX hcd) (hb _ _ _ _ ?_)
  refine wpAny_newFunctionEnv hnc hloc (fun h1 hns hsb => ?_) S.kind
  have hz : (ps.zip us).length = ps.length := by rw [List.length_zip, hul, Nat.min_self]
  have keep : ∀ b o, s.heap.get? b = some o → h1.get? b = some o := fun b o e => hsb.extBut b o (Nat.ne_of_lt (Heap.lt_size e)) (Heap.get?_push_of_some _ e)
  have hcl : cellsFrom (s.heap.objs.size + 1) scope.names [] = [] := cells_none _ _ _ hnc
  have hkl : ∀ y ∈ ps.zip us, (envOfC qual scope s.heap.objs.size f cdv).kindOf y.1 = some .local := fun y hy => by
    first
    | exact hloc y hy
    | (simp only [Env.kindOf]; exact hloc y hy)
    | (unfold Env.kindOf; rw [if_pos S.kind]; exact hloc y hy)
    | simpa [Env.kindOf, envOfC, newEnv, S.kind] using hloc y hy
  have hm : (bindL (envOfC qual scope s.heap.objs.size f cdv).kindOf (ps.zip us) fun _ => none) = fun x => (ps.zip us).reverse.lookup x := by
    funext y
    rw [bindL_loc _ _ hkl y]
    cases (ps.zip us).reverse.lookup y <;> rfl
  have x : InCallC s s.heap.objs.size (bindL (envOfC qual scope s.heap.objs.size f cdv).kindOf (ps.zip us) fun _ => none) (cellsFrom (s.heap.objs.size + 1) scope.names [])
      (bindC (envOfC qual scope s.heap.objs.size f cdv).kindOf (ps.zip us) fun _ => none) ({ s with heap := h1, toks := s.toks + (ps.zip us).length } : Shared) := by
    rw [hm, hcl]
    exact ⟨⟨⟨_, _, rfl⟩, hns, keep, Nat.le_refl _⟩, fun n c hc => absurd hc (by simp), .nil, fun n c hc => absurd hc (by simp)⟩
  have henv : newEnv scope s.heap.objs.size mainGlobals [] (qual ++ ".<locals>.") (some f) cdv none builtinsNs = envOfC qual scope s.heap.objs.size f cdv := by
    unfold envOfC
    rw [hcl] <;> rfl
  have hto : 1 ≤ ({ s with heap := h1, toks := s.toks + (ps.zip us).length } : Shared).toks := by
    show 1 ≤ s.toks + (ps.zip us).length
    omega
  show ({ s with heap := h1, toks := s.toks + (ps.zip us).length } : Shared).heap.NoLimit ∧ codeAny (model P w) A (.func body (newEnv scope s.heap.objs.size mainGlobals [] (qual ++ ".<locals>.") (some f) cdv none builtinsNs)) _ ({ s with heap := h1, toks := s.toks + (ps.zip us).length } : Shared)
  rw [henv]
  generalize ({ s with heap := h1, toks := s.toks + (ps.zip us).length } : Shared) = s1 at x hto ⊢
  refine ⟨lim.keeps x.toInCall.keep, codeAny_func ?_⟩
  obtain ⟨t, ht, hq⟩ := hbody A outer s H vs Q E (hr.deeper _) hsp
  have I : Inv (cxOf (L2.CX P w) P w K mg base N qual scope f cdv A outer s H E) [] (start N vs) H s1 := inv_start S hr.room.hd e0 hl r x
  refine wpAny_mono (ht [] s1 (start N vs) H _ hto I hq) (fun fl s' hs => ?_) fun e s' hs => hs
  have fin : ∀ {σ' : L2.St} {H' : Hp} {v : V} {u : Value}, L2.Inv (cxOf (L2.CX P w) P w K mg base N qual scope f cdv A outer s H E) [] σ' H' s' → RelV v u → Q v H' → CE outer P w H s Q u s' :=
    fun {σ' H' v u} J rv q => ⟨v, H', J.os, J.bare, J.base, J.hok, rv, q⟩
  cases fl with
  | ret u =>
    obtain ⟨v, σ', H', J, rv, q⟩ := hs
    exact fin J rv q
  | next =>
    obtain ⟨σ', H', J, q⟩ := hs
    exact fin (v := V.non) (u := Value.none) J rfl q
  | brk =>
    obtain ⟨_, _, _, q⟩ := hs
    exact False.elim q
  | cont =>
    obtain ⟨_, _, _, q⟩ := hs
    exact False.elim q

section
variable {P : Program} {w : World} {K : PySem.W.Frag} {mg : Str → Option Value} {base : Heap} {C : Cfg} {T : Tb}
theorem body_ok {n f : Nat} {d : DefI} (hd : C.defs[f]? = some d) {vs : List V} {H : Hp} {Q : VK} {E : XK} (h : spF C T K (n + 1) f d.ps.length vs H Q E) : tB C T K (callN C n) (fun cls dd _ H' => E cls dd H') d.body { nx := fun _ H' => Q .non H', rt := Q } (L2.start d.N vs) H := by
  obtain ⟨hl, bo, n0, io, St, ws, R, rv, rc⟩ := h
  have e1 : callN C (n + 1) f ws St = callD C (callN C n) d ws St := by
    show (match C.defs[f]? with
      | some d => callD C (callN C n) d ws St
      | none => .bad) = _
    rw [hd]
  rw [e1] at rc
  unfold callD at rc
  by_cases hp : ws.length ≠ d.ps.length
  · rw [if_pos hp] at rc
    exact rc.elim
  rw [if_neg hp] at rc
  have hp' : ws.length = d.ps.length := Decidable.not_not.mp hp
  cases hls : locsOf ws with
  | none => rw [hls] at rc; exact rc.elim
  | some ls =>
    rw [hls] at rc
    dsimp only at rc
    by_cases hnd : ls.Nodup
    · rw [if_pos hnd] at rc
      cases hc : cellsAt St ls with
      | none => rw [hc] at rc; exact rc.elim
      | some S0 =>
        rw [hc] at rc
        dsimp only at rc
        have hlt : ∀ i ∈ ls, i < io.length := fun i hi => by
          obtain ⟨j, e⟩ := List.mem_iff_getElem?.mp hi
          rw [R.len]
          exact ((cellsAt_ok hc).2 j i e).2
        have hlen : ∀ {io1 : List Addr} {H1 : Hp} {S1 : Store}, Ext (ioOf io ls) H io1 H1 → Rep K (bnO bo io) ls.length io1 S1 H1 → ls.length ≤ S1.length := fun {io1 H1 S1} a R1 => by
          obtain ⟨m, e⟩ := a.pre
          rw [← R1.len, e, List.length_append, (ioOf_ok hlt).1]
          omega
        refine ⟨bnO bo io, ls.length, ioOf io ls, S0, _, rep_in R hnd hc, env_in R hc hls rv hp', ?_⟩
        cases hx1 : evB C (callN C n) d.body ((ws.map fun v => some (inV ls v)) ++ List.replicate (d.N.length - d.ps.length) none) S0 with
        | bad => rw [hx1] at rc; exact rc.elim
        | bk env1 S1 => rw [hx1] at rc; exact rc.elim
        | ct env1 S1 => rw [hx1] at rc; exact rc.elim
        | nx env1 S1 =>
          rw [hx1] at rc
          intro sg1 H1 io1 a1 R1 e2
          exact rc .non H1 (ioAf d.keep ls io io1) (ext_out R hlt a1 R1) (rep_out R hnd hlt (hlen a1 R1) a1 R1) (.p .non)
        | rt v S1 =>
          rw [hx1] at rc
          dsimp only at rc
          cases ho : outT d.keep ls.length St.length ls S1 v with
          | none => rw [ho] at rc; exact rc.elim
          | some u =>
            rw [ho] at rc
            intro x H1 io1 a1 R1 r1
            exact rc x H1 (ioAf d.keep ls io io1) (ext_out R hlt a1 R1) (rep_out R hnd hlt (hlen a1 R1) a1 R1) (outT_ok R hlt a1 R1 ho r1)
        | ex c as env1 S1 =>
          rw [hx1] at rc
          dsimp only at rc
          cases ho : outVs d.keep ls.length St.length ls S1 as with
          | none => rw [ho] at rc; exact rc.elim
          | some bs =>
            rw [ho] at rc
            intro sg1 H1 io1 dd a1 R1 e2 ra
            refine rc H1 (ioAf d.keep ls io io1) dd (ext_out R hlt a1 R1) (rep_out R hnd hlt (hlen a1 R1) a1 R1) ?_
            rcases ra with ⟨h1, h2⟩ | ⟨a, nm, v, x, h1, h2, h3, h4⟩
            · subst h2
              cases ho
              exact .inl ⟨h1, rfl⟩
            · subst h3
              have hd2 := dens_out R hlt a1 R1 ho (.cons h4 .nil)
              cases hd2 with
              | cons r rs =>
                cases rs
                exact .inr ⟨a, nm, v, _, h1, h2, rfl, r⟩
    · rw [if_neg hnd] at rc
      exact rc.elim

/-- a def that wants a token -/
def DTok (K : PySem.W.Frag) (C : Cfg) (T : Tb) (f : Nat) (d : DefI) : Prop :=
  ∃ (oc : Value) (od : Option Addr) (osl : Array (Option Value)) (name qual : Str) (params : Arguments) (body : List Stmt) (scope : Scope) (dV kV doc pm : Value) (an : Option Addr) (cdv ct : Value),
    K.lookup (T.fa f) = some ⟨oc, od, .func (PySem.W.fnOf name qual params body scope dV kV doc pm an cdv ct), osl⟩ ∧ PySem.W.codeIn K cdv qual = true ∧ FnScope d.N d.ps scope ∧ (∀ y ∈ scope.names, y.2 ≠ .cell) ∧ 1 ≤ d.ps.length ∧ chkYB C d.N scope d.body body = true ∧
    Binds K (PySem.W.fnOf name qual params body scope dV kV doc pm an cdv ct) d.ps []
theorem tok_hand (A : Facts) (M : MFacts K mg C T) (hx : T.xa = []) {f : Nat} {d : DefI} (hd : C.defs[f]? = some d) (h : DTok K C T f d) : DHand P w K mg base C T f d := by
  obtain ⟨oc, od, osl, name, qual, params, body, scope, dV, kV, doc, pm, an, cdv, ct, lk, hcd, S, hnc, hps, hchk, hb⟩ := h
  refine ⟨_, ⟨_, _, _, lk⟩, hb, fun n F => fn_ofTG lk hcd S hnc hps (fun vs H Q E h => h.1) fun A0 outer s H vs Q E hr h => ?_⟩
  exact ⟨_, soundYB A (good_def (P := P) (w := w) (base := base) (A := A0) (outer := outer) (s := s) (H := H) (E := E) (qual := qual) (f := T.fa f) (cd := cdv) M hx F S hr) d.body body hchk, body_ok hd h⟩
end
end Ev

/-! Ev31: what the module's end is asked; from it the facts of the small language. -/
namespace Ev
open PySem PySem.Spec PyProof.Rows L2 He

/-- a name's address -/
def faC (C : Cfg) (K : PySem.W.Frag) (f : Nat) : Addr := match C.defs[f]? with
  | some d => ga K d.name
  | none => 0
def caC (C : Cfg) (K : PySem.W.Frag) (c : Nat) : Addr := match C.clss[c]? with
  | some i => ga K i.name
  | none => 0
def tbC (C : Cfg) (K : PySem.W.Frag) : Tb := ⟨faC C K, caC C K, []⟩
mutual
def denB (K : PySem.W.Frag) (u : Value) : PyData → Bool
  | .none => relB .non u
  | .bool b => relB (.bl b) u
  | .int i => relB (.int i) u
  | .str x => relB (.str x) u
  | .tuple ds => match u with
    | .ref a => (match K.lookup a with
      | some ⟨.type c, _, .seq its _, _⟩ => decide (c = "tuple") && (decide (its.size ≤ sizeLine) && denBs K its.toList ds)
      | _ => false)
    | _ => false
  | .list ds => match u with
    | .ref a => (match K.lookup a with
      | some ⟨.type c, none, .seq its _, _⟩ => decide (c = "list") && (decide (its.size ≤ sizeLine) && denBs K its.toList ds)
      | _ => false)
    | _ => false
  | .dict _ => false
def denBs (K : PySem.W.Frag) : List Value → List PyData → Bool
  | [], [] => true
  | u :: us, d :: ds => denB K u d && denBs K us ds
  | _, _ => false
end
mutual
theorem denB_ok {K : PySem.W.Frag} : ∀ (d : PyData) (u : Value), denB K u d = true → ∃ v, RelV v u ∧ ∀ bn H, Den K bn H v d
  | .none, u, h => ⟨.non, relB_ok (by unfold denB at h; exact h), fun _ _ => .non⟩
  | .bool b, u, h => ⟨.bl b, relB_ok (by unfold denB at h; exact h), fun _ _ => .bl b⟩
  | .int i, u, h => ⟨.int i, relB_ok (by unfold denB at h; exact h), fun _ _ => .int i⟩
  | .str x, u, h => ⟨.str x, relB_ok (by unfold denB at h; exact h), fun _ _ => .str x⟩
  | .dict _, u, h => by
    unfold denB at h
    cases h
  | .tuple ds, u, h => by
    unfold denB at h
    split at h
    · rename_i a
      split at h
      · rename_i c od its n osl q
        obtain ⟨h1, h2⟩ := ba h
        obtain ⟨h3, h4⟩ := ba h2
        obtain ⟨vs, r, hd⟩ := denBs_ok ds _ h4
        exact ⟨.ref a, rfl, fun bn H => .tup (.inr ⟨_, its, n, q, congrArg Value.type (of_decide_eq_true h1), rfl, of_decide_eq_true h3, r⟩) (hd bn H)⟩
      · cases h
    · cases h
  | .list ds, u, h => by
    unfold denB at h
    split at h
    · rename_i a
      split at h
      · rename_i c its n osl q
        obtain ⟨h1, h2⟩ := ba h
        obtain ⟨h3, h4⟩ := ba h2
        obtain ⟨vs, r, hd⟩ := denBs_ok ds _ h4
        exact ⟨.ref a, rfl, fun bn H => .lst (.inr ⟨_, its, n, q, congrArg Value.type (of_decide_eq_true h1), rfl, rfl, of_decide_eq_true h3, r⟩) (hd bn H)⟩
      · cases h
    · cases h
theorem denBs_ok {K : PySem.W.Frag} : ∀ (ds : List PyData) (us : List Value), denBs K us ds = true → ∃ vs, Vals vs us ∧ ∀ bn H, Dens K bn H vs ds
  | [], [], _ => ⟨[], .nil, fun _ _ => .nil⟩
  | [], _ :: _, h => by simp [denBs] at h
  | _ :: _, [], h => by simp [denBs] at h
  | d :: ds, u :: us, h => by
    unfold denBs at h
    obtain ⟨h1, h2⟩ := ba h
    obtain ⟨v, r, hd⟩ := denB_ok d u h1
    obtain ⟨vs, rs, hds⟩ := denBs_ok ds us h2
    exact ⟨v :: vs, .cons r rs, fun bn H => .cons (hd bn H) (hds bn H)⟩
end
/-- an own exception class without an __init__ -/
def clsB (C : Cfg) (K : PySem.W.Frag) (i : ClsI) : Bool :=
  eqO (PySem.W.nsIn K mainGlobals i.name) (some (some (.ref (ga K i.name)))) && (PySem.W.keepIn K (.ref (ga K i.name)) &&
  (decide (PySem.W.typeIn K (.ref (ga K i.name)) = some (.type "type")) && (PySem.W.excIn K (ga K i.name) veBase "ValueError.__new__" &&
  ((eqO (PySem.W.findIn K (.ref (ga K i.name)) "__getattribute__") (some (some (.builtin "BaseException.__getattribute__"))) && (eqO (PySem.W.findIn K (.ref (ga K i.name)) "__getattr__") (some none) &&
  (decide (PySem.W.subIn K (.ref (ga K i.name)) (.type "BaseException") = some true) && (PySem.W.hasDictIn K (ga K i.name) && (eqO (PySem.W.findIn K (.ref (ga K i.name)) "__class__") (some (some (.builtin "object.__class__"))) &&
  (eqO (PySem.W.specialIn K (.builtin "object.__class__") "__get__") (some (some (.builtin "getset_descriptor.__get__"))) && (decide (PySem.W.takesIn K (.builtin "object.__class__") = some true) && decide (PySem.W.mroIn K (ga K i.name) (.type "object") = some true)))))))) &&
  C.clss.zipIdx.all fun p => decide (PySem.W.kitOne K (.ref (ga K i.name)) (.ref (ga K p.1.name)) = some (i.anc.contains p.2)) && decide (PySem.W.exmOne K (.ref (ga K i.name)) (.ref (ga K p.1.name)) = some (i.anc.contains p.2))))))
def consB (K : PySem.W.Frag) (p : Str × PyData) : Bool := match PySem.W.nsIn K mainGlobals p.1 with
  | some (some u) => denB K u p.2
  | _ => false
def factB (C : Cfg) (K : PySem.W.Frag) : Bool :=
  (C.defs.all fun d => eqO (PySem.W.nsIn K mainGlobals d.name) (some (some (.ref (ga K d.name)))) && PySem.W.keepIn K (.ref (ga K d.name))) && ((C.clss.all fun i => clsB C K i) && ((C.free.all fun x => eqO (PySem.W.nsIn K mainGlobals x) (some none)) && C.cons.all fun p => consB K p))
theorem clsB_ok {C : Cfg} {K : PySem.W.Frag} {h : Heap} {mg : Str → Option Value} (X : K.In h) (G : h.Ns mainGlobals mg) {c : Nat} {i : ClsI} (hi : C.clss[c]? = some i) (b : clsB C K i = true) : ClsF K mg C (tbC C K) c i := by
  have e : (tbC C K).ca c = ga K i.name := by
    show caC C K c = _
    unfold caC
    rw [hi]
  unfold clsB at b
  obtain ⟨b1, b⟩ := ba b
  obtain ⟨b2, b⟩ := ba b
  obtain ⟨b3, b⟩ := ba b
  obtain ⟨b4, b⟩ := ba b
  obtain ⟨b5, b6⟩ := ba b
  obtain ⟨c1, c⟩ := ba b5
  obtain ⟨c2, c⟩ := ba c
  obtain ⟨c3, c⟩ := ba c
  obtain ⟨c4, c⟩ := ba c
  obtain ⟨c5, c⟩ := ba c
  obtain ⟨c6, c⟩ := ba c
  obtain ⟨c7, c8⟩ := ba c
  refine ⟨?_, ?_, ?_, ?_, ?_, fun d j hj => ?_⟩
  · rw [e]; exact PySem.W.mg_of X G (eqO_ok b1)
  · rw [e]; exact b2
  · rw [e]; exact ⟨eqO_ok c1, eqO_ok c2, of_decide_eq_true c3, c4, eqO_ok c5, eqO_ok c6, of_decide_eq_true c7, of_decide_eq_true c8⟩
  · rw [e]; exact of_decide_eq_true b3
  · rw [e]; exact ⟨_, _, _, _, PySem.F.excBase_ValueError, b4⟩
  · have e2 : (tbC C K).ca d = ga K j.name := by
      show caC C K d = _
      unfold caC
      rw [hj]
    have z := List.all_eq_true.mp b6 (j, d) (by
      rw [List.mem_zipIdx_iff_getElem?]
      exact hj)
    obtain ⟨z1, z2⟩ := ba z
    rw [e, e2]
    exact ⟨of_decide_eq_true z1, of_decide_eq_true z2⟩
theorem factB_ok {C : Cfg} {K : PySem.W.Frag} {h : Heap} {mg : Str → Option Value} (X : K.In h) (G : h.Ns mainGlobals mg) (b : factB C K = true) : MFacts K mg C (tbC C K) := by
  unfold factB at b
  obtain ⟨b1, b⟩ := ba b
  obtain ⟨b2, b⟩ := ba b
  obtain ⟨b3, b4⟩ := ba b
  refine ⟨fun f d hd => ?_, fun c i hi => clsB_ok X G hi (List.all_eq_true.mp b2 i (List.mem_of_getElem? hi)), fun x hx => PySem.W.mg_none_of X G (eqO_ok (List.all_eq_true.mp b3 x hx)), fun p hp => ?_⟩
  · have e : (tbC C K).fa f = ga K d.name := by
      show faC C K f = _
      unfold faC
      rw [hd]
    obtain ⟨z1, z2⟩ := ba (List.all_eq_true.mp b1 d (List.mem_of_getElem? hd))
    rw [e]
    exact ⟨PySem.W.mg_of X G (eqO_ok z1), z2⟩
  · have z := List.all_eq_true.mp b4 p hp
    unfold consB at z
    split at z
    · rename_i u q
      obtain ⟨v, r, hd⟩ := denB_ok p.2 u z
      exact ⟨u, v, PySem.W.mg_of X G q, r, hd⟩
    · cases z
/-! ### the Hook -/
def obsV (C : Cfg) (fn : List DefD) (K : PySem.W.Frag) : AlD := (factB C K && fn.all fun d => d.ok K, fn.map fun d => fnW K d.at_)
def obsVG (n : Nat) (C : Cfg) (fn : List DefD) (g : Addr → Option Obj) : AlD := obsV C fn (frG g (asD g n))
def hookV (n : Nat) (C : Cfg) (fn : List DefD) : PySem.W.Hook where
  α := AlD
  obs := fun s => obsVG n C fn s.heap.get?
  val := fun _ => valD fn
  says := fun _ h => ∃ K : PySem.W.Frag, K.In h ∧ obsV C fn K = valD fn
  of := fun _ _ e => ⟨_, frG_in, e⟩
  keeps := fun _ _ _ ⟨K, hK, c⟩ k => ⟨K, PySem.W.Frag.In.keeps hK k, c⟩
theorem obsVG_eq {n : Nat} {C : Cfg} {fn : List DefD} {g : Addr → Option Obj} {s : Shared} (h : ∀ a, g a = s.heap.get? a) : obsVG n C fn g = (hookV n C fn).obs s := by
  have e : g = s.heap.get? := funext h
  rw [e] <;> rfl
section
variable {C : Cfg} {fn : List DefD} {K : PySem.W.Frag}
theorem says_fact (c : obsV C fn K = valD fn) : factB C K = true := (ba (show (factB C K && fn.all fun d => d.ok K) = true from congrArg (fun z : AlD => z.1) c)).1
theorem says_def (c : obsV C fn K = valD fn) {i : Nat} {d : DefD} (h : fn[i]? = some d) : ∃ fd, FunD K d.name d.qual d.params d.body d.scope (d.dvs K) (d.kws K) (fAd K d.at_) fd := by
  have c2 := (ba (show (factB C K && fn.all fun d => d.ok K) = true from congrArg (fun z : AlD => z.1) c)).2
  have e : fn.map (fun d => fnW K d.at_) = fn.map DefD.val := congrArg (fun z : AlD => z.2) c
  have e2 : (fn.map fun d => fnW K d.at_)[i]? = (fn.map DefD.val)[i]? := by rw [e]
  rw [List.getElem?_map, List.getElem?_map, h] at e2
  exact DefD.funD (Option.some.inj e2) (List.all_eq_true.mp c2 d (List.mem_of_getElem? h))
end
end Ev

/-! Ev32: the facts of all defs, from the looks at their texts. -/
namespace Ev
open PySem PySem.Spec PyProof.Rows L2 He C8

/-- a def's parameters, bound -/
def BindN (x : DefD) (ps : List Str) : Prop := ∀ (kV doc pm : Value) (an : Option Addr) (cdv ct : Value) (us : List Value), us.length = ps.length → bindArgs (PySem.W.fnOf x.name x.qual x.params x.body x.scope .none kV doc pm an cdv ct) ⟨us, []⟩ = pure (ps.zip us)
def noCell (sc : Scope) : Bool := sc.names.all fun y => !decide (y.2 = .cell)
structure DOk (C : Cfg) (d : DefI) (x : DefD) : Prop where
  at_ : x.at_ = (d.name, none)
  dfl : x.dfl = []
  chk : chkB C d.N x.scope true d.body x.body = true ∨ (noCell x.scope && decide (1 ≤ d.ps.length) && chkYB C d.N x.scope d.body x.body) = true
  sc : scC d.N d.ps x.scope = true
  bind : BindN x d.ps
inductive All2 {α β : Type} (R : α → β → Prop) : List α → List β → Prop
  | nil : All2 R [] []
  | cons {a : α} {b : β} {as : List α} {bs : List β} : R a b → All2 R as bs → All2 R (a :: as) (b :: bs)
theorem All2.get {α β : Type} {R : α → β → Prop} {as : List α} {bs : List β} (h : All2 R as bs) : ∀ (i : Nat) (a : α), as[i]? = some a → ∃ b, bs[i]? = some b ∧ R a b := by
  induction h with
  | nil => intro i a e; simp at e
  | cons r _ ih =>
    intro i a e
    cases i with
    | zero =>
      simp at e
      subst e
      exact ⟨_, by simp, r⟩
    | succ i =>
      obtain ⟨b, h1, h2⟩ := ih i a (by simpa using e)
      exact ⟨b, by simpa using h1, h2⟩
theorem All2.append {α β : Type} {R : α → β → Prop} {as as' : List α} {bs bs' : List β} (h : All2 R as bs) (h' : All2 R as' bs') : All2 R (as ++ as') (bs ++ bs') := by
  induction h with
  | nil => exact h'
  | cons r _ ih => exact .cons r ih
theorem defs_ok {C : Cfg} {fn : List DefD} (h : All2 (DOk C) C.defs fn) {K : PySem.W.Frag} {hp : Heap} {w : World} {P : Program} {mg : Str → Option Value} (X : K.In hp) (G : hp.Ns mainGlobals mg) (c : obsV C fn K = valD fn) (base : Heap) (n : Nat) :
    MFacts K mg C (tbC C K) ∧ FFacts P w K mg base C (tbC C K) n := by
  have M := factB_ok X G (says_fact c)
  refine ⟨M, fns_ok facts M rfl (fun f d hd => ?_) n⟩
  obtain ⟨x, hx, q⟩ := h.get f d hd
  obtain ⟨fd, F⟩ := says_def c hx
  have ea : fAd K x.at_ = (tbC C K).fa f := by
    rw [q.at_]
    show ga K d.name = faC C K f
    unfold faC
    rw [hd]
  have hz : x.dvs K = [] := by
    unfold DefD.dvs
    rw [q.dfl]
    rfl
  rw [hz] at F
  have hb := F.bindsN q.bind
  obtain ⟨oc, od, dV, kV, doc, pm, an, cdv, ct, osl, rfl, lk, hcd, hD, hK⟩ := F.ex
  rw [ea] at lk
  rcases q.chk with hc | hc
  · exact .inl ⟨oc, od, osl, x.name, x.qual, x.params, x.body, x.scope, dV, kV, doc, pm, an, cdv, ct, lk, hcd, fnScope_by q.sc, hc, hb⟩
  · simp only [Bool.and_eq_true, decide_eq_true_eq] at hc
    obtain ⟨⟨h1, h2⟩, h3⟩ := hc
    refine .inr (tok_hand facts M rfl hd ⟨oc, od, osl, x.name, x.qual, x.params, x.body, x.scope, dV, kV, doc, pm, an, cdv, ct, lk, hcd, fnScope_by q.sc, fun y hy => ?_, h2, h3, hb⟩)
    have z := List.all_eq_true.mp h1 y hy
    simpa using z
end Ev

namespace Hd
open PySem PySem.Spec PyProof.Rows L2 Ev I
abbrev P0 : Program := PySem.Challenge.pw_spareskept_k81_row_texts
def top (i : Nat) : Stmt := P0.main.body.getD i (.Pass ⟨0, 0, 0, 0⟩)
def dd (x : Str) (i : Nat) : He.DefD := ⟨(x, none), x, x, defArgs (top i), defBody (top i), defScope (top i), [], []⟩

def x0 : He.DefD := dd (d_is_whole).name 13
def x1 : He.DefD := dd (d_is_between).name 14
def x2 : He.DefD := dd (d_is_name).name 15
def x3 : He.DefD := dd (d_is_ascending).name 16
def x4 : He.DefD := dd (d_are_values).name 17
def x5 : He.DefD := dd (d_is_row).name 18
def x6 : He.DefD := dd (d_have_one_width).name 19
def x7 : He.DefD := dd (d_are_rows).name 20
def x8 : He.DefD := dd (d_is_rowset).name 21
def x9 : He.DefD := dd (d_parse_integer).name 27
def x10 : He.DefD := dd (d_parse_values).name 28
def x11 : He.DefD := dd (d_write_row).name 29
def x12 : He.DefD := dd (d_write_rowset).name 30
def x13 : He.DefD := dd (d_require_string).name 31
def x14 : He.DefD := dd (d_format_row).name 32
def x15 : He.DefD := dd (d_format_rowset).name 33
def x16 : He.DefD := dd (d_scan_row).name 34
def x17 : He.DefD := dd (d_parse_row).name 35
def x18 : He.DefD := dd (d_parse_rowset).name 36
def x19 : He.DefD := dd (d__law_stream).name 38
def x20 : He.DefD := dd (d__law_draw).name 39
def x21 : He.DefD := dd (d__law_name).name 40
def x22 : He.DefD := dd (d__law_rowset).name 41
def x23 : He.DefD := dd (d__law_integer).name 42
def x24 : He.DefD := dd (d__law_row_text).name 43
def x25 : He.DefD := dd (d__law_rowset_text).name 44
def x26 : He.DefD := dd (d__law_scan_row).name 45
def x27 : He.DefD := dd (d__law_parsed).name 46
def x28 : He.DefD := dd (d__law_changed_text).name 47
def x29 : He.DefD := dd (d__law_call_result).name 48
def x30 : He.DefD := dd (d__law_texts_correct).name 49
def x31 : He.DefD := dd (d_law).name 50
theorem ok0 : DOk C d_is_whole x0 := ⟨rfl, rfl, .inl (by decide +kernel), by decide +kernel, fun kV doc pm an cdv ct us hl => by
  match us, hl with
  | [u0], _ => rfl⟩
theorem ok1 : DOk C d_is_between x1 := ⟨rfl, rfl, .inl (by decide +kernel), by decide +kernel, fun kV doc pm an cdv ct us hl => by
  match us, hl with
  | [u0, u1, u2], _ => rfl⟩
theorem ok2 : DOk C d_is_name x2 := ⟨rfl, rfl, .inl (by decide +kernel), by decide +kernel, fun kV doc pm an cdv ct us hl => by
  match us, hl with
  | [u0], _ => rfl⟩
theorem ok3 : DOk C d_is_ascending x3 := ⟨rfl, rfl, .inl (by decide +kernel), by decide +kernel, fun kV doc pm an cdv ct us hl => by
  match us, hl with
  | [u0], _ => rfl⟩
theorem ok4 : DOk C d_are_values x4 := ⟨rfl, rfl, .inl (by decide +kernel), by decide +kernel, fun kV doc pm an cdv ct us hl => by
  match us, hl with
  | [u0], _ => rfl⟩
theorem ok5 : DOk C d_is_row x5 := ⟨rfl, rfl, .inl (by decide +kernel), by decide +kernel, fun kV doc pm an cdv ct us hl => by
  match us, hl with
  | [u0], _ => rfl⟩
theorem ok6 : DOk C d_have_one_width x6 := ⟨rfl, rfl, .inl (by decide +kernel), by decide +kernel, fun kV doc pm an cdv ct us hl => by
  match us, hl with
  | [u0], _ => rfl⟩
theorem ok7 : DOk C d_are_rows x7 := ⟨rfl, rfl, .inl (by decide +kernel), by decide +kernel, fun kV doc pm an cdv ct us hl => by
  match us, hl with
  | [u0], _ => rfl⟩
theorem ok8 : DOk C d_is_rowset x8 := ⟨rfl, rfl, .inl (by decide +kernel), by decide +kernel, fun kV doc pm an cdv ct us hl => by
  match us, hl with
  | [u0], _ => rfl⟩
theorem ok9 : DOk C d_parse_integer x9 := ⟨rfl, rfl, .inl (by decide +kernel), by decide +kernel, fun kV doc pm an cdv ct us hl => by
  match us, hl with
  | [u0], _ => rfl⟩
theorem ok10 : DOk C d_parse_values x10 := ⟨rfl, rfl, .inl (by decide +kernel), by decide +kernel, fun kV doc pm an cdv ct us hl => by
  match us, hl with
  | [u0], _ => rfl⟩
theorem ok11 : DOk C d_write_row x11 := ⟨rfl, rfl, .inl (by decide +kernel), by decide +kernel, fun kV doc pm an cdv ct us hl => by
  match us, hl with
  | [u0], _ => rfl⟩
theorem ok12 : DOk C d_write_rowset x12 := ⟨rfl, rfl, .inl (by decide +kernel), by decide +kernel, fun kV doc pm an cdv ct us hl => by
  match us, hl with
  | [u0], _ => rfl⟩
theorem ok13 : DOk C d_require_string x13 := ⟨rfl, rfl, .inl (by decide +kernel), by decide +kernel, fun kV doc pm an cdv ct us hl => by
  match us, hl with
  | [u0], _ => rfl⟩
theorem ok14 : DOk C d_format_row x14 := ⟨rfl, rfl, .inl (by decide +kernel), by decide +kernel, fun kV doc pm an cdv ct us hl => by
  match us, hl with
  | [u0], _ => rfl⟩
theorem ok15 : DOk C d_format_rowset x15 := ⟨rfl, rfl, .inl (by decide +kernel), by decide +kernel, fun kV doc pm an cdv ct us hl => by
  match us, hl with
  | [u0], _ => rfl⟩
theorem ok16 : DOk C d_scan_row x16 := ⟨rfl, rfl, .inl (by decide +kernel), by decide +kernel, fun kV doc pm an cdv ct us hl => by
  match us, hl with
  | [u0], _ => rfl⟩
theorem ok17 : DOk C d_parse_row x17 := ⟨rfl, rfl, .inl (by decide +kernel), by decide +kernel, fun kV doc pm an cdv ct us hl => by
  match us, hl with
  | [u0], _ => rfl⟩
theorem ok18 : DOk C d_parse_rowset x18 := ⟨rfl, rfl, .inl (by decide +kernel), by decide +kernel, fun kV doc pm an cdv ct us hl => by
  match us, hl with
  | [u0], _ => rfl⟩
theorem ok19 : DOk C d__law_stream x19 := ⟨rfl, rfl, .inl (by decide +kernel), by decide +kernel, fun kV doc pm an cdv ct us hl => by
  match us, hl with
  | [u0, u1], _ => rfl⟩
theorem ok20 : DOk C d__law_draw x20 := ⟨rfl, rfl, .inl (by decide +kernel), by decide +kernel, fun kV doc pm an cdv ct us hl => by
  match us, hl with
  | [u0, u1], _ => rfl⟩
theorem ok21 : DOk C d__law_name x21 := ⟨rfl, rfl, .inl (by decide +kernel), by decide +kernel, fun kV doc pm an cdv ct us hl => by
  match us, hl with
  | [u0, u1], _ => rfl⟩
theorem ok22 : DOk C d__law_rowset x22 := ⟨rfl, rfl, .inl (by decide +kernel), by decide +kernel, fun kV doc pm an cdv ct us hl => by
  match us, hl with
  | [u0, u1, u2], _ => rfl⟩
theorem ok23 : DOk C d__law_integer x23 := ⟨rfl, rfl, .inl (by decide +kernel), by decide +kernel, fun kV doc pm an cdv ct us hl => by
  match us, hl with
  | [u0], _ => rfl⟩
theorem ok24 : DOk C d__law_row_text x24 := ⟨rfl, rfl, .inl (by decide +kernel), by decide +kernel, fun kV doc pm an cdv ct us hl => by
  match us, hl with
  | [u0], _ => rfl⟩
theorem ok25 : DOk C d__law_rowset_text x25 := ⟨rfl, rfl, .inl (by decide +kernel), by decide +kernel, fun kV doc pm an cdv ct us hl => by
  match us, hl with
  | [u0], _ => rfl⟩
theorem ok26 : DOk C d__law_scan_row x26 := ⟨rfl, rfl, .inl (by decide +kernel), by decide +kernel, fun kV doc pm an cdv ct us hl => by
  match us, hl with
  | [u0], _ => rfl⟩
theorem ok27 : DOk C d__law_parsed x27 := ⟨rfl, rfl, .inl (by decide +kernel), by decide +kernel, fun kV doc pm an cdv ct us hl => by
  match us, hl with
  | [u0, u1], _ => rfl⟩
theorem ok28 : DOk C d__law_changed_text x28 := ⟨rfl, rfl, .inr (by decide +kernel), by decide +kernel, fun kV doc pm an cdv ct us hl => by
  match us, hl with
  | [u0, u1], _ => rfl⟩
theorem ok29 : DOk C d__law_call_result x29 := ⟨rfl, rfl, .inl (by decide +kernel), by decide +kernel, fun kV doc pm an cdv ct us hl => by
  match us, hl with
  | [u0, u1], _ => rfl⟩
theorem ok30 : DOk C d__law_texts_correct x30 := ⟨rfl, rfl, .inl (by decide +kernel), by decide +kernel, fun kV doc pm an cdv ct us hl => by
  match us, hl with
  | [u0, u1, u2], _ => rfl⟩
theorem ok31 : DOk C d_law x31 := ⟨rfl, rfl, .inl (by decide +kernel), by decide +kernel, fun kV doc pm an cdv ct us hl => by
  match us, hl with
  | [u0], _ => rfl⟩
def fn : List He.DefD := [x0, x1, x2, x3, x4, x5, x6, x7, x8, x9, x10, x11, x12, x13, x14, x15, x16, x17, x18, x19, x20, x21, x22, x23, x24, x25, x26, x27, x28, x29, x30, x31]
theorem oks : All2 (DOk C) C.defs fn := .cons ok0 (.cons ok1 (.cons ok2 (.cons ok3 (.cons ok4 (.cons ok5 (.cons ok6 (.cons ok7 (.cons ok8 (.cons ok9 (.cons ok10 (.cons ok11 (.cons ok12 (.cons ok13 (.cons ok14 (.cons ok15 (.cons ok16 (.cons ok17 (.cons ok18 (.cons ok19 (.cons ok20 (.cons ok21 (.cons ok22 (.cons ok23 (.cons ok24 (.cons ok25 (.cons ok26 (.cons ok27 (.cons ok28 (.cons ok29 (.cons ok30 (.cons ok31 .nil)))))))))))))))))))))))))))))))
abbrev R : PySem.W.OpenRow := PySem.W.OpenLaw.row PySem.Challenge.rw_spareskept_k81_row_texts
abbrev hk : PySem.W.Hook := hookV 4 C fn
def ob (s : PySem.W.SharedT) : He.AlD := obsVG 4 C fn (HandSHeadRun.getT s)
theorem ob_eq (s : PySem.W.SharedT) : ob s = hk.obs s.abs := obsVG_eq (HandSHeadRun.getT_eq s)

def nm0 : List PySem.Str := [PySem.Str.ofString "SparesError", PySem.Str.ofString "InvalidRow", PySem.Str.ofString "InvalidRowset", PySem.Str.ofString "ParseError", PySem.Str.ofString "MAX_ROWS", PySem.Str.ofString "MAX_WIDTH", PySem.Str.ofString "MAX_COST", PySem.Str.ofString "MAX_VALUE", PySem.Str.ofString "MAX_EXPIRY", PySem.Str.ofString "MAX_LETTERS", PySem.Str.ofString "LETTERS", PySem.Str.ofString "is_whole", PySem.Str.ofString "is_between", PySem.Str.ofString "is_name", PySem.Str.ofString "is_ascending", PySem.Str.ofString "are_values", PySem.Str.ofString "is_row", PySem.Str.ofString "have_one_width", PySem.Str.ofString "are_rows", PySem.Str.ofString "is_rowset", PySem.Str.ofString "DIGITS", PySem.Str.ofString "MAX_DIGITS", PySem.Str.ofString "NONE", PySem.Str.ofString "ROW_SEPARATOR", PySem.Str.ofString "parse_integer"]
def nm1 : List PySem.Str := [PySem.Str.ofString "parse_values", PySem.Str.ofString "write_row", PySem.Str.ofString "write_rowset", PySem.Str.ofString "require_string", PySem.Str.ofString "format_row", PySem.Str.ofString "format_rowset", PySem.Str.ofString "scan_row", PySem.Str.ofString "parse_row", PySem.Str.ofString "parse_rowset", PySem.Str.ofString "_law_stream", PySem.Str.ofString "_law_draw", PySem.Str.ofString "_law_name", PySem.Str.ofString "_law_rowset", PySem.Str.ofString "_law_integer", PySem.Str.ofString "_law_row_text", PySem.Str.ofString "_law_rowset_text", PySem.Str.ofString "_law_scan_row", PySem.Str.ofString "_law_parsed", PySem.Str.ofString "_law_changed_text", PySem.Str.ofString "_law_call_result", PySem.Str.ofString "_law_texts_correct"]
def nm : List PySem.Str := nm0 ++ nm1
theorem run (w : World) : HandSHeadRun.RunEq R (PySem.W.view R.prog [50]) hk ob 4000 nm w := by
  intro os
  kernel_rfl
end Hd

open PySem PySem.W PySem.Calls PyProof.Rows
theorem PySem.Challenge.cw_spareskept_k81_row_texts_holds : PySem.Challenge.rw_spareskept_k81_row_texts.Holds := by
  w_on; o_law
  refine HandSHeadRun.head_any (r := OpenLaw.row PySem.Challenge.rw_spareskept_k81_row_texts) (q := view (OpenLaw.row PySem.Challenge.rw_spareskept_k81_row_texts).prog [50]) (H := Hd.hk) (ob := Hd.ob) (M := 4000) (loose := Hd.nm) (d := HandSHeadRun.topDef (OpenLaw.row PySem.Challenge.rw_spareskept_k81_row_texts).prog 50) (kwd := []) Hd.ob_eq
    (by kernel_rfl) (fun s => by kernel_rfl) Hd.run (by kernel_rfl) (by kernel_rfl) (by kernel_rfl) (by rfl) (by first | assumption | decide +kernel) (by decide +kernel) ⟨rfl, rfl, rfl, rfl, rfl, by decide +kernel⟩ ?hw ?hc
  case hw => w_witness2
  case hc =>
    refine Ev.walk_Ev (l := PySem.Challenge.rw_spareskept_k81_row_texts) (n := 63) (k := 200) (L := I.f_law) (x := "script") (C := I.C) (dl := I.d_law) rfl (by decide) (by kernel_rfl) ⟨rfl, by decide, by decide⟩ rfl (by kernel_rfl) rfl ?F (fun ns _ _ => My.law (k := 187) (ns := ns))
    intro w mg h Y G
    obtain ⟨K, KX, c⟩ := Y
    exact ⟨K, Ev.tbC I.C K, KX, (Ev.defs_ok (P := PySem.Challenge.rw_spareskept_k81_row_texts.prog) (w := w) Hd.oks KX G c h 200).1, rfl, fun base h1 h2 => (Ev.defs_ok (w := w) Hd.oks h1 h2 c base 200).2⟩
