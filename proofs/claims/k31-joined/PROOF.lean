import PyProof.Rows.All
import Wide.All
import OpenK.AllK
import Wide.FinOn
import KE.KStateDown
import Lean
import HandS.Base
import HandS.Call
import HandS.List
import HandS.Comp
import HandS.Ends
import HandS.Dict
import HandS.Iter
import HandS.Text
import HandS.More
import HandS.Exc
import HandS.TryOnly
import HandS.ExcOwn
import HandS.Words
import HandS.WordsList
import HandS.WordsDict
import HandS.WordsExc
import HandS.Defaults
import HandS.Deep
import HandS.TupAny
import HandS.TupMul
import HandS.DictComp
import HandS.StrMore
import HandS.IsInst
import HandS.Strs
import HandS.SetKeys
import HandS.Conv
import HandS.Zip
import HandS.Walk
import HandS.CallLocal
import HandS.CallSlots
import HandS.Flow
import HandS.Head0
import HandS.Head1
import HandS.Head2
import HandS.HeadEnd
import HandS.HeadHook1
import HandS.HeadHook2
import HandS.HeadHook3
import HandS.HeadHook4
import KE.GoesEnum
import KE.KDictZip
import HandS.HeadWalk
import HandS.Small
import PyProof.ExcBaseAll.ValueError
import PySem.Challenge.RW_takeapart_k31_whole_joined
set_option Elab.async false
set_option linter.all false
set_option maxRecDepth 100000
/-! MiCore: a mirror of a part of Python: values, a store of things that change, expressions, statements, an interpreter. -/
namespace Mi
open PySem L2

/-- a value; lst: a list that nobody changes; loc: a thing of the store; nam: what a name of the module holds; exc: an exception of that class; cdic: a table of the module; slst: a list that is locked for good (the script) -/
inductive MV where
  | non
  | bl (b : Bool)
  | int (i : Int)
  | str (x : Str)
  | tup (xs : List MV)
  | lst (xs : List MV)
  | loc (n : Nat)
  | nam (x : Str)
  | exc (c : Str)
  | cdic (kvs : List (Str × MV))
  | slst (xs : List MV)
  deriving Inhabited

/-- what stands in the store; f..: locked while it is walked -/
inductive MO where
  | lst (xs : List MV)
  | dic (kvs : List (Str × MV))
  | ins (c : Str) (fs : List (Str × MV))
  | flst (xs : List MV)
  | fdic (kvs : List (Str × MV))
  deriving Inhabited

abbrev Store := List MO
abbrev Env := List (Option MV)

inductive Res (α : Type) where
  | ok (a : α) (st : Store)
  | exc (c : Str) (st : Store)
  | err
  deriving Inhabited

def Res.bind {α β : Type} (r : Res α) (f : α → Store → Res β) : Res β := match r with
  | .ok a st => f a st
  | .exc c st => .exc c st
  | .err => .err

/-- a def: of the module, of a class -/
inductive FK where
  | fn (x : Str)
  | me (c m : Str)
  deriving DecidableEq

abbrev Fn := FK → List MV → Store → Res MV

/-! ### tables -/
section
variable {α : Type}
def dget (kvs : List (Str × α)) (k : Str) : Option α := (kvs.find? fun kv => decide (kv.1 = k)).map (·.2)
def dput (kvs : List (Str × α)) (k : Str) (v : α) : List (Str × α) :=
  if (kvs.any fun kv => decide (kv.1 = k)) = true then kvs.map (fun kv => if kv.1 = k then (kv.1, v) else kv) else kvs ++ [(k, v)]
def ddel (kvs : List (Str × α)) (k : Str) : List (Str × α) := kvs.filter fun kv => decide (kv.1 ≠ k)
/-- a field stored -/
def fput (f : Str) (v : α) : List (Str × α) → List (Str × α)
  | [] => [(f, v)]
  | (g, x) :: r => if g = f then (g, v) :: r else (g, x) :: fput f v r
def dmerge (kvs more : List (Str × α)) : List (Str × α) := more.foldl (fun acc kv => dput acc kv.1 kv.2) kvs
end

/-- the largest size -/
abbrev lim : Nat := 16777216

/-! ### reading through the store -/
/-- the items of a list or a tuple -/
def seqOf (st : Store) : MV → Option (List MV)
  | .tup xs => some xs
  | .lst xs => some xs
  | .slst xs => some xs
  | .loc n => match st[n]? with
    | some (.lst xs) => some xs
    | some (.flst xs) => some xs
    | _ => none
  | _ => none
/-- a list that is not locked -/
def lstS (st : Store) : MV → Option (List MV)
  | .lst xs => some xs
  | .loc n => match st[n]? with
    | some (.lst xs) => some xs
    | _ => none
  | _ => none
def lstOf (st : Store) : MV → Option (List MV)
  | .lst xs => some xs
  | .loc n => match st[n]? with
    | some (.lst xs) => some xs
    | some (.flst xs) => some xs
    | _ => none
  | _ => none
def tupSeq (st : Store) : MV → Option (List MV)
  | .tup xs => some xs
  | v => lstOf st v
/-- a table of the store -/
def dicL (st : Store) : MV → Option (List (Str × MV))
  | .loc n => match st[n]? with
    | some (.dic kvs) => some kvs
    | some (.fdic kvs) => some kvs
    | _ => none
  | _ => none
def dicOf (st : Store) : MV → Option (List (Str × MV))
  | .loc n => match st[n]? with
    | some (.dic kvs) => some kvs
    | some (.fdic kvs) => some kvs
    | _ => none
  | .cdic kvs => some kvs
  | _ => none

/-- a value as data, through at most so many lists and tuples -/
def dataOf (st : Store) : Nat → MV → Option PyData
  | 0, _ => none
  | _ + 1, .non => some .none
  | _ + 1, .bl b => some (.bool b)
  | _ + 1, .int i => some (.int i)
  | _ + 1, .str x => some (.str x)
  | d + 1, .tup xs => (xs.mapM (dataOf st d)).map PyData.tuple
  | d + 1, .lst xs => (xs.mapM (dataOf st d)).map PyData.list
  | d + 1, .slst xs => (xs.mapM (dataOf st d)).map PyData.list
  | d + 1, .loc n => match st[n]? with
    | some (.lst xs) => (xs.mapM (dataOf st d)).map PyData.list
    | some (.flst xs) => (xs.mapM (dataOf st d)).map PyData.list
    | _ => none
  | _ + 1, .nam _ => none
  | _ + 1, .exc _ => none
  | _ + 1, .cdic _ => none

/-- flat values, and == of them -/
def flat : MV → Bool
  | .non => true
  | .bl _ => true
  | .int _ => true
  | .str _ => true
  | _ => false
def eqF : MV → MV → Bool
  | .non, .non => true
  | .bl a, .bl b => a == b
  | .bl a, .int b => (if a then 1 else 0) == b
  | .int a, .bl b => a == (if b then 1 else 0)
  | .int a, .int b => a == b
  | .str a, .str b => a == b
  | _, _ => false

/-- two tables with flat values, compared: as many pairs, each found -/
def eqDic (a b : List (Str × MV)) : Bool := decide (a.length = b.length) && a.all fun kv => match dget b kv.1 with
  | some v => eqF kv.2 v
  | none => false

def eqMV (st : Store) (a b : MV) : Option Bool :=
  match dicL st a, dicL st b with
  | some ka, some kb => if (ka.all fun kv => flat kv.2) && (kb.all fun kv => flat kv.2) then some (eqDic ka kb) else none
  | _, _ => match dataOf st 65 a, dataOf st 65 b with
    | some d, some e => if d.canLay0 && e.canLay0 && decide (d.depth ≤ 64) && decide (e.depth ≤ 64) then some (PyData.eqv d e) else none
    | _, _ => none

def cut {α : Type} (xs : List α) (lo hi : Option Int) : List α := (xs.drop (HT.sIx xs.length 0 lo)).take (HT.sIx xs.length xs.length hi - HT.sIx xs.length 0 lo)

def chars (x : Str) : List MV := x.cps.toList.map fun c => .str ⟨#[c]⟩
def fixedSeq : MV → Option (List MV)
  | .tup xs => some xs
  | .lst xs => some xs
  | .str x => some (chars x)
  | _ => none
def enumL (xs : List MV) : List MV := xs.zipIdx.map fun p => .tup [.int p.2, p.1]
def zipL (xs ys : List MV) : List MV := (xs.zip ys).map fun p => .tup [p.1, p.2]
/-! ### operations -/
inductive Op where
  | add | sub | mul | fdiv | mod | pow
  | eq | ne | lt | le | gt | ge | inn | notin | isN | notN
  | ix | slL | slU | slC (i j : Int) | rev | neg
  | tup | lst (pure : Bool)
  | len | all | any | sum | max1 | max2 | min2 | int1 | str1 | dict1 (pure : Bool) | list1 (pure : Bool) | tuple1
  | lenset | sorted | sortedset | isStr | isInt | isBool | isTup | isList
  | disp | dictzip | listzip (pure : Bool) | isExc (c : Str)
  deriving DecidableEq

def new (o : MO) (st : Store) : Res MV := .ok (.loc st.length) (st ++ [o])
def newL (pure : Bool) (xs : List MV) (st : Store) : Res MV := if pure then .ok (.lst xs) st else new (.lst xs) st
def okB (b : Bool) (st : Store) : Res MV := .ok (.bl b) st


def lexLt : List Nat → List Nat → Bool
  | [], [] => false
  | [], _ :: _ => true
  | _ :: _, [] => false
  | a :: as, b :: bs => if a < b then true else if b < a then false else lexLt as bs
def strLt (a b : Str) : Bool := lexLt a.cps.toList b.cps.toList
def insS (a : Str) : List Str → List Str
  | [] => [a]
  | b :: r => if strLt b a then b :: insS a r else a :: b :: r
def sortS (xs : List Str) : List Str := xs.foldr insS []
def strsOf (xs : List MV) : Option (List Str) := xs.mapM fun | .str x => some x | _ => none
def intsOf (xs : List MV) : Option (List Int) := xs.mapM fun | .int x => some x | _ => none
def bools (xs : List MV) : Option (List Bool) := xs.mapM fun | .bl x => some x | _ => none
def pairsOf (xs : List MV) : Option (List (Str × MV)) := xs.mapM fun | .tup [.str k, v] => some (k, v) | _ => none
/-- key, value, key, value, .. -/
def dispOf : List MV → Option (List (Str × MV))
  | [] => some []
  | .str k :: v :: r => (dispOf r).map fun l => (k, v) :: l
  | _ => none
def maxL : List Int → Option Int
  | [] => none
  | a :: r => some (r.foldl (fun m x => if x > m then x else m) a)

def addL (a b : MV) (st : Store) : Res MV := match lstS st a, lstS st b with
  | some xs, some ys => if xs.length + ys.length ≤ lim then .ok (.lst (xs ++ ys)) st else .err
  | _, _ => .err
def addOp (a b : MV) (st : Store) : Res MV := match a, b with
  | .int i, .int j => .ok (.int (i + j)) st
  | .str x, .str y => if x.length + y.length ≤ lim then .ok (.str (x ++ y)) st else .err
  | .tup xs, .tup ys => if xs.length + ys.length ≤ lim then .ok (.tup (xs ++ ys)) st else .err
  | a, b => addL a b st
def mulOp (a b : MV) (st : Store) : Res MV := match a, b with
  | .int i, .int j => if (-(2 ^ 64) < i ∧ i < 2 ^ 64) ∨ (-(2 ^ 64) < j ∧ j < 2 ^ 64) then .ok (.int (i * j)) st else .err
  | .tup xs, .int j => if 2 ≤ j ∧ j ≤ 1000 ∧ xs.length ≤ 1000 then .ok (.tup (List.replicate j.toNat xs).flatten) st else .err
  | .lst xs, .int j => if 0 ≤ j ∧ j < 2 ^ 62 ∧ xs.length * j.toNat ≤ lim then .ok (.lst (List.replicate j.toNat xs).flatten) st else .err
  | _, _ => .err
def isNon : MV → Bool
  | .non => true
  | _ => false
/-- None or a dict -/
def flatD (st : Store) (v : MV) : Bool := isNon v || (dicOf st v).isSome
def inSeq (a : MV) (xs : List MV) (st : Store) : Option Bool := if flat a && xs.all flat then some (xs.any fun y => eqF y a) else if isNon a && xs.all (flatD st) then some (xs.any isNon) else none
def inDic (a : MV) (kvs : List (Str × MV)) : Option Bool := match a with
  | .str k => some (dget kvs k).isSome
  | _ => none
def inStr (a : MV) (y : Str) : Option Bool := match a with
  | .str x => some (!(Builtin.Str.occurrences y x 0 y.length 1).isEmpty)
  | _ => none
def inObj (a b : MV) (st : Store) : Option Bool := match dicOf st b with
  | some kvs => inDic a kvs
  | none => match seqOf st b with
    | some xs => inSeq a xs st
    | none => none
def inOp (a b : MV) (st : Store) : Option Bool := match b with
  | .str y => inStr a y
  | b => inObj a b st
def ixStr (x : Str) (i : Int) (st : Store) : Res MV := if x.length ≤ lim then (match atI x.cps.toList i with
  | some c => .ok (.str ⟨#[c]⟩) st
  | none => .err) else .err
def ixSeq (a : MV) (i : Int) (st : Store) : Res MV := match seqOf st a with
  | some xs => (match atI xs i with
    | some v => .ok v st
    | none => .err)
  | none => .err
def ixDic (a : MV) (k : Str) (st : Store) : Res MV := match dicOf st a with
  | some kvs => (match dget kvs k with
    | some v => .ok v st
    | none => .err)
  | none => .err
def ixOp (a i : MV) (st : Store) : Res MV := match i with
  | .int i => (match a with
    | .str x => ixStr x i st
    | a => ixSeq a i st)
  | .str k => ixDic a k st
  | _ => .err
def slL (a : MV) (lo hi : Option Int) (st : Store) : Res MV := match lstOf st a with
  | some xs => .ok (.lst (cut xs lo hi)) st
  | none => .err
def slOp (a : MV) (lo hi : Option Int) (st : Store) : Res MV := match a with
  | .tup xs => .ok (.tup (cut xs lo hi)) st
  | a => slL a lo hi st
def revOp (a : MV) (st : Store) : Res MV := match a with
  | .tup xs => .ok (.tup xs.reverse) st
  | _ => .err
def lenObj (a : MV) (st : Store) : Res MV := match seqOf st a with
  | some xs => .ok (.int xs.length) st
  | none => match dicL st a with
    | some kvs => .ok (.int kvs.length) st
    | none => .err
def lenOp (a : MV) (st : Store) : Res MV := match a with
  | .str x => if x.length ≤ lim then .ok (.int x.length) st else .err
  | a => lenObj a st

def isOp (t : Op) (a : MV) (st : Store) : Option Bool := match a with
  | .non => some false
  | .bl _ => some (t == .isInt || t == .isBool)
  | .int _ => some (t == .isInt)
  | .str _ => some (t == .isStr)
  | .tup _ => some (t == .isTup)
  | .lst _ => some (t == .isList)
  | .loc n => (match st[n]? with
    | some (.lst _) => some (t == .isList)
    | some (.flst _) => some (t == .isList)
    | some (.dic _) => some false
    | some (.fdic _) => some false
    | _ => none)
  | _ => none

def ofB (o : Option Bool) (st : Store) : Res MV := match o with
  | some b => .ok (.bl b) st
  | none => .err

def runOp (o : Op) (vs : List MV) (st : Store) : Res MV := match o, vs with
  | .add, [a, b] => addOp a b st
  | .sub, [.int i, .int j] => .ok (.int (i - j)) st
  | .mul, [a, b] => mulOp a b st
  | .fdiv, [.int i, .int j] => if 0 < j ∧ j < 1073741824 then .ok (.int (i / j)) st else .err
  | .mod, [.int i, .int j] => if 0 < j then .ok (.int (i % j)) st else .err
  | .pow, [.int i, .int j] => if 0 ≤ j ∧ j ≤ 1000000 ∧ i.natAbs < 2 ^ 64 then .ok (.int (i ^ j.toNat)) st else .err
  | .eq, [a, b] => ofB (eqMV st a b) st
  | .ne, [a, b] => ofB ((eqMV st a b).map (!·)) st
  | .lt, [.int i, .int j] => okB (decide (i < j)) st
  | .le, [.int i, .int j] => okB (decide (i ≤ j)) st
  | .gt, [.int i, .int j] => okB (decide (j < i)) st
  | .ge, [.int i, .int j] => okB (decide (j ≤ i)) st
  | .inn, [a, b] => ofB (inOp a b st) st
  | .notin, [a, b] => ofB ((inOp a b st).map (!·)) st
  | .isN, [a] => okB (match a with | .non => true | _ => false) st
  | .notN, [a] => okB (match a with | .non => false | _ => true) st
  | .ix, [a, i] => ixOp a i st
  | .slL, [a, .int i] => slOp a (some i) none st
  | .slU, [a, .int j] => slOp a none (some j) st
  | .slC i j, [a] => slOp a (some i) (some j) st
  | .rev, [a] => revOp a st
  | .neg, [.int i] => .ok (.int (-i)) st
  | .tup, vs => if vs.length ≤ lim then .ok (.tup vs) st else .err
  | .lst p, vs => if vs.length ≤ lim then newL p vs st else .err
  | .len, [a] => lenOp a st
  | .all, [a] => ofB (((lstOf st a).bind bools).map (·.all id)) st
  | .any, [a] => ofB (((lstOf st a).bind bools).map (·.any id)) st
  | .sum, [a] => (match (lstOf st a).bind intsOf with
    | some ns => .ok (.int ns.sum) st
    | none => .err)
  | .max1, [a] => (match ((lstOf st a).bind intsOf).bind maxL with
    | some m => .ok (.int m) st
    | none => .err)
  | .max2, [.int i, .int j] => .ok (.int (if j > i then j else i)) st
  | .min2, [.int i, .int j] => .ok (.int (if j < i then j else i)) st
  | .int1, [.int i] => .ok (.int i) st
  | .int1, [.bl b] => .ok (.int (if b then 1 else 0)) st
  | .str1, [.int i] => if i.natAbs.log2 < 1920 then .ok (.str (toString i)) st else .err
  | .str1, [.str x] => .ok (.str x) st
  | .dict1 _, [a] => (match dicL st a with
    | some kvs => new (.dic kvs) st
    | none => match (lstOf st a).bind pairsOf with
      | some kvs => new (.dic (dmerge [] kvs)) st
      | none => .err)
  | .list1 p, [a] => (match seqOf st a with
    | some xs => newL p xs st
    | none => match dicL st a with
      | some kvs => newL p (kvs.map fun kv => .str kv.1) st
      | none => .err)
  | .tuple1, [a] => (match tupSeq st a with
    | some xs => .ok (.tup xs) st
    | none => .err)
  | .lenset, [.tup vs] => (match strsOf vs with
    | some xs => if xs.length ≤ 1000 then .ok (.int xs.eraseDups.length) st else .err
    | none => .err)
  | .sorted, [a] => (match (lstOf st a).bind strsOf with
    | some xs => if xs.length < 64 then .ok (.lst ((sortS xs).map MV.str)) st else .err
    | none => .err)
  | .sortedset, [a] => (match (lstOf st a).bind strsOf with
    | some xs => if xs.length < 64 then .ok (.lst ((sortS xs.eraseDups).map MV.str)) st else .err
    | none => .err)
  | .isStr, [a] => ofB (isOp .isStr a st) st
  | .isInt, [a] => ofB (isOp .isInt a st) st
  | .isBool, [a] => ofB (isOp .isBool a st) st
  | .isTup, [a] => ofB (isOp .isTup a st) st
  | .isList, [a] => ofB (isOp .isList a st) st
  | .dictzip, [.tup xs, .tup ys] => (match strsOf xs with
    | some ks => new (.dic (dmerge [] (ks.zip ys))) st
    | none => .err)
  | .listzip p, [a, b] => (match fixedSeq a, fixedSeq b with
    | some xs, some ys => newL p (zipL xs ys) st
    | _, _ => .err)
  | .disp, vs => (match dispOf vs with
    | some kvs => if kvs.length ≤ 15 then new (.dic (dmerge [] kvs)) st else .err
    | none => .err)
  | .isExc c, [.exc d] => okB (decide (c = d) || decide (c = "ApartError") || decide (c = "ValueError")) st
  | _, _ => .err

/-! ### methods of lists, dicts, texts -/
inductive Me where
  | append | extend | popL | popAt | reverse | index | count
  | get1 | get2 | pop1 | pop2 | setdefault | update | clear
  | strip | split | join
  deriving DecidableEq
inductive Kd where
  | l | d | s
  deriving DecidableEq
def Me.kd : Me → Kd
  | .append | .extend | .popL | .popAt | .reverse | .index | .count => .l
  | .get1 | .get2 | .pop1 | .pop2 | .setdefault | .update | .clear => .d
  | .strip | .split | .join => .s
def kdOk (k : Kd) (a : MV) (st : Store) : Bool := match k with
  | .l => (lstOf st a).isSome
  | .d => match a with
    | .loc n => (match st[n]? with
      | some (.dic _) => true
      | _ => false)
    | _ => false
  | .s => match a with
    | .str _ => true
    | _ => false

def setLst (n : Nat) (xs : List MV) (v : MV) (st : Store) : Res MV := .ok v (st.set n (.lst xs))
def setDic (n : Nat) (kvs : List (Str × MV)) (v : MV) (st : Store) : Res MV := .ok v (st.set n (.dic kvs))

def runMe (m : Me) (o : MV) (vs : List MV) (st : Store) : Res MV := match m, o, vs with
  | .append, .loc n, [v] => (match st[n]? with
    | some (.lst xs) => if xs.length < lim then setLst n (xs ++ [v]) .non st else .err
    | _ => .err)
  | .extend, .loc n, [v] => (match st[n]?, lstS st v with
    | some (.lst xs), some ys => if xs.length + ys.length ≤ lim then setLst n (xs ++ ys) .non st else .err
    | _, _ => .err)
  | .popL, .loc n, [] => (match st[n]? with
    | some (.lst xs) => (match xs.getLast? with
      | some v => setLst n xs.dropLast v st
      | none => .err)
    | _ => .err)
  | .popAt, .loc n, [.int i] => (match st[n]? with
    | some (.lst xs) => (match ixN xs.length i, atI xs i with
      | some j, some v => setLst n (xs.eraseIdx j) v st
      | _, _ => .err)
    | _ => .err)
  | .reverse, .loc n, [] => (match st[n]? with
    | some (.lst xs) => setLst n xs.reverse .non st
    | _ => .err)
  | .index, a, [v] => (match lstOf st a with
    | some xs => if flat v && xs.all flat then (match xs.findIdx? fun y => eqF y v with
      | some j => .ok (.int j) st
      | none => .err) else .err
    | none => .err)
  | .count, a, [v] => (match lstOf st a with
    | some xs => if flat v && xs.all flat then .ok (.int (xs.countP fun y => eqF y v)) st else .err
    | none => .err)
  | .get1, a, [.str k] => (match dicL st a with
    | some kvs => .ok ((dget kvs k).getD .non) st
    | none => .err)
  | .get2, a, [.str k, v] => (match dicL st a with
    | some kvs => .ok ((dget kvs k).getD v) st
    | none => .err)
  | .pop1, .loc n, [.str k] => (match st[n]? with
    | some (.dic kvs) => (match dget kvs k with
      | some v => setDic n (ddel kvs k) v st
      | none => .err)
    | _ => .err)
  | .pop2, .loc n, [.str k, d] => (match st[n]? with
    | some (.dic kvs) => (match dget kvs k with
      | some v => setDic n (ddel kvs k) v st
      | none => .ok d st)
    | _ => .err)
  | .setdefault, .loc n, [.str k, d] => (match st[n]? with
    | some (.dic kvs) => if kvs.length < lim then (match dget kvs k with
      | some v => .ok v st
      | none => setDic n (dput kvs k d) d st) else .err
    | _ => .err)
  | .update, .loc n, [.loc m] => if n = m then .err else (match st[n]?, dicL st (.loc m) with
    | some (.dic kvs), some more => if kvs.length + more.length ≤ lim then setDic n (dmerge kvs more) .non st else .err
    | _, _ => .err)
  | .clear, .loc n, [] => (match st[n]? with
    | some (.dic _) => setDic n [] .non st
    | _ => .err)
  | .strip, .str a, [.str b] => if a.length ≤ lim then .ok (.str (Txt.stripChars a b)) st else .err
  | .split, .str a, [.str b] => if (b.length == 0) = false ∧ a.length + 2 ≤ lim ∧ (Txt.split a b).length ≤ lim then .ok (.lst ((Txt.split a b).map MV.str)) st else .err
  | .join, .str a, [v] => (match (seqOf st v).bind strsOf with
    | some ys => if (ys.map (·.length)).sum + ys.length * a.length ≤ lim then .ok (.str (Txt.join a ys)) st else .err
    | none => .err)
  | _, _, _ => .err

/-! ### expressions -/
/-- what a loop walks -/
inductive ItK where
  | seq | range1 | range3 | enum | zip | enumzip | zip3
  deriving DecidableEq
/-- a target: a name's place; several -/
inductive Tg where
  | name (i : Nat)
  | nil
  | cons (a r : Tg)
  | tup (r : Tg)
inductive E where
  | var (i : Nat)
  | lit (v : MV)
  | glob (x : Str) (v : MV)
  | nil
  | cons (a r : E)
  | op (o : Op) (as : E)
  | me (m : Me) (o as : E)
  | chain (o p : Op) (a b c : E)
  | and (a b : E)
  | or (a b : E)
  | not (a : E)
  | ite (c a b : E)
  | call (f : Str) (as : E)
  | callv (i : Nat) (fs : List Str) (as : E)
  | make (c : Str) (as : E)
  | meth (c m : Str) (o as : E)
  | fld (c : Str) (o : E) (f : Str)
  | lc (pure : Bool) (own : List Nat) (tg : Tg) (k : ItK) (it cond elt : E)

def bindT (st : Store) : Tg → MV → Env → Option Env
  | .name i, v, env => some (env.set i (some v))
  | .tup r, v, env => (match seqOf st v with
    | some xs => bindT st r (.tup xs) env
    | none => none)
  | .nil, .tup [], env => some env
  | .cons a r, .tup (x :: xs), env => (bindT st a x env).bind fun env => bindT st r (.tup xs) env
  | _, _, _ => none

/-- what is walked; the thing that is locked meanwhile, and as what it stands before -/
def items (k : ItK) (vs : List MV) (st : Store) : Option (List MV × Option (Nat × MO)) := match k, vs with
  | .seq, [.loc n] => (match st[n]? with
    | some (.lst xs) => some (xs, some (n, .lst xs))
    | some (.flst xs) => some (xs, none)
    | some (.dic kvs) => some (kvs.map fun kv => .str kv.1, some (n, .dic kvs))
    | some (.fdic kvs) => some (kvs.map fun kv => .str kv.1, none)
    | _ => none)
  | .seq, [v] => (fixedSeq v).map fun xs => (xs, none)
  | .range1, [.int n] => if -(2 ^ 62) ≤ n ∧ n < 2 ^ 62 then some ((List.range n.toNat).map fun (i : Nat) => .int i, none) else none
  | .range3, [.int a, .int b, .int (-1)] => if -(2 ^ 62) ≤ a ∧ a < 2 ^ 62 ∧ -(2 ^ 62) ≤ b ∧ b < 2 ^ 62 then some ((List.range (a - b).toNat).map fun (i : Nat) => .int (a - i), none) else none
  | .enum, [v] => (fixedSeq v).map fun xs => (enumL xs, none)
  | .zip, [a, b] => (match fixedSeq a, fixedSeq b with
    | some xs, some ys => some (zipL xs ys, none)
    | _, _ => none)
  | .enumzip, [a, b] => (match fixedSeq a, fixedSeq b with
    | some xs, some ys => some (enumL (zipL xs ys), none)
    | _, _ => none)
  | _, _ => none
def frozen : MO → MO
  | .lst xs => .flst xs
  | .dic kvs => .fdic kvs
  | o => o
def lock (l : Option (Nat × MO)) (st : Store) : Store := match l with
  | some (n, o) => st.set n (frozen o)
  | none => st
def unlock (l : Option (Nat × MO)) (st : Store) : Store := match l with
  | some (n, o) => st.set n o
  | none => st

def wipeE (env : Env) : List Nat → Env
  | [] => env
  | v :: vs => (wipeE env vs).set v none

/-- a comprehension's turns -/
def lcGo (step : MV → Store → Res (Option MV)) : List MV → List MV → Store → Res (List MV)
  | [], acc, st => .ok acc st
  | x :: xs, acc, st => match step x st with
    | .ok (some y) st => if acc.length < lim then lcGo step xs (acc ++ [y]) st else .err
    | .ok none st => lcGo step xs acc st
    | _ => .err

/-- no exception may leave -/
def noX : Res MV → Res MV
  | .ok v st => .ok v st
  | _ => .err
/-- a new instance behind its __init__ -/
def madeR (n : Nat) : Res MV → Res MV
  | .ok .non st => .ok (.loc n) st
  | _ => .err
/-- an instance of the class, with no field of that name -/
def hasM (c m : Str) (v : MV) (st : Store) : Bool := match v with
  | .loc n => (match st[n]? with
    | some (.ins d fs) => decide (c = d) && (dget fs m).isNone
    | _ => false)
  | _ => false
def getF (c f : Str) (v : MV) (st : Store) : Res MV := match v with
  | .loc n => (match st[n]? with
    | some (.ins d fs) => if c = d then (match dget fs f with
      | some v => .ok v st
      | none => .err) else .err
    | _ => .err)
  | _ => .err

/-- of several values; of a truth value -/
def onT {α : Type} (f : List MV → Store → Res α) : MV → Store → Res α
  | .tup vs, st => f vs st
  | _, _ => .err
def onB {α : Type} (t f : Store → Res α) : MV → Store → Res α
  | .bl true, st => t st
  | .bl false, st => f st
  | _, _ => .err
def consR (v : MV) (vs : List MV) (st : Store) : Res MV := .ok (.tup (v :: vs)) st
def notR : MV → Store → Res MV
  | .bl b, st => .ok (.bl (!b)) st
  | _, _ => .err
/-- the second comparison of a chain -/
def chainR (r : Res MV) (k : Store → Res MV) : Res MV := match r with
  | .ok v st => onB k (fun st => .ok (.bl false) st) v st
  | _ => .err
def heldR (fs : List Str) (F : Fn) (k : (List MV → Store → Res MV) → Res MV) : Option (Option MV) → Res MV
  | some (some (.nam f)) => if f ∈ fs then k (F (.fn f)) else .err
  | _ => .err
def varR (o : Option (Option MV)) (st : Store) : Res MV := match o with
  | some (some v) => .ok v st
  | _ => .err
/-- a turn of a comprehension behind its target: the test, the element -/
def lcStep (cond elt : Env → Store → Res MV) (env : Option Env) (st : Store) : Res (Option MV) := match env with
  | none => .err
  | some env => match cond env st with
    | .ok v st => onB (fun st => match elt env st with
      | .ok v st => .ok (some v) st
      | _ => .err) (fun st => .ok none st) v st
    | _ => .err
def lcEnd (p : Bool) (l : Option (Nat × MO)) : Res (List MV) → Res MV
  | .ok ys st => newL p ys (unlock l st)
  | _ => .err

/-- what is walked has come -/
def itR {α : Type} (k : ItK) (r : Res MV) (go : List MV → Option (Nat × MO) → Store → Res α) : Res α := match r with
  | .ok (.tup vs) st => (match items k vs st with
    | some (xs, l) => go xs l st
    | none => .err)
  | _ => .err
def evalE (F : Fn) : E → Env → Store → Res MV
  | .var i, env, st => varR env[i]? st
  | .lit v, _, st => .ok v st
  | .glob _ v, _, st => .ok v st
  | .nil, _, st => .ok (.tup []) st
  | .cons a r, env, st => (evalE F a env st).bind fun v st => (evalE F r env st).bind (onT (consR v))
  | .op o as, env, st => (evalE F as env st).bind (onT (runOp o))
  | .me m o as, env, st => (evalE F o env st).bind fun v st => if kdOk m.kd v st then (evalE F as env st).bind (onT (runMe m v)) else .err
  | .chain o p a b c, env, st => (evalE F a env st).bind fun x st => (evalE F b env st).bind fun y st => chainR (runOp o [x, y] st) fun st => (evalE F c env st).bind fun z st => runOp p [y, z] st
  | .and a b, env, st => (evalE F a env st).bind (onB (evalE F b env) fun st => .ok (.bl false) st)
  | .or a b, env, st => (evalE F a env st).bind (onB (fun st => .ok (.bl true) st) (evalE F b env))
  | .not a, env, st => (evalE F a env st).bind notR
  | .ite c a b, env, st => (evalE F c env st).bind (onB (evalE F a env) (evalE F b env))
  | .call f as, env, st => (evalE F as env st).bind (onT (F (.fn f)))
  | .callv i fs as, env, st => heldR fs F (fun f => (evalE F as env st).bind (onT f)) env[i]?
  | .make c as, env, st => (evalE F as env st).bind (onT fun vs st => madeR st.length (F (.me c "__init__") (.loc st.length :: vs) (st ++ [.ins c []])))
  | .meth c m o as, env, st => (evalE F o env st).bind fun v st => if hasM c m v st then (evalE F as env st).bind (onT fun vs st => noX (F (.me c m) (v :: vs) st)) else .err
  | .fld c o f, env, st => (evalE F o env st).bind (getF c f)
  | .lc p own tg k it cond elt, env, st => itR k (evalE F it env st) fun xs l st => lcEnd p l (lcGo (fun x st => lcStep (evalE F cond) (evalE F elt) (bindT st tg x (wipeE env own)) st) xs [] (lock l st))

/-! ### statements -/
inductive S where
  | skip
  | seq (a b : S)
  | exp (e : E)
  | asg (tg : Tg) (e : E)
  | setI (o i e : E)
  | setF (c : Str) (o : E) (f : Str) (e : E)
  | ite (c : E) (a b : S)
  | for_ (tg : Tg) (k : ItK) (it : E) (body : S)
  | while_ (c : E) (body : S)
  | ret (e : E)
  | retN
  | brk
  | raise (c : Str)
  | tryN (body : S)
  | tryX (body : S) (i : Option Nat) (h : S)
inductive Out where
  | nx (env : Env)
  | rt (v : MV)
  | bk (env : Env)
  deriving Inhabited

def setIx (o i v : MV) (st : Store) : Option Store := match o, i with
  | .loc n, .int i => (match st[n]? with
    | some (.lst xs) => (match ixN xs.length i with
      | some j => some (st.set n (.lst (xs.set j v)))
      | none => none)
    | _ => none)
  | .loc n, .str k => (match st[n]? with
    | some (.dic kvs) => if kvs.length < lim then some (st.set n (.dic (dput kvs k v))) else none
    | _ => none)
  | _, _ => none
def setFl (k : Str) (o : MV) (f : Str) (v : MV) (st : Store) : Option Store := match o with
  | .loc n => (match st[n]? with
    | some (.ins c fs) => if k = c ∧ fs.length < 1000 then some (st.set n (.ins c (fput f v fs))) else none
    | _ => none)
  | _ => none

/-- a for's turns -/
def forGo (step : MV → Env → Store → Res Out) (l : Option (Nat × MO)) : List MV → Env → Store → Res Out
  | [], env, st => .ok (.nx env) (unlock l st)
  | x :: xs, env, st => match step x env st with
    | .ok (.nx env) st => forGo step l xs env st
    | .ok (.bk env) st => .ok (.nx env) (unlock l st)
    | .ok (.rt v) st => .ok (.rt v) (unlock l st)
    | _ => .err
/-- behind a while's turn -/
def whileK (go : Env → Store → Res Out) : Res Out → Res Out
  | .ok (.nx env) st => go env st
  | .ok (.bk env) st => .ok (.nx env) st
  | .ok (.rt v) st => .ok (.rt v) st
  | _ => .err
/-- a while's turns -/
def whileGo (c : Env → Store → Res MV) (b : Env → Store → Res Out) : Nat → Env → Store → Res Out
  | 0, _, _ => .err
  | n + 1, env, st => match c env st with
    | .ok v st => onB (fun st => whileK (whileGo c b n) (b env st)) (fun st => .ok (.nx env) st) v st
    | _ => .err
/-- turns of a while at the most -/
def turns : Nat := 100000
/-- what follows a statement -/
def seqK (k : Env → Store → Res Out) : Out → Store → Res Out
  | .nx env, st => k env st
  | o, st => .ok o st
def stEnv (o : Option Env) (st : Store) : Res Out := match o with
  | some env => .ok (.nx env) st
  | none => .err
def stSt (env : Env) : Option Store → Res Out
  | some st => .ok (.nx env) st
  | none => .err
def forStep (body : Env → Store → Res Out) (o : Option Env) (st : Store) : Res Out := match o with
  | some env => body env st
  | none => .err
def tryR (k : Str → Store → Res Out) : Res Out → Res Out
  | .exc c st => k c st
  | r => r

def execS (F : Fn) : S → Env → Store → Res Out
  | .skip, env, st => .ok (.nx env) st
  | .seq a b, env, st => (execS F a env st).bind (seqK (execS F b))
  | .exp e, env, st => (evalE F e env st).bind fun _ st => .ok (.nx env) st
  | .asg tg e, env, st => (evalE F e env st).bind fun v st => stEnv (bindT st tg v env) st
  | .setI o i e, env, st => (evalE F e env st).bind fun v st => (evalE F o env st).bind fun o st => (evalE F i env st).bind fun i st => stSt env (setIx o i v st)
  | .setF c o f e, env, st => (evalE F e env st).bind fun v st => (evalE F o env st).bind fun o st => stSt env (setFl c o f v st)
  | .ite c a b, env, st => (evalE F c env st).bind (onB (execS F a env) (execS F b env))
  | .for_ tg k it body, env, st => itR k (evalE F it env st) fun xs l st => forGo (fun x env st => forStep (execS F body) (bindT st tg x env) st) l xs env (lock l st)
  | .while_ c body, env, st => whileGo (evalE F c) (execS F body) turns env st
  | .ret e, env, st => (evalE F e env st).bind fun v st => .ok (.rt v) st
  | .retN, _, st => .ok (.rt .non) st
  | .brk, env, st => .ok (.bk env) st
  | .raise c, _, st => .exc c st
  | .tryN b, env, st => tryR (fun _ _ => .err) (execS F b env st)
  | .tryX b i h, env, st => tryR (fun c st => execS F h (match i with
      | some i => env.set i (some (.exc c))
      | none => env) st) (execS F b env st)

/-! ### defs -/
structure MDef where
  np : Nat
  ns : Nat
  body : S
def startE (n : Nat) (vs : List MV) : Env := vs.map some ++ List.replicate (n - vs.length) none
def retR : Res Out → Res MV
  | .ok (.rt v) st => .ok v st
  | .ok (.nx _) st => .ok .non st
  | .exc c st => .exc c st
  | _ => .err
def runDef (F : Fn) (m : MDef) (vs : List MV) (st : Store) : Res MV :=
  if vs.length = m.np then retR (execS F m.body (startE m.ns vs) st) else .err
abbrev Tab := FK → Option MDef
def callF (G : Tab) : Nat → Fn
  | 0, _, _, _ => .err
  | d + 1, f, vs, st => match G f with
    | some m => runDef (callF G d) m vs st
    | none => .err
end Mi
set_option Elab.async false
set_option linter.all false
set_option maxRecDepth 100000
/-! MiRel: how mirror values, store and names lie in the abstract heap. -/
namespace Mi
open PySem PySem.Spec PyProof.Rows L2

theorem lim_eq : sizeLine = lim := sizeLine_eq

/-- a table of the module -/
def KTab (K : PySem.W.Frag) (w : World) (d : Addr) (kvs : List (Str × MV)) : Prop :=
  (∃ es n, KDict K w d es n) ∧ ∀ z : Str, match dget kvs z with
    | some v => ∃ x u, v = .str x ∧ PySem.W.nsIn K d z = some (some u) ∧ RelV (.str x) u
    | none => PySem.W.nsIn K d z = some none

/-- what is fixed -/
structure Fix where
  P : Program
  w : World
  K : PySem.W.Frag
  mg : Str → Option Value
  base : Heap
  Z : List Addr
/-- other addresses hidden -/
def Fix.z (B : Fix) (Z : List Addr) : Fix := ⟨B.P, B.w, B.K, B.mg, B.base, Z⟩

/-- a tuple, a list that is read: tracked (and none of the store's), or of the module -/
def TupAt (B : Fix) (H : Hp) (A : List Addr) (p : Addr) (vs : List V) : Prop :=
  (Rd H p (.tup vs) ∧ p ∉ A ∧ p ∉ B.Z) ∨ ∃ (o : Obj) (its : Array Value) (n : Nat), B.K.lookup p = some o ∧ o.cls = .type "tuple" ∧ o.data = .seq its n ∧ its.size ≤ sizeLine ∧ Vals vs its.toList
def LstAt (B : Fix) (H : Hp) (A : List Addr) (p : Addr) (vs : List V) : Prop := H p = some (.lst vs) ∧ p ∉ A ∧ p ∉ B.Z
def LckAt (B : Fix) (H : Hp) (A : List Addr) (p : Addr) (vs : List V) : Prop := (Rd H p (.lst vs) ∧ p ∉ A ∧ p ∉ B.Z) ∨ ∃ (o : Obj) (its : Array Value) (n : Nat), B.K.lookup p = some o ∧ o.cls = .type "list" ∧ o.dict = none ∧ o.data = .seq its n ∧ its.size ≤ sizeLine ∧ Vals vs its.toList
theorem TupAt.sq {B : Fix} {H : Hp} {A : List Addr} {p : Addr} {vs : List V} (h : TupAt B H A p vs) : SqT B.K H p vs := by
  rcases h with ⟨h, _⟩ | h
  · exact .inl h
  · exact .inr h
theorem LckAt.sq {B : Fix} {H : Hp} {A : List Addr} {p : Addr} {vs : List V} (h : LckAt B H A p vs) : SqL B.K H p vs := by
  rcases h with ⟨h, _⟩ | h
  · exact .inl h
  · exact .inr h
theorem LstAt.sq {B : Fix} {H : Hp} {A : List Addr} {p : Addr} {vs : List V} (h : LstAt B H A p vs) : SqL B.K H p vs := SqL.of h.1

mutual
inductive RV (B : Fix) (H : Hp) (A : List Addr) : MV → V → Prop
  | non : RV B H A .non .non
  | bl (b : Bool) : RV B H A (.bl b) (.bl b)
  | int (i : Int) : RV B H A (.int i) (.int i)
  | str (x : Str) : RV B H A (.str x) (.str x)
  | tup {p : Addr} {vs : List V} {xs : List MV} : TupAt B H A p vs → RVs B H A xs vs → xs.length ≤ lim → RV B H A (.tup xs) (.ref p)
  | lst {p : Addr} {vs : List V} {xs : List MV} : LstAt B H A p vs → RVs B H A xs vs → xs.length ≤ lim → RV B H A (.lst xs) (.ref p)
  | slst {p : Addr} {vs : List V} {xs : List MV} : LckAt B H A p vs → RVs B H A xs vs → xs.length ≤ lim → RV B H A (.slst xs) (.ref p)
  | loc {n : Nat} {a : Addr} : A[n]? = some a → RV B H A (.loc n) (.ref a)
  | nam {x : Str} {a : Addr} : B.mg x = some (.ref a) → RV B H A (.nam x) (.ref a)
  | cdic {d : Addr} {kvs : List (Str × MV)} : KTab B.K B.w d kvs → RV B H A (.cdic kvs) (.ref d)
inductive RVs (B : Fix) (H : Hp) (A : List Addr) : List MV → List V → Prop
  | nil : RVs B H A [] []
  | cons {x : MV} {v : V} {xs : List MV} {vs : List V} : RV B H A x v → RVs B H A xs vs → RVs B H A (x :: xs) (v :: vs)
end

/-- later: the store's things are so many more; what is tracked and not of the store stands -/
structure Ext (A A' : List Addr) (H H' : Hp) : Prop where
  pre : ∃ r, A' = A ++ r
  keep : ∀ q o, H q = some o → q ∉ A → H' q = some o ∧ q ∉ A'
  frz : ∀ q ob u, H q = some (.frz ob u) → H' q = some (.frz ob u)
/-- not locked -/
def NF (H : Hp) (q : Addr) : Prop := ∀ ob u, H q ≠ some (.frz ob u)
theorem nf_lst {H : Hp} {q : Addr} {vs : List V} (h : H q = some (.lst vs)) : NF H q := fun ob u e => by rw [h] at e; cases e
theorem nf_dK {H : Hp} {q : Addr} {vs : List (Key × V)} (h : H q = some (.dK vs)) : NF H q := fun ob u e => by rw [h] at e; cases e
theorem nf_ins {H : Hp} {q : Addr} {C dx : Addr} {vs : List (Str × V)} (h : H q = some (.ins C dx vs)) : NF H q := fun ob u e => by rw [h] at e; cases e
theorem nf_none {H : Hp} {q : Addr} (h : H q = none) : NF H q := fun ob u e => by rw [h] at e; cases e
theorem nf_upd {H : Hp} {q b : Addr} {o : HO} (h : NF H q) {ob : Obj} {u : HO} (e : H b = some (.frz ob u)) : L2.upd H q o b = some (.frz ob u) := by
  rw [upd_ne (fun z => by subst z; exact h ob u e)]
  exact e
theorem Ext.refl {A : List Addr} {H : Hp} : Ext A A H H := ⟨⟨[], by simp⟩, fun _ _ h n => ⟨h, n⟩, fun _ _ _ h => h⟩
theorem Ext.trans {A A1 A2 : List Addr} {H H1 H2 : Hp} (a : Ext A A1 H H1) (b : Ext A1 A2 H1 H2) : Ext A A2 H H2 := by
  obtain ⟨r1, e1⟩ := a.pre
  obtain ⟨r2, e2⟩ := b.pre
  refine ⟨⟨r1 ++ r2, by rw [e2, e1, List.append_assoc]⟩, fun q o h n => ?_, fun q ob u h => b.frz q ob u (a.frz q ob u h)⟩
  obtain ⟨h1, n1⟩ := a.keep q o h n
  exact b.keep q o h1 n1
/-- a new thing that is not of the store -/
theorem Ext.upd {A : List Addr} {H : Hp} {p : Addr} {o : HO} (hp : H p = none) : Ext A A H (upd H p o) :=
  ⟨⟨[], by simp⟩, fun q o' h n => ⟨by rw [upd_ne (ne_of_none h hp)]; exact h, n⟩, fun _ _ _ h => nf_upd (nf_none hp) h⟩
/-- a new thing of the store -/
theorem Ext.new {A : List Addr} {H : Hp} {p : Addr} {o : HO} (hp : H p = none) : Ext A (A ++ [p]) H (L2.upd H p o) :=
  ⟨⟨[p], rfl⟩, fun q o' h n => ⟨by rw [upd_ne (ne_of_none h hp)]; exact h, by
    intro hm
    rcases List.mem_append.mp hm with hm | hm
    · exact n hm
    · exact ne_of_none h hp (by simpa using hm)⟩, fun _ _ _ h => nf_upd (nf_none hp) h⟩
/-- a thing of the store is changed -/
theorem Ext.set {A : List Addr} {H : Hp} {n : Nat} {p : Addr} {o : HO} (hp : A[n]? = some p) (hz : NF H p) : Ext A A H (L2.upd H p o) :=
  ⟨⟨[], by simp⟩, fun q o' h nq => ⟨by rw [upd_ne (fun e => nq (by rw [e]; exact List.mem_of_getElem? hp))]; exact h, nq⟩, fun _ _ _ h => nf_upd hz h⟩
theorem Ext.get {A A' : List Addr} {H H' : Hp} (e : Ext A A' H H') {n : Nat} {a : Addr} (h : A[n]? = some a) : A'[n]? = some a := by
  obtain ⟨r, rfl⟩ := e.pre
  rw [List.getElem?_append_left (List.getElem?_eq_some_iff.mp h).1]
  exact h
theorem Ext.rd {A A' : List Addr} {H H' : Hp} (e : Ext A A' H H') {p : Addr} {u : HO} (h : Rd H p u) (n : p ∉ A) : Rd H' p u ∧ p ∉ A' := by
  rcases h with h | ⟨o, h⟩
  · obtain ⟨h1, n1⟩ := e.keep p _ h n
    exact ⟨.inl h1, n1⟩
  · obtain ⟨h1, n1⟩ := e.keep p _ h n
    exact ⟨.inr ⟨o, h1⟩, n1⟩

section
variable {B : Fix} {H H' : Hp} {A A' : List Addr}
theorem TupAt.mono (e : Ext A A' H H') {p : Addr} {vs : List V} (h : TupAt B H A p vs) : TupAt B H' A' p vs := by
  rcases h with ⟨h, n, z⟩ | h
  · obtain ⟨h1, n1⟩ := e.rd h n
    exact .inl ⟨h1, n1, z⟩
  · exact .inr h
theorem LstAt.mono (e : Ext A A' H H') {p : Addr} {vs : List V} (h : LstAt B H A p vs) : LstAt B H' A' p vs := ⟨(e.keep _ _ h.1 h.2.1).1, (e.keep _ _ h.1 h.2.1).2, h.2.2⟩
theorem LckAt.mono (e : Ext A A' H H') {p : Addr} {vs : List V} (h : LckAt B H A p vs) : LckAt B H' A' p vs := by
  rcases h with ⟨h, n, z⟩ | h
  · exact .inl ⟨(e.rd h n).1, (e.rd h n).2, z⟩
  · exact .inr h
mutual
theorem RV.mono (e : Ext A A' H H') : ∀ {x : MV} {v : V}, RV B H A x v → RV B H' A' x v
  | _, _, .non => .non
  | _, _, .bl b => .bl b
  | _, _, .int i => .int i
  | _, _, .str x => .str x
  | _, _, .tup t r l => .tup (t.mono e) (RVs.mono e r) l
  | _, _, .lst t r l => .lst (t.mono e) (RVs.mono e r) l
  | _, _, .slst t r l => .slst (t.mono e) (RVs.mono e r) l
  | _, _, .loc h => .loc (e.get h)
  | _, _, .nam h => .nam h
  | _, _, .cdic h => .cdic h
theorem RVs.mono (e : Ext A A' H H') : ∀ {xs : List MV} {vs : List V}, RVs B H A xs vs → RVs B H' A' xs vs
  | _, _, .nil => .nil
  | _, _, .cons r s => .cons (RV.mono e r) (RVs.mono e s)
end
theorem RVs.length : ∀ {xs : List MV} {vs : List V}, RVs B H A xs vs → xs.length = vs.length
  | _, _, .nil => rfl
  | _, _, .cons _ s => by rw [List.length_cons, List.length_cons, RVs.length s]
theorem RVs.append : ∀ {xs ys : List MV} {vs us : List V}, RVs B H A xs vs → RVs B H A ys us → RVs B H A (xs ++ ys) (vs ++ us)
  | _, _, _, _, .nil, s => s
  | _, _, _, _, .cons r t, s => .cons r (RVs.append t s)
theorem RVs.get : ∀ {xs : List MV} {vs : List V}, RVs B H A xs vs → ∀ {i : Nat} {x : MV}, xs[i]? = some x → ∃ v, vs[i]? = some v ∧ RV B H A x v
  | _, _, .nil, _, _, h => by simp at h
  | _, _, .cons r _, 0, _, h => by simp at h; subst h; exact ⟨_, rfl, r⟩
  | _, _, .cons _ s, i + 1, _, h => by
    obtain ⟨v, e, r⟩ := RVs.get s (i := i) (by simpa using h)
    exact ⟨v, by simpa using e, r⟩
theorem RVs.getV : ∀ {xs : List MV} {vs : List V}, RVs B H A xs vs → ∀ {i : Nat} {v : V}, vs[i]? = some v → ∃ x, xs[i]? = some x ∧ RV B H A x v
  | _, _, .nil, _, _, h => by simp at h
  | _, _, .cons r _, 0, _, h => by simp at h; subst h; exact ⟨_, rfl, r⟩
  | _, _, .cons _ s, i + 1, _, h => by
    obtain ⟨v, e, r⟩ := RVs.getV s (i := i) (by simpa using h)
    exact ⟨v, by simpa using e, r⟩
theorem RVs.set {x : MV} {v : V} (r : RV B H A x v) : ∀ {xs : List MV} {vs : List V} (i : Nat), RVs B H A xs vs → RVs B H A (xs.set i x) (vs.set i v)
  | _, _, _, .nil => .nil
  | _, _, 0, .cons _ t => .cons r t
  | _, _, i + 1, .cons q t => .cons q (RVs.set r i t)
theorem RVs.take : ∀ {xs : List MV} {vs : List V} (n : Nat), RVs B H A xs vs → RVs B H A (xs.take n) (vs.take n)
  | _, _, 0, _ => .nil
  | _, _, _ + 1, .nil => .nil
  | _, _, n + 1, .cons r t => .cons r (RVs.take n t)
theorem RVs.drop : ∀ {xs : List MV} {vs : List V} (n : Nat), RVs B H A xs vs → RVs B H A (xs.drop n) (vs.drop n)
  | _, _, 0, r => r
  | _, _, _ + 1, .nil => .nil
  | _, _, n + 1, .cons _ t => RVs.drop n t
theorem RVs.reverse : ∀ {xs : List MV} {vs : List V}, RVs B H A xs vs → RVs B H A xs.reverse vs.reverse
  | _, _, .nil => .nil
  | _, _, .cons r t => by
    rw [List.reverse_cons, List.reverse_cons]
    exact RVs.append (RVs.reverse t) (.cons r .nil)
theorem RVs.eraseIdx : ∀ {xs : List MV} {vs : List V} (i : Nat), RVs B H A xs vs → RVs B H A (xs.eraseIdx i) (vs.eraseIdx i)
  | _, _, _, .nil => .nil
  | _, _, 0, .cons _ t => t
  | _, _, i + 1, .cons r t => .cons r (RVs.eraseIdx i t)
theorem RVs.dropLast : ∀ {xs : List MV} {vs : List V}, RVs B H A xs vs → RVs B H A xs.dropLast vs.dropLast
  | _, _, .nil => .nil
  | _, _, .cons r .nil => .nil
  | _, _, .cons r (.cons q t) => .cons r (RVs.dropLast (.cons q t))
theorem RVs.replicate {xs : List MV} {vs : List V} (r : RVs B H A xs vs) : ∀ n : Nat, RVs B H A (List.replicate n xs).flatten (List.replicate n vs).flatten
  | 0 => .nil
  | n + 1 => by
    rw [List.replicate_succ, List.replicate_succ, List.flatten_cons, List.flatten_cons]
    exact r.append (RVs.replicate r n)
end

/-! ### tables -/
/-- keys are texts -/
inductive RKs (B : Fix) (H : Hp) (A : List Addr) : List (Str × MV) → List (Key × V) → Prop
  | nil : RKs B H A [] []
  | cons {k : Str} {x : MV} {v : V} {xs : List (Str × MV)} {vs : List (Key × V)} : RV B H A x v → RKs B H A xs vs → RKs B H A ((k, x) :: xs) ((.inr k, v) :: vs)
/-- fields -/
inductive RFs (B : Fix) (H : Hp) (A : List Addr) : List (Str × MV) → List (Str × V) → Prop
  | nil : RFs B H A [] []
  | cons {k : Str} {x : MV} {v : V} {xs : List (Str × MV)} {vs : List (Str × V)} : RV B H A x v → RFs B H A xs vs → RFs B H A ((k, x) :: xs) ((k, v) :: vs)
section
variable {B : Fix} {H H' : Hp} {A A' : List Addr}
theorem RKs.mono (e : Ext A A' H H') : ∀ {xs : List (Str × MV)} {vs : List (Key × V)}, RKs B H A xs vs → RKs B H' A' xs vs
  | _, _, .nil => .nil
  | _, _, .cons r s => .cons (r.mono e) (RKs.mono e s)
theorem RFs.mono (e : Ext A A' H H') : ∀ {xs : List (Str × MV)} {vs : List (Str × V)}, RFs B H A xs vs → RFs B H' A' xs vs
  | _, _, .nil => .nil
  | _, _, .cons r s => .cons (r.mono e) (RFs.mono e s)
theorem RKs.length : ∀ {xs : List (Str × MV)} {vs : List (Key × V)}, RKs B H A xs vs → xs.length = vs.length
  | _, _, .nil => rfl
  | _, _, .cons _ s => by rw [List.length_cons, List.length_cons, RKs.length s]
theorem RFs.length : ∀ {xs : List (Str × MV)} {vs : List (Str × V)}, RFs B H A xs vs → xs.length = vs.length
  | _, _, .nil => rfl
  | _, _, .cons _ s => by rw [List.length_cons, List.length_cons, RFs.length s]

theorem dget_nil {α : Type} {k : Str} : dget ([] : List (Str × α)) k = none := rfl
theorem dget_pos {α : Type} {p : Str × α} {r : List (Str × α)} {k : Str} (e : p.1 = k) : dget (p :: r) k = some p.2 := by simp [dget, List.find?_cons, e]
theorem dget_neg {α : Type} {p : Str × α} {r : List (Str × α)} {k : Str} (e : ¬ p.1 = k) : dget (p :: r) k = dget r k := by simp [dget, List.find?_cons, e]

/-- an optional value -/
def ROp (B : Fix) (H : Hp) (A : List Addr) : Option MV → Option V → Prop
  | some x, some v => RV B H A x v
  | none, none => True
  | _, _ => False
theorem RKs.val {k : Str} : ∀ {xs : List (Str × MV)} {vs : List (Key × V)}, RKs B H A xs vs → ROp B H A (dget xs k) (valV vs (Sum.inr k))
  | _, _, .nil => trivial
  | _, _, .cons (k := j) r s => by
    by_cases h : j = k
    · rw [dget_pos (p := (j, _)) h, valV_pos (p := (Sum.inr j, _)) (by rw [h])]
      exact r
    · rw [dget_neg (p := (j, _)) h, valV_neg (p := (Sum.inr j, _)) (fun e => h (Sum.inr.inj e))]
      exact RKs.val s
theorem RKs.any {k : Str} : ∀ {xs : List (Str × MV)} {vs : List (Key × V)}, RKs B H A xs vs → (xs.any fun kv => decide (kv.1 = k)) = (vs.any fun kv => decide (kv.1 = Sum.inr k))
  | _, _, .nil => rfl
  | _, _, .cons (k := j) r s => by
    rw [List.any_cons, List.any_cons, RKs.any s]
    congr 1
    by_cases h : j = k
    · simp [h]
    · rw [decide_eq_false h, decide_eq_false (fun e => h (Sum.inr.inj e))]
theorem RKs.repl {k : Str} {y : MV} {u : V} (ry : RV B H A y u) : ∀ {xs : List (Str × MV)} {vs : List (Key × V)}, RKs B H A xs vs →
    RKs B H A (xs.map fun kv => if kv.1 = k then (kv.1, y) else kv) (vs.map fun kv => if kv.1 = Sum.inr k then (kv.1, u) else kv)
  | _, _, .nil => .nil
  | _, _, .cons (k := j) r s => by
    rw [List.map_cons, List.map_cons]
    by_cases h : j = k
    · rw [if_pos h, if_pos (show (Sum.inr j : Key) = Sum.inr k by rw [h])]
      exact .cons ry (RKs.repl ry s)
    · rw [if_neg h, if_neg (show ¬ (Sum.inr j : Key) = Sum.inr k from fun e => h (Sum.inr.inj e))]
      exact .cons r (RKs.repl ry s)
theorem RKs.snoc {k : Str} {y : MV} {u : V} (ry : RV B H A y u) : ∀ {xs : List (Str × MV)} {vs : List (Key × V)}, RKs B H A xs vs → RKs B H A (xs ++ [(k, y)]) (vs ++ [(Sum.inr k, u)])
  | _, _, .nil => .cons ry .nil
  | _, _, .cons r s => .cons r (RKs.snoc ry s)
theorem RKs.put {k : Str} {y : MV} {u : V} (ry : RV B H A y u) {xs : List (Str × MV)} {vs : List (Key × V)} (h : RKs B H A xs vs) : RKs B H A (dput xs k y) (putK vs (Sum.inr k) u) := by
  unfold dput putK
  rw [h.any (k := k)]
  split
  · exact h.repl ry
  · exact h.snoc ry
theorem RKs.del {k : Str} : ∀ {xs : List (Str × MV)} {vs : List (Key × V)}, RKs B H A xs vs → RKs B H A (ddel xs k) (dropK vs (Sum.inr k))
  | _, _, .nil => .nil
  | _, _, .cons (k := j) r s => by
    have ih := RKs.del (k := k) s
    unfold ddel dropK at ih ⊢
    by_cases h : j = k
    · rw [List.filter_cons_of_neg (by simp [h]), List.filter_cons_of_neg (by simp [h])]
      exact ih
    · rw [List.filter_cons_of_pos (by simp [h]), List.filter_cons_of_pos (by simp [h])]
      exact .cons r ih
theorem RKs.merge : ∀ {more : List (Str × MV)} {rs : List (Key × V)}, RKs B H A more rs → ∀ {xs : List (Str × MV)} {vs : List (Key × V)}, RKs B H A xs vs → RKs B H A (dmerge xs more) (mergeK vs rs)
  | _, _, .nil, _, _, h => h
  | _, _, .cons r s, _, _, h => RKs.merge s (h.put r)
theorem dput_length {α : Type} (kvs : List (Str × α)) (k : Str) (v : α) : (dput kvs k v).length ≤ kvs.length + 1 := by
  unfold dput
  split
  · simp
  · simp
theorem dmerge_length {α : Type} : ∀ (more kvs : List (Str × α)), (dmerge kvs more).length ≤ kvs.length + more.length
  | [], kvs => by simp [dmerge]
  | p :: r, kvs => by
    have h1 := dmerge_length r (dput kvs p.1 p.2)
    have h2 := dput_length kvs p.1 p.2
    have e : dmerge kvs (p :: r) = dmerge (dput kvs p.1 p.2) r := rfl
    rw [e, List.length_cons]
    omega
theorem RKs.keys : ∀ {xs : List (Str × MV)} {vs : List (Key × V)}, RKs B H A xs vs → RVs B H A (xs.map fun kv => .str kv.1) (vs.map fun kv => kV kv.1)
  | _, _, .nil => .nil
  | _, _, .cons r s => .cons (.str _) (RKs.keys s)
theorem RFs.val {k : Str} : ∀ {xs : List (Str × MV)} {vs : List (Str × V)}, RFs B H A xs vs → ROp B H A (dget xs k) (vs.lookup k)
  | _, _, .nil => trivial
  | _, _, .cons (k := j) r s => by
    by_cases h : j = k
    · rw [dget_pos (p := (j, _)) h, List.lookup_cons]
      simp only [h, beq_self_eq_true]
      exact r
    · rw [dget_neg (p := (j, _)) h, List.lookup_cons]
      have e : (k == j) = false := by simpa using fun e => h e.symm
      rw [e]
      exact RFs.val s
theorem RFs.put {f : Str} {y : MV} {u : V} (ry : RV B H A y u) : ∀ {xs : List (Str × MV)} {vs : List (Str × V)}, RFs B H A xs vs → RFs B H A (fput f y xs) (putF f u vs)
  | _, _, .nil => .cons ry .nil
  | _, _, .cons (k := j) r s => by
    unfold fput putF
    by_cases h : j = f
    · rw [if_pos h, if_pos h]
      exact .cons ry s
    · rw [if_neg h, if_neg h]
      exact .cons r (RFs.put ry s)
end

/-! ### the store, the names -/
/-- a thing of the store at its address -/
def RO (B : Fix) (H : Hp) (A : List Addr) (a : Addr) : MO → Prop
  | .lst xs => ∃ vs, H a = some (.lst vs) ∧ RVs B H A xs vs ∧ xs.length ≤ lim
  | .flst xs => ∃ ob vs, H a = some (.frz ob (.lst vs)) ∧ RVs B H A xs vs ∧ xs.length ≤ lim
  | .dic kvs => ∃ ks, H a = some (.dK ks) ∧ RKs B H A kvs ks ∧ kvs.length ≤ lim
  | .fdic kvs => ∃ ob ks, H a = some (.frz ob (.dK ks)) ∧ RKs B H A kvs ks ∧ kvs.length ≤ lim
  | .ins c fs => ∃ C dx vs, B.mg c = some (.ref C) ∧ H a = some (.ins C dx vs) ∧ RFs B H A fs vs
structure SR (B : Fix) (H : Hp) (A : List Addr) (st : Store) : Prop where
  len : A.length = st.length
  nd : A.Nodup
  obj : ∀ (n : Nat) (a : Addr) (o : MO), A[n]? = some a → st[n]? = some o → RO B H A a o
  zs : ∀ z ∈ B.Z, z ∉ A ∧ ∃ o, H z = some o
section
variable {B : Fix} {H H' : Hp} {A A' : List Addr} {st : Store}
theorem RO.some {a : Addr} {o : MO} (h : RO B H A a o) : ∃ u, H a = some u := by
  cases o with
  | lst xs => obtain ⟨vs, e, _⟩ := h; exact ⟨_, e⟩
  | flst xs => obtain ⟨_, vs, e, _⟩ := h; exact ⟨_, e⟩
  | dic xs => obtain ⟨vs, e, _⟩ := h; exact ⟨_, e⟩
  | fdic xs => obtain ⟨_, vs, e, _⟩ := h; exact ⟨_, e⟩
  | ins c fs => obtain ⟨_, _, _, _, e, _⟩ := h; exact ⟨_, e⟩
/-- a thing stands, what it holds is carried on -/
theorem RO.mono (e : Ext A A' H H') {a : Addr} {o : MO} (h : RO B H A a o) (k : H' a = H a) : RO B H' A' a o := by
  cases o with
  | lst xs => obtain ⟨vs, q, r, l⟩ := h; exact ⟨vs, by rw [k]; exact q, r.mono e, l⟩
  | flst xs => obtain ⟨ob, vs, q, r, l⟩ := h; exact ⟨ob, vs, by rw [k]; exact q, r.mono e, l⟩
  | dic xs => obtain ⟨vs, q, r, l⟩ := h; exact ⟨vs, by rw [k]; exact q, r.mono e, l⟩
  | fdic xs => obtain ⟨ob, vs, q, r, l⟩ := h; exact ⟨ob, vs, by rw [k]; exact q, r.mono e, l⟩
  | ins c fs => obtain ⟨C, dx, vs, m, q, r⟩ := h; exact ⟨C, dx, vs, m, by rw [k]; exact q, r.mono e⟩
theorem SR.addr (s : SR B H A st) {n : Nat} {o : MO} (h : st[n]? = some o) : ∃ a, A[n]? = some a ∧ RO B H A a o := by
  have hn : n < A.length := by rw [s.len]; exact (List.getElem?_eq_some_iff.mp h).1
  exact ⟨A[n], List.getElem?_eq_getElem hn, s.obj n _ o (List.getElem?_eq_getElem hn) h⟩
theorem SR.there (s : SR B H A st) {a : Addr} (h : a ∈ A) : ∃ u, H a = some u := by
  obtain ⟨n, hn, e⟩ := List.mem_iff_getElem.mp h
  have e1 : A[n]? = some a := by rw [List.getElem?_eq_getElem hn, e]
  have hs : n < st.length := by rw [← s.len]; exact hn
  exact (s.obj n a _ e1 (List.getElem?_eq_getElem hs)).some
/-- something new beside the store -/
theorem SR.side (s : SR B H A st) {p : Addr} {o : HO} (hp : H p = none) : SR B (upd H p o) A st :=
  ⟨s.len, s.nd, fun n a ob h1 h2 => (s.obj n a ob h1 h2).mono (Ext.upd hp) (upd_ne (by
    obtain ⟨u, e⟩ := s.there (List.mem_of_getElem? h1)
    exact ne_of_none e hp)), fun z hz => by
    obtain ⟨n, o, e⟩ := s.zs z hz
    exact ⟨n, o, by rw [upd_ne (ne_of_none e hp)]; exact e⟩⟩
theorem SR.notZ (s : SR B H A st) {p : Addr} (hp : H p = none) : p ∉ B.Z := fun h => by
  obtain ⟨_, o, e⟩ := s.zs p h
  rw [hp] at e
  cases e
theorem SR.notA (s : SR B H A st) {p : Addr} (hp : H p = none) : p ∉ A := fun h => by
  obtain ⟨_, e⟩ := s.there h
  rw [hp] at e
  cases e
/-- a new thing of the store -/
theorem SR.new (s : SR B H A st) {p : Addr} {u : HO} {o : MO} (hp : H p = none) (r : RO B (upd H p u) (A ++ [p]) p o) : SR B (upd H p u) (A ++ [p]) (st ++ [o]) := by
  have hpA : p ∉ A := fun h => by
    obtain ⟨_, e⟩ := s.there h
    rw [hp] at e
    cases e
  refine ⟨by simp [s.len], List.nodup_append.mpr ⟨s.nd, by simp, fun a ha b hb => ?_⟩, fun n a ob h1 h2 => ?_, fun z hz => ?_⟩
  · have eb : b = p := by simpa using hb
    rw [eb]
    exact fun e => hpA (e ▸ ha)
  · by_cases hn : n < A.length
    · rw [List.getElem?_append_left hn] at h1
      rw [List.getElem?_append_left (by rw [← s.len]; exact hn)] at h2
      exact (s.obj n a ob h1 h2).mono (Ext.new hp) (upd_ne (fun e => hpA (by rw [← e]; exact List.mem_of_getElem? h1)))
    · rw [List.getElem?_append_right (by omega)] at h1
      rw [List.getElem?_append_right (by rw [← s.len]; omega)] at h2
      rw [← s.len] at h2
      cases hk : n - A.length with
      | zero =>
        rw [hk] at h1 h2
        simp at h1 h2
        subst h1 h2
        exact r
      | succ k =>
        rw [hk] at h1
        simp at h1
  · obtain ⟨n, o, e⟩ := s.zs z hz
    refine ⟨fun h => ?_, o, by rw [upd_ne (ne_of_none e hp)]; exact e⟩
    rcases List.mem_append.mp h with h | h
    · exact n h
    · exact ne_of_none e hp (by simpa using h)
/-- a thing of the store is changed -/
theorem SR.set (s : SR B H A st) {n : Nat} {p : Addr} {u : HO} {o : MO} (hp : A[n]? = some p) (hz : NF H p) (r : RO B (upd H p u) A p o) : SR B (upd H p u) A (st.set n o) := by
  refine ⟨by rw [List.length_set]; exact s.len, s.nd, fun m a ob h1 h2 => ?_, fun z hz => by
    obtain ⟨n', o', e⟩ := s.zs z hz
    exact ⟨n', o', by rw [upd_ne (fun q => n' (by rw [q]; exact List.mem_of_getElem? hp))]; exact e⟩⟩
  by_cases hm : n = m
  · subst hm
    rw [hp] at h1
    cases h1
    have hn : n < st.length := by rw [← s.len]; exact (List.getElem?_eq_some_iff.mp hp).1
    rw [List.getElem?_set_self hn] at h2
    cases h2
    exact r
  · rw [List.getElem?_set_ne hm] at h2
    refine (s.obj m a ob h1 h2).mono (Ext.set hp hz) (upd_ne fun e => hm ?_)
    subst e
    obtain ⟨b1, e1⟩ := List.getElem?_eq_some_iff.mp hp
    obtain ⟨b2, e2⟩ := List.getElem?_eq_some_iff.mp h1
    exact (List.getElem_inj s.nd).mp (e1.trans e2.symm)
/-- the sequences that are read -/
theorem seq_of (s : SR B H A st) {v : MV} {u : V} {xs : List MV} (r : RV B H A v u) (h : seqOf st v = some xs) : ∃ p vs, u = .ref p ∧ (SqL B.K H p vs ∨ SqT B.K H p vs) ∧ RVs B H A xs vs ∧ xs.length ≤ lim := by
  cases r with
  | tup t rs l => cases h; exact ⟨_, _, rfl, .inr t.sq, rs, l⟩
  | lst t rs l => cases h; exact ⟨_, _, rfl, .inl t.sq, rs, l⟩
  | slst t rs l => cases h; exact ⟨_, _, rfl, .inl t.sq, rs, l⟩
  | loc hn =>
    rename_i n a
    simp only [seqOf] at h
    cases e : st[n]? with
    | none => rw [e] at h; cases h
    | some o =>
      rw [e] at h
      have ro := s.obj n a o hn e
      cases o with
      | lst ys => cases h; obtain ⟨vs, q, rs, l⟩ := ro; exact ⟨_, vs, rfl, .inl (.inl (.inl q)), rs, l⟩
      | flst ys => cases h; obtain ⟨ob, vs, q, rs, l⟩ := ro; exact ⟨_, vs, rfl, .inl (.inl (.inr ⟨ob, q⟩)), rs, l⟩
      | _ => cases h
  | _ => cases h
theorem lst_of (s : SR B H A st) {v : MV} {u : V} {xs : List MV} (r : RV B H A v u) (h : lstOf st v = some xs) : ∃ p vs, u = .ref p ∧ Rd H p (.lst vs) ∧ RVs B H A xs vs ∧ xs.length ≤ lim := by
  cases r with
  | lst t rs l => cases h; exact ⟨_, _, rfl, .inl t.1, rs, l⟩
  | loc hn =>
    rename_i n a
    simp only [lstOf] at h
    cases e : st[n]? with
    | none => rw [e] at h; cases h
    | some o =>
      rw [e] at h
      have ro := s.obj n a o hn e
      cases o with
      | lst ys => cases h; obtain ⟨vs, q, rs, l⟩ := ro; exact ⟨_, vs, rfl, .inl q, rs, l⟩
      | flst ys => cases h; obtain ⟨ob, vs, q, rs, l⟩ := ro; exact ⟨_, vs, rfl, .inr ⟨ob, q⟩, rs, l⟩
      | _ => cases h
  | _ => cases h
theorem lstS_of (s : SR B H A st) {v : MV} {u : V} {xs : List MV} (r : RV B H A v u) (h : lstS st v = some xs) : ∃ p vs, u = .ref p ∧ H p = some (.lst vs) ∧ RVs B H A xs vs ∧ xs.length ≤ lim := by
  cases r with
  | lst t rs l => cases h; exact ⟨_, _, rfl, t.1, rs, l⟩
  | loc hn =>
    rename_i n a
    simp only [lstS] at h
    cases e : st[n]? with
    | none => rw [e] at h; cases h
    | some o =>
      rw [e] at h
      have ro := s.obj n a o hn e
      cases o with
      | lst ys => cases h; obtain ⟨vs, q, rs, l⟩ := ro; exact ⟨_, vs, rfl, q, rs, l⟩
      | _ => cases h
  | _ => cases h
theorem dicL_of (s : SR B H A st) {v : MV} {u : V} {kvs : List (Str × MV)} (r : RV B H A v u) (h : dicL st v = some kvs) : ∃ p ks, u = .ref p ∧ Rd H p (.dK ks) ∧ RKs B H A kvs ks ∧ kvs.length ≤ lim := by
  cases r with
  | loc hn =>
    rename_i n a
    simp only [dicL] at h
    cases e : st[n]? with
    | none => rw [e] at h; cases h
    | some o =>
      rw [e] at h
      have ro := s.obj n a o hn e
      cases o with
      | dic ys => cases h; obtain ⟨vs, q, rs, l⟩ := ro; exact ⟨_, vs, rfl, .inl q, rs, l⟩
      | fdic ys => cases h; obtain ⟨ob, vs, q, rs, l⟩ := ro; exact ⟨_, vs, rfl, .inr ⟨ob, q⟩, rs, l⟩
      | _ => cases h
  | _ => cases h
/-- the tables that are read: of the store, or of the module -/
theorem dic_of (s : SR B H A st) {v : MV} {u : V} {kvs : List (Str × MV)} (r : RV B H A v u) (h : dicOf st v = some kvs) :
    ∃ p, u = .ref p ∧ ((∃ ks, Rd H p (.dK ks) ∧ RKs B H A kvs ks ∧ kvs.length ≤ lim) ∨ KTab B.K B.w p kvs) := by
  cases r with
  | cdic t => cases h; exact ⟨_, rfl, .inr t⟩
  | loc hn =>
    rename_i n a
    simp only [dicOf] at h
    cases e : st[n]? with
    | none => rw [e] at h; cases h
    | some o =>
      rw [e] at h
      have ro := s.obj n a o hn e
      cases o with
      | dic ys => cases h; obtain ⟨vs, q, rs, l⟩ := ro; exact ⟨_, rfl, .inl ⟨vs, .inl q, rs, l⟩⟩
      | fdic ys => cases h; obtain ⟨ob, vs, q, rs, l⟩ := ro; exact ⟨_, rfl, .inl ⟨vs, .inr ⟨ob, q⟩, rs, l⟩⟩
      | _ => cases h
  | _ => cases h
end

/-- the names -/
structure ER (B : Fix) (H : Hp) (A : List Addr) (σ : L2.St) (env : Env) : Prop where
  len : σ.length = env.length
  get : ∀ (i : Nat) (v : MV), env[i]? = some (some v) → ∃ u, σ[i]? = some (some u) ∧ RV B H A v u
section
variable {B : Fix} {H H' : Hp} {A A' : List Addr} {σ : L2.St} {env : Env}
theorem ER.mono (e : Ext A A' H H') (h : ER B H A σ env) : ER B H' A' σ env := ⟨h.len, fun i v q => by
  obtain ⟨u, q1, r⟩ := h.get i v q
  exact ⟨u, q1, r.mono e⟩⟩
theorem ER.set (h : ER B H A σ env) {i : Nat} {v : MV} {u : V} (r : RV B H A v u) : ER B H A (σ.set i (some u)) (env.set i (some v)) := by
  refine ⟨by rw [List.length_set, List.length_set]; exact h.len, fun j w q => ?_⟩
  by_cases hj : i = j
  · subst hj
    have hi : i < env.length := by
      by_cases hi : i < env.length
      · exact hi
      · rw [List.getElem?_eq_none (by simpa using hi)] at q
        cases q
    rw [List.getElem?_set_self hi] at q
    cases q
    exact ⟨u, by rw [List.getElem?_set_self (by rw [h.len]; exact hi)], r⟩
  · rw [List.getElem?_set_ne hj] at q ⊢
    exact h.get j w q
theorem ER.wipe (h : ER B H A σ env) : ∀ vs : List Nat, ER B H A (L2.wipe σ vs) (wipeE env vs)
  | [] => h
  | v :: vs => by
    have ih := ER.wipe h vs
    refine ⟨?_, fun j w q => ?_⟩
    · show ((L2.wipe σ vs).set v none).length = ((wipeE env vs).set v none).length
      rw [List.length_set, List.length_set]
      exact ih.len
    · have q : ((wipeE env vs).set v none)[j]? = some (some w) := q
      show ∃ u, ((L2.wipe σ vs).set v none)[j]? = some (some u) ∧ _
      by_cases hj : v = j
      · subst hj
        by_cases hi : v < (wipeE env vs).length
        · rw [List.getElem?_set_self hi] at q
          cases q
        · rw [List.getElem?_eq_none (by simpa using hi)] at q
          cases q
      · rw [List.getElem?_set_ne hj] at q ⊢
        exact ih.get j w q
theorem ER.start {vs : List MV} {us : List V} (r : RVs B H A vs us) (N : List Str) (n : Nat) (hn : N.length = n) : ER B H A (L2.start N us) (startE n vs) := by
  have hl := r.length
  refine ⟨?_, fun i v q => ?_⟩
  · unfold L2.start startE
    rw [List.length_append, List.length_append, List.length_map, List.length_map, List.length_replicate, List.length_replicate, hl, hn]
  · unfold startE at q
    by_cases hi : i < vs.length
    · rw [List.getElem?_append_left (by simpa using hi), List.getElem?_map] at q
      cases e : vs[i]? with
      | none => rw [e] at q; cases q
      | some x =>
        rw [e] at q
        cases q
        obtain ⟨u, e1, r1⟩ := r.get e
        refine ⟨u, ?_, r1⟩
        unfold L2.start
        rw [List.getElem?_append_left (by rw [List.length_map, ← hl]; exact hi), List.getElem?_map, e1]
        rfl
    · rw [List.getElem?_append_right (by simpa using hi), List.getElem?_replicate] at q
      split at q <;> cases q
end

/-! ### readings -/
/-- what is wanted of an exception -/
abbrev WS := Str → L2.St → Hp → Prop
/-- what is wanted behind a mirror's answer -/
def Post (B : Fix) (A : List Addr) (H : Hp) (Q : VK) (W : Str → Hp → Prop) : Res MV → Prop
  | .ok v st => ∀ u H' A', Ext A A' H H' → SR B H' A' st → RV B H' A' v u → Q u H'
  | .exc c st => ∀ H' A', Ext A A' H H' → SR B H' A' st → W c H'
  | .err => False
def PostA (B : Fix) (A : List Addr) (H : Hp) (Q : List V → Hp → Prop) (W : Str → Hp → Prop) : Res MV → Prop
  | .ok (.tup vs) st => ∀ us H' A', Ext A A' H H' → SR B H' A' st → RVs B H' A' vs us → Q us H'
  | .ok _ _ => False
  | .exc c st => ∀ H' A', Ext A A' H H' → SR B H' A' st → W c H'
  | .err => False
def PostB (B : Fix) (A : List Addr) (H : Hp) (Q : Bool → Hp → Prop) (W : Str → Hp → Prop) : Res MV → Prop
  | .ok (.bl b) st => ∀ H' A', Ext A A' H H' → SR B H' A' st → Q b H'
  | .ok _ _ => False
  | .exc c st => ∀ H' A', Ext A A' H H' → SR B H' A' st → W c H'
  | .err => False
/-- an expression, a list of them, a test -/
def tM (B : Fix) (F : Fn) (W : WS) (e : E) : TE := fun σ H Q => ∃ A env st, SR B H A st ∧ ER B H A σ env ∧ Post B A H Q (fun c => W c σ) (evalE F e env st)
def tMA (B : Fix) (F : Fn) (W : WS) (e : E) : TA := fun σ H Q => ∃ A env st, SR B H A st ∧ ER B H A σ env ∧ PostA B A H Q (fun c => W c σ) (evalE F e env st)
def tMB (B : Fix) (F : Fn) (W : WS) (e : E) : TT := fun σ H Q => ∃ A env st, SR B H A st ∧ ER B H A σ env ∧ PostB B A H Q (fun c => W c σ) (evalE F e env st)
/-- a statement -/
def PostS (B : Fix) (A : List Addr) (H : Hp) (D : Ends) (σ : L2.St) (W : WS) : Res Out → Prop
  | .ok (.nx env) st => ∀ σ' H' A', Ext A A' H H' → SR B H' A' st → ER B H' A' σ' env → D.nx σ' H'
  | .ok (.bk env) st => ∀ σ' H' A', Ext A A' H H' → SR B H' A' st → ER B H' A' σ' env → D.bk σ' H'
  | .ok (.rt v) st => ∀ u H' A', Ext A A' H H' → SR B H' A' st → RV B H' A' v u → D.rt u H'
  | .exc c st => ∀ σ' H' A', Ext A A' H H' → SR B H' A' st → W c σ' H'
  | .err => False
def tMS (B : Fix) (F : Fn) (W : WS) (s : S) : TS := fun D σ H => ∃ A env st, SR B H A st ∧ ER B H A σ env ∧ PostS B A H D σ W (execS F s env st)

theorem PEm {X : Cx} {e : Expr} {t t' : TE} (h : PE X e t) (m : ∀ σ H Q, t' σ H Q → t σ H Q) : PE X e t' := ⟨fun pins s σ H Q I q => h.run pins s σ H Q I (m σ H Q q)⟩
theorem PTm {X : Cx} {e : Expr} {t t' : TT} (h : PT X e t) (m : ∀ σ H Q, t' σ H Q → t σ H Q) : PT X e t' := ⟨fun pins s σ H Q I q => h.run pins s σ H Q I (m σ H Q q)⟩
theorem PWm {X : Cx} {e : Expr} {t t' : TT} (h : PW X e t) (m : ∀ σ H Q, t' σ H Q → t σ H Q) : PW X e t' := ⟨fun wh pins s σ H Q I q => h.run wh pins s σ H Q I (m σ H Q q)⟩
theorem PAm {X : Cx} {e : List Expr} {t t' : TA} (h : PA X e t) (m : ∀ σ H Q, t' σ H Q → t σ H Q) : PA X e t' := ⟨fun p pins s σ H Q I q => h.run p pins s σ H Q I (m σ H Q q)⟩
theorem PSm {X : Cx} {e : Stmt} {t t' : TS} (h : PS X e t) (m : ∀ D σ H, t' D σ H → t D σ H) : PS X e t' := ⟨fun pins s σ H D I q => h.run pins s σ H D I (m D σ H q)⟩
theorem PSsm {X : Cx} {e : List Stmt} {t t' : TS} (h : PSs X e t) (m : ∀ D σ H, t' D σ H → t D σ H) : PSs X e t' := ⟨fun pins s σ H D I q => h.run pins s σ H D I (m D σ H q)⟩
/-- one of two readings -/
theorem PEor {X : Cx} {e : Expr} {t t' : TE} (h : PE X e t) (h' : PE X e t') : PE X e (fun σ H Q => t σ H Q ∨ t' σ H Q) := ⟨fun pins s σ H Q I q => q.elim (h.run pins s σ H Q I) (h'.run pins s σ H Q I)⟩
theorem PSor {X : Cx} {e : Stmt} {t t' : TS} (h : PS X e t) (h' : PS X e t') : PS X e (fun D σ H => t D σ H ∨ t' D σ H) := ⟨fun pins s σ H D I q => q.elim (h.run pins s σ H D I) (h'.run pins s σ H D I)⟩
theorem PIor {X : Cx} {tg e : Expr} {t t' : TI} (h : PI X tg e t) (h' : PI X tg e t') : PI X tg e (fun σ H Q => t σ H Q ∨ t' σ H Q) := ⟨fun pins s σ H Q I q => q.elim (h.run pins s σ H Q I) (h'.run pins s σ H Q I)⟩

/-! ### how answers go on -/
section
variable {B : Fix} {A A1 : List Addr} {H H1 : Hp} {Q : VK} {W : Str → Hp → Prop}
theorem Post.ext (e : Ext A A1 H H1) {r : Res MV} (p : Post B A H Q W r) : Post B A1 H1 Q W r := by
  cases r with
  | ok v st => exact fun u H' A' e' => p u H' A' (e.trans e')
  | exc c st => exact fun H' A' e' => p H' A' (e.trans e')
  | err => exact p
theorem PostA.ext {Q : List V → Hp → Prop} (e : Ext A A1 H H1) {r : Res MV} (p : PostA B A H Q W r) : PostA B A1 H1 Q W r := by
  cases r with
  | ok v st =>
    cases v with
    | tup vs => exact fun u H' A' e' => p u H' A' (e.trans e')
    | _ => exact p
  | exc c st => exact fun H' A' e' => p H' A' (e.trans e')
  | err => exact p
theorem PostB.ext {Q : Bool → Hp → Prop} (e : Ext A A1 H H1) {r : Res MV} (p : PostB B A H Q W r) : PostB B A1 H1 Q W r := by
  cases r with
  | ok v st =>
    cases v with
    | bl vs => exact fun H' A' e' => p H' A' (e.trans e')
    | _ => exact p
  | exc c st => exact fun H' A' e' => p H' A' (e.trans e')
  | err => exact p
theorem PostS.ext {D : Ends} {σ σ1 : L2.St} {W : WS} (e : Ext A A1 H H1) {r : Res Out} (p : PostS B A H D σ W r) : PostS B A1 H1 D σ1 W r := by
  cases r with
  | ok v st =>
    cases v with
    | nx env => exact fun σ' H' A' e' => p σ' H' A' (e.trans e')
    | bk env => exact fun σ' H' A' e' => p σ' H' A' (e.trans e')
    | rt v => exact fun u H' A' e' => p u H' A' (e.trans e')
  | exc c st => exact fun σ' H' A' e' => p σ' H' A' (e.trans e')
  | err => exact p
end
/-- first e, then what follows it -/
theorem tM_bind {B : Fix} {F : Fn} {W : WS} {e : E} {σ : L2.St} {H : Hp} {A : List Addr} {env : Env} {st : Store} {k : MV → Store → Res MV} {Q : VK} {R : VK} (s : SR B H A st) (r : ER B H A σ env)
    (p : Post B A H R (fun c => W c σ) ((evalE F e env st).bind k))
    (h : ∀ v st1 u H1 A1, Ext A A1 H H1 → SR B H1 A1 st1 → ER B H1 A1 σ env → RV B H1 A1 v u → Post B A1 H1 R (fun c => W c σ) (k v st1) → Q u H1) : tM B F W e σ H Q := by
  refine ⟨A, env, st, s, r, ?_⟩
  cases q : evalE F e env st with
  | ok v st1 =>
    rw [q] at p
    exact fun u H1 A1 e1 s1 r1 => h v st1 u H1 A1 e1 s1 (r.mono e1) r1 (Post.ext e1 p)
  | exc c st1 => rw [q] at p; exact p
  | err => rw [q] at p; exact p
theorem tMB_bind {B : Fix} {F : Fn} {W : WS} {e : E} {σ : L2.St} {H : Hp} {A : List Addr} {env : Env} {st : Store} {k : MV → Store → Res MV} {Q : Bool → Hp → Prop} {R : VK} (s : SR B H A st) (r : ER B H A σ env)
    (p : Post B A H R (fun c => W c σ) ((evalE F e env st).bind k)) (hk : ∀ v st, (∀ b, v ≠ .bl b) → k v st = .err)
    (h : ∀ b st1 H1 A1, Ext A A1 H H1 → SR B H1 A1 st1 → ER B H1 A1 σ env → Post B A1 H1 R (fun c => W c σ) (k (.bl b) st1) → Q b H1) : tMB B F W e σ H Q := by
  refine ⟨A, env, st, s, r, ?_⟩
  cases q : evalE F e env st with
  | ok v st1 =>
    rw [q] at p
    cases v with
    | bl b => exact fun H1 A1 e1 s1 => h b st1 H1 A1 e1 s1 (r.mono e1) (Post.ext e1 p)
    | _ => exact absurd p (by show ¬ Post B A H R _ (k _ st1); rw [hk _ _ (by intro b e; cases e)]; exact id)
  | exc c st1 => rw [q] at p; exact p
  | err => rw [q] at p; exact p
theorem tMA_bind {B : Fix} {F : Fn} {W : WS} {e : E} {σ : L2.St} {H : Hp} {A : List Addr} {env : Env} {st : Store} {k : MV → Store → Res MV} {Q : List V → Hp → Prop} {R : VK} (s : SR B H A st) (r : ER B H A σ env)
    (p : Post B A H R (fun c => W c σ) ((evalE F e env st).bind k)) (hk : ∀ v st, (∀ b, v ≠ .tup b) → k v st = .err)
    (h : ∀ vs st1 us H1 A1, Ext A A1 H H1 → SR B H1 A1 st1 → ER B H1 A1 σ env → RVs B H1 A1 vs us → Post B A1 H1 R (fun c => W c σ) (k (.tup vs) st1) → Q us H1) : tMA B F W e σ H Q := by
  refine ⟨A, env, st, s, r, ?_⟩
  cases q : evalE F e env st with
  | ok v st1 =>
    rw [q] at p
    cases v with
    | tup vs => exact fun us H1 A1 e1 s1 r1 => h vs st1 us H1 A1 e1 s1 (r.mono e1) r1 (Post.ext e1 p)
    | _ => exact absurd p (by show ¬ Post B A H R _ (k _ st1); rw [hk _ _ (by intro b e; cases e)]; exact id)
  | exc c st1 => rw [q] at p; exact p
  | err => rw [q] at p; exact p
end Mi
set_option Elab.async false
set_option linter.all false
set_option maxRecDepth 100000
set_option maxHeartbeats 1000000
/-! MiOps: each operation of the mirror is what the machine does. -/
namespace Mi
open PySem PySem.Spec PyProof.Rows L2

/-- the context stands over what is fixed -/
structure On (B : Fix) (X : Cx) : Prop where
  P : X.prog = B.P
  w : X.w = B.w
  K : X.K = B.K
  mg : X.mg = B.mg
  base : X.base = B.base

/-- mirror readings by values -/
def rM2 (B : Fix) (o : Op) : R2 := fun x y H Q => ∃ A st v1 v2, SR B H A st ∧ RV B H A v1 x ∧ RV B H A v2 y ∧ Post B A H Q (fun _ _ => False) (runOp o [v1, v2] st)
def rMn (B : Fix) (o : Op) : List V → Hp → VK → Prop := fun us H Q => ∃ A st vs, SR B H A st ∧ RVs B H A vs us ∧ Post B A H Q (fun _ _ => False) (runOp o vs st)

section
variable {B : Fix} {H : Hp} {A : List Addr} {st : Store} {Q : VK} {W : Str → Hp → Prop}
/-! ### ends -/
theorem Post.here {v : MV} {u : V} (p : Post B A H Q W (.ok v st)) (s : SR B H A st) (r : RV B H A v u) : Q u H := p u H A .refl s r
theorem Post.bool {b : Bool} (p : Post B A H Q W (.ok (.bl b) st)) (s : SR B H A st) : Q (.bl b) H := p.here s (.bl b)
theorem Post.int {i : Int} (p : Post B A H Q W (.ok (.int i) st)) (s : SR B H A st) : Q (.int i) H := p.here s (.int i)
/-- a new tuple, a new list that nobody changes -/
theorem Post.tup {xs : List MV} {vs : List V} (p : Post B A H Q W (.ok (.tup xs) st)) (s : SR B H A st) (r : RVs B H A xs vs) (l : xs.length ≤ lim) {q : Addr} (hq : H q = none) : Q (.ref q) (upd H q (.tup vs)) := by
  have hA : q ∉ A := fun h => by
    obtain ⟨u, e⟩ := s.there h
    rw [hq] at e
    cases e
  exact p _ _ A (Ext.upd hq) (s.side hq) (.tup (.inl ⟨.inl upd_same, hA, s.notZ hq⟩) (r.mono (Ext.upd hq)) l)
theorem Post.lst {xs : List MV} {vs : List V} (p : Post B A H Q W (.ok (.lst xs) st)) (s : SR B H A st) (r : RVs B H A xs vs) (l : xs.length ≤ lim) {q : Addr} (hq : H q = none) : Q (.ref q) (upd H q (.lst vs)) := by
  have hA : q ∉ A := fun h => by
    obtain ⟨u, e⟩ := s.there h
    rw [hq] at e
    cases e
  exact p _ _ A (Ext.upd hq) (s.side hq) (.lst ⟨upd_same, hA, s.notZ hq⟩ (r.mono (Ext.upd hq)) l)
/-- a new thing of the store -/
theorem Post.newLst {xs : List MV} {vs : List V} (p : Post B A H Q W (new (.lst xs) st)) (s : SR B H A st) (r : RVs B H A xs vs) (l : xs.length ≤ lim) {q : Addr} (hq : H q = none) : Q (.ref q) (upd H q (.lst vs)) := by
  refine p _ _ (A ++ [q]) (Ext.new hq) (s.new hq ⟨vs, upd_same, r.mono (Ext.new hq), l⟩) (.loc ?_)
  rw [← s.len]
  simp
theorem Post.newL {xs : List MV} {vs : List V} {pu : Bool} (p : Post B A H Q W (newL pu xs st)) (s : SR B H A st) (r : RVs B H A xs vs) (l : xs.length ≤ lim) {q : Addr} (hq : H q = none) : Q (.ref q) (upd H q (.lst vs)) := by
  cases pu with
  | true => exact Post.lst p s r l hq
  | false => exact Post.newLst p s r l hq
theorem Post.newDic {kvs : List (Str × MV)} {ks : List (Key × V)} (p : Post B A H Q W (new (.dic kvs) st)) (s : SR B H A st) (r : RKs B H A kvs ks) (l : kvs.length ≤ lim) {q : Addr} (hq : H q = none) : Q (.ref q) (upd H q (.dK ks)) := by
  refine p _ _ (A ++ [q]) (Ext.new hq) (s.new hq ⟨ks, upd_same, r.mono (Ext.new hq), l⟩) (.loc ?_)
  rw [← s.len]
  simp
/-- a thing of the store changed -/
theorem Post.setLst {n : Nat} {a : Addr} {xs : List MV} {vs : List V} {v : MV} {u : V} (p : Post B A H Q W (setLst n xs v st)) (s : SR B H A st) (ha : A[n]? = some a) (hz : NF H a) (r : RVs B H A xs vs) (l : xs.length ≤ lim) (rv : RV B H A v u) : Q u (upd H a (.lst vs)) :=
  p _ _ A (Ext.set ha hz) (s.set ha hz ⟨vs, upd_same, r.mono (Ext.set ha hz), l⟩) (rv.mono (Ext.set ha hz))
theorem Post.setDic {n : Nat} {a : Addr} {kvs : List (Str × MV)} {ks : List (Key × V)} {v : MV} {u : V} (p : Post B A H Q W (setDic n kvs v st)) (s : SR B H A st) (ha : A[n]? = some a) (hz : NF H a) (r : RKs B H A kvs ks) (l : kvs.length ≤ lim) (rv : RV B H A v u) : Q u (upd H a (.dK ks)) :=
  p _ _ A (Ext.set ha hz) (s.set ha hz ⟨ks, upd_same, r.mono (Ext.set ha hz), l⟩) (rv.mono (Ext.set ha hz))
end

section
variable {B : Fix} {X : Cx}
theorem addOp_cases (a b : MV) (st : Store) : (∃ i j, a = .int i ∧ b = .int j) ∨ (∃ x y, a = .str x ∧ b = .str y) ∨ (∃ xs ys, a = .tup xs ∧ b = .tup ys) ∨ addOp a b st = addL a b st := by
  cases a <;> cases b <;> simp [addOp]

theorem opr_add (on : On B X) : OpR X (binaryOp .Add) (rM2 B .add) := by
  intro pins s σ H x y v u Q I rx ry h
  obtain ⟨A, st, v1, v2, sr, r1, r2, p⟩ := h
  have p : Post B A H Q (fun _ _ => False) (addOp v1 v2 st) := p
  rcases addOp_cases v1 v2 st with ⟨i, j, rfl, rfl⟩ | ⟨a, b, rfl, rfl⟩ | ⟨xs, ys, rfl, rfl⟩ | e
  · cases r1; cases r2
    exact op_add pins s σ H _ _ v u Q I rx ry ⟨i, j, rfl, rfl, p.int sr⟩
  · cases r1; cases r2
    simp only [addOp] at p
    split at p
    · rename_i hl
      exact op_add_str pins s σ H _ _ v u Q I rx ry ⟨a, b, rfl, rfl, by rw [lim_eq]; exact hl, p.here sr (.str _)⟩
    · exact p.elim
  · cases r1 with
    | tup t1 rs1 l1 =>
      cases r2 with
      | tup t2 rs2 l2 =>
        simp only [addOp] at p
        split at p
        · rename_i hl
          refine op_catA pins s σ H _ _ v u Q I rx ry ⟨_, _, _, _, rfl, rfl, by rw [on.K]; exact t1.sq, by rw [on.K]; exact t2.sq, by rw [lim_eq, ← rs1.length, ← rs2.length]; exact hl, fun e => ?_, fun _ e => ?_, fun _ _ q hq => ?_⟩
          · subst e
            cases rs1
            exact p.here sr (.tup t2 rs2 l2)
          · subst e
            cases rs2
            rw [List.append_nil] at p
            exact p.here sr (.tup t1 rs1 l1)
          · exact p.tup sr (rs1.append rs2) (by rw [List.length_append]; exact hl) hq
        · exact p.elim
  · rw [e] at p
    unfold addL at p
    split at p
    · rename_i xs ys h1 h2
      split at p
      · rename_i hl
        obtain ⟨a, vs, rfl, hq1, rs1, l1⟩ := lstS_of sr r1 h1
        obtain ⟨b, us, rfl, hq2, rs2, l2⟩ := lstS_of sr r2 h2
        exact op_cat pins s σ H _ _ v u Q I rx ry ⟨a, b, vs, us, rfl, rfl, hq1, hq2, by rw [lim_eq, ← rs1.length, ← rs2.length]; exact hl, fun q hq => p.lst sr (rs1.append rs2) (by rw [List.length_append]; exact hl) hq⟩
      · exact p.elim
    · exact p.elim

/-- two ints -/
theorem two_ints {o : Op} {A : List Addr} {H : Hp} {st : Store} {Q : VK} {v1 v2 : MV} {x y : V} {g : Int → Int → Store → Res MV} (hg : ∀ a b st, runOp o [a, b] st = match a, b with
    | .int i, .int j => g i j st
    | _, _ => .err) (r1 : RV B H A v1 x) (r2 : RV B H A v2 y) (p : Post B A H Q (fun _ _ => False) (runOp o [v1, v2] st)) : ∃ i j, x = .int i ∧ y = .int j ∧ Post B A H Q (fun _ _ => False) (g i j st) := by
  rw [hg] at p
  cases r1 <;> first
    | exact p.elim
    | (cases r2 <;> first
        | exact p.elim
        | exact ⟨_, _, rfl, rfl, p⟩)
theorem opr_sub : OpR X (binaryOp .Sub) (rM2 B .sub) := by
  intro pins s σ H x y v u Q I rx ry ⟨A, st, v1, v2, sr, r1, r2, p⟩
  obtain ⟨i, j, rfl, rfl, p⟩ := two_ints (g := fun i j st => .ok (.int (i - j)) st) (fun a b st => by cases a <;> cases b <;> rfl) r1 r2 p
  exact op_sub pins s σ H _ _ v u Q I rx ry ⟨i, j, rfl, rfl, p.int sr⟩
theorem opr_fdiv : OpR X (binaryOp .FloorDiv) (rM2 B .fdiv) := by
  intro pins s σ H x y v u Q I rx ry ⟨A, st, v1, v2, sr, r1, r2, p⟩
  obtain ⟨i, j, rfl, rfl, p⟩ := two_ints (g := fun i j st => if 0 < j ∧ j < 1073741824 then .ok (.int (i / j)) st else .err) (fun a b st => by cases a <;> cases b <;> rfl) r1 r2 p
  split at p
  · rename_i h
    exact op_fdiv pins s σ H _ _ v u Q I rx ry ⟨i, j, rfl, rfl, h, p.int sr⟩
  · exact p.elim
theorem opr_mod : OpR X (binaryOp .Mod) (rM2 B .mod) := by
  intro pins s σ H x y v u Q I rx ry ⟨A, st, v1, v2, sr, r1, r2, p⟩
  obtain ⟨i, j, rfl, rfl, p⟩ := two_ints (g := fun i j st => if 0 < j then .ok (.int (i % j)) st else .err) (fun a b st => by cases a <;> cases b <;> rfl) r1 r2 p
  split at p
  · rename_i h
    exact op_mod pins s σ H _ _ v u Q I rx ry ⟨i, j, rfl, rfl, h, p.int sr⟩
  · exact p.elim
theorem opr_pow : OpR X (binaryOp .Pow) (rM2 B .pow) := by
  intro pins s σ H x y v u Q I rx ry ⟨A, st, v1, v2, sr, r1, r2, p⟩
  obtain ⟨i, j, rfl, rfl, p⟩ := two_ints (g := fun i j st => if 0 ≤ j ∧ j ≤ 1000000 ∧ i.natAbs < 2 ^ 64 then .ok (.int (i ^ j.toNat)) st else .err) (fun a b st => by cases a <;> cases b <;> rfl) r1 r2 p
  split at p
  · rename_i h
    exact op_pow pins s σ H _ _ v u Q I rx ry ⟨i, j, rfl, rfl, h, p.int sr⟩
  · exact p.elim
theorem opr_lt : OpR X (compareOp .Lt) (rM2 B .lt) := by
  intro pins s σ H x y v u Q I rx ry ⟨A, st, v1, v2, sr, r1, r2, p⟩
  obtain ⟨i, j, rfl, rfl, p⟩ := two_ints (g := fun i j st => okB (decide (i < j)) st) (fun a b st => by cases a <;> cases b <;> rfl) r1 r2 p
  exact op_lt pins s σ H _ _ v u Q I rx ry ⟨i, j, rfl, rfl, Post.bool p sr⟩
theorem opr_le : OpR X (compareOp .LtE) (rM2 B .le) := by
  intro pins s σ H x y v u Q I rx ry ⟨A, st, v1, v2, sr, r1, r2, p⟩
  obtain ⟨i, j, rfl, rfl, p⟩ := two_ints (g := fun i j st => okB (decide (i ≤ j)) st) (fun a b st => by cases a <;> cases b <;> rfl) r1 r2 p
  exact op_le pins s σ H _ _ v u Q I rx ry ⟨i, j, rfl, rfl, Post.bool p sr⟩
theorem opr_gt : OpR X (compareOp .Gt) (rM2 B .gt) := by
  intro pins s σ H x y v u Q I rx ry ⟨A, st, v1, v2, sr, r1, r2, p⟩
  obtain ⟨i, j, rfl, rfl, p⟩ := two_ints (g := fun i j st => okB (decide (j < i)) st) (fun a b st => by cases a <;> cases b <;> rfl) r1 r2 p
  exact op_gt pins s σ H _ _ v u Q I rx ry ⟨i, j, rfl, rfl, Post.bool p sr⟩
theorem opr_ge : OpR X (compareOp .GtE) (rM2 B .ge) := by
  intro pins s σ H x y v u Q I rx ry ⟨A, st, v1, v2, sr, r1, r2, p⟩
  obtain ⟨i, j, rfl, rfl, p⟩ := two_ints (g := fun i j st => okB (decide (j ≤ i)) st) (fun a b st => by cases a <;> cases b <;> rfl) r1 r2 p
  exact op_ge pins s σ H _ _ v u Q I rx ry ⟨i, j, rfl, rfl, Post.bool p sr⟩

/-! ### * -/
theorem tuple_mulE (l : Addr) (n : Nat) (dd : Option Addr) (sl : Array (Option Value)) (x : Int) (u : Tok) (c0 : (decide (x < -(2 ^ 63)) || decide (x ≥ 2 ^ 63)) = false) :
    Meets (Builtin.«tuple.__mul__» ⟨[.ref l, .int x u], []⟩) (fun _ R s => s.heap.get? l = some { cls := .type "tuple", dict := dd, data := .seq #[] n, slots := sl } ∧ R (.ok (.ret (Value.ref l))) s) :=
  .of_wp fun prog w A R s h => by
    obtain ⟨hp, g, d, tk, os⟩ := s
    obtain ⟨hl, h⟩ := h
    have f1 := AutoSeq1.idx_int
    wp_walk using wpAny_loadPart' hl
    repeat (first
      | (refine wpAny_ite_false (decide_eq_false (by rw [c0]; exact Bool.false_ne_true)) ?_; wp_walk using wpAny_loadPart' hl))
    exact ⟨_, rfl, h⟩
def rRepE (K : PySem.W.Frag) : R2 := fun x y H Q => ∃ l k, x = .ref l ∧ y = .int k ∧ SqT K H l [] ∧ 2 ≤ k ∧ k ≤ 1000 ∧ Q (.ref l) H
theorem op_repE {X : Cx} : OpR X (binaryOp .Mult) (rRepE X.K) := by
  intro pins s σ H x y v u Q I rx ry h
  obtain ⟨l, k, rfl, rfl, hT, h1, h2, q⟩ := h
  cases rx
  obtain ⟨t, rfl⟩ := ry
  obtain ⟨its, r, ⟨⟨cls, dd, data, sl⟩, ho, hc, n, hd⟩, hs⟩ := I.tuple hT
  simp only at hc hd
  subst hc hd
  have hi : its = [] := List.eq_nil_of_length_eq_zero r.length.symm
  subst hi
  have c0 : (decide (k < -(2 ^ 63)) || decide (k ≥ 2 ^ 63)) = false := by
    rw [decide_eq_false (by omega), decide_eq_false (by omega)] <;> rfl
  refine wpAny_binaryOp_repeat_ref (T := "tuple") (U := "int") (by decide) ⟨_, ho, rfl⟩ (fun s' => typeIs_int s' k t) noFill_tuple_mul F.fills_int_mul F.slot_int_rmul repeat_tuple F.slot_int_index.lookup
    (call_meets F.slot_int_rmul (typeIs_int s k t) F.entry_int_rmul (F.args_int_rmul_2 _ _) (int_rmul_tuple k t l #[] n dd sl)
      ⟨ho, rfl, ⟨_, ho, rfl⟩, call_meets F.slot_tuple_mul ⟨_, ho, rfl⟩ F.entry_tuple_mul (F.args_tuple_mul_2 _ _) (tuple_mulE l n dd sl k t c0) ⟨ho, ?_⟩⟩)
  exact ⟨.ref l, _, I, rfl, q⟩
theorem mulOp_cases (a b : MV) (st : Store) : (∃ i j, a = .int i ∧ b = .int j) ∨ (∃ xs j, a = .tup xs ∧ b = .int j) ∨ (∃ xs j, a = .lst xs ∧ b = .int j) ∨ mulOp a b st = .err := by
  cases a <;> cases b <;> simp [mulOp]
theorem flat_len {α : Type} (xs : List α) : ∀ n : Nat, (List.replicate n xs).flatten.length = xs.length * n
  | 0 => by simp
  | n + 1 => by
    rw [List.replicate_succ, List.flatten_cons, List.length_append, flat_len xs n, Nat.mul_succ]
    omega
theorem opr_mul (on : On B X) : OpR X (binaryOp .Mult) (rM2 B .mul) := by
  intro pins s σ H x y v u Q I rx ry ⟨A, st, v1, v2, sr, r1, r2, p⟩
  have p : Post B A H Q (fun _ _ => False) (mulOp v1 v2 st) := p
  rcases mulOp_cases v1 v2 st with ⟨i, j, rfl, rfl⟩ | ⟨xs, j, rfl, rfl⟩ | ⟨xs, j, rfl, rfl⟩ | e
  · cases r1; cases r2
    simp only [mulOp] at p
    split at p
    · rename_i h
      exact op_mul pins s σ H _ _ v u Q I rx ry ⟨i, j, rfl, rfl, h, p.int sr⟩
    · exact p.elim
  · cases r2
    cases r1 with
    | tup t1 rs1 l1 =>
      simp only [mulOp] at p
      split at p
      · rename_i h
        obtain ⟨h1, h2, h3⟩ := h
        by_cases h0 : xs = []
        · subst h0
          cases rs1
          refine op_repE pins s σ H _ _ v u Q I rx ry ⟨_, j, rfl, rfl, by rw [on.K]; exact t1.sq, h1, h2, ?_⟩
          have e : (List.replicate j.toNat ([] : List MV)).flatten = [] := List.eq_nil_of_length_eq_zero (by rw [flat_len]; exact Nat.zero_mul _)
          rw [e] at p
          exact p.here sr (.tup t1 .nil l1)
        refine op_repT pins s σ H _ _ v u Q I rx ry ⟨_, j, _, rfl, rfl, by rw [on.K]; exact t1.sq, fun e => h0 ?_, h1, h2, by rw [← rs1.length]; exact h3, fun q hq => p.tup sr (rs1.replicate _) ?_ hq⟩
        · subst e
          cases rs1
          rfl
        · have e := flat_len xs j.toNat
          have hj : j.toNat ≤ 1000 := by omega
          have hm : xs.length * j.toNat ≤ 1000 * 1000 := Nat.mul_le_mul h3 hj
          show _ ≤ 16777216
          omega
      · exact p.elim
  · cases r2
    cases r1 with
    | lst t1 rs1 l1 =>
      simp only [mulOp] at p
      split at p
      · rename_i h
        obtain ⟨h0, h1, h2⟩ := h
        refine op_rep pins s σ H _ _ v u Q I rx ry ⟨_, j, _, rfl, rfl, t1.1, by omega, by omega, by rw [lim_eq, ← rs1.length]; exact h2, fun q hq => p.lst sr (rs1.replicate _) ?_ hq⟩
        rw [flat_len]
        exact h2
      · exact p.elim
  · rw [e] at p
    exact p.elim

/-! ### ==, != -/
theorem data_of {H : Hp} {A : List Addr} {st : Store} (sr : SR B H A st) : ∀ (d : Nat) {v : MV} {u : V} {y : PyData}, RV B H A v u → dataOf st d v = some y → Dp B.K H u y := by
  intro d
  induction d with
  | zero => intro v u y r h; simp [dataOf] at h
  | succ d ih =>
    have all : ∀ {xs : List MV} {us : List V} {ys : List PyData}, RVs B H A xs us → xs.mapM (dataOf st d) = some ys → DpAll B.K H us ys := by
      intro xs
      induction xs with
      | nil =>
        intro us ys r h
        cases r
        simp at h
        subst h
        exact .nil
      | cons x xs ihx =>
        intro us ys r h
        cases r with
        | cons r1 r2 =>
          rw [List.mapM_cons] at h
          cases e1 : dataOf st d x with
          | none => rw [e1] at h; cases h
          | some z =>
            rw [e1] at h
            cases e2 : xs.mapM (dataOf st d) with
            | none => rw [e2] at h; cases h
            | some zs =>
              rw [e2] at h
              cases h
              exact .cons (ih r1 e1) (ihx r2 e2)
    intro v u y r h
    cases r with
    | non => cases h; exact .non
    | bl b => cases h; exact .bl b
    | int i => cases h; exact .int i
    | str x => cases h; exact .str x
    | tup t rs l =>
      simp only [dataOf] at h
      cases e : List.mapM (dataOf st d) _ with
      | none => rw [e] at h; cases h
      | some ys => rw [e] at h; cases h; exact .tup t.sq (all rs e)
    | lst t rs l =>
      simp only [dataOf] at h
      cases e : List.mapM (dataOf st d) _ with
      | none => rw [e] at h; cases h
      | some ys => rw [e] at h; cases h; exact .lst t.sq (all rs e)
    | slst t rs l =>
      simp only [dataOf] at h
      cases e : List.mapM (dataOf st d) _ with
      | none => rw [e] at h; cases h
      | some ys => rw [e] at h; cases h; exact .lst t.sq (all rs e)
    | loc hn =>
      rename_i n a
      simp only [dataOf] at h
      cases q : st[n]? with
      | none => rw [q] at h; cases h
      | some o =>
        rw [q] at h
        have ro := sr.obj n a o hn q
        cases o with
        | lst xs =>
          obtain ⟨vs, e1, rs, l⟩ := ro
          simp only at h
          cases e : List.mapM (dataOf st d) xs with
          | none => rw [e] at h; cases h
          | some ys => rw [e] at h; cases h; exact .lst (SqL.of e1) (all rs e)
        | flst xs =>
          obtain ⟨ob, vs, e1, rs, l⟩ := ro
          simp only at h
          cases e : List.mapM (dataOf st d) xs with
          | none => rw [e] at h; cases h
          | some ys => rw [e] at h; cases h; exact .lst (.inl (.inr ⟨ob, e1⟩)) (all rs e)
        | _ => cases h
    | nam h1 => cases h
    | cdic h1 => cases h

/-- flat values -/
theorem flat_of {H : Hp} {A : List Addr} {v : MV} {u : V} (r : RV B H A v u) (f : flat v = true) : flatV u = true := by
  cases r <;> first | rfl | cases f
theorem eqF_of {H : Hp} {A : List Addr} {v w : MV} {u z : V} (r : RV B H A v u) (q : RV B H A w z) (f : flat v = true) (g : flat w = true) : eqV u z = eqF v w := by
  cases r <;> first | (cases f; done) | (cases q <;> first | (cases g; done) | rfl)
theorem flatAll {H : Hp} {A : List Addr} : ∀ {xs : List MV} {us : List V}, RVs B H A xs us → xs.all flat = true → us.all flatV = true
  | _, _, .nil, _ => rfl
  | _, _, .cons r s, f => by
    rw [List.all_cons, Bool.and_eq_true] at f ⊢
    exact ⟨flat_of r f.1, flatAll s f.2⟩
theorem inV_of {H : Hp} {A : List Addr} {v : MV} {u : V} (r : RV B H A v u) (f : flat v = true) : ∀ {xs : List MV} {us : List V}, RVs B H A xs us → xs.all flat = true → inV u us = (xs.any fun y => eqF y v)
  | _, _, .nil, _ => rfl
  | _, _, .cons q s, g => by
    rw [List.all_cons, Bool.and_eq_true] at g
    unfold inV
    rw [List.any_cons, List.any_cons, eqF_of q r g.1 f]
    have ih := inV_of r f s g.2
    unfold inV at ih
    rw [ih]
def hitsB (kb : List (Str × MV)) (ka : List (Str × MV)) : Bool := ka.all fun kv => match dget kb kv.1 with
  | some v => eqF kv.2 v
  | none => false
theorem hits_of {H : Hp} {A : List Addr} {Ar : Around} {s : Shared} {kb : List (Str × MV)} {lb : List (Key × V)} {vb : List (Key × Value)} (rb : RKs B H A kb lb) (qb : KV lb vb) (fb : (kb.all fun kv => flat kv.2) = true) :
    ∀ {ka : List (Str × MV)} {la : List (Key × V)} {va : List (Key × Value)}, RKs B H A ka la → KV la va → (ka.all fun kv => flat kv.2) = true → PySem.W.KeqHits Ar s vb va (hitsB kb ka) := by
  intro ka
  induction ka with
  | nil =>
    intro la va r q f
    cases r
    cases q
    exact .nil
  | cons p ka ih =>
    intro la va r q f
    cases r with
    | cons r1 r2 =>
      rename_i k x v' vs'
      cases q with
      | cons q1 q2 =>
        rename_i pv vs2
        obtain ⟨kk, uv⟩ := pv
        obtain ⟨e1, rv⟩ := q1
        have e1 : (Sum.inr k : Key) = kk := e1
        subst e1
        rw [List.all_cons, Bool.and_eq_true] at f
        have hv := rb.val (k := k)
        have hw := qb.val (Sum.inr k : Key)
        unfold hitsB
        rw [List.all_cons]
        cases e : dget kb k with
        | none =>
          rw [e] at hv
          cases e2 : valV lb (Sum.inr k : Key) with
          | some z => rw [e2] at hv; exact hv.elim
          | none =>
            rw [e2] at hw
            simp only [e, Bool.false_and]
            exact .miss hw.none_of
        | some y =>
          rw [e] at hv
          cases e2 : valV lb (Sum.inr k : Key) with
          | none => rw [e2] at hv; exact hv.elim
          | some z =>
            rw [e2] at hv hw
            obtain ⟨uz, ez, rz⟩ := hw.some_of
            have fy : flat y = true := by
              unfold dget at e
              cases q : kb.find? fun kv => decide (kv.1 = k) with
              | none => rw [q] at e; cases e
              | some kv =>
                rw [q] at e
                cases e
                exact List.all_eq_true.mp fb kv (List.mem_of_find?_eq_some q)
            simp only [e]
            have hq := eqAt_V (A := Ar) (s := s) rv rz (flat_of r1 f.1) (flat_of hv fy)
            rw [eqF_of r1 hv f.1 fy] at hq
            exact .hit ez hq (ih r2 q2 f.2)
theorem eqMV_cases (a b : MV) (st : Store) {r : Bool} (h : eqMV st a b = some r) :
    (∃ ka kb, dicL st a = some ka ∧ dicL st b = some kb ∧ (ka.all fun kv => flat kv.2) = true ∧ (kb.all fun kv => flat kv.2) = true ∧ r = eqDic ka kb) ∨
    ∃ d e, dataOf st 65 a = some d ∧ dataOf st 65 b = some e ∧ SeqAt.shaped d = true ∧ SeqAt.shaped e = true ∧ r = PyData.eqv d e := by
  unfold eqMV at h
  split at h
  · rename_i ka kb h1 h2
    split at h
    · rename_i hf
      rw [Bool.and_eq_true] at hf
      cases h
      exact .inl ⟨ka, kb, h1, h2, hf.1, hf.2, rfl⟩
    · cases h
  · split at h
    · rename_i d e h1 h2
      split at h
      · rename_i hf
        simp only [Bool.and_eq_true, decide_eq_true_eq] at hf
        cases h
        refine .inr ⟨d, e, h1, h2, ?_, ?_, rfl⟩
        · unfold SeqAt.shaped
          simp [hf.1.1.1, hf.1.2]
        · unfold SeqAt.shaped
          simp [hf.1.1.2, hf.2]
      · cases h
    · cases h
theorem ofB_some {H : Hp} {A : List Addr} {st : Store} {Q : VK} {W : Str → Hp → Prop} {o : Option Bool} (p : Post B A H Q W (ofB o st)) (s : SR B H A st) : ∃ b, o = some b ∧ Q (.bl b) H := by
  cases o with
  | none => exact p.elim
  | some b => exact ⟨b, rfl, Post.bool p s⟩
theorem beq_dec (n m : Nat) : (n == m) = decide (n = m) := by
  rw [Bool.eq_iff_iff]
  simp
theorem eqDic_hits (ka kb : List (Str × MV)) : eqDic ka kb = (decide (ka.length = kb.length) && hitsB kb ka) := rfl
theorem eq_len {B : Fix} {H : Hp} {A : List Addr} {ka : List (Str × MV)} {la : List (Key × V)} {va : List (Key × Value)} (r : RKs B H A ka la) (q : KV la va) : ka.length = va.length := r.length.trans q.length
theorem opr_eq (on : On B X) (hu : X.A.units + 64 < cLine) : OpR X (compareOp .Eq) (rM2 B .eq) := by
  intro pins s σ H x y v u Q I rx ry ⟨A, st, v1, v2, sr, r1, r2, p⟩
  obtain ⟨b, hb, q⟩ := ofB_some (show Post B A H Q (fun _ _ => False) (ofB (eqMV st v1 v2) st) from p) sr
  rcases eqMV_cases v1 v2 st hb with ⟨ka, kb, h1, h2, f1, f2, e⟩ | ⟨d, e, h1, h2, s1, s2, eb⟩
  · obtain ⟨pa, la, rfl, ra, k1, _⟩ := dicL_of sr r1 h1
    obtain ⟨pb, lb, rfl, rb, k2, _⟩ := dicL_of sr r2 h2
    cases rx
    cases ry
    obtain ⟨_, ya, va, qa, da⟩ := dk_rd I.hok ra
    obtain ⟨_, yb, vb, qb, db⟩ := dk_rd I.hok rb
    refine PySem.W.keq_eq (knd := mixKind X.prog X.w) (r := hitsB kb ka) ya yb da db (by omega) (fun _ => hits_of k2 qb f2 k1 qa f1) ?_
    rw [← eq_len k1 qa, ← eq_len k2 qb]
    rw [e, eqDic_hits, ← beq_dec] at q
    exact ⟨.bl _, H, I, rfl, q⟩
  · subst eb
    refine op_eqD hu pins s σ H _ _ v u Q I rx ry ⟨d, e, ?_, ?_, s1, s2, q⟩
    · rw [on.K]; exact data_of sr 65 r1 h1
    · rw [on.K]; exact data_of sr 65 r2 h2
theorem opr_ne (on : On B X) (hu : X.A.units + 64 < cLine) : OpR X (compareOp .NotEq) (rM2 B .ne) := by
  intro pins s σ H x y v u Q I rx ry ⟨A, st, v1, v2, sr, r1, r2, p⟩
  obtain ⟨b', hb', q⟩ := ofB_some (show Post B A H Q (fun _ _ => False) (ofB ((eqMV st v1 v2).map (!·)) st) from p) sr
  obtain ⟨b, hb, eb'⟩ := Option.map_eq_some_iff.mp hb'
  rcases eqMV_cases v1 v2 st hb with ⟨ka, kb, h1, h2, f1, f2, e⟩ | ⟨d, e, h1, h2, s1, s2, eb⟩
  · obtain ⟨pa, la, rfl, ra, k1, _⟩ := dicL_of sr r1 h1
    obtain ⟨pb, lb, rfl, rb, k2, _⟩ := dicL_of sr r2 h2
    cases rx
    cases ry
    obtain ⟨_, ya, va, qa, da⟩ := dk_rd I.hok ra
    obtain ⟨_, yb, vb, qb, db⟩ := dk_rd I.hok rb
    refine PySem.W.keq_ne (knd := mixKind X.prog X.w) (r := hitsB kb ka) ya yb da db (by omega) (fun _ => hits_of k2 qb f2 k1 qa f1) ?_
    rw [← eq_len k1 qa, ← eq_len k2 qb]
    rw [← eb', e, eqDic_hits, ← beq_dec] at q
    exact ⟨.bl _, H, I, rfl, q⟩
  · subst eb
    subst eb'
    refine op_neD hu pins s σ H _ _ v u Q I rx ry ⟨d, e, ?_, ?_, s1, s2, q⟩
    · rw [on.K]; exact data_of sr 65 r1 h1
    · rw [on.K]; exact data_of sr 65 r2 h2
end
end Mi
set_option Elab.async false
set_option linter.all false
set_option maxRecDepth 100000
set_option maxHeartbeats 1000000
namespace Mi
open PySem PySem.Spec PyProof.Rows L2
/-- a dict is not None -/
theorem eqAt_dict_none {A : Around} {s : Shared} {d : Addr} (hd : s.TypeIs (.ref d) "dict") (hu : A.units < cLine) : SeqAt.EqAt A s (.ref d) .none false := fun prog w E Q h => by
  unfold eqBool
  refine wpAny_holding (wpAny_ite_split (fun hab => absurd (eq_of_beq hab) nofun) fun _ => wpAny_bind ?_)
  refine SeqAt.rc_eq_decline_or (k := false) hd rfl (by decide) PySem.F.sub_NoneType_dict PySem.F.slot_dict_eq PySem.F.slot_NoneType_eq_refl
    (fun _ hq => wpAny_call_entry PySem.F.slot_dict_eq hd PySem.F.entry_dict_eq ?_ (PySem.F.args_dict_eq_2 _ _))
    (fun _ hq => call_gives PySem.F.slot_NoneType_eq_refl rfl PySem.F.entry_NoneType_eq (PySem.F.args_NoneType_eq_2 _ _) (SeqAt.NoneType___eq___none_ref_0 d) hq)
    (fun _ hq => wpAny_of_eq (rfl : isSame (.ref d) .none = pure false) hq) (.inr hu) (wpAny_truthy_bool h)
  show wpAny _ _ (Builtin.Dict.dictSlotArgs "__eq__" ⟨[.ref d, .none], []⟩ >>= _) _ _ s
  refine wpAny_bind ?_
  unfold Builtin.Dict.dictSlotArgs
  refine wpAny_bind (wpAny_notOrdered_dict hd ?_)
  refine wpAny_pure ?_
  refine wpAny_bind (wpAny_isInstance (T := "NoneType") rfl PySem.F.sub_NoneType_dict ?_)
  simp only [Bool.not_false, if_true]
  exact wpAny_bind (wpAny_rule (wpAny_pure ⟨_, rfl, hq⟩))
def noneU : Value → Bool
  | .none => true
  | _ => false
section
variable {B : Fix} {X : Cx}
/-- None or a dict, as a value -/
theorem nd_of {H : Hp} {A : List Addr} {st : Store} (sr : SR B H A st) {v : MV} {u : V} (r : RV B H A v u) (f : flatD st v = true) : (v = .non ∧ u = .non) ∨ (isNon v = false ∧ ∃ p, u = .ref p ∧ ((∃ ks, Rd H p (.dK ks)) ∨ ∃ kvs, KTab B.K B.w p kvs)) := by
  unfold flatD at f
  cases e : isNon v with
  | true =>
    cases v <;> first | (cases r; exact .inl ⟨rfl, rfl⟩) | cases e
  | false =>
    rw [e, Bool.false_or] at f
    obtain ⟨kvs, e2⟩ := Option.isSome_iff_exists.mp f
    obtain ⟨p, e1, ⟨ks, h, _⟩ | h⟩ := dic_of sr r e2
    · exact .inr ⟨rfl, p, e1, .inl ⟨ks, h⟩⟩
    · exact .inr ⟨rfl, p, e1, .inr ⟨kvs, h⟩⟩
theorem noneU_of {u : V} {v : Value} (r : RelV u v) : noneU v = decide (u = .non) := by
  cases u with
  | non => cases r; rfl
  | bl _ => cases r; rfl
  | int _ => obtain ⟨t, rfl⟩ := r; rfl
  | str _ => obtain ⟨t, rfl⟩ := r; rfl
  | byt _ => obtain ⟨t, rfl⟩ := r; rfl
  | flt _ => obtain ⟨t, rfl⟩ := r; rfl
  | ref _ => cases r; rfl
  | ty _ => cases r; rfl
theorem none_items {pins : List (Addr × Obj)} {σ : L2.St} {H : Hp} {s : Shared} {A : List Addr} {st : Store} (on : On B X) (I : Inv X pins σ H s) (sr : SR B H A st) (hu : X.A.units + 1 < cLine) : ∀ {xs : List MV} {us : List V} {vs : List Value}, RVs B H A xs us → Vals us vs → xs.all (flatD st) = true →
    (vs.any noneU = xs.any isNon) ∧ ∀ w ∈ vs, SeqAt.EqAt X.A.in1 s w .none (noneU w)
  | _, _, _, .nil, .nil, _ => ⟨rfl, fun w hw => by cases hw⟩
  | _, _, _, .cons r rs, .cons q qs, f => by
    rw [List.all_cons, Bool.and_eq_true] at f
    obtain ⟨h1, h2⟩ := none_items on I sr hu rs qs f.2
    rw [List.any_cons, List.any_cons, h1]
    rcases nd_of sr r f.1 with ⟨rfl, rfl⟩ | ⟨e, p, rfl, hp⟩
    · cases q
      refine ⟨rfl, fun w hw => ?_⟩
      rcases List.mem_cons.mp hw with rfl | hw
      · exact SeqAt.EqAt.same _
      · exact h2 w hw
    · cases q
      refine ⟨by rw [e]; rfl, fun w hw => ?_⟩
      rcases List.mem_cons.mp hw with rfl | hw
      · have ty : s.TypeIs (.ref p) "dict" := by
          rcases hp with ⟨ks, hp⟩ | ⟨kvs, ⟨es, n, hk⟩, _⟩
          · obtain ⟨_, _, vs, _, dd⟩ := dk_rd I.hok hp
            exact dd.typeIs
          · rw [← on.K, ← on.w] at hk
            exact kd_type hk I
        exact eqAt_dict_none ty (by show X.A.units + 1 < cLine; exact hu)
      · exact h2 w hw

/-! ### in, not in -/
theorem inOp_cases (a b : MV) (st : Store) : (∃ y, b = .str y ∧ inOp a b st = inStr a y) ∨ inOp a b st = inObj a b st := by
  cases b <;> first | exact .inl ⟨_, rfl, rfl⟩ | exact .inr rfl
theorem seq_sq {H : Hp} {A : List Addr} {st : Store} (on : On B X) (sr : SR B H A st) {v : MV} {u : V} {xs : List MV} (r : RV B H A v u) (h : seqOf st v = some xs) : ∃ p vs, u = .ref p ∧ (SqL X.K H p vs ∨ SqT X.K H p vs) ∧ RVs B H A xs vs ∧ xs.length ≤ lim := by
  obtain ⟨p, vs, e, h1 | h1, rs, l⟩ := seq_of sr r h
  · exact ⟨p, vs, e, .inl (by rw [on.K]; exact h1), rs, l⟩
  · exact ⟨p, vs, e, .inr (by rw [on.K]; exact h1), rs, l⟩
theorem rIn_b {neg b c : Bool} {u : V} {us : List V} (h : inV u us = b) (e : (if neg = true then !b else b) = c) : (if neg = true then !inV u us else inV u us) = c := by rw [h]; exact e
/-- x in .., by values; neg: not in -/
theorem in_any (on : On B X) (hu : X.A.units + 64 < cLine) (neg : Bool) {pins : List (Addr × Obj)} {s : Shared} {σ : L2.St} {H : Hp} {x y : V} {v u : Value} {Q : VK} {A : List Addr} {st : Store} {v1 v2 : MV} {b : Bool} (I : Inv X pins σ H s) (rx : RelV x v) (ry : RelV y u)
    (sr : SR B H A st) (r1 : RV B H A v1 x) (r2 : RV B H A v2 y) (h : inOp v1 v2 st = some b) (q : Q (.bl (if neg = true then !b else b)) H) :
    wpAny (model X.prog X.w) X.A (compareOp (if neg = true then .NotIn else .In) v u) (EP X pins σ Q) X.xe s := by
  rcases inOp_cases v1 v2 st with ⟨z, rfl, e⟩ | e
  · rw [e] at h
    cases r2
    cases v1 <;> first | (cases h; done) | skip
    cases r1
    have h := Option.some.inj h
    subst h
    cases neg with
    | false => exact op_in_str pins s σ H _ _ v u Q I rx ry ⟨_, _, rfl, rfl, q⟩
    | true => exact op_notin_str pins s σ H _ _ v u Q I rx ry ⟨_, _, rfl, rfl, q⟩
  · rw [e] at h
    unfold inObj at h
    split at h
    · rename_i kvs hd
      cases v1 <;> first | (cases h; done) | skip
      cases r1
      rename_i k
      have h := Option.some.inj h
      subst h
      obtain ⟨p, rfl, ⟨ks, hr, rk, _⟩ | hk⟩ := dic_of sr r2 hd
      · have hv := rk.val (k := k)
        have ei : (valV ks (Sum.inr k : Key)).isSome = (dget kvs k).isSome := by
          cases e1 : dget kvs k <;> cases e2 : valV ks (Sum.inr k : Key) <;> rw [e1, e2] at hv <;> first | rfl | exact hv.elim
        have g : DGet H p (.str k) (valV ks (Sum.inr k : Key)) := .inl ⟨ks, Sum.inr k, hr, rfl, rfl⟩
        cases ry
        cases neg with
        | false => exact d_in (by omega) I g rx fun s' I' => ⟨.bl _, H, I', rfl, by rw [ei]; exact q⟩
        | true => exact d_notIn (by omega) I g rx fun s' I' => ⟨.bl _, H, I', rfl, by rw [ei]; exact q⟩
      · obtain ⟨⟨es, n, hk1⟩, hk2⟩ := hk
        rw [← on.K, ← on.w] at hk1
        have hz := hk2 k
        rw [← on.K] at hz
        cases e1 : dget kvs k with
        | none =>
          rw [e1] at hz q
          cases neg with
          | false => exact op_in_kd hk1 pins s σ H _ _ v u Q I rx ry ⟨k, none, rfl, rfl, hz, q⟩
          | true => exact op_notIn_kd hk1 pins s σ H _ _ v u Q I rx ry ⟨k, none, rfl, rfl, hz, q⟩
        | some w =>
          rw [e1] at hz q
          obtain ⟨_, u', _, hz, _⟩ := hz
          cases neg with
          | false => exact op_in_kd hk1 pins s σ H _ _ v u Q I rx ry ⟨k, some u', rfl, rfl, hz, q⟩
          | true => exact op_notIn_kd hk1 pins s σ H _ _ v u Q I rx ry ⟨k, some u', rfl, rfl, hz, q⟩
    · split at h
      · rename_i xs hs
        obtain ⟨p, us, rfl, hq, rs, l⟩ := seq_sq on sr r2 hs
        unfold inSeq at h
        split at h
        · rename_i hf
          rw [Bool.and_eq_true] at hf
          have h := Option.some.inj h
          subst h
          have ei := inV_of r1 hf.1 rs hf.2
          cases neg with
          | false => exact op_in_seq pins s σ H _ _ v u Q I rx ry ⟨p, us, rfl, hq, flat_of r1 hf.1, flatAll rs hf.2, by rw [ei]; exact q⟩
          | true => exact op_notIn_seq pins s σ H _ _ v u Q I rx ry ⟨p, us, rfl, hq, flat_of r1 hf.1, flatAll rs hf.2, by rw [ei]; exact q⟩
        · split at h
          · rename_i hf
            rw [Bool.and_eq_true] at hf
            have h := Option.some.inj h
            subst h
            have e0 : v1 = .non := by cases v1 <;> first | rfl | cases hf.1
            subst e0
            cases r1
            cases rx
            cases ry
            rcases hq with hq | hq
            · obtain ⟨its, rv, pl, hz⟩ := I.list hq
              obtain ⟨h1, h2⟩ := none_items on I sr (by omega) rs rv hf.2
              have hm : ∀ y ∈ its.toArray, SeqAt.EqAt X.A.in1 s y .none (noneU y) := fun y hy => h2 y (by simpa using hy)
              have ea : its.toArray.any noneU = xs.any isNon := by rw [← h1]; simp
              cases neg with
              | false => exact SeqAt.in_listAt noneU pl.isList hm ⟨.bl _, H, I, rfl, by rw [ea]; exact q⟩
              | true => exact SeqAt.notIn_listAt noneU pl.isList hm ⟨.bl _, H, I, rfl, by rw [ea]; exact q⟩
            · obtain ⟨its, rv, pl, hz⟩ := I.tuple hq
              obtain ⟨h1, h2⟩ := none_items on I sr (by omega) rs rv hf.2
              have hm : ∀ y ∈ its.toArray, SeqAt.EqAt X.A.in1 s y .none (noneU y) := fun y hy => h2 y (by simpa using hy)
              have ea : its.toArray.any noneU = xs.any isNon := by rw [← h1]; simp
              cases neg with
              | false => exact SeqAt.in_tupleAt noneU pl hm ⟨.bl _, H, I, rfl, by rw [ea]; exact q⟩
              | true => exact SeqAt.notIn_tupleAt noneU pl hm ⟨.bl _, H, I, rfl, by rw [ea]; exact q⟩
          · cases h
      · cases h
theorem opr_in (on : On B X) (hu : X.A.units + 64 < cLine) : OpR X (compareOp .In) (rM2 B .inn) := by
  intro pins s σ H x y v u Q I rx ry ⟨A, st, v1, v2, sr, r1, r2, p⟩
  obtain ⟨b, hb, q⟩ := ofB_some (show Post B A H Q (fun _ _ => False) (ofB (inOp v1 v2 st) st) from p) sr
  exact in_any on hu false I rx ry sr r1 r2 hb q
theorem opr_notin (on : On B X) (hu : X.A.units + 64 < cLine) : OpR X (compareOp .NotIn) (rM2 B .notin) := by
  intro pins s σ H x y v u Q I rx ry ⟨A, st, v1, v2, sr, r1, r2, p⟩
  obtain ⟨b', hb', q⟩ := ofB_some (show Post B A H Q (fun _ _ => False) (ofB ((inOp v1 v2 st).map (!·)) st) from p) sr
  obtain ⟨b, hb, eb⟩ := Option.map_eq_some_iff.mp hb'
  subst eb
  exact in_any on hu true I rx ry sr r1 r2 hb q

/-! ### a[i] -/
theorem ixOp_int (a : MV) (i : Int) (st : Store) : (∃ x, a = .str x ∧ ixOp a (.int i) st = ixStr x i st) ∨ ixOp a (.int i) st = ixSeq a i st := by
  cases a <;> first | exact .inl ⟨_, rfl, rfl⟩ | exact .inr rfl
theorem atI_rel {H : Hp} {A : List Addr} {xs : List MV} {us : List V} (rs : RVs B H A xs us) {i : Int} {v : MV} (h : atI xs i = some v) : ∃ u, atI us i = some u ∧ RV B H A v u := by
  unfold atI at h ⊢
  rw [← rs.length]
  cases e : ixN xs.length i with
  | none => rw [e] at h; cases h
  | some j =>
    rw [e] at h
    obtain ⟨u, e1, r⟩ := rs.get (i := j) h
    exact ⟨u, e1, r⟩
theorem ixr_ix (on : On B X) (hu : X.A.units + 64 < cLine) : IxR X (rM2 B .ix) := by
  intro value slice pins s σ H x y v u Q I rx ry ⟨A, st, v1, v2, sr, r1, r2, p⟩ hs
  replace p : Post B A H Q (fun _ _ => False) (ixOp v1 v2 st) := p
  cases v2 <;> first | exact p.elim | skip
  · rename_i i
    cases r2
    rcases ixOp_int v1 i st with ⟨z, rfl, e⟩ | e
    · rw [e] at p
      cases r1
      unfold ixStr at p
      split at p
      · rename_i hl
        split at p
        · rename_i c hc
          exact ix_str value slice pins s σ H _ _ v u Q I rx ry ⟨z, i, c, rfl, rfl, by rw [lim_eq]; exact hl, hc, p.here sr (.str _)⟩ hs
        · exact p.elim
      · exact p.elim
    · rw [e] at p
      unfold ixSeq at p
      split at p
      · rename_i xs hx
        split at p
        · rename_i w hw
          obtain ⟨q, us, rfl, hq, rs, l⟩ := seq_sq on sr r1 hx
          obtain ⟨u', e1, r'⟩ := atI_rel rs hw
          have pq := p.here sr r'
          rcases hq with hq | hq
          · exact ix_list value slice pins s σ H _ _ v u Q I rx ry ⟨q, us, i, u', rfl, rfl, hq, e1, pq⟩ hs
          · exact ix_tup value slice pins s σ H _ _ v u Q I rx ry ⟨q, us, i, u', rfl, rfl, hq, e1, pq⟩ hs
        · exact p.elim
      · exact p.elim
  · rename_i k
    cases r2
    replace p : Post B A H Q (fun _ _ => False) (ixDic v1 k st) := p
    unfold ixDic at p
    split at p
    · rename_i kvs hd
      split at p
      · rename_i w hw
        obtain ⟨q, rfl, ⟨ks, hr, rk, _⟩ | hk⟩ := dic_of sr r1 hd
        · have hv := rk.val (k := k)
          rw [hw] at hv
          cases e2 : valV ks (Sum.inr k : Key) with
          | none => rw [e2] at hv; exact hv.elim
          | some z =>
            rw [e2] at hv
            have g : DGet H q (.str k) (some z) := .inl ⟨ks, Sum.inr k, hr, rfl, e2.symm⟩
            cases rx
            exact tail_any (dict_typeIs I g) PySem.F.slot_dict_getitem.lookup (d_getItem (by omega) I g ry fun w' s' I' rw' => ⟨z, H, I', rw', p.here sr hv⟩) hs
        · obtain ⟨⟨es, n, hk1⟩, hk2⟩ := hk
          rw [← on.K, ← on.w] at hk1
          have hz := hk2 k
          rw [← on.K, hw] at hz
          obtain ⟨zx, uz, ezx, hz, rz⟩ := hz
          subst ezx
          have hg := op_item_kd hk1 pins s σ H _ _ v u Q I rx ry ⟨k, uz, .str zx, rfl, rfl, hz, rz, p.here sr (.str zx)⟩
          cases rx
          exact tail_any (kd_type hk1 I) PySem.F.slot_dict_getitem.lookup hg hs
      · exact p.elim
    · exact p.elim

/-! ### a[i:j] -/
def rMs (B : Fix) : V → Option Int → Option Int → Hp → VK → Prop := fun x lo hi H Q => ∃ A st v, SR B H A st ∧ RV B H A v x ∧ Post B A H Q (fun _ _ => False) (slOp v lo hi st)
theorem cut_rel {H : Hp} {A : List Addr} {xs : List MV} {us : List V} (rs : RVs B H A xs us) (lo hi : Option Int) : RVs B H A (cut xs lo hi) (cutV us lo hi) := by
  unfold cut cutV
  rw [← rs.length]
  exact (rs.drop _).take _
theorem cut_len {α : Type} (xs : List α) (lo hi : Option Int) : (cut xs lo hi).length ≤ xs.length := by
  unfold cut
  rw [List.length_take, List.length_drop]
  omega
theorem cut_whole {α : Type} {xs : List α} {lo hi : Option Int} (h : HT.sIx xs.length 0 lo = 0 ∧ HT.sIx xs.length xs.length hi = xs.length) : cut xs lo hi = xs := by
  unfold cut
  rw [h.1, h.2]
  simp
theorem slOp_cases (a : MV) (lo hi : Option Int) (st : Store) : (∃ xs, a = .tup xs) ∨ slOp a lo hi st = slL a lo hi st := by
  cases a <;> first | exact .inl ⟨_, rfl⟩ | exact .inr rfl
theorem slr_sl (on : On B X) : SlR X (rMs B) := by
  intro pins s σ H x v vl vu lo hi sl Q I rx hs pl pu ⟨A, st, v1, sr, r1, p⟩
  rcases slOp_cases v1 lo hi st with ⟨xs, rfl⟩ | e
  · cases r1 with
    | tup t rs l =>
      have p : Post B A H Q (fun _ _ => False) (.ok (.tup (cut xs lo hi)) st) := p
      refine sl_tupA pins s σ H _ v vl vu lo hi sl Q I rx hs pl pu ⟨_, _, rfl, by rw [on.K]; exact t.sq, fun hw => ?_, fun _ q hq => p.tup sr (cut_rel rs lo hi) (Nat.le_trans (cut_len _ _ _) l) hq⟩
      rw [← rs.length] at hw
      rw [cut_whole hw] at p
      exact p.here sr (.tup t rs l)
  · rw [e] at p
    unfold slL at p
    split at p
    · rename_i xs hx
      obtain ⟨q, us, rfl, hq, rs, l⟩ := lst_of sr r1 hx
      exact sl_list pins s σ H _ v vl vu lo hi sl Q I rx hs pl pu ⟨q, us, rfl, .inl hq, fun z hz => p.lst sr (cut_rel rs lo hi) (Nat.le_trans (cut_len _ _ _) l) hz⟩
    · exact p.elim

/-! ### calls of built-ins -/
theorem rvs1 {H : Hp} {A : List Addr} {vs : List MV} {u : V} (r : RVs B H A vs [u]) : ∃ v, vs = [v] ∧ RV B H A v u := by
  cases r with
  | cons r s => cases s; exact ⟨_, rfl, r⟩
theorem lenOp_cases (a : MV) (st : Store) : (∃ x, a = .str x ∧ lenOp a st = if x.length ≤ lim then .ok (.int x.length) st else .err) ∨ lenOp a st = lenObj a st := by
  cases a <;> first | exact .inl ⟨_, rfl, rfl⟩ | exact .inr rfl
theorem cr_len (on : On B X) : CallR X (.builtin "len") (fun us H Q => us.length = 1 ∧ rMn B .len us H Q) := by
  intro pins s σ H us ws Q I rs ⟨hl1, A, st, vs, sr, rv, p⟩
  match us, hl1 with
  | [u], _ =>
    obtain ⟨v, rfl, r⟩ := rvs1 rv
    have p : Post B A H Q (fun _ _ => False) (lenOp v st) := p
    rcases lenOp_cases v st with ⟨x, rfl, e⟩ | e
    · rw [e] at p
      cases r
      split at p
      · rename_i hl
        exact call_len_str pins s σ H _ ws Q I rs ⟨x, rfl, by rw [lim_eq]; exact hl, p.int sr⟩
      · exact p.elim
    · rw [e] at p
      unfold lenObj at p
      split at p
      · rename_i xs hx
        obtain ⟨q, us, rfl, hq, rq, l⟩ := seq_sq on sr r hx
        exact call_len_seq pins s σ H _ ws Q I rs ⟨q, us, rfl, hq, by rw [← rq.length]; exact p.int sr⟩
      · split at p
        · rename_i kvs hd
          obtain ⟨q, ks, rfl, hr, rk, _⟩ := dicL_of sr r hd
          obtain ⟨w, rfl, rw1⟩ := vals1 rs
          cases rw1
          exact d_len I hr fun t' s' I' => ⟨.int _, H, I', ⟨t', rfl⟩, by rw [← rk.length]; exact p.int sr⟩
        · exact p.elim
theorem bools_of {H : Hp} {A : List Addr} : ∀ {xs : List MV} {us : List V} {bs : List Bool}, RVs B H A xs us → bools xs = some bs → us = bs.map V.bl := by
  intro xs
  induction xs with
  | nil => intro us bs r h; cases r; cases h; rfl
  | cons x xs ih =>
    intro us bs r h
    cases r with
    | cons r1 r2 =>
      unfold bools at h
      rw [List.mapM_cons] at h
      cases x <;> first | (cases h; done) | skip
      cases r1
      simp only at h
      cases e : bools xs with
      | none => unfold bools at e; rw [e] at h; cases h
      | some cs =>
        have e' := e
        unfold bools at e'
        rw [e'] at h
        cases h
        rw [ih r2 e]
        rfl
theorem ints_of {H : Hp} {A : List Addr} : ∀ {xs : List MV} {us : List V} {bs : List Int}, RVs B H A xs us → intsOf xs = some bs → us = bs.map V.int := by
  intro xs
  induction xs with
  | nil => intro us bs r h; cases r; cases h; rfl
  | cons x xs ih =>
    intro us bs r h
    cases r with
    | cons r1 r2 =>
      unfold intsOf at h
      rw [List.mapM_cons] at h
      cases x <;> first | (cases h; done) | skip
      cases r1
      simp only at h
      cases e : intsOf xs with
      | none => unfold intsOf at e; rw [e] at h; cases h
      | some cs =>
        have e' := e
        unfold intsOf at e'
        rw [e'] at h
        cases h
        rw [ih r2 e]
        rfl
theorem strs_of {H : Hp} {A : List Addr} : ∀ {xs : List MV} {us : List V} {bs : List Str}, RVs B H A xs us → strsOf xs = some bs → us = bs.map V.str := by
  intro xs
  induction xs with
  | nil => intro us bs r h; cases r; cases h; rfl
  | cons x xs ih =>
    intro us bs r h
    cases r with
    | cons r1 r2 =>
      unfold strsOf at h
      rw [List.mapM_cons] at h
      cases x <;> first | (cases h; done) | skip
      cases r1
      simp only at h
      cases e : strsOf xs with
      | none => unfold strsOf at e; rw [e] at h; cases h
      | some cs =>
        have e' := e
        unfold strsOf at e'
        rw [e'] at h
        cases h
        rw [ih r2 e]
        rfl
theorem callr_all (hc : X.calm = true) : CallR X (.builtin "all") (fun us H Q => us.length = 1 ∧ rMn B .all us H Q) := by
  intro pins s σ H us ws Q I rs ⟨hl1, A, st, vs, sr, rv, p⟩
  match us, hl1 with
  | [u], _ =>
    obtain ⟨v, rfl, r⟩ := rvs1 rv
    obtain ⟨b, hb, q⟩ := ofB_some (show Post B A H Q (fun _ _ => False) (ofB (((lstOf st v).bind bools).map (·.all id)) st) from p) sr
    obtain ⟨bs, h1, h2⟩ := Option.map_eq_some_iff.mp hb
    obtain ⟨xs, h3, h4⟩ := Option.bind_eq_some_iff.mp h1
    obtain ⟨a, us, rfl, hq, rq, l⟩ := lst_of sr r h3
    have e := bools_of rq h4
    subst e h2
    exact cr_all hc pins s σ H _ ws Q I rs ⟨a, bs, rfl, .inl hq, q⟩
theorem callr_any (hc : X.calm = true) : CallR X (.builtin "any") (fun us H Q => us.length = 1 ∧ rMn B .any us H Q) := by
  intro pins s σ H us ws Q I rs ⟨hl1, A, st, vs, sr, rv, p⟩
  match us, hl1 with
  | [u], _ =>
    obtain ⟨v, rfl, r⟩ := rvs1 rv
    obtain ⟨b, hb, q⟩ := ofB_some (show Post B A H Q (fun _ _ => False) (ofB (((lstOf st v).bind bools).map (·.any id)) st) from p) sr
    obtain ⟨bs, h1, h2⟩ := Option.map_eq_some_iff.mp hb
    obtain ⟨xs, h3, h4⟩ := Option.bind_eq_some_iff.mp h1
    obtain ⟨a, us, rfl, hq, rq, l⟩ := lst_of sr r h3
    have e := bools_of rq h4
    subst e h2
    exact cr_any hc pins s σ H _ ws Q I rs ⟨a, bs, rfl, .inl hq, q⟩
theorem callr_sum (hc : X.calm = true) : CallR X (.builtin "sum") (fun us H Q => us.length = 1 ∧ rMn B .sum us H Q) := by
  intro pins s σ H us ws Q I rs ⟨hl1, A, st, vs, sr, rv, p⟩
  match us, hl1 with
  | [u], _ =>
    obtain ⟨v, rfl, r⟩ := rvs1 rv
    simp only [runOp] at p
    split at p
    · rename_i ns h1
      obtain ⟨xs, h3, h4⟩ := Option.bind_eq_some_iff.mp h1
      obtain ⟨a, us, rfl, hq, rq, l⟩ := lst_of sr r h3
      have e := ints_of rq h4
      subst e
      exact cr_sum hc pins s σ H _ ws Q I rs ⟨a, ns, rfl, .inl hq, p.int sr⟩
    · exact p.elim

theorem maxF_ge (r : List Int) : ∀ a : Int, a ≤ r.foldl (fun m x => if x > m then x else m) a ∧ ∀ y ∈ r, y ≤ r.foldl (fun m x => if x > m then x else m) a := by
  induction r with
  | nil => intro a; exact ⟨Int.le_refl _, fun y hy => by cases hy⟩
  | cons b r ih =>
    intro a
    rw [List.foldl_cons]
    obtain ⟨h1, h2⟩ := ih (if b > a then b else a)
    have h3 : a ≤ (if b > a then b else a) ∧ b ≤ (if b > a then b else a) := by split <;> omega
    refine ⟨by omega, fun y hy => ?_⟩
    rcases List.mem_cons.mp hy with rfl | hy
    · omega
    · exact h2 y hy
theorem maxF_mem (r : List Int) : ∀ a : Int, r.foldl (fun m x => if x > m then x else m) a = a ∨ r.foldl (fun m x => if x > m then x else m) a ∈ r := by
  induction r with
  | nil => intro a; exact .inl rfl
  | cons b r ih =>
    intro a
    rw [List.foldl_cons]
    rcases ih (if b > a then b else a) with h | h
    · rw [h]
      split
      · exact .inr List.mem_cons_self
      · exact .inl rfl
    · exact .inr (List.mem_cons_of_mem _ h)
theorem maxL_eq {ns : List Int} {m k : Int} (h : maxL ns = some m) (h1 : k ∈ ns) (h2 : ∀ y ∈ ns, y ≤ k) : k = m := by
  cases ns with
  | nil => cases h
  | cons a r =>
    have h := Option.some.inj h
    obtain ⟨g1, g2⟩ := maxF_ge r a
    rw [h] at g1 g2
    have hm : m ∈ a :: r := by
      rcases maxF_mem r a with q | q
      · rw [h] at q; rw [q]; exact List.mem_cons_self
      · rw [h] at q; exact List.mem_cons_of_mem _ q
    have h3 := h2 m hm
    have h4 : k ≤ m := by
      rcases List.mem_cons.mp h1 with rfl | h1
      · exact g1
      · exact g2 k h1
    omega
theorem callr_max (hc : X.calm = true) : CallR X (.builtin "max") (fun us H Q => (us.length = 1 ∧ rMn B .max1 us H Q) ∨ (us.length = 2 ∧ rMn B .max2 us H Q)) := by
  intro pins s σ H us ws Q I rs h
  rcases h with ⟨hl1, A, st, vs, sr, rv, p⟩ | ⟨hl1, A, st, vs, sr, rv, p⟩
  · match us, hl1 with
    | [u], _ =>
      obtain ⟨v, rfl, r⟩ := rvs1 rv
      simp only [runOp] at p
      split at p
      · rename_i m hm
        obtain ⟨ns, h1, h2⟩ := Option.bind_eq_some_iff.mp hm
        obtain ⟨xs, h3, h4⟩ := Option.bind_eq_some_iff.mp h1
        obtain ⟨a, us, rfl, hq, rq, l⟩ := lst_of sr r h3
        have e := ints_of rq h4
        subst e
        refine cr_max hc pins s σ H _ ws Q I rs ⟨a, ns, rfl, .inl hq, ?_, fun k h5 h6 => ?_⟩
        · cases ns with
          | nil => cases h2
          | cons _ _ => simp
        · rw [maxL_eq h2 h5 h6]
          exact p.int sr
      · exact p.elim
  · match us, hl1 with
    | [u, u2], _ =>
      cases rv with
      | cons r1 rv =>
        obtain ⟨v2, rfl, r2⟩ := rvs1 rv
        rename_i v1
        cases v1 <;> first | exact p.elim | skip
        cases v2 <;> first | exact p.elim | skip
        cases r1
        cases r2
        exact call_max2 hc pins s σ H _ ws Q I rs ⟨_, _, rfl, p.int sr⟩
theorem callr_min (hc : X.calm = true) : CallR X (.builtin "min") (fun us H Q => us.length = 2 ∧ rMn B .min2 us H Q) := by
  intro pins s σ H us ws Q I rs ⟨hl1, A, st, vs, sr, rv, p⟩
  match us, hl1 with
  | [u, u2], _ =>
    cases rv with
    | cons r1 rv =>
      obtain ⟨v2, rfl, r2⟩ := rvs1 rv
      rename_i v1
      cases v1 <;> first | exact p.elim | skip
      cases v2 <;> first | exact p.elim | skip
      cases r1
      cases r2
      exact call_min2 hc pins s σ H _ ws Q I rs ⟨_, _, rfl, p.int sr⟩
theorem callr_int : CallR X (.type "int") (fun us H Q => us.length = 1 ∧ rMn B .int1 us H Q) := by
  intro pins s σ H us ws Q I rs ⟨hl1, A, st, vs, sr, rv, p⟩
  match us, hl1 with
  | [u], _ =>
    obtain ⟨v, rfl, r⟩ := rvs1 rv
    cases v <;> first | exact p.elim | skip
    · cases r
      exact call_int1 pins s σ H _ ws Q I rs (.inr ⟨_, rfl, p.int sr⟩)
    · cases r
      exact call_int1 pins s σ H _ ws Q I rs (.inl ⟨_, rfl, p.int sr⟩)
theorem pairs_rel {H : Hp} {A : List Addr} (on : On B X) : ∀ {xs : List MV} {us : List V} {kvs : List (Str × MV)}, RVs B H A xs us → pairsOf xs = some kvs →
    ∃ (ps : List Addr) (ks : List (Key × V)), us = ps.map V.ref ∧ Paired (fun p kv => SqT X.K H p [kV kv.1, kv.2]) ps ks ∧ RKs B H A kvs ks := by
  intro xs
  induction xs with
  | nil => intro us kvs r h; cases r; cases h; exact ⟨[], [], rfl, .nil, .nil⟩
  | cons x xs ih =>
    intro us kvs r h
    cases r with
    | cons r1 r2 =>
      unfold pairsOf at h
      rw [List.mapM_cons] at h
      cases e : pairsOf xs with
      | none =>
        unfold pairsOf at e
        rw [e] at h
        exfalso
        revert h
        split <;> (intro h; cases h)
      | some cs =>
        have e' := e
        unfold pairsOf at e'
        rw [e'] at h
        obtain ⟨ps, ks, e1, e2, e3⟩ := ih r2 e
        subst e1
        revert h
        split
        · rename_i k v
          intro h
          cases h
          cases r1 with
          | tup t rs l =>
            cases rs with
            | cons q1 q2 =>
              cases q1
              cases q2 with
              | cons q2 q3 =>
                cases q3
                exact ⟨_ :: ps, (Sum.inr k, _) :: ks, rfl, .cons (by rw [on.K]; exact t.sq) e2, .cons q2 e3⟩
        · intro h
          cases h
theorem pairs_len : ∀ {xs : List MV} {kvs : List (Str × MV)}, pairsOf xs = some kvs → kvs.length = xs.length := by
  intro xs
  induction xs with
  | nil => intro kvs h; cases h; rfl
  | cons x xs ih =>
    intro kvs h
    unfold pairsOf at h
    rw [List.mapM_cons] at h
    cases e : pairsOf xs with
    | none =>
      unfold pairsOf at e
      rw [e] at h
      exfalso
      revert h
      split <;> (intro h; cases h)
    | some cs =>
      have e' := e
      unfold pairsOf at e'
      rw [e'] at h
      revert h
      split
      · intro h
        cases h
        rw [List.length_cons, List.length_cons, ih e]
      · intro h
        cases h
theorem callr_dict (on : On B X) (hc : X.calm = true) {b : Bool} : CallR X (.type "dict") (fun us H Q => us.length = 1 ∧ rMn B (.dict1 b) us H Q) := by
  intro pins s σ H us ws Q I rs ⟨hl1, A, st, vs, sr, rv, p⟩
  match us, hl1 with
  | [u], _ =>
    obtain ⟨v, rfl, r⟩ := rvs1 rv
    simp only [runOp] at p
    split at p
    · rename_i kvs hd
      obtain ⟨q, ks, rfl, hr, rk, l⟩ := dicL_of sr r hd
      exact call_dictD pins s σ H _ ws Q I rs ⟨q, ks, rfl, hr, fun z hz => p.newDic sr rk l hz⟩
    · split at p
      · rename_i kvs h1
        obtain ⟨xs, h3, h4⟩ := Option.bind_eq_some_iff.mp h1
        obtain ⟨a, us, rfl, hq, rq, l⟩ := lst_of sr r h3
        obtain ⟨ps, ks, e1, e2, e3⟩ := pairs_rel (X := X) on rq h4
        subst e1
        refine call_dictP hc pins s σ H _ ws Q I rs ⟨a, ps, ks, rfl, .inl hq, e2, fun z hz => p.newDic sr (e3.merge .nil) ?_ hz⟩
        have h5 := dmerge_length kvs ([] : List (Str × MV))
        have h6 := pairs_len h4
        rw [List.length_nil] at h5
        omega
      · exact p.elim
theorem callr_list (on : On B X) (hc : X.calm = true) {b : Bool} : CallR X (.type "list") (fun us H Q => us.length = 1 ∧ rMn B (.list1 b) us H Q) := by
  intro pins s σ H us ws Q I rs ⟨hl1, A, st, vs, sr, rv, p⟩
  match us, hl1 with
  | [u], _ =>
    obtain ⟨v, rfl, r⟩ := rvs1 rv
    simp only [runOp] at p
    split at p
    · rename_i xs hx
      obtain ⟨q, us, rfl, hq, rq, l⟩ := seq_sq on sr r hx
      exact call_list_of pins s σ H _ ws Q I rs ⟨q, us, rfl, hq, fun z hz => p.newL sr rq l hz⟩
    · split at p
      · rename_i kvs hd
        obtain ⟨q, ks, rfl, hr, rk, l⟩ := dicL_of sr r hd
        exact call_listD hc pins s σ H _ ws Q I rs ⟨q, ks, rfl, hr, fun z hz => p.newL sr rk.keys (by rw [List.length_map]; exact l) hz⟩
      · exact p.elim
theorem seqOf_cases {st : Store} {v : MV} {xs : List MV} (h : tupSeq st v = some xs) : v = .tup xs ∨ lstOf st v = some xs := by
  cases v <;> first | (cases h; exact .inl rfl) | exact .inr h
theorem callr_tuple (on : On B X) : CallR X (.type "tuple") (fun us H Q => us.length = 1 ∧ rMn B .tuple1 us H Q) := by
  intro pins s σ H us ws Q I rs ⟨hl1, A, st, vs, sr, rv, p⟩
  match us, hl1 with
  | [u], _ =>
    obtain ⟨v, rfl, r⟩ := rvs1 rv
    simp only [runOp] at p
    split at p
    · rename_i xs hx
      rcases seqOf_cases hx with rfl | hx
      · cases r with
        | tup t rs' l => exact call_tuple_of pins s σ H _ ws Q I rs ⟨_, _, rfl, .inr ⟨by rw [on.K]; exact t.sq, p.here sr (.tup t rs' l)⟩⟩
      · obtain ⟨q, us, rfl, hq, rq, l⟩ := lst_of sr r hx
        exact call_tuple_of pins s σ H _ ws Q I rs ⟨q, us, rfl, .inl ⟨.inl hq, fun z hz => p.tup sr rq l hz⟩⟩
    · exact p.elim
end
end Mi
set_option Elab.async false
set_option linter.all false
set_option maxRecDepth 100000
set_option maxHeartbeats 1000000
/-! MiOps3: isinstance, methods of built-in types. -/
namespace Mi
open PySem PySem.Spec PyProof.Rows L2
section
variable {B : Fix} {X : Cx}
/-! ### isinstance -/
def tyName : Op → String
  | .isStr => "str"
  | .isInt => "int"
  | .isBool => "bool"
  | .isTup => "tuple"
  | .isList => "list"
  | _ => ""
def isTy (o : Op) : Bool := o == .isStr || o == .isInt || o == .isBool || o == .isTup || o == .isList
theorem isTy_cases {o : Op} (h : isTy o = true) : o = .isStr ∨ o = .isInt ∨ o = .isBool ∨ o = .isTup ∨ o = .isList := by
  unfold isTy at h
  simp only [Bool.or_eq_true, beq_iff_eq] at h
  rcases h with (((h | h) | h) | h) | h <;> simp [h]
def kitT (t : String) (o : Op) : Bool := match t with
  | "bool" => o == .isInt || o == .isBool
  | "int" => o == .isInt
  | "str" => o == .isStr
  | "tuple" => o == .isTup
  | "list" => o == .isList
  | _ => false
theorem kit_none {o : Op} (h : isTy o = true) : kitB "NoneType" (tyName o) = some false := by
  rcases isTy_cases h with rfl | rfl | rfl | rfl | rfl <;> decide +kernel
theorem kit_bool {o : Op} (h : isTy o = true) : kitB "bool" (tyName o) = some (o == .isInt || o == .isBool) := by
  rcases isTy_cases h with rfl | rfl | rfl | rfl | rfl <;> decide +kernel
theorem kit_int {o : Op} (h : isTy o = true) : kitB "int" (tyName o) = some (o == .isInt) := by
  rcases isTy_cases h with rfl | rfl | rfl | rfl | rfl <;> decide +kernel
theorem kit_str {o : Op} (h : isTy o = true) : kitB "str" (tyName o) = some (o == .isStr) := by
  rcases isTy_cases h with rfl | rfl | rfl | rfl | rfl <;> decide +kernel
theorem kit_tuple {o : Op} (h : isTy o = true) : kitB "tuple" (tyName o) = some (o == .isTup) := by
  rcases isTy_cases h with rfl | rfl | rfl | rfl | rfl <;> decide +kernel
theorem kit_list {o : Op} (h : isTy o = true) : kitB "list" (tyName o) = some (o == .isList) := by
  rcases isTy_cases h with rfl | rfl | rfl | rfl | rfl <;> decide +kernel
theorem kit_dict {o : Op} (h : isTy o = true) : kitB "dict" (tyName o) = some false := by
  rcases isTy_cases h with rfl | rfl | rfl | rfl | rfl <;> decide +kernel
theorem ty_lst {H : Hp} {p : Addr} {vs : List V} (h : Rd H p (.lst vs)) : TyX X.K H (.ref p) (.type "list") := by
  rcases h with h | ⟨o, h⟩
  · exact .base (.lst h)
  · exact .base (.frz h)
theorem ty_of {H : Hp} {A : List Addr} {st : Store} (on : On B X) (sr : SR B H A st) {v : MV} {u : V} {o : Op} {b : Bool} (ho : isTy o = true) (r : RV B H A v u) (h : isOp o v st = some b) : ∃ t, TyX X.K H u (.type t) ∧ kitB t (tyName o) = some b := by
  cases r with
  | non => cases h; exact ⟨_, .base .non, kit_none ho⟩
  | bl c => cases h; exact ⟨_, .base (.bl c), kit_bool ho⟩
  | int i => cases h; exact ⟨_, .base (.int i), kit_int ho⟩
  | str x => cases h; exact ⟨_, .base (.str x), kit_str ho⟩
  | tup t rs l =>
    cases h
    refine ⟨"tuple", ?_, kit_tuple ho⟩
    rcases t with ⟨t | ⟨ob, t⟩, _⟩ | ⟨ob, its, n, k1, k2, _⟩
    · exact .base (.tup t)
    · exact .fTuple t
    · exact .kTuple (by rw [on.K]; exact k1) k2
  | lst t rs l => cases h; exact ⟨"list", ty_lst (.inl t.1), kit_list ho⟩
  | slst t rs l => cases h
  | loc hn =>
    rename_i n a
    simp only [isOp] at h
    cases e : st[n]? with
    | none => rw [e] at h; cases h
    | some ob =>
      rw [e] at h
      have ro := sr.obj n a ob hn e
      cases ob with
      | lst ys => cases h; obtain ⟨vs, q, _⟩ := ro; exact ⟨"list", ty_lst (.inl q), kit_list ho⟩
      | flst ys => cases h; obtain ⟨ob, vs, q, _⟩ := ro; exact ⟨"list", ty_lst (.inr ⟨ob, q⟩), kit_list ho⟩
      | dic ys => cases h; obtain ⟨vs, q, _⟩ := ro; exact ⟨"dict", .base (.dK q), kit_dict ho⟩
      | fdic ys => cases h; obtain ⟨ob, vs, q, _⟩ := ro; exact ⟨"dict", .fDict q, kit_dict ho⟩
      | ins c fs => cases h
  | nam h1 => cases h
  | cdic h1 => cases h
theorem runIs {o : Op} (ho : isTy o = true) (v : MV) (st : Store) : runOp o [v] st = ofB (isOp o v st) st := by
  rcases isTy_cases ho with rfl | rfl | rfl | rfl | rfl <;> rfl
theorem callr_is (on : On B X) {o : Op} (ho : isTy o = true) : CallR X (.builtin "isinstance") (fun us H Q => ∃ u, us = [u, .ty (tyName o)] ∧ rMn B o [u] H Q) := by
  intro pins s σ H us ws Q I rs ⟨u, e, A, st, vs, sr, rv, p⟩
  subst e
  obtain ⟨v, rfl, r⟩ := rvs1 rv
  rw [runIs ho] at p
  obtain ⟨b, hb, q⟩ := ofB_some p sr
  obtain ⟨t, h1, h2⟩ := ty_of on sr ho r hb
  exact call_isi pins s σ H _ ws Q I rs ⟨u, .ty (tyName o), .type t, .type (tyName o), b, rfl, .ty _, h1, kit_ty h2, q⟩

/-! ### methods -/
def rMm (B : Fix) (m : Me) : V → List V → Hp → VK → Prop := fun x xs H Q => ∃ A st v vs, SR B H A st ∧ RV B H A v x ∧ RVs B H A vs xs ∧ Post B A H Q (fun _ _ => False) (runMe m v vs st)
/-- a list of the store -/
theorem at_lst {H : Hp} {A : List Addr} {st : Store} (sr : SR B H A st) {n : Nat} {u : V} {xs : List MV} (r : RV B H A (.loc n) u) (h : st[n]? = some (.lst xs)) : ∃ a vs, u = .ref a ∧ A[n]? = some a ∧ H a = some (.lst vs) ∧ RVs B H A xs vs ∧ xs.length ≤ lim := by
  cases r with
  | loc hn =>
    obtain ⟨vs, q, rs, l⟩ := sr.obj n _ _ hn h
    exact ⟨_, vs, rfl, hn, q, rs, l⟩
theorem at_dic {H : Hp} {A : List Addr} {st : Store} (sr : SR B H A st) {n : Nat} {u : V} {kvs : List (Str × MV)} (r : RV B H A (.loc n) u) (h : st[n]? = some (.dic kvs)) : ∃ a ks, u = .ref a ∧ A[n]? = some a ∧ H a = some (.dK ks) ∧ RKs B H A kvs ks ∧ kvs.length ≤ lim := by
  cases r with
  | loc hn =>
    obtain ⟨vs, q, rs, l⟩ := sr.obj n _ _ hn h
    exact ⟨_, vs, rfl, hn, q, rs, l⟩
theorem mtr_append : MtR X "list.append" (rMm B .append) := by
  intro pins s σ H x xs v us Q I rx rxs ⟨A, st, v1, vs, sr, r1, rs, p⟩
  cases v1 <;> first | exact p.elim | skip
  rename_i n
  match vs, rs with
  | [w], .cons rw .nil =>
    simp only [runMe] at p
    split at p
    · rename_i ys hy
      split at p
      · rename_i hl
        obtain ⟨a, us', rfl, ha, hH, rq, l⟩ := at_lst sr r1 hy
        exact mt_append pins s σ H _ _ v us Q I rx rxs ⟨a, us', _, rfl, rfl, hH, by rw [lim_eq, ← rq.length]; exact hl, p.setLst sr ha (nf_lst hH) (rq.append (.cons rw .nil)) (by rw [List.length_append, List.length_singleton]; omega) .non⟩
      · exact p.elim
    · exact p.elim
  | [], _ => exact p.elim
  | _ :: _ :: _, _ => exact p.elim
theorem mtr_extend : MtR X "list.extend" (rMm B .extend) := by
  intro pins s σ H x xs v us Q I rx rxs ⟨A, st, v1, vs, sr, r1, rs, p⟩
  cases v1 <;> first | exact p.elim | skip
  rename_i n
  match vs, rs with
  | [w], .cons rw .nil =>
    simp only [runMe] at p
    split at p
    · rename_i ys zs hy hz
      split at p
      · rename_i hl
        obtain ⟨a, us', rfl, ha, hH, rq, l⟩ := at_lst sr r1 hy
        obtain ⟨b, us2, rfl, hH2, rq2, l2⟩ := lstS_of sr rw hz
        exact mt_extend pins s σ H _ _ v us Q I rx rxs ⟨a, b, us', us2, rfl, rfl, hH, hH2, by rw [lim_eq, ← rq.length, ← rq2.length]; exact hl, p.setLst sr ha (nf_lst hH) (rq.append rq2) (by rw [List.length_append]; exact hl) .non⟩
      · exact p.elim
    · exact p.elim
  | [], _ => exact p.elim
  | _ :: _ :: _, _ => exact p.elim
theorem mtr_index (on : On B X) : MtR X "list.index" (rMm B .index) := by
  intro pins s σ H x xs v us Q I rx rxs ⟨A, st, v1, vs, sr, r1, rs, p⟩
  match vs, rs with
  | [w], .cons rw .nil =>
    simp only [runMe] at p
    split at p
    · rename_i ys hy
      split at p
      · rename_i hf
        rw [Bool.and_eq_true] at hf
        split at p
        · rename_i j hj
          obtain ⟨a, us', rfl, hH, rq, l⟩ := lst_of sr r1 hy
          rw [List.findIdx?_eq_some_iff_getElem] at hj
          obtain ⟨hj1, hj2, hj3⟩ := hj
          obtain ⟨z, e1, r'⟩ := rq.get (List.getElem?_eq_getElem hj1)
          have f' : flat ys[j] = true := List.all_eq_true.mp hf.2 _ (List.getElem_mem hj1)
          refine mt_index pins s σ H _ _ v us Q I rx rxs ⟨a, us', _, j, z, rfl, rfl, .inl hH, flat_of rw hf.1, flatAll rq hf.2, e1, by rw [eqF_of r' rw f' hf.1]; exact hj2, fun m z' hm hz' => ?_, p.int sr⟩
          obtain ⟨y', e2, r2⟩ := rq.getV hz'
          obtain ⟨hm2, e3⟩ := List.getElem?_eq_some_iff.mp e2
          rw [eqF_of r2 rw (List.all_eq_true.mp hf.2 _ (by rw [← e3]; exact List.getElem_mem hm2)) hf.1]
          have := hj3 m hm
          rw [e3] at this
          simpa using this
        · exact p.elim
      · exact p.elim
    · exact p.elim
  | [], _ => cases v1 <;> exact p.elim
  | _ :: _ :: _, _ => cases v1 <;> exact p.elim
theorem mtr_popL : MtR X "list.pop" (rMm B .popL) := by
  intro pins s σ H x xs v us Q I rx rxs ⟨A, st, v1, vs, sr, r1, rs, p⟩
  cases v1 <;> first | exact p.elim | skip
  rename_i n
  match vs, rs with
  | [], .nil =>
    simp only [runMe] at p
    split at p
    · rename_i ys hy
      split at p
      · rename_i w hw
        obtain ⟨a, us', rfl, ha, hH, rq, l⟩ := at_lst sr r1 hy
        rw [List.getLast?_eq_getElem?] at hw
        obtain ⟨z, e1, r'⟩ := rq.get hw
        rw [rq.length] at e1
        exact mt_pop pins s σ H _ _ v us Q I rx rxs ⟨a, us', z, rfl, rfl, hH, e1, p.setLst sr ha (nf_lst hH) rq.dropLast (by rw [List.length_dropLast]; omega) r'⟩
      · exact p.elim
    · exact p.elim
  | _ :: _, _ => exact p.elim
theorem mtr_popAt : MtR X "list.pop" (rMm B .popAt) := by
  intro pins s σ H x xs v us Q I rx rxs ⟨A, st, v1, vs, sr, r1, rs, p⟩
  cases v1 <;> first | exact p.elim | skip
  rename_i n
  match vs, rs with
  | [w], .cons rw .nil =>
    cases w <;> first | exact p.elim | skip
    cases rw
    rename_i i
    simp only [runMe] at p
    split at p
    · rename_i ys hy
      split at p
      · rename_i j w hj hw
        obtain ⟨a, us', rfl, ha, hH, rq, l⟩ := at_lst sr r1 hy
        obtain ⟨z, e1, r'⟩ := atI_rel rq hw
        rw [rq.length] at hj
        obtain ⟨h1, h2, h3, h4⟩ := ixN_seq hj
        unfold atI at e1
        rw [hj] at e1
        have hsz : us'.length ≤ 16777216 := by rw [← rq.length]; exact l
        refine mt_popAt pins s σ H _ _ v us Q I rx rxs ⟨a, us', i, j, z, rfl, rfl, hH, by omega, by omega, h1, e1, p.setLst sr ha (nf_lst hH) (rq.eraseIdx j) ?_ r'⟩
        have := List.length_eraseIdx_le ys j
        omega
      · exact p.elim
    · exact p.elim
  | [], _ => exact p.elim
  | _ :: _ :: _, _ => (rename_i w _ _ _; cases w <;> exact p.elim)
theorem mtr_reverse : MtR X "list.reverse" (rMm B .reverse) := by
  intro pins s σ H x xs v us Q I rx rxs ⟨A, st, v1, vs, sr, r1, rs, p⟩
  cases v1 <;> first | exact p.elim | skip
  rename_i n
  match vs, rs with
  | [], .nil =>
    simp only [runMe] at p
    split at p
    · rename_i ys hy
      obtain ⟨a, us', rfl, ha, hH, rq, l⟩ := at_lst sr r1 hy
      exact mt_reverse pins s σ H _ _ v us Q I rx rxs ⟨a, us', rfl, rfl, hH, p.setLst sr ha (nf_lst hH) rq.reverse (by rw [List.length_reverse]; exact l) .non⟩
    · exact p.elim
  | _ :: _, _ => exact p.elim

/-! ### of dicts -/
theorem rd_get {H : Hp} {A : List Addr} {kvs : List (Str × MV)} {ks : List (Key × V)} {p : Addr} (hr : Rd H p (.dK ks)) (k : Str) : DGet H p (.str k) (valV ks (Sum.inr k : Key)) := .inl ⟨ks, Sum.inr k, hr, rfl, rfl⟩
theorem ROp.getD {H : Hp} {A : List Addr} {o : Option MV} {w : Option V} {d : MV} {e : V} (r : ROp B H A o w) (rd : RV B H A d e) : RV B H A (o.getD d) (w.getD e) := by
  cases o <;> cases w <;> first | exact r.elim | exact rd | exact r
theorem mtr_get (hu : X.A.units + 64 < cLine) : MtR X "dict.get" (fun x xs H Q => rMm B .get1 x xs H Q ∨ rMm B .get2 x xs H Q) := by
  intro pins s σ H x xs v us Q I rx rxs h
  rcases h with ⟨A, st, v1, vs, sr, r1, rs, p⟩ | ⟨A, st, v1, vs, sr, r1, rs, p⟩
  · match vs, rs with
    | [w], .cons rw .nil =>
      cases w <;> first | (cases v1 <;> exact p.elim; done) | skip
      cases rw
      rename_i k
      have p : Post B A H Q (fun _ _ => False) (match dicL st v1 with
        | some kvs => .ok ((dget kvs k).getD .non) st
        | none => .err) := by cases v1 <;> exact p
      split at p
      · rename_i kvs hd
        obtain ⟨q, ks, rfl, hr, rk, l⟩ := dicL_of sr r1 hd
        cases rx
        obtain ⟨u, rfl, ru⟩ := vals1 rxs
        exact d_get1 (by omega) I (rd_get (A := A) (kvs := kvs) hr k) ru fun w' s' I' rw' => ⟨_, H, I', rw', p.here sr (rk.val.getD .non)⟩
      · exact p.elim
    | [], _ => cases v1 <;> exact p.elim
    | w :: _ :: _, _ => cases w <;> cases v1 <;> exact p.elim
  · match vs, rs with
    | [w, d], .cons rw (.cons rd .nil) =>
      cases w <;> first | (cases v1 <;> exact p.elim; done) | skip
      cases rw
      rename_i k
      have p : Post B A H Q (fun _ _ => False) (match dicL st v1 with
        | some kvs => .ok ((dget kvs k).getD d) st
        | none => .err) := by cases v1 <;> exact p
      split at p
      · rename_i kvs hd
        obtain ⟨q, ks, rfl, hr, rk, l⟩ := dicL_of sr r1 hd
        cases rx
        obtain ⟨u, u2, rfl, ru, ru2⟩ := vals2 rxs
        exact d_get2 (by omega) I (rd_get (A := A) (kvs := kvs) hr k) ru ru2 fun w' s' I' rw' => ⟨_, H, I', rw', p.here sr (rk.val.getD rd)⟩
      · exact p.elim
    | [], _ => cases v1 <;> exact p.elim
    | [w], _ => cases w <;> cases v1 <;> exact p.elim
    | w :: _ :: _ :: _, _ => cases w <;> cases v1 <;> exact p.elim
theorem mtr_pop : MtR X "dict.pop" (fun x xs H Q => rMm B .pop1 x xs H Q ∨ rMm B .pop2 x xs H Q) := by
  intro pins s σ H x xs v us Q I rx rxs h
  rcases h with ⟨A, st, v1, vs, sr, r1, rs, p⟩ | ⟨A, st, v1, vs, sr, r1, rs, p⟩
  · cases v1 <;> first | exact p.elim | skip
    rename_i n
    match vs, rs with
    | [w], .cons rw .nil =>
      cases w <;> first | exact p.elim | skip
      cases rw
      rename_i k
      simp only [runMe] at p
      split at p
      · rename_i kvs hd
        split at p
        · rename_i w hw
          obtain ⟨q, ks, rfl, ha, hr, rk, l⟩ := at_dic sr r1 hd
          have hv := rk.val (k := k)
          rw [hw] at hv
          cases e2 : valV ks (Sum.inr k : Key) with
          | none => rw [e2] at hv; exact hv.elim
          | some z =>
            rw [e2] at hv
            cases rx
            obtain ⟨u, rfl, ru⟩ := vals1 rxs
            exact d_pop (k := Sum.inr k) I hr ru e2 (.inl rfl) fun w' s' I' rw' => ⟨z, _, I', rw', p.setDic sr ha (nf_dK hr) rk.del (Nat.le_trans (List.length_filter_le _ _) l) hv⟩
        · exact p.elim
      · exact p.elim
    | [], _ => exact p.elim
    | w :: _ :: _, _ => cases w <;> exact p.elim
  · cases v1 <;> first | exact p.elim | skip
    rename_i n
    match vs, rs with
    | [w, d], .cons rw (.cons rd .nil) =>
      cases w <;> first | exact p.elim | skip
      cases rw
      rename_i k
      simp only [runMe] at p
      split at p
      · rename_i kvs hd
        obtain ⟨q, ks, rfl, ha, hr, rk, l⟩ := at_dic sr r1 hd
        have hv := rk.val (k := k)
        cases rx
        obtain ⟨u, u2, rfl, ru, ru2⟩ := vals2 rxs
        split at p
        · rename_i w hw
          rw [hw] at hv
          cases e2 : valV ks (Sum.inr k : Key) with
          | none => rw [e2] at hv; exact hv.elim
          | some z =>
            rw [e2] at hv
            exact d_pop (k := Sum.inr k) I hr ru e2 (.inr ⟨u2, rfl⟩) fun w' s' I' rw' => ⟨z, _, I', rw', p.setDic sr ha (nf_dK hr) rk.del (Nat.le_trans (List.length_filter_le _ _) l) hv⟩
        · rename_i hw
          rw [hw] at hv
          cases e2 : valV ks (Sum.inr k : Key) with
          | some z => rw [e2] at hv; exact hv.elim
          | none => exact d_popD (k := Sum.inr k) I hr ru e2 fun s' I' => ⟨_, H, I', ru2, p.here sr rd⟩
      · exact p.elim
    | [], _ => exact p.elim
    | [w], _ => cases w <;> exact p.elim
    | w :: _ :: _ :: _, _ => cases w <;> exact p.elim
theorem mtr_setdefault : MtR X "dict.setdefault" (rMm B .setdefault) := by
  intro pins s σ H x xs v us Q I rx rxs ⟨A, st, v1, vs, sr, r1, rs, p⟩
  cases v1 <;> first | exact p.elim | skip
  rename_i n
  match vs, rs with
  | [w, d], .cons rw (.cons rd .nil) =>
    cases w <;> first | exact p.elim | skip
    cases rw
    rename_i k
    simp only [runMe] at p
    split at p
    · rename_i kvs hd
      split at p
      · rename_i hl
        obtain ⟨q, ks, rfl, ha, hr, rk, l⟩ := at_dic sr r1 hd
        have hv := rk.val (k := k)
        cases rx
        obtain ⟨u, u2, rfl, ru, ru2⟩ := vals2 rxs
        refine d_setd (k := Sum.inr k) I hr ru ru2 (by rw [lim_eq, ← rk.length]; exact hl) (fun z ez w' s' I' rw' => ?_) (fun ez w' s' I' rw' => ?_)
        · rw [ez] at hv
          split at p
          · rename_i y hy
            rw [hy] at hv
            exact ⟨z, H, I', rw', p.here sr hv⟩
          · rename_i hy
            rw [hy] at hv
            exact hv.elim
        · rw [ez] at hv
          split at p
          · rename_i y hy
            rw [hy] at hv
            exact hv.elim
          · exact ⟨_, _, I', rw', p.setDic sr ha (nf_dK hr) (rk.put rd) (by have := dput_length kvs k d; omega) rd⟩
      · exact p.elim
    · exact p.elim
  | [], _ => exact p.elim
  | [w], _ => cases w <;> exact p.elim
  | w :: _ :: _ :: _, _ => cases w <;> exact p.elim
theorem mtr_clear : MtR X "dict.clear" (rMm B .clear) := by
  intro pins s σ H x xs v us Q I rx rxs ⟨A, st, v1, vs, sr, r1, rs, p⟩
  cases v1 <;> first | exact p.elim | skip
  rename_i n
  match vs, rs with
  | [], .nil =>
    simp only [runMe] at p
    split at p
    · rename_i kvs hd
      obtain ⟨q, ks, rfl, ha, hr, rk, l⟩ := at_dic sr r1 hd
      cases rx
      cases rxs
      exact d_clear I hr fun s' I' => ⟨.non, _, I', rfl, p.setDic sr ha (nf_dK hr) .nil (Nat.zero_le _) .non⟩
    · exact p.elim
  | _ :: _, _ => exact p.elim
theorem mtr_update : MtR X "dict.update" (rMm B .update) := by
  intro pins s σ H x xs v us Q I rx rxs ⟨A, st, v1, vs, sr, r1, rs, p⟩
  cases v1 <;> first | exact p.elim | skip
  rename_i n
  match vs, rs with
  | [w], .cons rw .nil =>
    cases w <;> first | exact p.elim | skip
    rename_i m
    simp only [runMe] at p
    split at p
    · exact p.elim
    · rename_i hnm
      split at p
      · rename_i kvs more hd hm
        split at p
        · rename_i hl
          obtain ⟨a, ks, rfl, ha, hr, rk, l⟩ := at_dic sr r1 hd
          obtain ⟨b, ls, e, hr2, rk2, l2⟩ := dicL_of sr rw hm
          subst e
          have hab : a ≠ b := fun e => by
            cases rw with
            | loc hb =>
              subst e
              obtain ⟨b1, e1⟩ := List.getElem?_eq_some_iff.mp ha
              obtain ⟨b2, e2⟩ := List.getElem?_eq_some_iff.mp hb
              exact hnm ((List.getElem_inj sr.nd).mp (e1.trans e2.symm))
          cases rx
          obtain ⟨u, rfl, ru⟩ := vals1 rxs
          cases ru
          obtain ⟨_, ya, va, qa, da⟩ := dk_rd I.hok (.inl hr)
          obtain ⟨_, yb, vb, qb, db⟩ := dk_rd I.hok hr2
          refine call_meetsIn PySem.F.slot_dict_update da.typeIs PySem.F.entry_dict_update (PySem.F.args_dict_update_2 _ _) (meets_dict_update (mixKind X.prog X.w) a b hab yb) ⟨va, vb, da, db, ?_, fun h' da' db' hs => ?_⟩
          · rw [← qa.length, ← qb.length, ← rk.length, ← rk2.length, lim_eq]
            exact hl
          · have he : ∃ q, h'.get? a = some q := let ⟨q, _, _, hq, _⟩ := da'; ⟨q, hq⟩
            have hz : (mergeK ks ls).length ≤ sizeLine := by
              refine Nat.le_trans (length_mergeK ls ks) ?_
              rw [← rk.length, ← rk2.length, lim_eq]
              exact hl
            exact ⟨.non, _, d_write (t' := s.toks) I (by rw [hr]; exact True.intro) hs he (dk_new hz ya (KV.merge qb qa) da'), rfl, p.setDic sr ha (nf_dK hr) (rk2.merge rk) (Nat.le_trans (dmerge_length more kvs) hl) .non⟩
        · exact p.elim
      · exact p.elim
  | [], _ => exact p.elim
  | w :: _ :: _, _ => cases w <;> exact p.elim

/-! ### of texts -/
theorem mtr_strip : MtR X "str.strip" (rMm B .strip) := by
  intro pins s σ H x xs v us Q I rx rxs ⟨A, st, v1, vs, sr, r1, rs, p⟩
  cases v1 <;> first | exact p.elim | skip
  match vs, rs with
  | [w], .cons rw .nil =>
    cases w <;> first | exact p.elim | skip
    cases rw
    cases r1
    simp only [runMe] at p
    split at p
    · rename_i hl
      exact mt_stripChars pins s σ H _ _ v us Q I rx rxs ⟨_, _, rfl, rfl, by rw [lim_eq]; exact hl, p.here sr (.str _)⟩
    · exact p.elim
  | [], _ => exact p.elim
  | w :: _ :: _, _ => cases w <;> exact p.elim
theorem strs_rel {H : Hp} {A : List Addr} : ∀ ys : List Str, RVs B H A (ys.map MV.str) (ys.map V.str)
  | [] => .nil
  | y :: ys => .cons (.str y) (strs_rel ys)
theorem mtr_split : MtR X "str.split" (rMm B .split) := by
  intro pins s σ H x xs v us Q I rx rxs ⟨A, st, v1, vs, sr, r1, rs, p⟩
  cases v1 <;> first | exact p.elim | skip
  match vs, rs with
  | [w], .cons rw .nil =>
    cases w <;> first | exact p.elim | skip
    cases rw
    cases r1
    simp only [runMe] at p
    split at p
    · rename_i hl
      exact mt_split pins s σ H _ _ v us Q I rx rxs ⟨_, _, rfl, rfl, hl.1, by rw [lim_eq]; exact hl.2.1, fun q hq => p.lst sr (strs_rel _) (by rw [List.length_map]; exact hl.2.2) hq⟩
    · exact p.elim
  | [], _ => exact p.elim
  | w :: _ :: _, _ => cases w <;> exact p.elim
theorem mtr_join (on : On B X) : MtR X "str.join" (rMm B .join) := by
  intro pins s σ H x xs v us Q I rx rxs ⟨A, st, v1, vs, sr, r1, rs, p⟩
  cases v1 <;> first | exact p.elim | skip
  match vs, rs with
  | [w], .cons rw .nil =>
    cases r1
    simp only [runMe] at p
    split at p
    · rename_i ys hy
      obtain ⟨zs, h1, h2⟩ := Option.bind_eq_some_iff.mp hy
      split at p
      · rename_i hl
        obtain ⟨q, us', rfl, hq, rq, l⟩ := seq_sq on sr rw h1
        have e := strs_of rq h2
        subst e
        exact mt_join pins s σ H _ _ v us Q I rx rxs ⟨_, q, ys, rfl, rfl, hq, hl, p.here sr (.str _)⟩
      · exact p.elim
    · exact p.elim
  | [], _ => exact p.elim
  | w :: _ :: _, _ => exact p.elim
end
end Mi
set_option Elab.async false
set_option linter.all false
set_option maxRecDepth 100000
set_option maxHeartbeats 4000000
/-! MiRev: t[::-1] of a tuple. -/
namespace HT
open PySem PyProof.Rows
section
variable {prog : Program} {w : World} {A : Around} {E : Value → Shared → Prop} {s : Shared}
theorem adjust_rev (n : Nat) : Builtin.Slice.sliceAdjust none none (-1) (n : Int) = ((n : Int) - 1, -1) := rfl
theorem places_rev (n : Nat) : Builtin.Slice.slicePlaces ((n : Int) - 1) (-1) (-1) = n := by
  unfold Builtin.Slice.slicePlaces
  rw [if_neg (by decide)]
  have e : (-(-1) : Int) = 1 := rfl
  rw [e, Int.ediv_one]
  split <;> omega
theorem sliceApplied_rev {sl : Addr} {t : Tok} {n : Nat} {Q : Int × Int × Nat → Shared → Prop} (hs : s.heap.IsSliceOf sl .none .none (.int (-1) t)) (h : Q ((n : Int) - 1, -1, n) s) :
    wpAny (model prog w) A (Builtin.Slice.sliceApplied (.ref sl) (pure (n : Int))) Q E s := by
  obtain ⟨os, hos, hcs, hds⟩ := id hs
  unfold Builtin.Slice.sliceApplied Builtin.Slice.sliceFields
  refine wpAny_bind (wpAny_bind (wpAny_field hos hds (x := .none) rfl (wpAny_bind (wpAny_field hos hds (x := .none) rfl (wpAny_bind (wpAny_field hos hds (x := .int (-1) t) rfl (wpAny_pure ?_)))))))
  refine wpAny_bind (slicePart_int ?_)
  show wpAny _ _ (if ((-1 : Int) == 0) = true then _ else _) _ _ s
  rw [if_neg (by decide)]
  refine wpAny_bind (slicePart_none (wpAny_bind (slicePart_none (wpAny_bind (wpAny_pure ?_)))))
  show wpAny _ _ (match Builtin.Slice.sliceAdjust none none (-1) (n : Int) with | (lo, hi) => pure (lo, (-1 : Int), Builtin.Slice.slicePlaces lo hi (-1))) _ _ s
  rw [adjust_rev n]
  show wpAny _ _ (pure ((n : Int) - 1, (-1 : Int), Builtin.Slice.slicePlaces ((n : Int) - 1) (-1) (-1))) _ _ s
  rw [places_rev]
  exact wpAny_pure h
theorem pick_rev (xs : Array Value) : ((List.range xs.size).filterMap fun (k : Nat) => xs[(((xs.size : Nat) : Int) - 1 + (k : Int) * (-1)).toNat]?).toArray = xs.toList.reverse.toArray := by
  congr 1
  have key : ∀ (n : Nat), n ≤ xs.size → (List.range n).filterMap (fun (k : Nat) => xs[(((xs.size : Nat) : Int) - 1 + (k : Int) * (-1)).toNat]?) = xs.toList.reverse.take n := by
    intro n
    induction n with
    | zero => intro _; simp
    | succ n ih =>
      intro h
      rw [List.range_succ, List.filterMap_append, ih (by omega)]
      have e : (((xs.size : Nat) : Int) - 1 + (n : Int) * (-1)).toNat = xs.size - 1 - n := by omega
      have hl : xs.size - 1 - n < xs.size := by omega
      have e2 : xs[(((xs.size : Nat) : Int) - 1 + (n : Int) * (-1)).toNat]? = some xs[xs.size - 1 - n] := by
        rw [e]; exact Array.getElem?_eq_getElem hl
      rw [List.filterMap_cons, e2, List.filterMap_nil, List.take_add_one]
      congr 1
      rw [List.getElem?_reverse (by rw [Array.length_toList]; exact h)]
      have e3 : xs.toList.length - 1 - n = xs.size - 1 - n := by simp
      rw [e3, List.getElem?_eq_getElem (by simpa using hl)]
      simp
  rw [key xs.size (Nat.le_refl _), List.take_of_length_le (by simp)]
theorem getItem_tuple_rev {t sl : Addr} {items : Array Value} {u : Tok} {Q : Value → Shared → Prop} (ht : IsTup s.heap t items) (hs : s.heap.IsSliceOf sl .none .none (.int (-1) u))
    (h : Q (.ref s.heap.objs.size) { s with heap := s.heap.push { cls := .type "tuple", data := .seq items.toList.reverse.toArray } })
    (hsz : items.size ≤ sizeLine) : wpAny (model prog w) A (getItem (.ref t) (.ref sl)) Q E s := by
  have htake : sizeOk (.seq items.toList.reverse.toArray) := by
    show items.toList.reverse.toArray.size ≤ sizeLine
    rw [List.size_toArray, List.length_reverse, Array.length_toList]; exact hsz
  obtain ⟨os, hos, hcs, hds⟩ := id hs
  have hTs : s.TypeIs (.ref sl) "slice" := ⟨os, hos, hcs⟩
  unfold getItem
  try with_reducible refine wpAny_holding ?_
  first | refine wpAny_bind (wpAny_pure ?_) | skip
  refine wpAny_bind (wpAny_sequenceKey ht.typeIs (by decide) ?_)
  refine wpAny_bind (wpAny_callSpecial?_slot (name := Str.ofString "__getitem__") ht.typeIs PyProof.Rows.slot_tuple_getitem
    (wpAny_call_entry PyProof.Rows.slot_tuple_getitem ht.typeIs entry_tuple_getitem ?_ (args_tuple_getitem _ _)))
  show wpAny _ _ (Builtin.Tuple.tupleItemsOf (.ref t) >>= _) _ _ s
  refine wpAny_bind (tupleItemsOf_ ht ?_)
  refine wpAny_bind (wpAny_typeOf hTs ?_)
  rw [if_pos (by decide)]
  refine wpAny_bind (sliceApplied_rev hs ?_)
  have hno : ¬ ((((items.size : Nat) : Int) - 1 == 0 && (-1 : Int) == 1 && items.size == items.size) = true) := by
    intro q
    rw [Bool.and_eq_true, Bool.and_eq_true] at q
    exact absurd q.1.2 (by decide)
  show wpAny _ _ (if (((items.size : Nat) : Int) - 1 == 0 && (-1 : Int) == 1 && items.size == items.size) = true then _ else _) _ _ s
  rw [if_neg hno, pick_rev]
  first
    | exact wpAny_bind (m := Builtin.Tuple.tupleExact _) (wpAny_newObj_type (wpAny_pure ⟨_, rfl, wpAny_pure h⟩) htake)
    | exact wpAny_bind (m := Builtin.Tuple.tupleExact _) (wpAny_newObj_type (wpAny_bind (wpAny_pure (wpAny_pure ⟨_, rfl, wpAny_pure h⟩))) htake)
    | exact wpAny_bind (wpAny_bind (m := Builtin.Tuple.tupleExact _) (wpAny_newObj_type (wpAny_pure (wpAny_pure ⟨_, rfl, wpAny_pure h⟩)) htake))
    | exact wpAny_bind (wpAny_bind (m := Builtin.Tuple.tupleExact _) (wpAny_newObj_type (wpAny_pure ⟨_, rfl, wpAny_pure h⟩) htake))
end
end HT
namespace L2
open PySem PySem.Spec PyProof.Rows
/-- e[::-1], a tuple -/
def tRev (K : PySem.W.Frag) (te : TE) : TE := fun σ H Q => te σ H fun x H1 => ∃ a xs, x = .ref a ∧ SqT K H1 a xs ∧ ∀ p, H1 p = none → Q (.ref p) (upd H1 p (.tup xs.reverse))
theorem pe_rev {X : Cx} {e : Expr} {te : TE} {p1 p2 p3 pos : Pos} {kk : Nat} (he : PE X e te) : PE X (.Subscript e (.Slice none none (some (.UnaryOp .USub (.Constant (.int 1) kk p1) p2)) p3) pos) (tRev X.K te) := by
  refine ⟨fun pins s σ H Q I h => ?_⟩
  refine Subscript_ (thn (he.run pins s σ H _ I h) fun v s1 ⟨x, H1, I1, r1, a, xs, ex, hx, q1⟩ => ?_)
  subst ex
  cases r1
  refine wpAny_Slice ?_
  rw [evalPart_none]
  refine wpAny_pure (wpAny_pure ?_)
  rw [evalPart_some]
  refine thn ((pe_un un_neg (pe_int (i := 1))).run pins s1 σ H1 (fun y H2 => y = .int (-1) ∧ H2 = H1) I1 ⟨1, rfl, rfl, rfl⟩) fun vs s3 ⟨y, H2, I3, ry, ey, eH⟩ => ?_
  subst ey eH
  obtain ⟨t, rfl⟩ := ry
  have I4 : Inv X pins σ H2 { s3 with heap := s3.heap.push { cls := .type "slice", data := .fields #[.none, .none, .int (-1) t] } } := I3.kept (t' := s3.toks) fun b ob q => Heap.get?_push_of_some _ q
  obtain ⟨its, r, ht, hz⟩ := I4.tuple hx
  have hlen : its.toArray.size = xs.length := by rw [List.size_toArray]; exact r.length.symm
  refine tail_any (ops := [.ref a, .ref s3.heap.objs.size]) ht.typeIs PyProof.Rows.slot_tuple_getitem.lookup ?_ (by with_unfolding_all rfl)
  refine HT.getItem_tuple_rev ht (Heap.IsSliceOf.new ..) ?_ (by rw [hlen]; exact hz)
  refine ⟨.ref _, _, I4.laid (t' := s3.toks) (o := .tup xs.reverse) (fun b ob q => Heap.get?_push_of_some _ q) (Nat.le_refl _) ?_, rfl, q1 _ (I4.hok.fresh (Nat.le_refl _))⟩
  exact ⟨by rw [List.length_reverse]; exact hz, _, r.reverse, IsTup.new _ _⟩
end L2
set_option Elab.async false
set_option linter.all false
set_option maxRecDepth 100000
set_option maxHeartbeats 4000000
/-! MiNx: operations let no exception out. -/
namespace Mi
open PySem L2
def isX {α : Type} : Res α → Bool
  | .exc _ _ => true
  | _ => false
theorem isX_ite {α : Type} {c : Prop} [Decidable c] {a b : Res α} (ha : isX a = false) (hb : isX b = false) : isX (if c then a else b) = false := by split <;> assumption
theorem nx_ofB (o : Option Bool) (st : Store) : isX (ofB o st) = false := by cases o <;> rfl
theorem nx_newL (p : Bool) (xs : List MV) (st : Store) : isX (newL p xs st) = false := by cases p <;> rfl
theorem nx_addL (a b : MV) (st : Store) : isX (addL a b st) = false := by
  unfold addL
  split
  · exact isX_ite rfl rfl
  · rfl
theorem nx_add (a b : MV) (st : Store) : isX (addOp a b st) = false := by
  unfold addOp
  split <;> first | rfl | exact isX_ite rfl rfl | exact nx_addL _ _ _
theorem nx_mul (a b : MV) (st : Store) : isX (mulOp a b st) = false := by
  unfold mulOp
  split <;> first | rfl | exact isX_ite rfl rfl
theorem nx_ixStr (x : Str) (i : Int) (st : Store) : isX (ixStr x i st) = false := by
  unfold ixStr
  refine isX_ite ?_ rfl
  split <;> rfl
theorem nx_ixSeq (a : MV) (i : Int) (st : Store) : isX (ixSeq a i st) = false := by
  unfold ixSeq
  split
  · split <;> rfl
  · rfl
theorem nx_ixDic (a : MV) (k : Str) (st : Store) : isX (ixDic a k st) = false := by
  unfold ixDic
  split
  · split <;> rfl
  · rfl
theorem nx_ix (a i : MV) (st : Store) : isX (ixOp a i st) = false := by
  unfold ixOp
  split
  · split
    · exact nx_ixStr _ _ _
    · exact nx_ixSeq _ _ _
  · exact nx_ixDic _ _ _
  · rfl
theorem nx_sl (a : MV) (lo hi : Option Int) (st : Store) : isX (slOp a lo hi st) = false := by
  unfold slOp
  split
  · rfl
  · unfold slL
    split <;> rfl
theorem nx_rev (a : MV) (st : Store) : isX (revOp a st) = false := by
  unfold revOp
  split <;> rfl
theorem nx_len (a : MV) (st : Store) : isX (lenOp a st) = false := by
  unfold lenOp
  split
  · exact isX_ite rfl rfl
  · unfold lenObj
    split
    · rfl
    · split <;> rfl
theorem nx_op (o : Op) (vs : List MV) (st : Store) : isX (runOp o vs st) = false := by
  unfold runOp
  split <;> first
    | rfl
    | exact nx_ofB _ _
    | exact nx_newL _ _ _
    | exact nx_add _ _ _
    | exact nx_mul _ _ _
    | exact nx_ix _ _ _
    | exact nx_sl _ _ _ _
    | exact nx_rev _ _
    | exact nx_len _ _
    | exact isX_ite rfl rfl
    | exact isX_ite (nx_newL _ _ _) rfl
    | (split <;> first
        | rfl
        | exact nx_newL _ _ _
        | exact isX_ite rfl rfl
        | (split <;> first
            | rfl
            | exact nx_newL _ _ _))
theorem nx_me (m : Me) (o : MV) (vs : List MV) (st : Store) : isX (runMe m o vs st) = false := by
  unfold runMe
  split <;> first
    | rfl
    | exact isX_ite rfl rfl
    | (split <;> first
        | rfl
        | exact isX_ite rfl rfl
        | (split <;> first
            | rfl
            | exact isX_ite rfl rfl)
        | (refine isX_ite ?_ rfl; split <;> rfl))
    | (refine isX_ite rfl ?_; split <;> first | rfl | exact isX_ite rfl rfl)
end Mi
set_option Elab.async false
set_option linter.all false
set_option maxRecDepth 100000
set_option maxHeartbeats 4000000
/-! MiSet: how many unlike texts a tuple has. -/
namespace Mi
open PySem PySem.Spec PyProof.Rows L2
/-- how many unlike ones -/
def nub (xs : List Str) : Nat := xs.eraseDups.length
theorem nub_snoc (xs : List Str) (x : Str) : nub (xs ++ [x]) = if xs.any (· == x) then nub xs else nub xs + 1 := by
  unfold nub
  rw [List.eraseDups_append, List.length_append]
  by_cases h : x ∈ xs
  · have e : xs.any (· == x) = true := List.any_eq_true.mpr ⟨x, h, beq_self_eq_true x⟩
    have e2 : [x].removeAll xs = [] := by simp [List.removeAll, h]
    rw [e, e2]
    rfl
  · have e : xs.any (· == x) = false := by
      rw [List.any_eq_false]
      intro y hy hb
      exact h (eq_of_beq hb ▸ hy)
    have e2 : [x].removeAll xs = [x] := by simp [List.removeAll, h]
    rw [e, e2]
    rfl
theorem nub_le (xs : List Str) : ∀ i, nub (xs.take i) ≤ i
  | 0 => Nat.le_refl _
  | i + 1 => by
    have ih := nub_le xs i
    rw [List.take_add_one]
    cases h : xs[i]? with
    | none =>
      show nub (xs.take i ++ []) ≤ i + 1
      rw [List.append_nil]
      omega
    | some x =>
      show nub (xs.take i ++ [x]) ≤ i + 1
      rw [nub_snoc]
      split <;> omega
/-- the texts of the set so far -/
def soFar (xs : List Str) (i : Nat) : Str → Bool := fun y => (xs.take i).any (· == y)
section
variable {prog : Program} {w : World} {A : Around} {R : Result → Shared → Prop} {I : Addr} {fp wr : List Addr} {G : Array GenState → Array GenState → Prop} {n : Nat} {P : Nat → Value → Prop} {St : Nat → Shared → Prop}
theorem keepSet {S : Addr} {f : Str → Bool} {m : Nat} {h h' : Heap} (hs : h.SetOf (PySem.strKind prog w) S f m) (k : ∀ o, h.get? S = some o → h'.get? S = some o) : h'.SetOf (PySem.strKind prog w) S f m := by
  obtain ⟨o, es, ep, t, ho, r⟩ := hs
  exact ⟨o, es, ep, t, k o ho, r⟩
/-- one text after another into the set -/
theorem fill (W : WalksS prog w A.in1 I fp wr G n P St) {S : Addr} (hS : S ∉ fp) (xs : List Str) (hn : xs.length = n) (hb : n + 1 < scanBound) (hv : ∀ i v, P i v → ∃ x t, xs[i]? = some x ∧ v = .str x t)
    {s0 : Shared} (fin : ∀ s', Moved (S :: wr) G s0 s' → s'.heap.SetOf (PySem.strKind prog w) S (soFar xs n) (nub (xs.take n)) → R (.ok (.ret .none)) s') :
    ∀ (d i : Nat) (s : Shared), i + d = n → Moved (S :: wr) G s0 s → St i s → s.heap.SetOf (PySem.strKind prog w) S (soFar xs i) (nub (xs.take i)) → codeAny (model prog w) A (.builtin "set.update.loop" ⟨[.ref S, .ref I], []⟩) R s := by
  have nw : S ∉ wr := fun h => hS (W.sub _ h)
  have up : ∀ b ∈ wr, b ∈ S :: wr := fun b h => List.mem_cons_of_mem _ h
  intro d
  induction d with
  | zero =>
    intro i s e mv st hs
    obtain rfl : i = n := e
    refine codeAny_builtin PyProof.Rows.F.entry_set_update_loop (by
      rw [Around.under_plainId PyProof.Rows.F.plain_set_update_loop _]
      refine wpAny_bind (m := pyNext (.ref I)) (W.done s _ _ st fun s1 m1 => ?_)
      exact wpAny_pure (fin s1 (Moved.trans W.gtrans mv (m1.mono up)) (keepSet hs fun o h => m1.heap S o nw h)))
  | succ d ih =>
    intro i s e mv st hs
    have hlt : i < n := by omega
    refine codeAny_builtin PyProof.Rows.F.entry_set_update_loop (by
      rw [Around.under_plainId PyProof.Rows.F.plain_set_update_loop _]
      refine wpAny_bind (m := pyNext (.ref I)) (W.item i s _ _ hlt st fun v s1 pv st1 m1 => ?_)
      obtain ⟨x, t, hx, rfl⟩ := hv i v pv
      have hs1 := keepSet (h' := s1.heap) hs fun o h => m1.heap S o nw h
      refine wpAny_bind (m := holding [Value.str x t] (setAdd S (.str x t))) (wpAny_holding ?_)
      unfold setAdd
      refine wpAny_holding (wpAny_bind ((PySem.strKind prog w).pyHash (k := x) (strKind_is _ _ _ _) ?_))
      have hbi : nub (xs.take i) + 1 < scanBound := by
        have := nub_le xs i
        omega
      refine wpAny_setAddHashed_of (knd := PySem.strKind prog w) (s := { s1 with toks := s1.toks + 1 }) (strKind_is _ _ _ _) rfl hs1 hbi fun h2 sb hs2 => ?_
      have et : xs.take (i + 1) = xs.take i ++ [x] := by rw [List.take_add_one, hx]; rfl
      have hs3 : h2.SetOf (PySem.strKind prog w) S (soFar xs (i + 1)) (nub (xs.take (i + 1))) := by
        refine SetOf_congr hs2 (fun y => ?_) (by rw [et, nub_snoc]; rfl)
        show _ = (xs.take (i + 1)).any (· == y)
        rw [et, List.any_append, List.any_cons, List.any_nil, Bool.or_false]
        congr 1
        by_cases h : y = x
        · simp [h]
        · rw [decide_eq_false h, beq_eq_false_iff_ne.mpr fun z => h z.symm]
      have m2 : Moved (S :: wr) G s0 { s1 with heap := h2, toks := s1.toks + 1 } := Moved.trans W.gtrans mv ((m1.mono up).then_heap (Nat.le_succ _) fun b o nb h => by
        rw [sb.2 b fun z => nb (by rw [z]; exact List.mem_cons_self)]
        exact h)
      exact wpAny_pure ⟨plainId_quiet PyProof.Rows.F.plain_set_update_loop _, ih (i + 1) _ (by omega) m2 (W.frame _ s1 _ _ st1 (Nat.le_succ _) fun b bf o h => by
        rw [sb.2 b fun z => hS (by rw [← z]; exact bf)]
        exact h) hs3⟩)
end
section
variable {prog : Program} {w : World} {A : Around} {E : Value → Shared → Prop} {s : Shared}
abbrev set0 (led : Bool) : Obj := { cls := .type "set", dict := none, data := .set #[] 0 (.fresh 0 0 led) }
/-- set(t), t a tuple of texts -/
theorem set_tup {l : Addr} {its : Array Value} {xs : List Str} {Q : Value → Shared → Prop} (hh : A.handled = none) (hl : s.heap.IsTuple l its) (hn : xs.length = its.size) (hb : its.size + 1 < scanBound) (hv : ∀ (i : Nat) (v : Value), its[i]? = some v → ∃ x t, xs[i]? = some x ∧ v = .str x t)
    (h : ∀ (h' : Heap) (tk : Nat), h'.SetOf (PySem.strKind prog w) s.heap.objs.size (soFar xs its.size) (nub (xs.take its.size)) → (∀ b o, s.heap.get? b = some o → h'.get? b = some o) → Q (.ref s.heap.objs.size) { s with heap := h', toks := tk }) :
    wpAny (model prog w) A (call (.type "set") [.ref l]) Q E s := by
  have T := PySem.F.called_set
  obtain ⟨c, tl, hmro⟩ := T.mro
  have hmade := T.made
  have hsub := T.sub
  have hnt := T.notType
  have hcr := T.canCreate
  have hct := PySem.F.typeCall_set_1 (.ref l)
  refine wpAny_call (codeAny_of_tree (?_ : wpAny _ _ (callAny (.type "set") _) _ _ _))
  refine wpAny_pure ⟨Code.quiet_builtin _ (by decide +kernel), codeAny_builtin PySem.F.entry_type_call (by
    rw [Around.under_plain (weight_type_call_type "set" [.ref l] []) rfl]
    repeat (any_goals (first | assumption | wp_step))
    refine codeAny_mono (code_set_new_1 (.ref l) (E := E) (Q₁ := fun u s1 => ∃ led, u = .ref s.heap.objs.size ∧ s1 = { s with heap := s.heap.push (set0 led) }) fun led => ⟨led, rfl, rfl⟩) fun r s1 hr => ?_
    cases r with
    | error e => exact hr
    | ok fl =>
      cases fl <;> first | exact hr.elim | skip
      obtain ⟨led, rfl, rfl⟩ := hr
      have g0 : (s.heap.push (set0 led)).get? s.heap.objs.size = some (set0 led) := Heap.get?_push_size _ rfl
      have hT : Shared.TypeIs { s with heap := s.heap.push (set0 led) } (.ref s.heap.objs.size) "set" := ⟨_, g0, rfl⟩
      have hli := T.init.lookup
      have hbi := T.init.bind (.ref s.heap.objs.size)
      repeat (any_goals (first | assumption | wp_step))
      refine codeAny_mono (codeAny_call_builtin (R := wants (fun r s2 => r = .none ∧ ∃ h' tk, s2 = { s with heap := h', toks := tk } ∧ h'.SetOf (PySem.strKind prog w) s.heap.objs.size (soFar xs its.size) (nub (xs.take its.size)) ∧
          ∀ b o, s.heap.get? b = some o → h'.get? b = some o) E) T.init.plain PySem.F.entry_set_init (check_set_init_1 hT ?_)) fun r2 s2 hr2 => ?_
      · obtain ⟨⟨c0, d0, dt, sl⟩, hg, hc, m, hd⟩ := id hl
        cases (show c0 = _ from hc)
        cases (show dt = _ from hd)
        have hg1 := Heap.get?_push_of_some (set0 led) hg
        have hl1 : (s.heap.push (set0 led)).IsTuple l its := ⟨_, hg1, rfl, m, rfl⟩
        have s1 := PySem.F.sub_tuple_set
        have s2 := PySem.F.sub_tuple_frozenset
        have nd : (Value.type "tuple" == Value.type "dict") = false := by decide
        have hlt := Heap.lt_size hg
        unfold Builtin.«set.__init__» noKeywords Builtin.Frozenset.updateFrom
        generalize hPI : pyIter = PI
        wp_walk
        subst hPI
        refine wpAny_pyIter_tuple hl1 (wpAny_bind (wpAny_runValue ?_))
        have hz : (s.heap.push (set0 led)).objs.size = s.heap.objs.size + 1 := Heap.size_push ..
        have ne : l ≠ (s.heap.push (set0 led)).objs.size := by rw [hz]; exact Nat.ne_of_lt (Nat.lt_succ_of_lt hlt)
        have nf : s.heap.objs.size ∉ [(s.heap.push (set0 led)).objs.size, l] := by
          rw [hz]
          simp only [List.mem_cons, List.not_mem_nil, or_false, not_or]
          exact ⟨Nat.ne_of_lt (Nat.lt_succ_self _), Nat.ne_of_gt hlt⟩
        have W := (Walks.tuple (prog := prog) (w := w) (A := A.in1.in1.in1) (by simp [hh]) _ l ne its).toS
        refine fill W nf xs hn hb hv (s0 := { s with heap := (s.heap.push (set0 led)).push { cls := .type "tuple_iterator", data := .fields #[.ref l, .int 0 0] } }) (fun s' mv hs => ?_) its.size 0 _ (by omega) (Moved.refl (hg := fun _ => rfl) ..) ⟨⟨_, Heap.get?_push_size _ rfl, rfl, rfl⟩, hl1.push _⟩ ?_
        · obtain ⟨h', g', d', tk', os'⟩ := s'
          cases (show g' = s.gens from mv.gens)
          cases (show d' = s.drawn from mv.drawn)
          cases (show os' = s.os from mv.os)
          refine wpAny_pure (wpAny_pure ⟨rfl, h', tk', rfl, hs, fun b o hbo => ?_⟩)
          have hbl := Heap.lt_size hbo
          refine mv.heap b o ?_ (Heap.get?_push_of_some _ (Heap.get?_push_of_some _ hbo))
          rw [hz]
          simp only [List.mem_cons, List.not_mem_nil, or_false, not_or]
          exact ⟨Nat.ne_of_lt hbl, Nat.ne_of_lt (Nat.lt_succ_of_lt hbl)⟩
        · exact SetOf_congr ((setObjOf_fresh (knd := PySem.strKind prog w) led).setOf (Heap.get?_push_of_some _ g0) (by unfold scanBound; omega)) (fun _ => rfl) rfl
      · cases r2 with
        | error e => exact hr2
        | ok f2 =>
          cases f2 <;> first | exact hr2.elim | skip
          obtain ⟨rfl, h', tk, rfl, hs, hk⟩ := hr2
          repeat (any_goals (first | assumption | wp_step))
          exact h _ _ hs hk)⟩
end
end Mi
set_option Elab.async false
set_option linter.all false
set_option maxRecDepth 100000
set_option maxHeartbeats 4000000
/-! MiZip: a zip whose tuple is out, over any two iterators; dict(zip(a, b)) of two tuples. -/
namespace Mi
open PySem PySem.Spec PyProof.Rows L2
section
variable {prog : Program} {w : World} {A : Around} {E : Value → Shared → Prop} {s : Shared} {z TI TO T i1 i2 : Addr} {fp1 fp2 : List Addr} {n1 n2 i : Nat} {P1 P2 : Nat → Value → Prop} {St1 St2 : Nat → Heap → Prop} {f : Bool} {oT : Obj}
theorem heldNext (S : ZipSep2 z TI TO i1 i2 fp1 fp2) (D1 : Draws prog w A i1 fp1 n1 P1 St1) (D2 : Draws prog w A i2 fp2 n2 P2 St2) {Q : Value → Shared → Prop} (hz : IsZipHeld s.heap z TI TO T f) (hT : s.heap.get? T = some oT) (hTI : IsTupOf2 s.heap TI (.ref i1) (.ref i2))
    (st1 : St1 i s.heap) (st2 : St2 i s.heap) (l1 : i < n1) (l2 : i < n2)
    (hQ : ∀ x y h' tk, P1 i x → P2 i y → IsZipHeld h' z TI TO T true → St1 (i + 1) h' → St2 (i + 1) h' → IsTupOf2 h' s.heap.objs.size x y → (∀ c o, c ≠ z → c ≠ i1 → c ≠ i2 → s.heap.get? c = some o → h'.get? c = some o) → Q (.ref s.heap.objs.size) { s with heap := h', toks := tk }) :
    wpAny (model prog w) A (Builtin.«zip.__next__» ⟨[.ref z], []⟩) (fun fin s' => ∃ v, fin = .done (.ret v) ∧ Q v s') E s := by
  refine wpAny_bind (m := field (.ref z) 2) (wpAny_field hz rfl (x := .bool false) rfl (wpAny_bind (m := field (.ref z) 3) (wpAny_field hz rfl (x := .ref TI) rfl (wpAny_bind (wpAny_seqItems hTI rfl ?_)))))
  refine wpAny_bind (m := Builtin.SmallTypes.ownedTupleIsFree (.ref z)) (wpAny_tupleHeld_zip hz hT fun ha za sa => ?_)
  simp only [Bool.false_eq_true, if_false]
  refine wpAny_bind ?_
  rw [← Array.forIn_toList]
  simp only [List.forIn_cons, List.forIn_nil]
  refine wpAny_bind (wpAny_bind (wpAny_holding (wpAny_bind (m := Builtin.SmallTypes.nextOf (.ref i1)) (D1.item i { s with heap := ha } _ _ l1 (D1.over st1 sa S.zf1) fun x hb tb px stb sb => wpAny_pure (wpAny_pure ?_)))))
  refine wpAny_bind (wpAny_bind (wpAny_holding (wpAny_bind (m := Builtin.SmallTypes.nextOf (.ref i2)) (D2.item i { s with heap := hb, toks := tb } _ _ l2 (D2.over (D2.over st2 sa S.zf2) sb S.sep1_2) fun y hc tc py stc sc => wpAny_pure (wpAny_pure (wpAny_pure ?_))))))
  refine wpAny_bind (m := newTuple [x, y]) (wpAny_newTuple ?_)
  have sa' : Heap.SameBut z s.heap ha := sa
  have sb' : Heap.SameBut i1 ha hb := sb
  have sc' : Heap.SameBut i2 hb hc := sc
  have hsz : hc.objs.size = s.heap.objs.size := by rw [sc'.1, sb'.1, sa'.1]
  refine wpAny_pure ⟨_, rfl, ?_⟩
  show Q (.ref hc.objs.size) { s with heap := hc.push { cls := .type "tuple", data := .seq #[x, y] }, toks := tc }
  have hp : IsTupOf2 (hc.push { cls := .type "tuple", data := .seq #[x, y] }) hc.objs.size x y := Heap.get?_push_size _ rfl
  rw [hsz] at hp ⊢
  have zc : IsZipHeld hc z TI TO T true := sc'.extBut _ _ S.zi2 (sb'.extBut _ _ S.zi1 za)
  exact hQ x y _ tc px py (Heap.get?_push_of_some _ zc) (D1.frame _ _ _ (D1.over stb sc' S.sep2_1) fun b _ o e => Heap.get?_push_of_some _ e) (D2.frame _ _ _ stc fun b _ o e => Heap.get?_push_of_some _ e) hp
    fun c o c1 c2 c3 e => Heap.get?_push_of_some _ (sc'.extBut _ _ c3 (sb'.extBut _ _ c2 (sa'.extBut _ _ c1 e)))
theorem heldEnd (S : ZipSep2 z TI TO i1 i2 fp1 fp2) (D1 : Draws prog w A i1 fp1 n1 P1 St1) (D2 : Draws prog w A i2 fp2 n2 P2 St2) {Q : Fin → Shared → Prop} (hz : IsZipHeld s.heap z TI TO T f) (hT : s.heap.get? T = some oT) (hTI : IsTupOf2 s.heap TI (.ref i1) (.ref i2))
    (st1 : St1 i s.heap) (st2 : St2 i s.heap) (l1 : i ≤ n1) (l2 : i ≤ n2) (hend : i = n1 ∨ i = n2)
    (hE : ∀ h' tk e, (∀ c o, c ≠ z → c ≠ i1 → c ≠ i2 → s.heap.get? c = some o → h'.get? c = some o) → (∃ o, h'.get? e = some o ∧ o.cls = .type "StopIteration") → E (.ref e) { s with heap := h', toks := tk }) :
    wpAny (model prog w) A (Builtin.«zip.__next__» ⟨[.ref z], []⟩) Q E s := by
  refine wpAny_bind (m := field (.ref z) 2) (wpAny_field hz rfl (x := .bool false) rfl (wpAny_bind (m := field (.ref z) 3) (wpAny_field hz rfl (x := .ref TI) rfl (wpAny_bind (wpAny_seqItems hTI rfl ?_)))))
  refine wpAny_bind (m := Builtin.SmallTypes.ownedTupleIsFree (.ref z)) (wpAny_tupleHeld_zip hz hT fun ha za sa => ?_)
  simp only [Bool.false_eq_true, if_false]
  refine wpAny_bind ?_
  rw [← Array.forIn_toList]
  simp only [List.forIn_cons, List.forIn_nil]
  have sa' : Heap.SameBut z s.heap ha := sa
  by_cases h1 : i < n1
  · have e2 : i = n2 := by omega
    refine wpAny_bind (wpAny_bind (wpAny_holding (wpAny_bind (m := Builtin.SmallTypes.nextOf (.ref i1)) (D1.item i { s with heap := ha } _ _ h1 (D1.over st1 sa S.zf1) fun x hb tb px stb sb => wpAny_pure (wpAny_pure ?_)))))
    have sb' : Heap.SameBut i1 ha hb := sb
    have st2' := D2.over (D2.over st2 sa S.zf2) sb S.sep1_2
    rw [e2] at st2'
    refine wpAny_bind (wpAny_bind (wpAny_holding (wpAny_bind (m := Builtin.SmallTypes.nextOf (.ref i2)) (D2.done { s with heap := hb, toks := tb } _ _ st2' fun hc e sc ex => ?_))))
    exact hE hc tb e (fun c o c1 c2 c3 q => sc c o c3 (sb'.extBut _ _ c2 (sa'.extBut _ _ c1 q))) ex
  · have e1 : i = n1 := by omega
    have st1' := D1.over st1 sa S.zf1
    rw [e1] at st1'
    refine wpAny_bind (wpAny_bind (wpAny_holding (wpAny_bind (m := Builtin.SmallTypes.nextOf (.ref i1)) (D1.done { s with heap := ha } _ _ st1' fun hc e sc ex => ?_))))
    exact hE hc s.toks e (fun c o c1 c2 c3 q => sc c o c2 (sa'.extBut _ _ c1 q)) ex
theorem heldItem (S : ZipSep2 z TI TO i1 i2 fp1 fp2) (D1 : Draws prog w A.in1 i1 fp1 n1 P1 St1) (D2 : Draws prog w A.in1 i2 fp2 n2 P2 St2) {Q : Option Value → Shared → Prop} (hz : IsZipHeld s.heap z TI TO T f) (hT : s.heap.get? T = some oT) (hTI : IsTupOf2 s.heap TI (.ref i1) (.ref i2))
    (st1 : St1 i s.heap) (st2 : St2 i s.heap) (l1 : i < n1) (l2 : i < n2)
    (hQ : ∀ x y h' tk, P1 i x → P2 i y → IsZipHeld h' z TI TO T true → St1 (i + 1) h' → St2 (i + 1) h' → IsTupOf2 h' s.heap.objs.size x y → (∀ c o, c ≠ z → c ≠ i1 → c ≠ i2 → s.heap.get? c = some o → h'.get? c = some o) → Q (some (.ref s.heap.objs.size)) { s with heap := h', toks := tk }) :
    wpAny (model prog w) A (pyNext (.ref z)) Q E s := by
  have ty : s.TypeIs (.ref z) "zip" := ⟨_, hz, rfl⟩
  exact wpAny_bind (wpAny_attempt (wpAny_callSpecial?_slot (name := Str.ofString "__next__") ty PySem.F.slot_zip_next
    (wpAny_call_entry PySem.F.slot_zip_next ty PySem.F.entry_zip_next (heldNext S D1 D2 hz hT hTI st1 st2 l1 l2 fun x y h' tk a b c d e g k => wpAny_pure (hQ x y h' tk a b c d e g k)) (PySem.F.args_zip_next_1 _))))
theorem heldDone (S : ZipSep2 z TI TO i1 i2 fp1 fp2) (D1 : Draws prog w A.in1 i1 fp1 n1 P1 St1) (D2 : Draws prog w A.in1 i2 fp2 n2 P2 St2) {Q : Option Value → Shared → Prop} (hz : IsZipHeld s.heap z TI TO T f) (hT : s.heap.get? T = some oT) (hTI : IsTupOf2 s.heap TI (.ref i1) (.ref i2))
    (st1 : St1 i s.heap) (st2 : St2 i s.heap) (l1 : i ≤ n1) (l2 : i ≤ n2) (hend : i = n1 ∨ i = n2)
    (hQ : ∀ h' tk, (∀ c o, c ≠ z → c ≠ i1 → c ≠ i2 → s.heap.get? c = some o → h'.get? c = some o) → Q none { s with heap := h', toks := tk }) : wpAny (model prog w) A (pyNext (.ref z)) Q E s := by
  have ty : s.TypeIs (.ref z) "zip" := ⟨_, hz, rfl⟩
  refine wpAny_bind (wpAny_attempt (wpAny_callSpecial?_slot (name := Str.ofString "__next__") ty PySem.F.slot_zip_next
    (wpAny_call_entry PySem.F.slot_zip_next ty PySem.F.entry_zip_next (heldEnd S D1 D2 hz hT hTI st1 st2 l1 l2 hend fun h' tk e k ex => ?_) (PySem.F.args_zip_next_1 _))))
  obtain ⟨o, ho, hc⟩ := ex
  exact wpAny_bind (wpAny_isInstance (T := "StopIteration") (b := true) ⟨o, ho, hc⟩ isSubtype_stop (wpAny_pure (hQ h' tk k)))
end
end Mi
namespace Mi
open PySem PySem.Spec PyProof.Rows L2
section
variable {prog : Program} {w : World}
/-- a zip over two tuples, as what dict(..) takes -/
theorem zipPairs {z TI TO i1 i2 l1 l2 : Addr} (S : ZipSep2 z TI TO i1 i2 [i1, l1] [i2, l2]) (n1 : l1 ≠ i1) (n2 : l2 ≠ i2) (xs ys : Array Value) :
    PairArg prog w "zip" z [z, TI, TO, i1, i2, l1, l2] [z, TO, i1, i2] (min xs.size ys.size) (fun i k v => xs[i]? = some k ∧ ys[i]? = some v)
      (fun h => IsZip h z TI TO .none ∧ IsTupOf2 h TI (.ref i1) (.ref i2) ∧ (∃ a b, IsTupOf2 h TO a b) ∧ (h.IsTupleIter i1 l1 0 ∧ h.IsTuple l1 xs) ∧ (h.IsTupleIter i2 l2 0 ∧ h.IsTuple l2 ys)) where
  type := fun s ok => ⟨_, ok.1, rfl⟩
  notDict := by decide
  keep := fun h h' ⟨a, b, ⟨c, d, e⟩, ⟨f, g⟩, i, j⟩ k => ⟨k _ _ a, k _ _ b, ⟨c, d, k _ _ e⟩, ⟨f.at fun o q => k _ o q, g.at fun o q => k _ o q⟩, i.at fun o q => k _ o q, j.at fun o q => k _ o q⟩
  there := fun h ⟨a, b, ⟨c, d, e⟩, ⟨⟨o1, f, _⟩, ⟨o2, g, _⟩⟩, ⟨o3, i, _⟩, ⟨o4, j, _⟩⟩ q hq => by
    have hq : q = z ∨ q = TI ∨ q = TO ∨ q = i1 ∨ q = i2 ∨ q = l1 ∨ q = l2 := by simpa using hq
    rcases hq with r | r | r | r | r | r | r <;> rw [r]
    · exact ⟨_, a⟩
    · exact ⟨_, b⟩
    · exact ⟨_, e⟩
    · exact ⟨_, f⟩
    · exact ⟨_, i⟩
    · exact ⟨_, g⟩
    · exact ⟨_, j⟩
  sub := fun b hb => by
    have hb : b = z ∨ b = TO ∨ b = i1 ∨ b = i2 := by simpa using hb
    rcases hb with r | r | r | r <;> simp [r]
  noKeys := fun A s Q E hA ok h => getAttrOr_miss_zip ok.1 rfl rfl rfl zip_no_keys (by decide +kernel) hA h
  iter := fun A s d Q E hA ok hd hdf h => by
    obtain ⟨hz, hTI, ⟨a, b, hTO⟩, st1, st2⟩ := ok
    have D1 := Draws.tuple (prog := prog) (w := w) (A := A.in1) hA i1 l1 n1 xs
    have D2 := Draws.tuple (prog := prog) (w := w) (A := A.in1) hA i2 l2 n2 ys
    have df : ∀ c, c ∈ [z, TI, TO, i1, i2, l1, l2] → c ≠ d := fun c hc e => hdf (e ▸ hc)
    refine wpAny_pyIter_zip hz (h z [z, TO, i1, i2] (fun i h => IsTupOf2 h TI (.ref i1) (.ref i2) ∧ (h.IsTupleIter i1 l1 i ∧ h.IsTuple l1 xs) ∧ (h.IsTupleIter i2 l2 i ∧ h.IsTuple l2 ys) ∧
      ((IsZip h z TI TO .none ∧ ∃ a b, IsTupOf2 h TO a b) ∨ ∃ T f oT, IsZipHeld h z TI TO T f ∧ h.get? T = some oT ∧ T ≠ z ∧ T ≠ i1 ∧ T ≠ i2 ∧ T ≠ d)) s.heap s.toks ?_
      ⟨hTI, st1, st2, .inl ⟨hz, a, b, hTO⟩⟩ (fun _ _ e => e) fun b hb => .inl hb)
    refine ⟨fun hm => hdf ?_, fun i g g' st k => ?_, fun i s1 Q1 E1 hi st hds hQ => ?_, fun s1 Q1 E1 st hQ => ?_⟩
    · have hm : d = z ∨ d = TO ∨ d = i1 ∨ d = i2 := by simpa using hm
      rcases hm with r | r | r | r <;> simp [r]
    · obtain ⟨q1, ⟨q2, q3⟩, ⟨q4, q5⟩, q6⟩ := st
      refine ⟨k _ _ (df _ (by simp)) q1, ⟨q2.at fun o e => k _ o (df _ (by simp)) e, q3.at fun o e => k _ o (df _ (by simp)) e⟩, ⟨q4.at fun o e => k _ o (df _ (by simp)) e, q5.at fun o e => k _ o (df _ (by simp)) e⟩, ?_⟩
      rcases q6 with ⟨q, a, b, q'⟩ | ⟨T, f, oT, q, q', r1, r2, r3, r4⟩
      · exact .inl ⟨k _ _ (df _ (by simp)) q, a, b, k _ _ (df _ (by simp)) q'⟩
      · exact .inr ⟨T, f, oT, k _ _ (df _ (by simp)) q, k _ _ r4 q', r1, r2, r3, r4⟩
    · obtain ⟨q1, q2, q3, q6⟩ := st
      have hx : i < xs.size := by omega
      have hy : i < ys.size := by omega
      have lt : ∀ {c o}, s1.heap.get? c = some o → s1.heap.objs.size ≠ c := fun e => Nat.ne_of_gt (Heap.lt_size e)
      have m1 : s1.heap.objs.size ≠ i1 := let ⟨_, e, _⟩ := q2.1; lt e
      have m2 : s1.heap.objs.size ≠ i2 := let ⟨_, e, _⟩ := q3.1; lt e
      rcases q6 with ⟨q, a, b, q'⟩ | ⟨T, f, oT, q, q', r1, r2, r3, r4⟩
      · refine wpAny_pyNext_zipD2_item S D1 D2 q q1 q' q2 q3 hx hy fun x y h' tk px py a1 a2 a3 a4 a5 a6 k => ?_
        exact hQ s1.heap.objs.size x y h' tk ⟨px, py⟩ (.inl ⟨_, a5, rfl, _, rfl⟩) ⟨k _ _ S.TIz S.TITO S.TIi1 S.TIi2 q1, a3, a4, .inr ⟨s1.heap.objs.size, false, _, a1, a5, lt q, m1, m2, Nat.ne_of_gt hds⟩⟩
          fun c o hc e => k c o (fun r => hc (by simp [r])) (fun r => hc (by simp [r])) (fun r => hc (by simp [r])) (fun r => hc (by simp [r])) e
      · refine heldItem S D1 D2 q q' q1 q2 q3 hx hy fun x y h' tk px py a1 a3 a4 a5 k => ?_
        exact hQ s1.heap.objs.size x y h' tk ⟨px, py⟩ (.inl ⟨_, a5, rfl, _, rfl⟩) ⟨k _ _ S.TIz S.TIi1 S.TIi2 q1, a3, a4, .inr ⟨T, true, oT, a1, k _ _ r1 r2 r3 q', r1, r2, r3, r4⟩⟩
          fun c o hc e => k c o (fun r => hc (by simp [r])) (fun r => hc (by simp [r])) (fun r => hc (by simp [r])) e
    · obtain ⟨q1, q2, q3, q6⟩ := st
      have hend : min xs.size ys.size = xs.size ∨ min xs.size ys.size = ys.size := by omega
      rcases q6 with ⟨q, a, b, q'⟩ | ⟨T, f, oT, q, q', r1, r2, r3, r4⟩
      · exact wpAny_pyNext_zipD2_end S D1 D2 q q1 q' q2 q3 (Nat.min_le_left ..) (Nat.min_le_right ..) hend fun h' tk k => hQ h' tk fun c o hc e => k c o (fun r => hc (by simp [r])) (fun r => hc (by simp [r])) (fun r => hc (by simp [r])) (fun r => hc (by simp [r])) e
      · exact heldDone S D1 D2 q q' q1 q2 q3 (Nat.min_le_left ..) (Nat.min_le_right ..) hend fun h' tk k => hQ h' tk fun c o hc e => k c o (fun r => hc (by simp [r])) (fun r => hc (by simp [r])) (fun r => hc (by simp [r])) e
end
end Mi
set_option Elab.async false
set_option linter.all false
set_option maxRecDepth 100000
set_option maxHeartbeats 4000000
/-! MiZip2: len(set(t)), dict(zip(a, b)). -/
namespace Mi
open PySem PySem.Spec PyProof.Rows L2
section
variable {X : Cx}
theorem nub_all (xs : List Str) : nub (xs.take xs.length) = nub xs := by rw [List.take_length]
theorem vals_str : ∀ {xs : List Str} {us : List Value}, Vals (xs.map V.str) us → ∀ (i : Nat) (v : Value), us[i]? = some v → ∃ x t, xs[i]? = some x ∧ v = .str x t
  | [], _, .nil, i, v, h => by simp at h
  | x :: xs, _, .cons r t, 0, v, h => by
    obtain ⟨k, rfl⟩ := r
    simp at h
    exact ⟨x, k, rfl, h.symm⟩
  | x :: xs, _, .cons r t, i + 1, v, h => by
    obtain ⟨y, k, h1, h2⟩ := vals_str t i v (by simpa using h)
    exact ⟨y, k, by simpa using h1, h2⟩
def tLenT (K : PySem.W.Frag) (ta : TA) : TE := fun σ H Q => ta σ H fun vs H1 => ∃ l, ∃ xs : List Str, vs = [.ref l] ∧ SqT K H1 l (xs.map V.str) ∧ xs.length ≤ 1000 ∧ Q (.int (nub xs : Nat)) H1
theorem pe_lenT {a : PySem.Expr} {ta : TA} {p p2 q pos : Pos} (hc : X.calm = true) (hg : Gl X "len") (hm : X.mg "len" = none) (hg2 : Gl X "set") (hm2 : X.mg "set" = none) (ha : PA X [a] ta)
    (na : starEach [a] X.env = (false, eval a X.env) :: starEach [] X.env) : PE X (.Call (.Name "len" p) [.Call (.Name "set" p2) [a] [] q] [] pos) (tLenT X.K ta) := by
  refine ⟨fun pins s σ H Q I h => ?_⟩
  refine Call_ (ld_blt I hg hm boot_len (callWith_builtin1 (args_cons (Call_ (ld_blt I hg2 hm2 boot_set (callWith_type1 (thn (ha.run q pins s σ H _ I h) fun us s1 ⟨vs, H1, I1, r1, q1⟩ => ?_) na rfl))) rfl) rfl rfl))
  obtain ⟨l, xs, rfl, hq, hl, q1⟩ := q1
  cases r1 with
  | cons r rr =>
    cases rr
    cases r
    obtain ⟨its, rv, tp, hz⟩ := I1.tuple hq
    have hsz : xs.length = its.toArray.size := by rw [List.size_toArray, ← rv.length, List.length_map]
    refine set_tup (I1.ok.hd hc) tp hsz (by unfold scanBound; omega) (fun i v hv => vals_str rv i v (by simpa using hv)) fun h' tk hS hk => args_nil ?_
    rw [← hsz, nub_all] at hS
    obtain ⟨o, es, ep, t, ho, hex, hd, _, _, _, hf, hn⟩ := hS
    have I2 : Inv X pins σ H1 { s1 with heap := h', toks := tk } := I1.kept fun b o e => hk b o e
    have hnl := nub_le xs xs.length
    rw [nub_all] at hnl
    exact call_len_set ho hex hd hf (by rw [hn]; omega) ⟨.int (nub xs : Nat), H1, I2.tok _, ⟨_, by rw [hn]⟩, q1⟩
theorem zipRel : ∀ {ys : List V} {us : List Value}, Vals ys us → ∀ xs : List Str, KV ((xs.zip ys).map fun p => ((Sum.inr p.1 : Key), p.2)) ((xs.zip us).map fun p => ((Sum.inr p.1 : Key), p.2))
  | _, _, .nil, xs => by cases xs <;> exact .nil
  | _, _, .cons r t, [] => .nil
  | _, _, .cons r t, x :: xs => .cons ⟨rfl, r⟩ (zipRel t xs)
/-- names and values, in pairs -/
def tDicZip (K : PySem.W.Frag) (ta : TA) : TE := fun σ H Q => ta σ H fun vs H1 => ∃ (a b : Addr) (xs : List Str) (ys : List V), vs = [.ref a, .ref b] ∧ SqT K H1 a (xs.map V.str) ∧ SqT K H1 b ys ∧
  ∀ z, H1 z = none → Q (.ref z) (upd H1 z (.dK (mergeK [] ((xs.zip ys).map fun p => (Sum.inr p.1, p.2)))))
theorem pe_dicZip {e e2 : PySem.Expr} {ta : TA} {p p2 q pos : Pos} (hc : X.calm = true) (hg : Gl X "dict") (hm : X.mg "dict" = none) (hg2 : Gl X "zip") (hm2 : X.mg "zip" = none) (ha : PA X [e, e2] ta)
    (na : starEach [e, e2] X.env = (false, eval e X.env) :: starEach [e2] X.env) (hpl : (backTo q (starEach [e2] X.env)).any (·.1) = false) : PE X (.Call (.Name "dict" p) [.Call (.Name "zip" p2) [e, e2] [] q] [] pos) (tDicZip X.K ta) := by
  refine ⟨fun pins s σ H Q I h => ?_⟩
  have bd : bootBuiltins "dict" = some (.type "dict") := by decide +kernel
  refine Call_ (ld_blt I hg hm bd (callWith_type1 (args_cons (Call_ (ld_blt I hg2 hm2 boot_zip (callWith_type1 (thn (ha.run q pins s σ H _ I h) fun us s1 ⟨vs, H1, I1, r1, q1⟩ => ?_) na hpl))) rfl) rfl rfl))
  obtain ⟨a, b, xs, ys, rfl, hx, hy, q1⟩ := q1
  cases r1 with
  | cons r rr =>
    cases rr with
    | cons r2 rr =>
      cases rr
      cases r
      cases r2
      obtain ⟨its, rv, tp, hz⟩ := I1.tuple hx
      obtain ⟨its2, rv2, tp2, hz2⟩ := I1.tuple hy
      have la : a < s1.heap.objs.size := let ⟨_, e, _⟩ := tp; Heap.lt_size e
      have lb : b < s1.heap.objs.size := let ⟨_, e, _⟩ := tp2; Heap.lt_size e
      refine zip_begins2 (begins_tuple a its.toArray) (begins_tuple b its2.toArray) tp tp2 fun h' oz oTI oTO o1 o2 hsz hk => args_nil ?_
      have S : ZipSep2 (s1.heap.objs.size + 4) (s1.heap.objs.size + 2) (s1.heap.objs.size + 3) s1.heap.objs.size (s1.heap.objs.size + 1) [s1.heap.objs.size, a] [s1.heap.objs.size + 1, b] :=
        zip_sep2 (fp1 := [a]) (fp2 := [b]) (fun c hc => by rw [List.mem_singleton.mp hc]; exact la) (fun c hc => by rw [List.mem_singleton.mp hc]; exact lb)
      have P := zipPairs (prog := X.prog) (w := X.w) S (Nat.ne_of_lt la) (Nat.ne_of_lt (Nat.lt_succ_of_lt lb)) its.toArray its2.toArray
      have hl1 := rv.length
      have hl2 := rv2.length
      rw [List.length_map] at hl1
      have hw : ((xs.zip its2).map fun p => ((Sum.inr p.1 : Key), p.2)).length = min its.toArray.size its2.toArray.size := by
        rw [List.length_map, List.length_zip, List.size_toArray, List.size_toArray, hl1]
      have hzz : min its.toArray.size its2.toArray.size ≤ sizeLine := by
        rw [List.size_toArray, List.size_toArray, ← hl2]
        exact Nat.le_trans (Nat.min_le_right ..) hz2
      refine PySem.call_dict_pairs (knd := mixKind X.prog X.w) (kvs := (xs.zip its2).map fun p => ((Sum.inr p.1 : Key), p.2)) P (I1.ok.hd hc) ⟨oz, oTI, ⟨_, _, oTO⟩, ⟨⟨_, o1, rfl, rfl⟩, Heap.IsTuple.at (show s1.heap.IsTuple a its.toArray from tp) fun o e => hk _ o e⟩, ⟨_, o2, rfl, rfl⟩, Heap.IsTuple.at (show s1.heap.IsTuple b its2.toArray from tp2) fun o e => hk _ o e⟩ ⟨hw, fun i key v hr => ?_⟩ hzz fun h2 tk hd k2 => ?_
      · obtain ⟨e1, e2⟩ := hr
        obtain ⟨x, t, hx', rfl⟩ := vals_str rv i key (by simpa using e1)
        have e2' : its2[i]? = some v := by simpa using e2
        refine ⟨Sum.inr x, ?_, mixKind_str _ _ _ _⟩
        have ez : (xs.zip its2)[i]? = some (x, v) := List.getElem?_zip_eq_some.mpr ⟨hx', e2'⟩
        rw [List.getElem?_map, ez]
        rfl
      · have hbig : s1.heap.objs.size ≤ h'.objs.size := by rw [hsz]; omega
        have hm0 : (h'.objs.size == sysModules) = false := beq_eq_false_iff_ne.mpr (Nat.ne_of_gt (Nat.lt_of_lt_of_le I1.big hbig))
        have rel := zipRel rv2 xs
        have hlen : (mergeK [] ((xs.zip ys).map fun p => ((Sum.inr p.1 : Key), p.2))).length ≤ sizeLine := by
          refine Nat.le_trans (length_mergeK _ []) ?_
          rw [List.length_nil, Nat.zero_add, List.length_map, List.length_zip]
          exact Nat.le_trans (Nat.min_le_right ..) hz2
        refine ⟨.ref h'.objs.size, upd H1 h'.objs.size (.dK (mergeK [] ((xs.zip ys).map fun p => (Sum.inr p.1, p.2)))), I1.laid (t' := tk) (fun c o e => k2 c o ?_ (hk c o e)) hbig ⟨hlen, hm0, _, KV.merge rel .nil, hd⟩, rfl, q1 _ (I1.hok.fresh hbig)⟩
        have hcl := Heap.lt_size e
        simp only [List.mem_cons, List.not_mem_nil, or_false, not_or]
        exact ⟨Nat.ne_of_lt (Nat.lt_of_lt_of_le hcl (Nat.le_add_right _ _)), Nat.ne_of_lt (Nat.lt_of_lt_of_le hcl (Nat.le_add_right _ _)), Nat.ne_of_lt hcl, Nat.ne_of_lt (Nat.lt_of_lt_of_le hcl (Nat.le_add_right _ _))⟩
end
end Mi
set_option Elab.async false
set_option linter.all false
set_option maxRecDepth 100000
set_option maxHeartbeats 1000000
/-! MiMain: the check of a text against its mirror, and that the mirror of an expression is what the machine does. -/
namespace Mi
open PySem PySem.Spec PyProof.Rows L2

/-! ### the check -/
structure Ck where
  N : List Str
  sc : Scope
  globs : List (Str × MV)
  fns : List Str
  meths : List (Str × Str)
  clss : List Str
  flds : List (Str × Str)
  excs : List Str
  fsc : Scope
def notStar : PySem.Expr → Bool
  | .Starred .. => false
  | _ => true
def vis (sc : Scope) (x : Str) : Bool := match sc.names.lookup x with
  | some .local => true
  | some .cell => true
  | some .free => true
  | _ => false
def glb (k : Ck) (x : Str) : Bool := (match k.sc.names.lookup x with
  | some .globalImplicit => true
  | _ => false) && !(x == "__debug__")
def nmOk (k : Ck) (i : Nat) (x : Str) : Bool := decide (k.N[i]? = some x) && (vis k.sc x && (!(x == "__debug__") && !(x == "__classdict__")))
def litOk (v : MV) (c : Const) : Bool := match v, c with
  | .int i, .int j => decide (i = j)
  | .str x, .str y => decide (x = y)
  | .bl a, .bool b => a == b
  | .non, .none => true
  | _, _ => false
def strKvs (kvs : List (Str × MV)) : Option (List (Str × Str)) := kvs.mapM fun
  | (k, .str x) => some (k, x)
  | _ => none
def eqB (a b : MV) : Bool := match a, b with
  | .int i, .int j => decide (i = j)
  | .str x, .str y => decide (x = y)
  | .nam x, .nam y => decide (x = y)
  | .tup xs, .tup ys => (match strsOf xs, strsOf ys with
    | some a, some b => decide (a = b)
    | _, _ => false)
  | .cdic xs, .cdic ys => (match strKvs xs, strKvs ys with
    | some a, some b => decide (a = b)
    | _, _ => false)
  | _, _ => false
/-- the built-ins that are asked for -/
def bltNames : List Str := ["len", "all", "any", "sum", "max", "min", "int", "str", "dict", "list", "tuple", "set", "sorted", "isinstance", "range", "enumerate", "zip", "bool"]
def call1 (k : Ck) (f : Str) (e : PySem.Expr) : Option (List PySem.Expr) := match e with
  | .Call (.Name g _) [a] [] _ => if g = f ∧ glb k f = true then some [a] else none
  | _ => none
def call2 (k : Ck) (f : Str) (e : PySem.Expr) : Option (List PySem.Expr) := match e with
  | .Call (.Name g _) [a, b] [] _ => if g = f ∧ glb k f = true then some [a, b] else none
  | _ => none
def isi (k : Ck) (t : Str) (e : PySem.Expr) : Option (List PySem.Expr) := match e with
  | .Call (.Name g _) [a, .Name h _] [] _ => if g = "isinstance" ∧ h = t ∧ glb k "isinstance" = true ∧ glb k t = true then some [a] else none
  | _ => none
def noSet : PySem.Expr → Bool
  | .Set .. => false
  | _ => true
def noSlice : PySem.Expr → Bool
  | .Slice .. => false
  | _ => true
/-- the operands of an operation, in the order in which they are asked -/
def shape (k : Ck) (o : Op) (e : PySem.Expr) : Option (List PySem.Expr) := match o with
  | .add => (match e with | .BinOp a .Add b _ => some [a, b] | _ => none)
  | .sub => (match e with | .BinOp a .Sub b _ => some [a, b] | _ => none)
  | .mul => (match e with | .BinOp a .Mult b _ => some [a, b] | _ => none)
  | .fdiv => (match e with | .BinOp a .FloorDiv b _ => some [a, b] | _ => none)
  | .mod => (match e with | .BinOp a .Mod b _ => some [a, b] | _ => none)
  | .pow => (match e with | .BinOp a .Pow b _ => some [a, b] | _ => none)
  | .eq => (match e with | .Compare a [.Eq] [b] _ => some [a, b] | _ => none)
  | .ne => (match e with | .Compare a [.NotEq] [b] _ => some [a, b] | _ => none)
  | .lt => (match e with | .Compare a [.Lt] [b] _ => some [a, b] | _ => none)
  | .le => (match e with | .Compare a [.LtE] [b] _ => some [a, b] | _ => none)
  | .gt => (match e with | .Compare a [.Gt] [b] _ => some [a, b] | _ => none)
  | .ge => (match e with | .Compare a [.GtE] [b] _ => some [a, b] | _ => none)
  | .inn => (match e with | .Compare a [.In] [b] _ => if noSet b = true then some [a, b] else none | _ => none)
  | .notin => (match e with | .Compare a [.NotIn] [b] _ => if noSet b = true then some [a, b] else none | _ => none)
  | .isN => (match e with | .Compare a [.Is] [.Constant .none _ _] _ => some [a] | _ => none)
  | .notN => (match e with | .Compare a [.IsNot] [.Constant .none _ _] _ => some [a] | _ => none)
  | .ix => (match e with | .Subscript a b _ => if noSlice b = true then some [a, b] else none | _ => none)
  | .slL => (match e with | .Subscript a (.Slice (some l) none none _) _ => some [a, l] | _ => none)
  | .slU => (match e with | .Subscript a (.Slice none (some u) none _) _ => some [a, u] | _ => none)
  | .slC i j => (match e with | .Subscript a (.Slice (some (.Constant (.int l) _ _)) (some (.Constant (.int u) _ _)) none _) _ => if l = i ∧ u = j then some [a] else none | _ => none)
  | .neg => (match e with | .UnaryOp .USub a _ => some [a] | _ => none)
  | .tup => (match e with | .Tuple es _ _ => some es | _ => none)
  | .lst _ => (match e with | .List es _ => some es | _ => none)
  | .len => call1 k "len" e
  | .all => call1 k "all" e
  | .any => call1 k "any" e
  | .sum => call1 k "sum" e
  | .max1 => call1 k "max" e
  | .max2 => call2 k "max" e
  | .min2 => call2 k "min" e
  | .int1 => call1 k "int" e
  | .dict1 _ => call1 k "dict" e
  | .list1 _ => call1 k "list" e
  | .tuple1 => call1 k "tuple" e
  | .lenset => (match e with
    | .Call (.Name f _) [.Call (.Name g _) [a] [] _] [] _ => if f = "len" ∧ g = "set" ∧ glb k "len" = true ∧ glb k "set" = true then some [a] else none
    | _ => none)
  | .dictzip => (match e with
    | .Call (.Name f _) [.Call (.Name g _) [a, b] [] _] [] _ => if f = "dict" ∧ g = "zip" ∧ glb k "dict" = true ∧ glb k "zip" = true then some [a, b] else none
    | _ => none)
  | .disp => (match e with | .Dict [] [] _ => some [] | _ => none)
  | .rev => (match e with | .Subscript a (.Slice none none (some (.UnaryOp .USub (.Constant (.int l) _ _) _)) _) _ => if l = 1 then some [a] else none | _ => none)
  | .isStr => isi k "str" e
  | .isInt => isi k "int" e
  | .isBool => isi k "bool" e
  | .isTup => isi k "tuple" e
  | .isList => isi k "list" e
  | _ => none
def meName : Me → Str
  | .append => "append" | .extend => "extend" | .popL => "pop" | .popAt => "pop" | .reverse => "reverse" | .index => "index" | .count => "count"
  | .get1 => "get" | .get2 => "get" | .pop1 => "pop" | .pop2 => "pop" | .setdefault => "setdefault" | .update => "update" | .clear => "clear"
  | .strip => "strip" | .split => "split" | .join => "join"
/-- no call without arguments (super() is one) -/
def plainBase : PySem.Expr → Bool
  | .Call (.Name _ _) [] [] _ => false
  | _ => true
def cmpOf : Op → Option CmpOp
  | .lt => some .Lt
  | .le => some .LtE
  | .gt => some .Gt
  | .ge => some .GtE
  | _ => none
def notIte : E → Bool
  | .ite .. => false
  | _ => true
def isYes : E → Bool
  | .lit (.bl true) => true
  | _ => false
def isTupE : PySem.Expr → Bool
  | .Tuple .. => true
  | _ => false
/-- what a walk asks -/
def itArgs (kk : ItK) (k : Ck) (tg it : PySem.Expr) : Option (List PySem.Expr) := match kk with
  | .seq => some [it]
  | .range1 => call1 k "range" it
  | .range3 => (match it with
    | .Call (.Name g _) [a, b, c] [] _ => if g = "range" ∧ glb k "range" = true then some [a, b, c] else none
    | _ => none)
  | .enum => if isTupE tg = true then call1 k "enumerate" it else none
  | .zip => if isTupE tg = true then call2 k "zip" it else none
  | _ => none
/-- a target's names may be stored -/
def tgC : Tg → Ck → List PySem.Expr → Bool
  | .name i, k, es => (match es with
    | [.Name x _] => decide (k.N[i]? = some x) && (match k.sc.names.lookup x with
      | some .local => true
      | some .cell => (match k.fsc.names.lookup x with
        | some .cell => true
        | _ => false)
      | _ => false)
    | _ => false)
  | .tup r, k, es => (match es with
    | [.Tuple xs _ _] => tgC r k xs
    | _ => false)
  | .nil, _, es => es.isEmpty
  | .cons a r, k, es => (match es with
    | e :: es => notStar e && (tgC a k [e] && tgC r k es)
    | [] => false)
/-- one target, several -/
def tg1 : Tg → Bool
  | .name _ => true
  | .tup _ => true
  | _ => false
def tgIn : Tg → List Nat → Bool
  | .name i, l => decide (i ∈ l)
  | .nil, _ => true
  | .cons a r, l => tg1 a && (tgIn a l && tgIn r l)
  | .tup r, l => !tg1 r && tgIn r l
/-- well formed: lists of single targets -/
def tgW : Tg → Bool
  | .name _ => true
  | .nil => true
  | .cons a r => tg1 a && (!tg1 r && (tgW a && tgW r))
  | .tup r => !tg1 r && tgW r
def ownOf (N : List Str) (own : List Nat) : List (Str × Nat) := own.map fun i => ((N[i]?).getD "", i)
def chk : E → Ck → List PySem.Expr → Bool
  | .nil, _, es => es.isEmpty
  | .cons a r, k, es => (match es with
    | e :: es => notStar e && (chk a k [e] && chk r k es)
    | [] => false)
  | .var i, k, es => (match es with
    | [.Name x _] => nmOk k i x
    | _ => false)
  | .lit v, _, es => (match es with
    | [.Constant c _ _] => litOk v c
    | _ => false)
  | .glob x v, k, es => (match es with
    | [.Name y _] => decide (y = x) && (glb k x && k.globs.any fun p => decide (p.1 = x) && eqB p.2 v)
    | _ => false)
  | .op o as, k, es => (match es with
    | [e] => (match shape k o e with
      | some xs => chk as k xs
      | none => false)
    | _ => false)
  | .me m o as, k, es => (match es with
    | [.Call (.Attribute b a ap) xs [] p] => decide (m ≠ .count) && (decide (a = meName m) && (plainBase b && (ap.endLine == p.line && (decide (xs.length < 20) && (chk o k [b] && chk as k xs)))))
    | _ => false)
  | .chain o p a b c, k, es => (match es with
    | [.Compare x [q, r] [y, z] _] => decide (cmpOf o = some q) && (decide (cmpOf p = some r) && (noSet z && (chk a k [x] && (chk b k [y] && chk c k [z]))))
    | _ => false)
  | .and a b, k, es => (match es with
    | [.BoolOp .And [x, y] _] => notIte a && (notIte b && (chk a k [x] && chk b k [y]))
    | [.BoolOp .And (x :: y :: z :: r) p] => notIte a && (chk a k [x] && chk b k [.BoolOp .And (y :: z :: r) p])
    | _ => false)
  | .or a b, k, es => (match es with
    | [.BoolOp .Or [x, y] _] => notIte a && (notIte b && (chk a k [x] && chk b k [y]))
    | [.BoolOp .Or (x :: y :: z :: r) p] => notIte a && (chk a k [x] && chk b k [.BoolOp .Or (y :: z :: r) p])
    | _ => false)
  | .not a, k, es => (match es with
    | [.UnaryOp .Not x _] => notIte a && chk a k [x]
    | _ => false)
  | .ite c a b, k, es => (match es with
    | [.IfExp x y z _] => notIte c && (chk c k [x] && (chk a k [y] && chk b k [z]))
    | _ => false)
  | .call f as, k, es => (match es with
    | [.Call (.Name g _) (x :: xs) [] _] => decide (g = f) && (glb k f && (k.fns.contains f && chk as k (x :: xs)))
    | _ => false)
  | .callv i fs as, k, es => (match es with
    | [.Call (.Name g _) (x :: xs) [] _] => nmOk k i g && ((fs.all fun f => k.fns.contains f) && chk as k (x :: xs))
    | _ => false)
  | .make c as, k, es => (match es with
    | [.Call (.Name g _) (x :: xs) [] _] => decide (g = c) && (glb k c && (k.clss.contains c && chk as k (x :: xs)))
    | _ => false)
  | .meth c m o as, k, es => (match es with
    | [.Call (.Attribute b a ap) xs [] p] => decide (a = m) && (k.meths.contains (c, m) && (plainBase b && (ap.endLine == p.line && (decide (xs.length < 20) && (chk o k [b] && chk as k xs)))))
    | _ => false)
  | .fld c o f, k, es => (match es with
    | [.Attribute b g _] => decide (g = f) && (k.flds.contains (c, f) && (plainBase b && chk o k [b]))
    | _ => false)
  | .lc _ own tg kk it cond elt, k, es => (match es with
    | [.ListComp el [⟨tgE, iter, ifs, 0⟩] scope _] => (match itArgs kk k tgE iter with
      | some xs => chk it k xs
      | none => false) && (noSet iter && (blkC k.N k.sc scope (ownOf k.N own) && (tgIn tg own && ((tg1 tg && tgW tg) && (tgC tg { k with sc := relS scope k.sc, fsc := scope } [tgE] && ((match ifs with
      | [] => isYes cond
      | [c] => notIte cond && chk cond { k with sc := relS scope k.sc, fsc := scope } [c]
      | _ => false) && chk elt { k with sc := relS scope k.sc, fsc := scope } [el]))))))
    | _ => false)

/-! ### what is known of the module -/
/-- a constant of the module -/
def GlobOk (B : Fix) (x : Str) (v : MV) : Prop := ∃ u w, B.mg x = some w ∧ RelV u w ∧ ∀ Z H A, RV (B.z Z) H A v u
/-- a def's promise: the mirror's answer -/
def spOf (B : Fix) (F : Fn) (k : FK) (np : Nat) : Sp := fun vs H Q X => vs.length = np ∧ ∃ Z A st args, SR (B.z Z) H A st ∧ RVs (B.z Z) H A args vs ∧ Post (B.z Z) A H Q (fun c H' => ∀ C, B.mg c = some (.ref C) → X (.ref C) none H') (F k args st)
structure FnAt (B : Fix) (F : Fn) (lv : Nat) (k : FK) (f : Addr) : Prop where
  ex : ∃ fd ps, Binds B.K fd ps [] ∧ FnOk B.P B.w B.K B.mg B.base (L2.CX B.P B.w) lv f fd ps (spOf B F k ps.length) ∧ ∀ args st, args.length ≠ ps.length → F k args st = .err
abbrev veL : List Value := [.type "ValueError", .type "Exception", .type "BaseException", .type "object"]
structure Facts (B : Fix) (F : Fn) (lv : Nat) (k : Ck) : Prop where
  blt : ∀ x ∈ bltNames, B.mg x = none
  glo : ∀ p ∈ k.globs, GlobOk B p.1 p.2
  fn : ∀ x ∈ k.fns, ∃ f, B.mg x = some (.ref f) ∧ PySem.W.keepIn B.K (.ref f) = true ∧ FnAt B F lv (.fn x) f
  me : ∀ p ∈ k.meths, ∃ C f, B.mg p.1 = some (.ref C) ∧ Cls B.K C ∧ Meth B.K C p.2 f ∧ FnAt B F lv (.me p.1 p.2) f
  mkc : ∀ c ∈ k.clss, ∃ C f, B.mg c = some (.ref C) ∧ Mk B.K C f ∧ FnAt B F lv (.me c "__init__") f
  fl : ∀ p ∈ k.flds, ∃ C, B.mg p.1 = some (.ref C) ∧ Cls B.K C ∧ NoAttr B.K C p.2
  exc : ∀ c ∈ k.excs, ∃ C, B.mg c = some (.ref C) ∧ PySem.W.excIn B.K C veL "ValueError.__new__" = true ∧ PySem.W.keepIn B.K (.ref C) = true ∧ PySem.W.subIn B.K (.ref C) (.type "BaseException") = some true ∧ PySem.W.typeIn B.K (.ref C) = some (.type "type")
/-- what is wanted of an exception, by its class -/
def WXo (B : Fix) (W : WS) : WX := fun cls d σ H => ∃ c C, B.mg c = some (.ref C) ∧ cls = .ref C ∧ d = none ∧ W c σ H
structure GoodX (B : Fix) (F : Fn) (lv : Nat) (k : Ck) (W : WS) (X : Cx) : Prop where
  on : On B X
  N : X.N = k.N
  nd : k.N.Nodup
  sc : X.env.scope = k.sc
  calm : X.calm = true
  room : Room (lv + 1) X.A
  tk : Takes X (WXo B W)
  fn : ∀ x, k.fsc.names.lookup x = some .cell → X.fn x = true
  fa : Facts B F lv k
section
variable {B : Fix} {F : Fn} {lv : Nat} {k : Ck} {W : WS} {X : Cx}
theorem GoodX.u64 (g : GoodX B F lv k W X) : X.A.units + 64 < cLine := g.room.units
theorem GoodX.gl (g : GoodX B F lv k W X) {x : Str} (h : glb k x = true) : Gl X x ∧ (x == ("__debug__" : Str)) = false := by
  unfold glb at h
  rw [Bool.and_eq_true] at h
  refine ⟨?_, by simpa using h.2⟩
  show X.env.scope.names.lookup x = some .globalImplicit
  rw [g.sc]
  have h1 := h.1
  split at h1
  · assumption
  · cases h1
theorem GoodX.nm (g : GoodX B F lv k W X) {i : Nat} {x : Str} (h : nmOk k i x = true) : X.N[i]? = some x ∧ Vis X.env.scope x ∧ (x == ("__debug__" : Str)) = false ∧ (x == ("__classdict__" : Str)) = false := by
  unfold nmOk at h
  simp only [Bool.and_eq_true, decide_eq_true_eq, Bool.not_eq_true'] at h
  obtain ⟨h1, h2, h3, h4⟩ := h
  refine ⟨by rw [g.N]; exact h1, ?_, h3, h4⟩
  rw [g.sc]
  unfold vis at h2
  split at h2
  · exact .inl (by assumption)
  · exact .inr (.inl (by assumption))
  · exact .inr (.inr (by assumption))
  · cases h2
theorem GoodX.blt (g : GoodX B F lv k W X) {x : Str} (h : x ∈ bltNames) : X.mg x = none := by rw [g.on.mg]; exact g.fa.blt x h
theorem star_cons {e : PySem.Expr} (h : notStar e = true) (es : List PySem.Expr) (env : PySem.Env) : starEach (e :: es) env = (false, eval e env) :: starEach es env := by
  cases e <;> first | rfl | cases h
theorem star_all {env : PySem.Env} {pos : Pos} : ∀ {es : List PySem.Expr}, (es.all notStar) = true → (backTo pos (starEach es env)).any (·.1) = false
  | [], _ => rfl
  | e :: es, h => by
    rw [List.all_cons, Bool.and_eq_true] at h
    rw [star_cons h.1]
    unfold backTo
    rw [List.map_cons, List.any_cons]
    have ih := star_all (env := env) (pos := pos) h.2
    unfold backTo at ih
    rw [ih]
    rfl
/-- each expression of a list by its mirror -/
def AllPE (B : Fix) (F : Fn) (W : WS) (X : Cx) : E → List PySem.Expr → Prop
  | .nil, es => es = []
  | .cons a r, es => ∃ e xs, es = e :: xs ∧ notStar e = true ∧ PE X e (tM B F W a) ∧ AllPE B F W X r xs
  | _, _ => False
theorem AllPE.star : ∀ {as : E} {es : List PySem.Expr}, AllPE B F W X as es → es.all notStar = true
  | .nil, _, h => by cases (show _ = [] from h); rfl
  | .cons a r, _, h => by
    obtain ⟨e, xs, rfl, h1, _, h3⟩ := h
    rw [List.all_cons, h1, AllPE.star h3]
    rfl
theorem evalE_cons (a r : E) (env : Env) (st : Store) : evalE F (.cons a r) env st = (evalE F a env st).bind fun v st => (evalE F r env st).bind (onT (consR v)) := rfl
/-- the arguments -/
theorem AllPE.pa : ∀ {as : E} {es : List PySem.Expr}, AllPE B F W X as es → PA X es (tMA B F W as)
  | .nil, _, h => by
    cases (show _ = [] from h)
    exact PAm pa_nil fun σ H Q ⟨A, env, st, sr, er, p⟩ => p [] H A .refl sr .nil
  | .cons a r, _, h => by
    obtain ⟨e, xs, rfl, h1, h2, h3⟩ := h
    refine PAm (pa_cons h2 (AllPE.pa h3) (star_cons h1 _ _)) fun σ H Q ⟨A, env, st, sr, er, p⟩ => ?_
    rw [evalE_cons] at p
    refine ⟨A, env, st, sr, er, ?_⟩
    cases q : evalE F a env st with
    | err => rw [q] at p; exact p
    | exc c st1 => rw [q] at p; exact p
    | ok v st1 =>
      rw [q] at p
      intro u H1 A1 e1 s1 r1
      refine ⟨A1, env, st1, s1, er.mono e1, ?_⟩
      have p := PostA.ext e1 p
      replace p : PostA B A1 H1 Q (fun c => W c σ) ((evalE F r env st1).bind (onT (consR v))) := p
      cases q2 : evalE F r env st1 with
      | err => rw [q2] at p; exact p
      | exc c st2 => rw [q2] at p; exact p
      | ok w st2 =>
        rw [q2] at p
        cases w <;> first | exact p | skip
        intro us H2 A2 e2 s2 r2
        exact p (u :: us) H2 A2 e2 s2 (.cons (r1.mono e2) r2)
theorem Post.noX {A : List Addr} {H : Hp} {Q : VK} {V V' : Str → Hp → Prop} {r : Res MV} (h : isX r = false) (p : Post B A H Q V r) : Post B A H Q V' r := by
  cases r with
  | ok v st => exact p
  | exc c st => cases h
  | err => exact p
/-- one operand, two operands -/
theorem rd1 {o : Op} {a : E} {σ : L2.St} {H : Hp} {Q : VK} (h : tM B F W (.op o (.cons a .nil)) σ H Q) : tM B F W a σ H fun u H1 => ∃ A st v, SR B H1 A st ∧ RV B H1 A v u ∧ Post B A H1 Q (fun _ _ => False) (runOp o [v] st) := by
  obtain ⟨A, env, st, sr, er, p⟩ := h
  have e : evalE F (.op o (.cons a .nil)) env st = (evalE F a env st).bind fun v st => runOp o [v] st := by
    simp only [evalE]
    cases evalE F a env st <;> rfl
  rw [e] at p
  exact tM_bind sr er p fun v st1 u H1 A1 e1 s1 er1 r1 p1 => ⟨A1, st1, v, s1, r1, p1.noX (nx_op _ _ _)⟩
theorem rd2 {o : Op} {a b : E} {σ : L2.St} {H : Hp} {Q : VK} (h : tM B F W (.op o (.cons a (.cons b .nil))) σ H Q) : tOp (rM2 B o) (tM B F W a) (tM B F W b) σ H Q := by
  obtain ⟨A, env, st, sr, er, p⟩ := h
  have e : evalE F (.op o (.cons a (.cons b .nil))) env st = (evalE F a env st).bind fun v st => (evalE F b env st).bind fun w st => runOp o [v, w] st := by
    simp only [evalE]
    cases evalE F a env st with
    | ok v st1 =>
      simp only [Res.bind]
      cases evalE F b env st1 <;> rfl
    | _ => rfl
  rw [e] at p
  exact tM_bind sr er p fun v st1 u H1 A1 e1 s1 er1 r1 p1 => tM_bind s1 er1 p1 fun w st2 u2 H2 A2 e2 s2 er2 r2 p2 => ⟨A2, st2, v, w, s2, r1.mono e2, r2, p2.noX (nx_op _ _ _)⟩
/-- all operands -/
theorem rdn {o : Op} {as : E} {σ : L2.St} {H : Hp} {Q : VK} (h : tM B F W (.op o as) σ H Q) : tMA B F W as σ H fun us H1 => rMn B o us H1 Q := by
  obtain ⟨A, env, st, sr, er, p⟩ := h
  have e : evalE F (.op o as) env st = (evalE F as env st).bind (onT (runOp o)) := rfl
  rw [e] at p
  refine tMA_bind sr er p (fun v st hv => ?_) fun vs st1 us H1 A1 e1 s1 er1 r1 p1 => ⟨A1, st1, vs, s1, r1, Post.noX (nx_op _ _ _) p1⟩
  cases v <;> first | rfl | exact absurd rfl (hv _)
/-- the test's reading from the value's -/
theorem tMB_of {e : E} {σ : L2.St} {H : Hp} {Q : Bool → Hp → Prop} (h : tMB B F W e σ H Q) : tM B F W e σ H fun u H1 => ∃ b, u = .bl b ∧ Q b H1 := by
  obtain ⟨A, env, st, sr, er, p⟩ := h
  refine ⟨A, env, st, sr, er, ?_⟩
  cases q : evalE F e env st with
  | err => rw [q] at p; exact p
  | exc c st1 => rw [q] at p; exact p
  | ok v st1 =>
    rw [q] at p
    cases v <;> first | exact p.elim | skip
    intro u H1 A1 e1 s1 r1
    cases r1
    exact ⟨_, rfl, p H1 A1 e1 s1⟩
end
end Mi
set_option Elab.async false
set_option linter.all false
set_option maxRecDepth 100000
set_option maxHeartbeats 1000000
/-! MiSnd: the mirror of an operation is what the machine does. -/
namespace Mi
open PySem PySem.Spec PyProof.Rows L2
section
variable {B : Fix} {F : Fn} {lv : Nat} {k : Ck} {W : WS} {X : Cx}
/-- an expression and its mirror -/
structure Snd (B : Fix) (F : Fn) (W : WS) (X : Cx) (pe : PySem.Expr) (e : E) : Prop where
  ex : PE X pe (tM B F W e)
  pt : (∀ c a b, e ≠ .ite c a b) → PT X pe (tMB B F W e)
  pw : ∀ op vs p, pe = .BoolOp op vs p → PW X pe (tMB B F W e)
/-- no test of its own form -/
def plainT : PySem.Expr → Bool
  | .UnaryOp .Not _ _ => false
  | .BoolOp .. => false
  | .IfExp .. => false
  | .Compare .. => false
  | _ => true
theorem Snd.of {pe : PySem.Expr} {e : E} (h : PE X pe (tM B F W e)) (hp : plainT pe = true) : Snd B F W X pe e := by
  refine ⟨h, fun _ => ?_, fun op vs p q => by subst q; cases hp⟩
  refine PTm (pt_val h fun whole => ?_) fun σ H Q q => tMB_of q
  cases pe <;> first | rfl | (cases hp; done) | skip
  rename_i op x p
  cases op <;> first | rfl | cases hp
theorem two {as : E} {x y : PySem.Expr} (h : AllPE B F W X as [x, y]) : ∃ a b, as = .cons a (.cons b .nil) ∧ PE X x (tM B F W a) ∧ PE X y (tM B F W b) := by
  cases as <;> first | exact False.elim h | (cases (show _ = [] from h); done) | skip
  obtain ⟨e, xs, q, hst, h1, h2⟩ := h
  cases q
  rename_i a r
  cases r <;> first | exact False.elim h2 | (cases (show _ = [] from h2); done) | skip
  obtain ⟨e, xs, q, hst2, h3, h4⟩ := h2
  cases q
  rename_i b r
  cases r <;> first | exact False.elim h4 | skip
  · exact ⟨a, b, rfl, h1, h3⟩
  · obtain ⟨_, _, q, _⟩ := h4
    cases q
theorem one {as : E} {x : PySem.Expr} (h : AllPE B F W X as [x]) : ∃ a, as = .cons a .nil ∧ notStar x = true ∧ PE X x (tM B F W a) := by
  cases as <;> first | exact False.elim h | (cases (show _ = [] from h); done) | skip
  obtain ⟨e, xs, q, hs, h1, h2⟩ := h
  cases q
  rename_i a r
  cases r <;> first | exact False.elim h2 | skip
  · exact ⟨a, rfl, hs, h1⟩
  · obtain ⟨_, _, q, _⟩ := h2
    cases q
theorem three {as : E} {x y z : PySem.Expr} (h : AllPE B F W X as [x, y, z]) : ∃ a b c, as = .cons a (.cons b (.cons c .nil)) ∧ PE X x (tM B F W a) ∧ PE X y (tM B F W b) ∧ PE X z (tM B F W c) := by
  cases as <;> first | exact False.elim h | (cases (show _ = [] from h); done) | skip
  obtain ⟨e, xs, q, hst, h1, h2⟩ := h
  cases q
  rename_i a r
  obtain ⟨b, c, e, h3, h4⟩ := two h2
  exact ⟨a, b, c, by rw [e], h1, h3, h4⟩
/-- a binary operator -/
theorem snd_bin {o : Op} {op : Operator} {as : E} {a b : PySem.Expr} {p : Pos} (ho : OpR X (binaryOp op) (rM2 B o)) (h : AllPE B F W X as [a, b]) : Snd B F W X (.BinOp a op b p) (.op o as) := by
  obtain ⟨a', b', rfl, h1, h2⟩ := two h
  exact .of (PEm (pe_op ho h1 h2) fun σ H Q q => rd2 q) rfl
theorem notStar_of {as : E} {x y : PySem.Expr} (h : AllPE B F W X as [x, y]) : notStar x = true ∧ notStar y = true := by
  have q := h.star
  simp only [List.all_cons, List.all_nil, Bool.and_true, Bool.and_eq_true] at q
  exact q
/-- a comparison -/
theorem snd_cmp {o : Op} {op : CmpOp} {as : E} {a b : PySem.Expr} {p : Pos} (ho : OpR X (compareOp op) (rM2 B o)) (h : AllPE B F W X as [a, b]) (hm : behindInMarks op b = false) : Snd B F W X (.Compare a [op] [b] p) (.op o as) := by
  obtain ⟨a', b', rfl, h1, h2⟩ := two h
  refine ⟨PEm (pe_cmpR ho h1 h2 hm) fun σ H Q q => rd2 q, fun _ => PTm (pt_cmpR ho h1 h2 hm) fun σ H Q q => rd2 (tMB_of q), fun _ _ _ q => by cases q⟩
theorem noSet_marks {op : CmpOp} {b : PySem.Expr} (h : noSet b = true) : behindInMarks op b = false := by
  cases b <;> first | rfl | cases h
/-- a call of a built-in, one argument -/
theorem call1_of {f : Str} {e : PySem.Expr} {xs : List PySem.Expr} (h : call1 k f e = some xs) : ∃ p a q, e = .Call (.Name f p) [a] [] q ∧ xs = [a] ∧ glb k f = true := by
  unfold call1 at h
  split at h
  · split at h
    · rename_i hc
      cases h
      rw [hc.1]
      exact ⟨_, _, _, rfl, rfl, hc.2⟩
    · cases h
  · cases h
theorem call2_of {f : Str} {e : PySem.Expr} {xs : List PySem.Expr} (h : call2 k f e = some xs) : ∃ p a b q, e = .Call (.Name f p) [a, b] [] q ∧ xs = [a, b] ∧ glb k f = true := by
  unfold call2 at h
  split at h
  · split at h
    · rename_i hc
      cases h
      rw [hc.1]
      exact ⟨_, _, _, _, rfl, rfl, hc.2⟩
    · cases h
  · cases h
theorem isi_of {t : Str} {e : PySem.Expr} {xs : List PySem.Expr} (h : isi k t e = some xs) : ∃ p a r q, e = .Call (.Name "isinstance" p) [a, .Name t r] [] q ∧ xs = [a] ∧ glb k "isinstance" = true ∧ glb k t = true := by
  unfold isi at h
  split at h
  · split at h
    · rename_i hc
      cases h
      rw [hc.1, hc.2.1]
      exact ⟨_, _, _, _, rfl, rfl, hc.2.2⟩
    · cases h
  · cases h
theorem len_tMA {as : E} {es : List PySem.Expr} : ∀ {as : E} {es : List PySem.Expr}, AllPE B F W X as es → ∀ {env : Env} {st st' : Store} {vs : List MV}, evalE F as env st = .ok (.tup vs) st' → vs.length = es.length := by
  intro as
  induction as with
  | nil =>
    intro es h env st st' vs q
    cases (show _ = [] from h)
    cases q
    rfl
  | cons a r iha ihr =>
    intro es h env st st' vs q
    obtain ⟨e, xs, rfl, _, _, h3⟩ := h
    rw [evalE_cons] at q
    cases q1 : evalE F a env st with
    | ok v st1 =>
      rw [q1] at q
      replace q : ((evalE F r env st1).bind (onT (consR v))) = .ok (.tup vs) st' := q
      cases q2 : evalE F r env st1 with
      | ok w st2 =>
        rw [q2] at q
        cases w <;> first | (cases q; done) | skip
        cases q
        rw [List.length_cons, List.length_cons, ihr h3 q2]
      | exc c st2 => rw [q2] at q; cases q
      | err => rw [q2] at q; cases q
    | exc c st1 => rw [q1] at q; cases q
    | err => rw [q1] at q; cases q
  | _ => intro es h; exact False.elim h
/-- arguments with their number -/
theorem tMA_len {as : E} {es : List PySem.Expr} (h : AllPE B F W X as es) {σ : L2.St} {H : Hp} {Q : List V → Hp → Prop} (q : tMA B F W as σ H fun us H1 => Q us H1) : tMA B F W as σ H fun us H1 => us.length = es.length ∧ Q us H1 := by
  obtain ⟨A, env, st, sr, er, p⟩ := q
  refine ⟨A, env, st, sr, er, ?_⟩
  cases e : evalE F as env st with
  | err => rw [e] at p; exact p
  | exc c st1 => rw [e] at p; exact p
  | ok v st1 =>
    rw [e] at p
    cases v <;> first | exact p | skip
    intro us H1 A1 e1 s1 r1
    exact ⟨by rw [← r1.length, len_tMA (as := as) (es := es) h e], p us H1 A1 e1 s1 r1⟩
theorem bnames {x : Str} {l : List Str} (h : x ∈ bltNames) : x ∈ bltNames := h
/-- f(a), f a built-in function or type -/
theorem snd_callB {o : Op} {f : Str} {id : String} {as : E} {x : PySem.Expr} {xs : List PySem.Expr} {p q : Pos} (g : GoodX B F lv k W X) (hf : glb k f = true) (hb : f ∈ bltNames) (hv : bootBuiltins f = some (.builtin id)) (hn : f ≠ "__name__")
    (ho : CallR X (.builtin id) (fun us H Q => us.length = (x :: xs).length ∧ rMn B o us H Q)) (h : AllPE B F W X as (x :: xs)) : Snd B F W X (.Call (.Name f p) (x :: xs) [] q) (.op o as) := by
  have hs := h.star
  rw [List.all_cons, Bool.and_eq_true] at hs
  refine .of (PEm (pe_callB ho (g.gl hf).1 (g.blt hb) hv h.pa hn (g.gl hf).2 (star_cons hs.1 _ _) (star_all hs.2)) fun σ H Q z => ?_) rfl
  exact tMA_len h (rdn z)
theorem snd_callT {o : Op} {f : Str} {T : String} {as : E} {x : PySem.Expr} {xs : List PySem.Expr} {p q : Pos} (g : GoodX B F lv k W X) (hf : glb k f = true) (hb : f ∈ bltNames) (hv : bootBuiltins f = some (.type T)) (hn : f ≠ "__name__")
    (ho : CallR X (.type T) (fun us H Q => us.length = (x :: xs).length ∧ rMn B o us H Q)) (h : AllPE B F W X as (x :: xs)) : Snd B F W X (.Call (.Name f p) (x :: xs) [] q) (.op o as) := by
  have hs := h.star
  rw [List.all_cons, Bool.and_eq_true] at hs
  refine .of (PEm (pe_callTy ho (g.gl hf).1 (g.blt hb) hv h.pa hn (g.gl hf).2 (star_cons hs.1 _ _) (star_all hs.2)) fun σ H Q z => ?_) rfl
  exact tMA_len h (rdn z)
theorem callR_imp {f : Value} {r r' : List V → Hp → VK → Prop} (h : CallR X f r) (m : ∀ us H Q, r' us H Q → r us H Q) : CallR X f r' := fun pins s σ H us ws Q I rs q => h pins s σ H us ws Q I rs (m _ _ _ q)
/-- isinstance -/
theorem snd_is {o : Op} {t : Str} {as : E} {a : PySem.Expr} {p r q : Pos} (g : GoodX B F lv k W X) (ho : isTy o = true) (hn : t = tyName o) (h1 : glb k "isinstance" = true) (h2 : glb k t = true) (hb : t ∈ bltNames) (hv : bootBuiltins t = some (.type (tyName o))) (ht : t ≠ "__name__")
    (h : AllPE B F W X as [a]) : Snd B F W X (.Call (.Name "isinstance" p) [a, .Name t r] [] q) (.op o as) := by
  obtain ⟨a', rfl, hs, ha⟩ := one h
  have pt : PE X (.Name t r) (tC (.ty (tyName o))) := pe_bltn (g.gl h2).1 (g.blt hb) hv rfl ht (g.gl h2).2
  have pa : PA X [a, .Name t r] (tCons (tM B F W a') (tCons (tC (.ty (tyName o))) tNil)) := pa_cons ha (pa_cons pt pa_nil (star_cons rfl _ _)) (star_cons hs _ _)
  refine .of (PEm (pe_callB (callr_is g.on ho) (g.gl h1).1 (g.blt (by decide)) (by decide +kernel) pa (by decide) (g.gl h1).2 (star_cons hs _ _) (star_all rfl)) fun σ H Q z => ?_) rfl
  have z := rd1 z
  obtain ⟨A, env, st, sr, er, pp⟩ := z
  refine ⟨A, env, st, sr, er, ?_⟩
  cases e : evalE F a' env st with
  | err => rw [e] at pp; exact pp
  | exc c st1 => rw [e] at pp; exact pp
  | ok v st1 =>
    rw [e] at pp
    intro u H1 A1 e1 s1 r1
    obtain ⟨A2, st2, v2, s2, r2, p2⟩ := pp u H1 A1 e1 s1 r1
    exact ⟨u, rfl, A2, st2, [v2], s2, .cons r2 .nil, p2⟩

/-- a[..] is plain -/
theorem plain_ix {b : PySem.Expr} (h : noSet b = true) (hs : (match b with | .Slice .. => false | _ => true) = true) : PlainIx b := by
  intro o i
  cases b <;> first | rfl | cases hs
theorem PEn {e : PySem.Expr} {a : E} (h : PE X e (tM B F W a)) : PO X (some e) (tPart (tM B F W a)) := po_some h
theorem rd_slL {a l : E} {σ : L2.St} {H : Hp} {Q : VK} (h : tM B F W (.op .slL (.cons a (.cons l .nil))) σ H Q) : tSl (rMs B) (tM B F W a) (tPart (tM B F W l)) tNoPart σ H Q := by
  have z := rd2 h
  obtain ⟨A, env, st, sr, er, p⟩ := z
  refine ⟨A, env, st, sr, er, ?_⟩
  cases e : evalE F a env st with
  | err => rw [e] at p; exact p
  | exc c st1 => rw [e] at p; exact p
  | ok v st1 =>
    rw [e] at p
    intro u H1 A1 e1 s1 r1
    obtain ⟨A2, env2, st2, sr2, er2, p2⟩ := p u H1 A1 e1 s1 r1
    refine ⟨A2, env2, st2, sr2, er2, ?_⟩
    cases e' : evalE F l env2 st2 with
    | err => rw [e'] at p2; exact p2
    | exc c st3 => rw [e'] at p2; exact p2
    | ok w st3 =>
      rw [e'] at p2
      intro u2 H2 A3 e2 s2 r2
      obtain ⟨A4, st4, v1, v2, s4, q1, q2, pp⟩ := p2 u2 H2 A3 e2 s2 r2
      cases v2 <;> first | exact pp.elim | skip
      cases q2
      exact ⟨_, rfl, A4, st4, v1, s4, q1, pp⟩
theorem rd_slU {a l : E} {σ : L2.St} {H : Hp} {Q : VK} (h : tM B F W (.op .slU (.cons a (.cons l .nil))) σ H Q) : tSl (rMs B) (tM B F W a) tNoPart (tPart (tM B F W l)) σ H Q := by
  have z := rd2 h
  obtain ⟨A, env, st, sr, er, p⟩ := z
  refine ⟨A, env, st, sr, er, ?_⟩
  cases e : evalE F a env st with
  | err => rw [e] at p; exact p
  | exc c st1 => rw [e] at p; exact p
  | ok v st1 =>
    rw [e] at p
    intro u H1 A1 e1 s1 r1
    obtain ⟨A2, env2, st2, sr2, er2, p2⟩ := p u H1 A1 e1 s1 r1
    show tM B F W l σ H1 _
    refine ⟨A2, env2, st2, sr2, er2, ?_⟩
    cases e' : evalE F l env2 st2 with
    | err => rw [e'] at p2; exact p2
    | exc c st3 => rw [e'] at p2; exact p2
    | ok w st3 =>
      rw [e'] at p2
      intro u2 H2 A3 e2 s2 r2
      obtain ⟨A4, st4, v1, v2, s4, q1, q2, pp⟩ := p2 u2 H2 A3 e2 s2 r2
      cases v2 <;> first | exact pp.elim | skip
      cases q2
      exact ⟨_, rfl, A4, st4, v1, s4, q1, pp⟩
theorem rd_slC {a : E} {i j : Int} {σ : L2.St} {H : Hp} {Q : VK} (h : tM B F W (.op (.slC i j) (.cons a .nil)) σ H Q) : tSl (rMs B) (tM B F W a) (tPart (tC (.int i))) (tPart (tC (.int j))) σ H Q := by
  have z := rd1 h
  obtain ⟨A, env, st, sr, er, p⟩ := z
  refine ⟨A, env, st, sr, er, ?_⟩
  cases e : evalE F a env st with
  | err => rw [e] at p; exact p
  | exc c st1 => rw [e] at p; exact p
  | ok v st1 =>
    rw [e] at p
    intro u H1 A1 e1 s1 r1
    obtain ⟨A2, st2, v2, s2, r2, pp⟩ := p u H1 A1 e1 s1 r1
    exact ⟨_, rfl, _, rfl, A2, st2, v2, s2, r2, pp⟩
theorem strsOf_inj : ∀ {xs : List MV} {ss : List Str}, strsOf xs = some ss → xs = ss.map MV.str
  | [], ss, h => by
    cases h
    rfl
  | x :: xs, ss, h => by
    unfold strsOf at h
    rw [List.mapM_cons] at h
    cases x <;> first | (cases h; done) | skip
    rename_i a
    simp only [Option.bind_eq_bind, Option.bind_some, Option.pure_def] at h
    replace h : ((strsOf xs).bind fun r => some (a :: r)) = some ss := h
    cases e : strsOf xs with
    | none => rw [e] at h; cases h
    | some r =>
      rw [e] at h
      cases h
      rw [List.map_cons, ← strsOf_inj (xs := xs) (ss := r) e]
theorem rvs_strs {H : Hp} {A : List Addr} : ∀ {ss : List Str} {vs : List V}, RVs B H A (ss.map MV.str) vs → vs = ss.map V.str
  | [], _, .nil => rfl
  | s :: ss, _, .cons r t => by
    cases r
    rw [List.map_cons, ← rvs_strs t]
theorem rks_zip {H : Hp} {A : List Addr} : ∀ {ys : List MV} {us : List V}, RVs B H A ys us → ∀ ks : List Str, RKs B H A (ks.zip ys) ((ks.zip us).map fun p => (Sum.inr p.1, p.2))
  | _, _, .nil, ks => by cases ks <;> exact .nil
  | _, _, .cons r t, [] => .nil
  | _, _, .cons r t, k :: ks => .cons r (rks_zip t ks)
theorem rd_lenset (on : On B X) {us : List V} {H : Hp} {Q : VK} (h : rMn B .lenset us H Q) : ∃ l, ∃ xs : List Str, us = [.ref l] ∧ SqT X.K H l (xs.map V.str) ∧ xs.length ≤ 1000 ∧ Q (.int (nub xs : Nat)) H := by
  obtain ⟨A, st, vs, sr, rv, p⟩ := h
  cases rv with
  | nil => exact p.elim
  | cons r rr =>
    cases r <;> first | exact p.elim | skip
    rename_i pa vs' xs t rs hl
    cases rr with
    | cons _ _ => exact p.elim
    | nil =>
      simp only [runOp] at p
      cases hs : strsOf xs with
      | none => rw [hs] at p; exact p.elim
      | some ss =>
        rw [hs] at p
        replace p : Post B A H Q (fun _ _ => False) (if ss.length ≤ 1000 then .ok (.int ss.eraseDups.length) st else .err) := p
        split at p
        · rename_i hle
          have e := strsOf_inj hs
          subst e
          have e2 := rvs_strs rs
          subst e2
          exact ⟨pa, ss, rfl, by rw [on.K]; exact t.sq, hle, p.int sr⟩
        · exact p.elim
theorem rd_dictzip (on : On B X) {us : List V} {H : Hp} {Q : VK} (h : rMn B .dictzip us H Q) : ∃ (a b : Addr) (xs : List Str) (ys : List V), us = [.ref a, .ref b] ∧ SqT X.K H a (xs.map V.str) ∧ SqT X.K H b ys ∧
    ∀ z, H z = none → Q (.ref z) (upd H z (.dK (mergeK [] ((xs.zip ys).map fun p => (Sum.inr p.1, p.2))))) := by
  obtain ⟨A, st, vs, sr, rv, p⟩ := h
  cases rv with
  | nil => exact p.elim
  | cons r rr =>
    cases r <;> first | exact p.elim | skip
    rename_i pa vs' xs t rs hl
    cases rr with
    | nil => exact p.elim
    | cons r2 rr =>
      cases r2 <;> first | exact p.elim | skip
      rename_i pb vs2 ys t2 rs2 hl2
      cases rr with
      | cons _ _ => exact p.elim
      | nil =>
        simp only [runOp] at p
        cases hs : strsOf xs with
        | none => rw [hs] at p; exact p.elim
        | some ks =>
          rw [hs] at p
          have e := strsOf_inj hs
          subst e
          have e2 := rvs_strs rs
          subst e2
          refine ⟨pa, pb, ks, vs2, rfl, by rw [on.K]; exact t.sq, by rw [on.K]; exact t2.sq, fun z hz => p.newDic sr ((rks_zip rs2 ks).merge .nil) ?_ hz⟩
          have h5 := dmerge_length (ks.zip ys) ([] : List (Str × MV))
          rw [List.length_nil, List.length_zip] at h5
          omega
theorem bbool : bootBuiltins "bool" = some (.type "bool") := by decide +kernel
theorem rvs_rev {H : Hp} {A : List Addr} : ∀ {xs : List MV} {us : List V}, RVs B H A xs us → RVs B H A xs.reverse us.reverse
  | _, _, .nil => .nil
  | _, _, .cons r t => by
    rw [List.reverse_cons, List.reverse_cons]
    exact (rvs_rev t).append (.cons r .nil)
/-- an operation and its operands -/
theorem snd_op {o : Op} {as : E} {e : PySem.Expr} {es : List PySem.Expr} (g : GoodX B F lv k W X) (hsh : shape k o e = some es) (h : AllPE B F W X as es) : Snd B F W X e (.op o as) := by
  have hu := g.u64
  cases o with
  | add => simp only [shape] at hsh; split at hsh <;> first | (cases hsh; exact snd_bin (opr_add g.on) h) | cases hsh
  | sub => simp only [shape] at hsh; split at hsh <;> first | (cases hsh; exact snd_bin opr_sub h) | cases hsh
  | mul => simp only [shape] at hsh; split at hsh <;> first | (cases hsh; exact snd_bin (opr_mul g.on) h) | cases hsh
  | fdiv => simp only [shape] at hsh; split at hsh <;> first | (cases hsh; exact snd_bin opr_fdiv h) | cases hsh
  | mod => simp only [shape] at hsh; split at hsh <;> first | (cases hsh; exact snd_bin opr_mod h) | cases hsh
  | pow => simp only [shape] at hsh; split at hsh <;> first | (cases hsh; exact snd_bin opr_pow h) | cases hsh
  | eq => simp only [shape] at hsh; split at hsh <;> first | (cases hsh; exact snd_cmp (opr_eq g.on hu) h (nomark _)) | cases hsh
  | ne => simp only [shape] at hsh; split at hsh <;> first | (cases hsh; exact snd_cmp (opr_ne g.on hu) h (nomark _)) | cases hsh
  | lt => simp only [shape] at hsh; split at hsh <;> first | (cases hsh; exact snd_cmp opr_lt h (nomark _)) | cases hsh
  | le => simp only [shape] at hsh; split at hsh <;> first | (cases hsh; exact snd_cmp opr_le h (nomark _)) | cases hsh
  | gt => simp only [shape] at hsh; split at hsh <;> first | (cases hsh; exact snd_cmp opr_gt h (nomark _)) | cases hsh
  | ge => simp only [shape] at hsh; split at hsh <;> first | (cases hsh; exact snd_cmp opr_ge h (nomark _)) | cases hsh
  | inn =>
    simp only [shape] at hsh
    split at hsh
    · rename_i a b p
      split at hsh
      · rename_i hs
        cases hsh
        exact snd_cmp (opr_in g.on hu) h (noSet_marks hs)
      · cases hsh
    · cases hsh
  | notin =>
    simp only [shape] at hsh
    split at hsh
    · rename_i a b p
      split at hsh
      · rename_i hs
        cases hsh
        exact snd_cmp (opr_notin g.on hu) h (noSet_marks hs)
      · cases hsh
    · cases hsh
  | isN =>
    simp only [shape] at hsh
    split at hsh
    · cases hsh
      obtain ⟨a', rfl, hs, ha⟩ := one h
      have key : ∀ {σ : L2.St} {H : Hp} {Q : VK}, tM B F W (.op .isN (.cons a' .nil)) σ H Q → tOp (fun x y H Q => y = .non ∧ Q (.bl (decide (x = .non))) H) (tM B F W a') (tC .non) σ H Q := fun {σ H Q} q => by
        obtain ⟨A, env, st, sr, er, p⟩ := rd1 q
        refine ⟨A, env, st, sr, er, ?_⟩
        cases e : evalE F a' env st with
        | err => rw [e] at p; exact p
        | exc c st1 => rw [e] at p; exact p
        | ok v st1 =>
          rw [e] at p
          intro u H1 A1 e1 s1 r1
          obtain ⟨A2, st2, v2, s2, r2, pp⟩ := p u H1 A1 e1 s1 r1
          refine ⟨rfl, ?_⟩
          have pb := Post.bool pp s2
          cases r2 <;> exact pb
      exact ⟨PEm (pe_cmpR op_isN ha pe_non (nomark _)) fun σ H Q q => key q, fun _ => PTm (pt_cmpR op_isN ha pe_non (nomark _)) fun σ H Q q => key (tMB_of q), fun _ _ _ q => by cases q⟩
    · cases hsh
  | notN =>
    simp only [shape] at hsh
    split at hsh
    · cases hsh
      obtain ⟨a', rfl, hs, ha⟩ := one h
      have key : ∀ {σ : L2.St} {H : Hp} {Q : VK}, tM B F W (.op .notN (.cons a' .nil)) σ H Q → tOp (fun x y H Q => y = .non ∧ Q (.bl (!decide (x = .non))) H) (tM B F W a') (tC .non) σ H Q := fun {σ H Q} q => by
        obtain ⟨A, env, st, sr, er, p⟩ := rd1 q
        refine ⟨A, env, st, sr, er, ?_⟩
        cases e : evalE F a' env st with
        | err => rw [e] at p; exact p
        | exc c st1 => rw [e] at p; exact p
        | ok v st1 =>
          rw [e] at p
          intro u H1 A1 e1 s1 r1
          obtain ⟨A2, st2, v2, s2, r2, pp⟩ := p u H1 A1 e1 s1 r1
          refine ⟨rfl, ?_⟩
          have pb := Post.bool pp s2
          cases r2 <;> exact pb
      exact ⟨PEm (pe_cmpR op_notN ha pe_non (nomark _)) fun σ H Q q => key q, fun _ => PTm (pt_cmpR op_notN ha pe_non (nomark _)) fun σ H Q q => key (tMB_of q), fun _ _ _ q => by cases q⟩
    · cases hsh
  | ix =>
    simp only [shape] at hsh
    split at hsh
    · rename_i a b p
      split at hsh
      · rename_i hs
        cases hsh
        obtain ⟨a', b', rfl, h1, h2⟩ := two h
        refine .of (PEm (pe_ix (ixr_ix g.on hu) h1 h2 fun o i => ?_) fun σ H Q q => rd2 q) rfl
        cases b <;> first | rfl | cases hs
      · cases hsh
    · cases hsh
  | slL =>
    simp only [shape] at hsh
    split at hsh
    · cases hsh
      obtain ⟨a', b', rfl, h1, h2⟩ := two h
      exact .of (PEm (pe_slice (slr_sl g.on) h1 (po_some h2) po_none) fun σ H Q q => rd_slL q) rfl
    · cases hsh
  | slU =>
    simp only [shape] at hsh
    split at hsh
    · cases hsh
      obtain ⟨a', b', rfl, h1, h2⟩ := two h
      exact .of (PEm (pe_slice (slr_sl g.on) h1 po_none (po_some h2)) fun σ H Q q => rd_slU q) rfl
    · cases hsh
  | slC i j =>
    simp only [shape] at hsh
    split at hsh
    · split at hsh
      · rename_i hij
        cases hsh
        obtain ⟨a', rfl, hs, ha⟩ := one h
        rw [hij.1, hij.2]
        exact .of (PEm (pe_slice (slr_sl g.on) ha (po_some pe_int) (po_some pe_int)) fun σ H Q q => rd_slC q) rfl
      · cases hsh
    · cases hsh
  | rev =>
    simp only [shape] at hsh
    split at hsh
    · split at hsh
      · rename_i hl
        cases hsh
        subst hl
        obtain ⟨a', rfl, hs, ha⟩ := one h
        refine .of (PEm (pe_rev ha) fun σ H Q q => ?_) rfl
        obtain ⟨A, env, st, sr, er, p⟩ := rd1 q
        refine ⟨A, env, st, sr, er, ?_⟩
        cases e : evalE F a' env st with
        | err => rw [e] at p; exact p
        | exc c st1 => rw [e] at p; exact p
        | ok v st1 =>
          rw [e] at p
          intro u H1 A1 e1 s1 r1
          obtain ⟨A2, st2, v2, s2, r2, pp⟩ := p u H1 A1 e1 s1 r1
          cases r2 <;> first | exact pp.elim | skip
          rename_i pa vs' xs t rs hl2
          exact ⟨_, _, rfl, by rw [g.on.K]; exact t.sq, fun z hz => Post.tup pp s2 (rvs_rev rs) (by rw [List.length_reverse]; exact hl2) hz⟩
      · cases hsh
    · cases hsh
  | neg =>
    simp only [shape] at hsh
    split at hsh
    · cases hsh
      obtain ⟨a', rfl, hs, ha⟩ := one h
      refine .of (PEm (pe_un un_neg ha) fun σ H Q q => ?_) rfl
      obtain ⟨A, env, st, sr, er, p⟩ := rd1 q
      refine ⟨A, env, st, sr, er, ?_⟩
      cases e : evalE F a' env st with
      | err => rw [e] at p; exact p
      | exc c st1 => rw [e] at p; exact p
      | ok v st1 =>
        rw [e] at p
        intro u H1 A1 e1 s1 r1
        obtain ⟨A2, st2, v2, s2, r2, pp⟩ := p u H1 A1 e1 s1 r1
        cases v2 <;> first | exact pp.elim | skip
        cases r2
        exact ⟨_, rfl, pp.int s2⟩
    · cases hsh
  | tup =>
    simp only [shape] at hsh
    split at hsh
    · cases hsh
      refine .of (PEm (pe_tup h.pa) fun σ H Q q => ?_) rfl
      obtain ⟨A, env, st, sr, er, p⟩ := rdn q
      refine ⟨A, env, st, sr, er, ?_⟩
      cases e : evalE F as env st with
      | err => rw [e] at p; exact p
      | exc c st1 => rw [e] at p; exact p
      | ok v st1 =>
        rw [e] at p
        cases v <;> first | exact p | skip
        intro us H1 A1 e1 s1 r1
        obtain ⟨A2, st2, vs, s2, r2, pp⟩ := p us H1 A1 e1 s1 r1
        simp only [runOp] at pp
        split at pp
        · rename_i hl
          exact ⟨by rw [lim_eq, ← r2.length]; exact hl, fun z hz => pp.tup s2 r2 hl hz⟩
        · exact pp.elim
    · cases hsh
  | lst pu =>
    simp only [shape] at hsh
    split at hsh
    · cases hsh
      refine .of (PEm (pe_lst h.pa) fun σ H Q q => ?_) rfl
      obtain ⟨A, env, st, sr, er, p⟩ := rdn q
      refine ⟨A, env, st, sr, er, ?_⟩
      cases e : evalE F as env st with
      | err => rw [e] at p; exact p
      | exc c st1 => rw [e] at p; exact p
      | ok v st1 =>
        rw [e] at p
        cases v <;> first | exact p | skip
        intro us H1 A1 e1 s1 r1
        obtain ⟨A2, st2, vs, s2, r2, pp⟩ := p us H1 A1 e1 s1 r1
        simp only [runOp] at pp
        split at pp
        · rename_i hl
          exact ⟨by rw [lim_eq, ← r2.length]; exact hl, fun z hz => pp.newL s2 r2 hl hz⟩
        · exact pp.elim
    · cases hsh
  | len =>
    obtain ⟨p, a, q, rfl, rfl, hg⟩ := call1_of hsh
    exact snd_callB g hg (by decide) boot_len (by decide) (cr_len g.on) h
  | all =>
    obtain ⟨p, a, q, rfl, rfl, hg⟩ := call1_of hsh
    exact snd_callB g hg (by decide) (by decide +kernel) (by decide) (callr_all g.calm) h
  | any =>
    obtain ⟨p, a, q, rfl, rfl, hg⟩ := call1_of hsh
    exact snd_callB g hg (by decide) (by decide +kernel) (by decide) (callr_any g.calm) h
  | sum =>
    obtain ⟨p, a, q, rfl, rfl, hg⟩ := call1_of hsh
    exact snd_callB g hg (by decide) (by decide +kernel) (by decide) (callr_sum g.calm) h
  | max1 =>
    obtain ⟨p, a, q, rfl, rfl, hg⟩ := call1_of hsh
    exact snd_callB g hg (by decide) (by decide +kernel) (by decide) (callR_imp (callr_max g.calm) fun us H Q z => .inl z) h
  | max2 =>
    obtain ⟨p, a, b, q, rfl, rfl, hg⟩ := call2_of hsh
    exact snd_callB g hg (by decide) (by decide +kernel) (by decide) (callR_imp (callr_max g.calm) fun us H Q z => .inr z) h
  | min2 =>
    obtain ⟨p, a, b, q, rfl, rfl, hg⟩ := call2_of hsh
    exact snd_callB g hg (by decide) (by decide +kernel) (by decide) (callr_min g.calm) h
  | int1 =>
    obtain ⟨p, a, q, rfl, rfl, hg⟩ := call1_of hsh
    exact snd_callT g hg (by decide) boot_int (by decide) callr_int h
  | dict1 pu =>
    obtain ⟨p, a, q, rfl, rfl, hg⟩ := call1_of hsh
    exact snd_callT g hg (by decide) (by decide +kernel) (by decide) (callr_dict g.on g.calm) h
  | list1 pu =>
    obtain ⟨p, a, q, rfl, rfl, hg⟩ := call1_of hsh
    exact snd_callT g hg (by decide) (by decide +kernel) (by decide) (callr_list g.on g.calm) h
  | tuple1 =>
    obtain ⟨p, a, q, rfl, rfl, hg⟩ := call1_of hsh
    exact snd_callT g hg (by decide) (by decide +kernel) (by decide) (callr_tuple g.on) h
  | isStr =>
    obtain ⟨p, a, r, q, rfl, rfl, h1, h2⟩ := isi_of hsh
    exact snd_is g rfl rfl h1 h2 (by decide) (by decide +kernel) (by decide) h
  | isInt =>
    obtain ⟨p, a, r, q, rfl, rfl, h1, h2⟩ := isi_of hsh
    exact snd_is g rfl rfl h1 h2 (by decide) boot_int (by decide) h
  | isBool =>
    obtain ⟨p, a, r, q, rfl, rfl, h1, h2⟩ := isi_of hsh
    exact snd_is g rfl rfl h1 h2 (by decide) (by decide +kernel) (by decide) h
  | isTup =>
    obtain ⟨p, a, r, q, rfl, rfl, h1, h2⟩ := isi_of hsh
    exact snd_is g rfl rfl h1 h2 (by decide) (by decide +kernel) (by decide) h
  | isList =>
    obtain ⟨p, a, r, q, rfl, rfl, h1, h2⟩ := isi_of hsh
    exact snd_is g rfl rfl h1 h2 (by decide) (by decide +kernel) (by decide) h
  | str1 => cases hsh
  | lenset =>
    simp only [shape] at hsh
    split at hsh
    · split at hsh
      · rename_i hc
        cases hsh
        obtain ⟨rfl, rfl, h1, h2⟩ := hc
        have hs := h.star
        rw [List.all_cons, Bool.and_eq_true] at hs
        refine .of (PEm (pe_lenT g.calm (g.gl h1).1 (g.blt (by decide)) (g.gl h2).1 (g.blt (by decide)) h.pa (star_cons hs.1 _ _)) fun σ H Q z => ?_) rfl
        obtain ⟨A, env, st, sr, er, p⟩ := rdn z
        refine ⟨A, env, st, sr, er, ?_⟩
        cases e : evalE F as env st with
        | err => rw [e] at p; exact p
        | exc c st1 => rw [e] at p; exact p
        | ok v st1 =>
          rw [e] at p
          cases v <;> first | exact p | skip
          exact fun us H1 A1 e1 s1 r1 => rd_lenset g.on (p us H1 A1 e1 s1 r1)
      · cases hsh
    · cases hsh
  | sorted => cases hsh
  | sortedset => cases hsh
  | disp =>
    simp only [shape] at hsh
    split at hsh
    · cases hsh
      refine .of (PEm pe_dnewK fun σ H Q q => ?_) rfl
      cases as <;> first | exact h.elim | (obtain ⟨_, _, hx, _⟩ := h; cases hx; done) | skip
      obtain ⟨A, env, st, sr, er, p⟩ := rdn q
      have p := p [] H A .refl sr .nil
      obtain ⟨A2, st2, vs, s2, r2, pp⟩ := p
      cases r2
      exact fun z hz => Post.newDic pp s2 .nil (Nat.zero_le _) hz
    · cases hsh
  | dictzip =>
    simp only [shape] at hsh
    split at hsh
    · split at hsh
      · rename_i hc
        cases hsh
        obtain ⟨rfl, rfl, h1, h2⟩ := hc
        have hs := h.star
        rw [List.all_cons, Bool.and_eq_true] at hs
        refine .of (PEm (pe_dicZip g.calm (g.gl h1).1 (g.blt (by decide)) (g.gl h2).1 (g.blt (by decide)) h.pa (star_cons hs.1 _ _) (star_all hs.2)) fun σ H Q z => ?_) rfl
        obtain ⟨A, env, st, sr, er, p⟩ := rdn z
        refine ⟨A, env, st, sr, er, ?_⟩
        cases e : evalE F as env st with
        | err => rw [e] at p; exact p
        | exc c st1 => rw [e] at p; exact p
        | ok v st1 =>
          rw [e] at p
          cases v <;> first | exact p | skip
          exact fun us H1 A1 e1 s1 r1 => rd_dictzip g.on (p us H1 A1 e1 s1 r1)
      · cases hsh
    · cases hsh
  | listzip p => cases hsh
  | isExc c => cases hsh
end
end Mi
set_option Elab.async false
set_option linter.all false
set_option maxRecDepth 100000
set_option maxHeartbeats 1000000
/-! MiSnd2: methods, calls, tests. -/
namespace Mi
open PySem PySem.Spec PyProof.Rows L2
section
variable {B : Fix} {F : Fn} {lv : Nat} {k : Ck} {W : WS} {X : Cx}
theorem base_ok {b : PySem.Expr} (h : plainBase b = true) (m : Str) (env : PySem.Env) : attributeBase b m env (eval b env) = eval b env := by
  cases b <;> first | rfl | skip
  rename_i f as ks p
  cases f <;> first | rfl | skip
  cases as <;> first | rfl | skip
  cases ks <;> first | rfl | skip
  cases h
def kdT : Kd → String
  | .l => "list"
  | .d => "dict"
  | .s => "str"
theorem sqL_rd {H : Hp} {p : Addr} {vs : List V} (h : Rd H p (.lst vs)) : SqL B.K H p vs := .inl h
theorem kd_ty {H : Hp} {A : List Addr} {st : Store} {kd : Kd} {v : MV} {u : V} (sr : SR B H A st) (r : RV B H A v u) (h : kdOk kd v st = true) : tyV B.K (kdT kd) u H := by
  cases kd with
  | l =>
    simp only [kdOk] at h
    cases e : lstOf st v with
    | none => rw [e] at h; cases h
    | some xs =>
      obtain ⟨p, vs, rfl, q, _⟩ := lst_of sr r e
      exact .inl ⟨rfl, vs, sqL_rd q⟩
  | d =>
    simp only [kdOk] at h
    cases r <;> first | (cases h; done) | skip
    rename_i n a hn
    replace h : (match st[n]? with | some (.dic _) => true | _ => false) = true := h
    cases e : st[n]? with
    | none => rw [e] at h; cases h
    | some o =>
      rw [e] at h
      cases o <;> first | (cases h; done) | skip
      obtain ⟨ks, q, _⟩ := sr.obj n a _ hn e
      exact .inr (.inr (.inl ⟨rfl, .inl ⟨ks, q⟩⟩))
  | s =>
    cases r <;> first | (cases h; done) | rfl
structure MeOk (X : Cx) (m : Me) (r : V → List V → Hp → VK → Prop) : Prop where
  ex : ∃ id, PlainAttrs (kdT m.kd) ∧ Slot (kdT m.kd) (meName m) id ∧ typeOf (.builtin id) = pure (.type "method_descriptor") ∧ MtR X id r
theorem mtR_imp {id : String} {r r' : V → List V → Hp → VK → Prop} (h : MtR X id r) (m : ∀ x xs H Q, r' x xs H Q → r x xs H Q) : MtR X id r' := fun pins s σ H x xs u us Q I r1 r2 q => h pins s σ H x xs u us Q I r1 r2 (m _ _ _ _ q)
theorem me_ok (g : GoodX B F lv k W X) {m : Me} (hm : m ≠ .count) : MeOk X m (rMm B m) := by
  cases m with
  | append => exact ⟨_, PySem.F.plainAttrs_list, PySem.F.slot_list_append, PySem.F.type_list_append, mtr_append⟩
  | extend => exact ⟨_, PySem.F.plainAttrs_list, PySem.F.slot_list_extend, PySem.F.type_list_extend, mtr_extend⟩
  | popL => exact ⟨_, PySem.F.plainAttrs_list, PySem.F.slot_list_pop, PySem.F.type_list_pop, mtr_popL⟩
  | popAt => exact ⟨_, PySem.F.plainAttrs_list, PySem.F.slot_list_pop, PySem.F.type_list_pop, mtr_popAt⟩
  | reverse => exact ⟨_, PySem.F.plainAttrs_list, PySem.F.slot_list_reverse, PySem.F.type_list_reverse, mtr_reverse⟩
  | index => exact ⟨_, PySem.F.plainAttrs_list, PySem.F.slot_list_index, PySem.F.type_list_index, mtr_index g.on⟩
  | count => exact absurd rfl hm
  | get1 => exact ⟨_, PySem.F.plainAttrs_dict, PySem.F.slot_dict_get, PySem.F.type_dict_get, mtR_imp (mtr_get g.u64) fun _ _ _ _ h => .inl h⟩
  | get2 => exact ⟨_, PySem.F.plainAttrs_dict, PySem.F.slot_dict_get, PySem.F.type_dict_get, mtR_imp (mtr_get g.u64) fun _ _ _ _ h => .inr h⟩
  | pop1 => exact ⟨_, PySem.F.plainAttrs_dict, PySem.F.slot_dict_pop, PySem.F.type_dict_pop, mtR_imp mtr_pop fun _ _ _ _ h => .inl h⟩
  | pop2 => exact ⟨_, PySem.F.plainAttrs_dict, PySem.F.slot_dict_pop, PySem.F.type_dict_pop, mtR_imp mtr_pop fun _ _ _ _ h => .inr h⟩
  | setdefault => exact ⟨_, PySem.F.plainAttrs_dict, PySem.F.slot_dict_setdefault, PySem.F.type_dict_setdefault, mtr_setdefault⟩
  | update => exact ⟨_, PySem.F.plainAttrs_dict, PySem.F.slot_dict_update, PySem.F.type_dict_update, mtr_update⟩
  | clear => exact ⟨_, PySem.F.plainAttrs_dict, PySem.F.slot_dict_clear, PySem.F.type_dict_clear, mtr_clear⟩
  | strip => exact ⟨_, PySem.F.plainAttrs_str, PySem.F.slot_str_strip, PySem.F.type_str_strip, mtr_strip⟩
  | split => exact ⟨_, PySem.F.plainAttrs_str, PySem.F.slot_str_split, PySem.F.type_str_split, mtr_split⟩
  | join => exact ⟨_, PySem.F.plainAttrs_str, PySem.F.slot_str_join, PySem.F.type_str_join, mtr_join g.on⟩
theorem onT_no {α : Type} {f : List MV → Store → Res α} {v : MV} {st : Store} (h : ∀ b, v ≠ .tup b) : onT f v st = .err := by
  cases v <;> first | rfl | exact absurd rfl (h _)
theorem onB_no {α : Type} {f t : Store → Res α} {v : MV} {st : Store} (h : ∀ b, v ≠ .bl b) : onB t f v st = .err := by
  cases v <;> first | rfl | exact absurd rfl (h _)
theorem rd_me (on : On B X) {m : Me} {o as : E} {σ : L2.St} {H : Hp} {Q : VK} (h : tM B F W (.me m o as) σ H Q) : tBM X.K (kdT m.kd) (rMm B m) (tM B F W o) (tMA B F W as) σ H Q := by
  obtain ⟨A, env, st, sr, er, p⟩ := h
  simp only [evalE] at p
  refine tM_bind sr er p fun v st1 u H1 A1 e1 s1 er1 r1 p1 => ?_
  split at p1
  · rename_i hk
    rw [on.K]
    refine ⟨kd_ty s1 r1 hk, tMA_bind s1 er1 p1 (fun v st hv => onT_no hv) fun vs st2 us H2 A2 e2 s2 er2 r2 p2 => ?_⟩
    exact ⟨A2, st2, v, vs, s2, r1.mono e2, r2, Post.noX (nx_me _ _ _ _) p2⟩
  · exact p1.elim
theorem few {es : List PySem.Expr} {env : PySem.Env} {pos : Pos} (h : es.all notStar = true) (hl : es.length < 20) : ((backTo pos (starEach es env)).all (fun x => !x.1) && (backToKw pos (keywordEach [] env)).all (fun x => x.1.isSome)
      && decide (es.length + ([] : List Keyword).length + (if ([] : List Keyword).isEmpty then 0 else 1) < 30)) = true := by
  have h1 := star_all (env := env) (pos := pos) h
  rw [Bool.and_eq_true, Bool.and_eq_true]
  refine ⟨⟨?_, rfl⟩, ?_⟩
  · rw [List.all_eq_true]
    intro x hx
    rw [List.any_eq_false] at h1
    simpa using h1 x hx
  · simp only [List.length_nil, List.isEmpty_nil, if_true, decide_eq_true_eq]
    omega
theorem AllPE.nil_of {as : E} (h : AllPE B F W X as []) : as = .nil := by
  cases as <;> first | rfl | exact False.elim h | skip
  obtain ⟨_, _, q, _⟩ := h
  cases q
theorem snd_me (g : GoodX B F lv k W X) {m : Me} {o as : E} {b : PySem.Expr} {xs : List PySem.Expr} {ap p : Pos} (hm : m ≠ .count) (hb : plainBase b = true) (hl : (ap.endLine == p.line) = true) (hn : xs.length < 20) (ho : PE X b (tM B F W o)) (h : AllPE B F W X as xs) :
    Snd B F W X (.Call (.Attribute b (meName m) ap) xs [] p) (.me m o as) := by
  obtain ⟨id, h1, h2, h3, h4⟩ := (me_ok g hm).ex
  refine .of ?_ rfl
  have hs := h.star
  cases xs with
  | nil =>
    cases h.nil_of
    refine PEm (pe_bm0 h1 h2 h3 h4 ho (base_ok hb _ _) hl) fun σ H Q q => ?_
    obtain ⟨A, env, st, sr, er, pp⟩ := rd_me g.on q
    refine ⟨A, env, st, sr, er, ?_⟩
    cases e : evalE F o env st with
    | err => rw [e] at pp; exact pp
    | exc c st1 => rw [e] at pp; exact pp
    | ok v st1 =>
      rw [e] at pp
      intro u H1 A1 e1 s1 r1
      obtain ⟨ty, A2, env2, st2, s2, er2, p2⟩ := pp u H1 A1 e1 s1 r1
      exact ⟨ty, p2 [] H1 A2 .refl s2 .nil⟩
  | cons x xs =>
    have hf := few (env := X.env) (pos := p) hs hn
    rw [List.all_cons, Bool.and_eq_true] at hs
    exact PEm (pe_bm h1 h2 h3 h4 ho h.pa (base_ok hb _ _) hf hl (star_cons hs.1 _ _) (star_all hs.2)) fun σ H Q q => rd_me g.on q
end
end Mi
set_option Elab.async false
set_option linter.all false
set_option maxRecDepth 100000
set_option maxHeartbeats 1000000
/-! MiSnd3: calls of the program's own defs. -/
namespace Mi
open PySem PySem.Spec PyProof.Rows L2
section
variable {B : Fix} {F : Fn} {lv : Nat} {k : Ck} {W : WS} {X : Cx}
/-- a def of the program, at the context -/
structure FnX (B : Fix) (F : Fn) (X : Cx) (lv : Nat) (kk : FK) (f : Addr) : Prop where
  ex : ∃ fd ps, Binds X.K fd ps [] ∧ FnOk X.prog X.w X.K X.mg X.base (L2.CX X.prog X.w) lv f fd ps (spOf B F kk ps.length) ∧ ∀ args st, args.length ≠ ps.length → F kk args st = .err
theorem FnAt.at {kk : FK} {f : Addr} (h : FnAt B F lv kk f) (on : On B X) : FnX B F X lv kk f := by
  obtain ⟨fd, ps, h1, h2, h3⟩ := h.ex
  refine ⟨fd, ps, by rw [on.K]; exact h1, ?_, h3⟩
  rw [on.P, on.w, on.K, on.mg, on.base]
  exact h2
theorem Post.imp {A : List Addr} {H : Hp} {Q Q' : VK} {V V' : Str → Hp → Prop} {r : Res MV} (h1 : ∀ u H, Q u H → Q' u H) (h2 : ∀ c H, V c H → V' c H) (p : Post B A H Q V r) : Post B A H Q' V' r := by
  cases r with
  | ok v st => exact fun u H' A' e s q => h1 _ _ (p u H' A' e s q)
  | exc c st => exact fun H' A' e s => h2 _ _ (p H' A' e s)
  | err => exact p
theorem call_len {kk : FK} {n : Nat} {A : List Addr} {H : Hp} {Q : VK} {U : Str → Hp → Prop} {args : List MV} {vs : List V} {st : Store} (h : ∀ args st, args.length ≠ n → F kk args st = .err) (r : RVs B H A args vs) (p : Post B A H Q U (F kk args st)) : vs.length = n := by
  rw [← r.length]
  apply Decidable.byContradiction
  intro hn
  rw [h args st hn] at p
  exact p
/-- what a call must show -/
theorem sp_of {kk : FK} {n : Nat} {A : List Addr} {H : Hp} {Q : VK} {σ : L2.St} {args : List MV} {vs : List V} {st : Store} (h : ∀ args st, args.length ≠ n → F kk args st = .err) (sr : SR B H A st) (r : RVs B H A args vs) (p : Post B A H Q (fun c => W c σ) (F kk args st)) :
    spOf B F kk n vs H Q (WE (WXo B W) σ) :=
  ⟨call_len h r p, B.Z, A, st, args, sr, r, p.imp (fun _ _ q => q) fun c H' q C hC => ⟨c, C, hC, rfl, rfl, q⟩⟩
theorem sp_of0 {kk : FK} {n : Nat} {A : List Addr} {H : Hp} {Q : VK} {args : List MV} {vs : List V} {st : Store} (h : ∀ args st, args.length ≠ n → F kk args st = .err) (sr : SR B H A st) (r : RVs B H A args vs) (p : Post B A H Q (fun _ _ => False) (F kk args st)) :
    spOf B F kk n vs H Q (fun _ _ _ => False) :=
  ⟨call_len h r p, B.Z, A, st, args, sr, r, p.imp (fun _ _ q => q) fun c H' q C hC => q⟩
theorem pass_no {X : Cx} : Passes (L2.CX X.prog X.w) X (fun _ _ _ => False) := fun _ _ _ _ _ _ _ ⟨_, _, _, _, _, _, _, _, _, _, _, _, h⟩ => h.elim
theorem snd_call (g : GoodX B F lv k W X) {f : Str} {as : E} {x : PySem.Expr} {xs : List PySem.Expr} {p q : Pos} (hg : glb k f = true) (hf : f ∈ k.fns) (h : AllPE B F W X as (x :: xs)) : Snd B F W X (.Call (.Name f p) (x :: xs) [] q) (.call f as) := by
  obtain ⟨fa, hm, hk, hF⟩ := g.fa.fn f hf
  obtain ⟨fd, ps, h1, h2, h3⟩ := (hF.at g.on).ex
  have hs := h.star
  rw [List.all_cons, Bool.and_eq_true] at hs
  refine .of (PEm (pe_callS (E := WE (WXo B W)) h2 (g.room.mono (Nat.le_succ _)) (g.gl hg).1 (by rw [g.on.mg]; exact hm) (by rw [g.on.K]; exact hk) h1 (passAt g.tk) h.pa (g.gl hg).2 (star_cons hs.1 _ _) (star_all hs.2)) fun σ H Q z => ?_) rfl
  obtain ⟨A, env, st, sr, er, pp⟩ := z
  simp only [evalE] at pp
  exact tMA_bind sr er pp (fun v st hv => onT_no hv) fun vs st2 us H2 A2 e2 s2 er2 r2 p2 => sp_of h3 s2 r2 p2
/-- a local name that holds a def -/
theorem pe_callv {i : Nat} {x : Str} {p pos : Pos} {e : PySem.Expr} {es : List PySem.Expr} {t : TA} {E : L2.St → XK} (hr : Room lv X.A) (hN : X.N[i]? = some x) (hv : Vis X.env.scope x) (hx : ∀ σ, PassesAt (L2.CX X.prog X.w) X σ (E σ)) (ha : PA X (e :: es) t)
    (hdb : (x == ("__debug__" : Str)) = false) (hcd : (x == ("__classdict__" : Str)) = false)
    (he : starEach (e :: es) X.env = (false, eval e X.env) :: starEach es X.env) (hpl : (backTo pos (starEach es X.env)).any (·.1) = false) : PE X (.Call (.Name x p) (e :: es) [] pos)
    (fun σ H Q => ∃ f fd ps sp, σ[i]? = some (some (.ref f)) ∧ PySem.W.keepIn X.K (.ref f) = true ∧ Binds X.K fd ps [] ∧ FnOk X.prog X.w X.K X.mg X.base (L2.CX X.prog X.w) lv f fd ps sp ∧ t σ H fun vs H1 => sp vs H1 Q (E σ)) := by
  refine ⟨fun pins s σ H Q I h => ?_⟩
  obtain ⟨f, fd, ps, sp, hs, hk, hb, hF, ht⟩ := h
  refine wpAny_Call_Name_kw (thn ((pe_var (pos := p) hN hv hdb hcd).run pins s σ H (fun v H1 => v = .ref f ∧ H1 = H) I ⟨.ref f, hs, rfl, rfl⟩) fun u s1 ⟨v, H1, I1, r1, q1⟩ => ?_)
  obtain ⟨rfl, rfl⟩ := q1
  cases r1
  refine PySem.W.callWith_K (h₀ := X.base) I.ok.mod.kin hk (thn (ha.run pos pins s1 σ _ _ I1 ht) fun us s2 ⟨vs, H2, I2, r, q⟩ => ⟨I2.kIn, ?_⟩) he hpl
  exact run_fnS hF hr hb (hx σ) I2 r q
theorem snd_callv (g : GoodX B F lv k W X) {i : Nat} {fs : List Str} {f : Str} {as : E} {x : PySem.Expr} {xs : List PySem.Expr} {p q : Pos} (hn : nmOk k i f = true) (hf : ∀ f ∈ fs, f ∈ k.fns) (h : AllPE B F W X as (x :: xs)) : Snd B F W X (.Call (.Name f p) (x :: xs) [] q) (.callv i fs as) := by
  obtain ⟨n1, n2, n3, n4⟩ := g.nm hn
  have hs := h.star
  rw [List.all_cons, Bool.and_eq_true] at hs
  refine .of (PEm (pe_callv (E := WE (WXo B W)) (g.room.mono (Nat.le_succ _)) n1 n2 (passAt g.tk) h.pa n3 n4 (star_cons hs.1 _ _) (star_all hs.2)) fun σ H Q z => ?_) rfl
  obtain ⟨A, env, st, sr, er, pp⟩ := z
  simp only [evalE] at pp
  cases e : env[i]? with
  | none => rw [e] at pp; exact pp.elim
  | some o =>
    cases o with
    | none => rw [e] at pp; exact pp.elim
    | some v =>
      rw [e] at pp
      cases v <;> first | exact pp.elim | skip
      rename_i y
      obtain ⟨u, hu, ru⟩ := er.get i _ e
      cases ru with
      | nam ha =>
        simp only [heldR] at pp
        split at pp
        · rename_i hy
          obtain ⟨fa, hm, hk, hF⟩ := g.fa.fn y (hf y hy)
          obtain ⟨fd, ps, h1, h2, h3⟩ := (hF.at g.on).ex
          rw [ha] at hm
          cases hm
          exact ⟨_, fd, ps, _, hu, by rw [g.on.K]; exact hk, h1, h2, tMA_bind sr er pp (fun v st hv => onT_no hv) fun vs st2 us H2 A2 e2 s2 er2 r2 p2 => sp_of h3 s2 r2 p2⟩
        · exact pp.elim
/-- C(..) -/
theorem snd_make (g : GoodX B F lv k W X) {c : Str} {as : E} {x : PySem.Expr} {xs : List PySem.Expr} {p q : Pos} (hg : glb k c = true) (hc : c ∈ k.clss) (h : AllPE B F W X as (x :: xs)) : Snd B F W X (.Call (.Name c p) (x :: xs) [] q) (.make c as) := by
  obtain ⟨C, f, hm, hM, hF⟩ := g.fa.mkc c hc
  obtain ⟨fd, ps, h1, h2, h3⟩ := (hF.at g.on).ex
  have hs := h.star
  rw [List.all_cons, Bool.and_eq_true] at hs
  refine .of (PEm (pe_make (dvs := []) (ds := []) (by rw [g.on.K]; exact hM) h2 g.room (g.gl hg).1 (by rw [g.on.mg]; exact hm) h1 .nil pass_no h.pa (g.gl hg).2 (star_cons hs.1 _ _) (star_all hs.2)) fun σ H Q z => ?_) rfl
  obtain ⟨A, env, st, sr, er, pp⟩ := z
  simp only [evalE] at pp
  refine tMA_bind sr er pp (fun v st hv => onT_no hv) fun vs st2 us H2 A2 e2 s2 er2 r2 p2 => fun a dx ha hdx hne => ?_
  rw [List.append_nil]
  have s3 : SR B (upd H2 dx (.own a)) A2 st2 := s2.side hdx
  have ha3 : upd H2 dx (.own a) a = none := by rw [upd_ne (fun e => hne e.symm)]; exact ha
  have e3 : Ext A2 A2 H2 (upd H2 dx (.own a)) := Ext.upd hdx
  have e4 : Ext A2 (A2 ++ [a]) (upd H2 dx (.own a)) (upd (upd H2 dx (.own a)) a (.ins C dx [])) := Ext.new ha3
  have s4 : SR B (upd (upd H2 dx (.own a)) a (.ins C dx [])) (A2 ++ [a]) (st2 ++ [.ins c []]) := s3.new ha3 ⟨C, dx, [], hm, upd_same, .nil⟩
  have hA : (A2 ++ [a])[st2.length]? = some a := by
    rw [← s2.len]
    simp
  refine sp_of0 h3 s4 (.cons (.loc hA) (r2.mono (e3.trans e4))) ?_
  replace p2 : Post B A2 H2 Q (fun c => W c σ) (madeR st2.length (F (.me c "__init__") (.loc st2.length :: vs) (st2 ++ [.ins c []]))) := p2
  have p3 := Post.ext (e3.trans e4) p2
  cases hr : F (.me c "__init__") (.loc st2.length :: vs) (st2 ++ [.ins c []]) with
  | err => rw [hr] at p3; exact p3
  | exc c' st' => rw [hr] at p3; exact p3.elim
  | ok v st' =>
    rw [hr] at p3
    cases v <;> first | exact p3.elim | skip
    intro u H' A' e' s' r'
    cases r'
    exact ⟨rfl, p3 (.ref a) H' A' e' s' (.loc (e'.get hA))⟩
theorem hasM_of {H : Hp} {A : List Addr} {st : Store} {c m : Str} {v : MV} {u : V} (sr : SR B H A st) (r : RV B H A v u) (h : hasM c m v st = true) : ∃ a C dx fs, u = .ref a ∧ B.mg c = some (.ref C) ∧ H a = some (.ins C dx fs) ∧ fs.lookup m = none := by
  cases r <;> first | (cases h; done) | skip
  rename_i n a hn
  replace h : (match st[n]? with | some (.ins d fs) => decide (c = d) && (dget fs m).isNone | _ => false) = true := h
  cases e : st[n]? with
  | none => rw [e] at h; cases h
  | some o =>
    rw [e] at h
    cases o <;> first | (cases h; done) | skip
    rename_i d fs
    replace h : (decide (c = d) && (dget fs m).isNone) = true := h
    rw [Bool.and_eq_true] at h
    obtain ⟨C, dx, vs, q1, q2, q3⟩ := sr.obj n a _ hn e
    have hv := q3.val (k := m)
    cases hd : dget fs m with
    | some z => rw [hd] at h; cases h.2
    | none =>
      rw [hd] at hv
      refine ⟨a, C, dx, vs, rfl, by rw [of_decide_eq_true h.1]; exact q1, q2, ?_⟩
      cases hl : vs.lookup m with
      | none => rfl
      | some z => rw [hl] at hv; exact hv.elim
theorem meth_eq {o : PySem.Expr} {m : Str} {ap pos : Pos} {es : List PySem.Expr} (hb : plainBase o = true) (hl : (ap.endLine == pos.line) = true) (hs : es.all notStar = true) (hn : es.length < 20) :
    eval (.Call (.Attribute o m ap) es [] pos) X.env = (do
      let ov ← eval o X.env
      standAt ap.atName
      let (f, first) ← holding [ov] (getMethod ov m (plainOf o X.env))
      callWith pos f first (backTo pos (starEach es X.env)) (backToKw pos (keywordEach [] X.env))) := by
  have hf := few (env := X.env) (pos := pos) hs hn
  have e1 : eval (.Call (.Attribute o m ap) es [] pos) X.env = (do
      let ov ← attributeBase o m X.env (eval o X.env)
      standAt ap.atName
      methodCall o m ap pos X.env ov (es.length + ([] : List Keyword).length + (if ([] : List Keyword).isEmpty then 0 else 1)) (backTo pos (starEach es X.env)) (backToKw pos (keywordEach [] X.env))) := by
    first | rfl | (simp only [eval]; rfl)
  rw [e1, base_ok hb]
  have e2 : ∀ ov, methodCall o m ap pos X.env ov (es.length + ([] : List Keyword).length + (if ([] : List Keyword).isEmpty then 0 else 1)) (backTo pos (starEach es X.env)) (backToKw pos (keywordEach [] X.env)) = (do
      let (f, first) ← holding [ov] (getMethod ov m (plainOf o X.env))
      callWith pos f first (backTo pos (starEach es X.env)) (backToKw pos (keywordEach [] X.env))) := fun ov => mcall_line hf hl
  simp only [e2]
theorem snd_meth (g : GoodX B F lv k W X) {c m : Str} {o as : E} {b : PySem.Expr} {xs : List PySem.Expr} {ap p : Pos} (hc : (c, m) ∈ k.meths) (hb : plainBase b = true) (hl : (ap.endLine == p.line) = true) (hn : xs.length < 20) (ho : PE X b (tM B F W o)) (h : AllPE B F W X as xs) :
    Snd B F W X (.Call (.Attribute b m ap) xs [] p) (.meth c m o as) := by
  obtain ⟨C, f, hm, hC, hM, hF⟩ := g.fa.me (c, m) hc
  obtain ⟨fd, ps, h1, h2, h3⟩ := (hF.at g.on).ex
  refine .of ?_ rfl
  have hs := h.star
  have key : ∀ {σ : L2.St} {H : Hp} {Q : VK}, tM B F W (.meth c m o as) σ H Q → tMeth C m (spOf B F (.me c m) ps.length) [] (fun _ _ _ => False) (tM B F W o) (tMA B F W as) σ H Q := fun {σ H Q} z => by
    obtain ⟨A, env, st, sr, er, pp⟩ := z
    simp only [evalE] at pp
    refine tM_bind sr er pp fun v st1 u H1 A1 e1 s1 er1 r1 p1 => ?_
    split at p1
    · rename_i hh
      obtain ⟨a, C', dx, fs, rfl, hm', ha, hl⟩ := hasM_of s1 r1 hh
      rw [hm] at hm'
      cases hm'
      refine ⟨a, dx, fs, rfl, ha, hl, tMA_bind s1 er1 p1 (fun v st hv => onT_no hv) fun vs st2 us H2 A2 e2 s2 er2 r2 p2 => ?_⟩
      rw [List.append_nil]
      refine sp_of0 h3 s2 (.cons (r1.mono e2) r2) ?_
      replace p2 : Post B A2 H2 Q (fun c => W c σ) (noX (F (.me c m) (v :: vs) st2)) := p2
      cases hr : F (.me c m) (v :: vs) st2 with
      | err => rw [hr] at p2; exact p2
      | exc c' st' => rw [hr] at p2; exact p2.elim
      | ok v st' => rw [hr] at p2; exact p2
    · exact p1.elim
  have hr := g.room.mono (Nat.le_succ lv)
  cases xs with
  | nil =>
    cases h.nil_of
    refine PEm (pe_meth0 (dvs := []) (ds := []) (pl := plainOf b X.env) ho (by rw [g.on.K]; exact hC) (by rw [g.on.K]; exact hM) h2 hr h1 .nil pass_no (meth_eq hb hl hs hn)) fun σ H Q q => ?_
    obtain ⟨A, env, st, sr, er, pp⟩ := key q
    refine ⟨A, env, st, sr, er, ?_⟩
    cases e : evalE F o env st with
    | err => rw [e] at pp; exact pp
    | exc c st1 => rw [e] at pp; exact pp
    | ok v st1 =>
      rw [e] at pp
      intro u H1 A1 e1 s1 r1
      obtain ⟨a, dx, fs, z1, z2, z3, A2, env2, st2, s2, er2, p2⟩ := pp u H1 A1 e1 s1 r1
      exact ⟨a, dx, fs, z1, z2, z3, p2 [] H1 A2 .refl s2 .nil⟩
  | cons x xs =>
    have hq := meth_eq (X := X) (m := m) (ap := ap) (pos := p) hb hl hs hn
    rw [List.all_cons, Bool.and_eq_true] at hs
    exact PEm (pe_meth (dvs := []) (ds := []) (pl := plainOf b X.env) ho (by rw [g.on.K]; exact hC) (by rw [g.on.K]; exact hM) h2 hr h1 .nil pass_no h.pa (star_cons hs.1 _ _) (star_all hs.2) hq) fun σ H Q q => key q
theorem snd_fld (g : GoodX B F lv k W X) {c f : Str} {o : E} {b : PySem.Expr} {p : Pos} (hc : (c, f) ∈ k.flds) (hb : plainBase b = true) (ho : PE X b (tM B F W o)) : Snd B F W X (.Attribute b f p) (.fld c o f) := by
  obtain ⟨C, hm, hC, hN⟩ := g.fa.fl (c, f) hc
  refine .of (PEm (pe_fld ho (base_ok hb _ _)) fun σ H Q z => ?_) rfl
  obtain ⟨A, env, st, sr, er, pp⟩ := z
  simp only [evalE] at pp
  refine tM_bind sr er pp fun v st1 u H1 A1 e1 s1 er1 r1 p1 => ?_
  rw [g.on.K]
  cases r1 <;> first | exact p1.elim | skip
  rename_i n a hn
  simp only [getF] at p1
  cases e : st1[n]? with
  | none => rw [e] at p1; exact p1.elim
  | some ob =>
    rw [e] at p1
    cases ob <;> first | exact p1.elim | skip
    rename_i d fs
    replace p1 : Post B A1 H1 Q (fun c => W c σ) (if c = d then (match dget fs f with | some v => .ok v st1 | none => .err) else .err) := p1
    split at p1
    · rename_i hcd
      subst hcd
      obtain ⟨C', dx, vs, q1, q2, q3⟩ := s1.obj n a _ hn e
      rw [hm] at q1
      cases q1
      have hv := q3.val (k := f)
      cases hd : dget fs f with
      | none => rw [hd] at p1; exact p1.elim
      | some z =>
        rw [hd] at p1 hv
        cases hl : vs.lookup f with
        | none => rw [hl] at hv; exact hv.elim
        | some y =>
          rw [hl] at hv
          exact ⟨a, C, dx, vs, y, rfl, q2, hC, hN, hl, p1 y H1 A1 .refl s1 hv⟩
    · exact p1.elim
end
end Mi
set_option Elab.async false
set_option linter.all false
set_option maxRecDepth 100000
set_option maxHeartbeats 1000000
/-! MiSnd4: names, literals, tests. -/
namespace Mi
open PySem PySem.Spec PyProof.Rows L2
section
variable {B : Fix} {F : Fn} {lv : Nat} {k : Ck} {W : WS} {X : Cx}
theorem snd_var (g : GoodX B F lv k W X) {i : Nat} {x : Str} {p : Pos} (hn : nmOk k i x = true) : Snd B F W X (.Name x p) (.var i) := by
  obtain ⟨n1, n2, n3, n4⟩ := g.nm hn
  refine .of (PEm (pe_var n1 n2 n3 n4) fun σ H Q z => ?_) rfl
  obtain ⟨A, env, st, sr, er, pp⟩ := z
  simp only [evalE] at pp
  cases e : env[i]? with
  | none => rw [e] at pp; exact pp.elim
  | some o =>
    cases o with
    | none => rw [e] at pp; exact pp.elim
    | some v =>
      rw [e] at pp
      obtain ⟨u, hu, ru⟩ := er.get i v e
      exact ⟨u, hu, pp u H A .refl sr ru⟩
theorem snd_lit {v : MV} {c : Const} {j : Nat} {p : Pos} (h : litOk v c = true) : Snd B F W X (.Constant c j p) (.lit v) := by
  have key : ∀ {u : V}, (∀ H A, RV B H A v u) → ∀ σ H Q, tM B F W (.lit v) σ H Q → tC u σ H Q := fun {u} hr σ H Q z => by
    obtain ⟨A, env, st, sr, er, pp⟩ := z
    exact pp u H A .refl sr (hr H A)
  cases v <;> cases c <;> first | (cases h; done) | skip
  · exact .of (PEm pe_non (key fun _ _ => .non)) rfl
  · simp only [litOk, beq_iff_eq] at h
    subst h
    exact .of (PEm pe_bl (key fun _ _ => .bl _)) rfl
  · simp only [litOk, decide_eq_true_eq] at h
    subst h
    exact .of (PEm pe_int (key fun _ _ => .int _)) rfl
  · simp only [litOk, decide_eq_true_eq] at h
    subst h
    exact .of (PEm pe_str (key fun _ _ => .str _)) rfl
theorem strKvs_inj : ∀ {xs : List (Str × MV)} {ss : List (Str × Str)}, strKvs xs = some ss → xs = ss.map fun p => (p.1, MV.str p.2)
  | [], ss, h => by
    cases h
    rfl
  | (kx, x) :: xs, ss, h => by
    unfold strKvs at h
    rw [List.mapM_cons] at h
    cases x <;> first | (cases h; done) | skip
    rename_i a
    simp only [Option.bind_eq_bind, Option.bind_some, Option.pure_def] at h
    replace h : ((strKvs xs).bind fun r => some ((kx, a) :: r)) = some ss := h
    cases e : strKvs xs with
    | none => rw [e] at h; cases h
    | some r =>
      rw [e] at h
      cases h
      rw [List.map_cons, ← strKvs_inj (xs := xs) (ss := r) e]
theorem eqB_eq {a b : MV} (h : eqB a b = true) : a = b := by
  cases a <;> cases b <;> first | (cases h; done) | skip
  · simp only [eqB, decide_eq_true_eq] at h; rw [h]
  · simp only [eqB, decide_eq_true_eq] at h; rw [h]
  · rename_i xs ys
    simp only [eqB] at h
    split at h
    · rename_i s t h1 h2
      rw [decide_eq_true_eq] at h
      rw [strsOf_inj h1, strsOf_inj h2, h]
    · cases h
  · simp only [eqB, decide_eq_true_eq] at h; rw [h]
  · rename_i xs ys
    simp only [eqB] at h
    split at h
    · rename_i s t h1 h2
      rw [decide_eq_true_eq] at h
      rw [strKvs_inj h1, strKvs_inj h2, h]
    · cases h
theorem snd_glob (g : GoodX B F lv k W X) {x : Str} {v : MV} {p : Pos} (hg : glb k x = true) (hk : (k.globs.any fun p => decide (p.1 = x) && eqB p.2 v) = true) : Snd B F W X (.Name x p) (.glob x v) := by
  rw [List.any_eq_true] at hk
  obtain ⟨q, hq, h⟩ := hk
  rw [Bool.and_eq_true, decide_eq_true_eq] at h
  obtain ⟨h1, h2⟩ := h
  have h2 := eqB_eq h2
  subst h1 h2
  obtain ⟨u, w, hm, hr, hv⟩ := g.fa.glo q hq
  refine .of (PEm (pe_glob (g.gl hg).1 (by rw [g.on.mg]; exact hm) hr (g.gl hg).2) fun σ H Q z => ?_) rfl
  obtain ⟨A, env, st, sr, er, pp⟩ := z
  exact pp u H A .refl sr (hv B.Z H A)
/-- a test and what follows -/
theorem Snd.test {pe : PySem.Expr} {e : E} (h : Snd B F W X pe e) (hi : notIte e = true) : PT X pe (tMB B F W e) := h.pt fun c a b q => by subst q; cases hi
theorem PostB_of {A : List Addr} {H : Hp} {Q : Bool → Hp → Prop} {V : Str → Hp → Prop} {r : Res MV} (p : PostB B A H Q V r) : Post B A H (fun u H' => ∃ b, u = .bl b ∧ Q b H') V r := by
  cases r with
  | err => exact p
  | exc c st => exact p
  | ok v st =>
    cases v <;> first | exact p.elim | skip
    intro u H' A' e s r
    cases r
    exact ⟨_, rfl, p H' A' e s⟩
theorem rdB_and {a b : E} {σ : L2.St} {H : Hp} {Q : Bool → Hp → Prop} (h : tMB B F W (.and a b) σ H Q) : tAnd (tMB B F W a) (tMB B F W b) σ H Q := by
  obtain ⟨A, env, st, sr, er, p⟩ := h
  simp only [evalE] at p
  refine ⟨A, env, st, sr, er, ?_⟩
  cases e : evalE F a env st with
  | err => rw [e] at p; exact p
  | exc c st1 => rw [e] at p; exact p
  | ok v st1 =>
    rw [e] at p
    cases v <;> first | exact p.elim | skip
    rename_i c
    intro H1 A1 e1 s1
    cases c with
    | true => exact ⟨A1, env, st1, s1, er.mono e1, PostB.ext e1 p⟩
    | false => exact p H1 A1 e1 s1
theorem rdB_or {a b : E} {σ : L2.St} {H : Hp} {Q : Bool → Hp → Prop} (h : tMB B F W (.or a b) σ H Q) : tOr (tMB B F W a) (tMB B F W b) σ H Q := by
  obtain ⟨A, env, st, sr, er, p⟩ := h
  simp only [evalE] at p
  refine ⟨A, env, st, sr, er, ?_⟩
  cases e : evalE F a env st with
  | err => rw [e] at p; exact p
  | exc c st1 => rw [e] at p; exact p
  | ok v st1 =>
    rw [e] at p
    cases v <;> first | exact p.elim | skip
    rename_i c
    intro H1 A1 e1 s1
    cases c with
    | false => exact ⟨A1, env, st1, s1, er.mono e1, PostB.ext e1 p⟩
    | true => exact p H1 A1 e1 s1
theorem rd_and {a b : E} {σ : L2.St} {H : Hp} {Q : VK} (h : tM B F W (.and a b) σ H Q) : tAndV (tM B F W a) (tM B F W b) σ H Q := by
  obtain ⟨A, env, st, sr, er, p⟩ := h
  simp only [evalE] at p
  refine tM_bind sr er p fun v st1 u H1 A1 e1 s1 er1 r1 p1 => ?_
  cases r1 <;> first | exact p1.elim | skip
  rename_i c
  refine ⟨c, rfl, ?_⟩
  cases c with
  | true => exact ⟨A1, env, st1, s1, er1, p1⟩
  | false => exact p1 _ H1 A1 .refl s1 (.bl false)
theorem rd_or {a b : E} {σ : L2.St} {H : Hp} {Q : VK} (h : tM B F W (.or a b) σ H Q) : tOrV (tM B F W a) (tM B F W b) σ H Q := by
  obtain ⟨A, env, st, sr, er, p⟩ := h
  simp only [evalE] at p
  refine tM_bind sr er p fun v st1 u H1 A1 e1 s1 er1 r1 p1 => ?_
  cases r1 <;> first | exact p1.elim | skip
  rename_i c
  refine ⟨c, rfl, ?_⟩
  cases c with
  | false => exact ⟨A1, env, st1, s1, er1, p1⟩
  | true => exact p1 _ H1 A1 .refl s1 (.bl true)
theorem pt_of_pw {op : PySem.BoolOp} {vs : List PySem.Expr} {p : Pos} {t : TT} (h : PW X (.BoolOp op vs p) t) : PT X (.BoolOp op vs p) t := ⟨fun pins s σ H Q I q => h.run _ pins s σ H Q I q⟩
/-- [a, b], and more -/
theorem snd_and2 {a b : E} {x y : PySem.Expr} {p : Pos} (ha : Snd B F W X x a) (hb : Snd B F W X y b) (ia : notIte a = true) (ib : notIte b = true) : Snd B F W X (.BoolOp .And [x, y] p) (.and a b) := by
  have w : PW X (.BoolOp .And [x, y] p) (tMB B F W (.and a b)) := PWm (pw_and (ha.test ia) (pw_and1 (hb.test ib))) fun σ H Q q => rdB_and q
  exact ⟨PEm (pe_and ha.ex (pe_one hb.ex)) fun σ H Q q => rd_and q, fun _ => pt_of_pw w, fun _ _ _ _ => w⟩
theorem snd_andN {a b : E} {x y : PySem.Expr} {ys : List PySem.Expr} {p : Pos} (ha : Snd B F W X x a) (hb : Snd B F W X (.BoolOp .And (y :: ys) p) b) (ia : notIte a = true) : Snd B F W X (.BoolOp .And (x :: y :: ys) p) (.and a b) := by
  have w : PW X (.BoolOp .And (x :: y :: ys) p) (tMB B F W (.and a b)) := PWm (pw_and (ha.test ia) (hb.pw _ _ _ rfl)) fun σ H Q q => rdB_and q
  exact ⟨PEm (pe_and ha.ex hb.ex) fun σ H Q q => rd_and q, fun _ => pt_of_pw w, fun _ _ _ _ => w⟩
theorem snd_or2 {a b : E} {x y : PySem.Expr} {p : Pos} (ha : Snd B F W X x a) (hb : Snd B F W X y b) (ia : notIte a = true) (ib : notIte b = true) : Snd B F W X (.BoolOp .Or [x, y] p) (.or a b) := by
  have w : PW X (.BoolOp .Or [x, y] p) (tMB B F W (.or a b)) := PWm (pw_or (ha.test ia) (pw_or1 (hb.test ib))) fun σ H Q q => rdB_or q
  exact ⟨PEm (pe_or ha.ex (pe_one hb.ex)) fun σ H Q q => rd_or q, fun _ => pt_of_pw w, fun _ _ _ _ => w⟩
theorem snd_orN {a b : E} {x y : PySem.Expr} {ys : List PySem.Expr} {p : Pos} (ha : Snd B F W X x a) (hb : Snd B F W X (.BoolOp .Or (y :: ys) p) b) (ia : notIte a = true) : Snd B F W X (.BoolOp .Or (x :: y :: ys) p) (.or a b) := by
  have w : PW X (.BoolOp .Or (x :: y :: ys) p) (tMB B F W (.or a b)) := PWm (pw_or (ha.test ia) (hb.pw _ _ _ rfl)) fun σ H Q q => rdB_or q
  exact ⟨PEm (pe_or ha.ex hb.ex) fun σ H Q q => rd_or q, fun _ => pt_of_pw w, fun _ _ _ _ => w⟩
theorem snd_not {a : E} {x : PySem.Expr} {p : Pos} (ha : Snd B F W X x a) (ia : notIte a = true) : Snd B F W X (.UnaryOp .Not x p) (.not a) := by
  refine ⟨PEm (pe_not ha.ex) fun σ H Q q => ?_, fun _ => PTm (pt_not (ha.test ia)) fun σ H Q q => ?_, fun _ _ _ q => by cases q⟩
  · obtain ⟨A, env, st, sr, er, p⟩ := q
    simp only [evalE] at p
    refine tM_bind sr er p fun v st1 u H1 A1 e1 s1 er1 r1 p1 => ?_
    cases r1 <;> first | exact p1.elim | skip
    rename_i c
    exact ⟨c, rfl, p1 _ H1 A1 .refl s1 (.bl _)⟩
  · obtain ⟨A, env, st, sr, er, p⟩ := q
    simp only [evalE] at p
    refine ⟨A, env, st, sr, er, ?_⟩
    cases e : evalE F a env st with
    | err => rw [e] at p; exact p
    | exc c st1 => rw [e] at p; exact p
    | ok v st1 =>
      rw [e] at p
      cases v <;> first | exact p.elim | skip
      rename_i c
      exact fun H1 A1 e1 s1 => p H1 A1 e1 s1
theorem snd_ite {c a b : E} {x y z : PySem.Expr} {p : Pos} (hc : Snd B F W X x c) (ha : Snd B F W X y a) (hb : Snd B F W X z b) (ic : notIte c = true) : Snd B F W X (.IfExp x y z p) (.ite c a b) := by
  refine ⟨PEm (pe_ifExp (hc.test ic) ha.ex hb.ex) fun σ H Q q => ?_, fun q => absurd rfl (q _ _ _), fun _ _ _ q => by cases q⟩
  obtain ⟨A, env, st, sr, er, p⟩ := q
  simp only [evalE] at p
  refine tMB_bind sr er p (fun v st hv => onB_no hv) fun b st1 H1 A1 e1 s1 er1 p1 => ?_
  cases b with
  | true => exact ⟨A1, env, st1, s1, er1, p1⟩
  | false => exact ⟨A1, env, st1, s1, er1, p1⟩
theorem cmp_op {o : Op} {q : CmpOp} (h : cmpOf o = some q) : OpR X (compareOp q) (rM2 B o) ∧ q ≠ .In ∧ q ≠ .NotIn := by
  cases o <;> first | (cases h; done) | skip
  · cases h; exact ⟨opr_lt, by decide, by decide⟩
  · cases h; exact ⟨opr_le, by decide, by decide⟩
  · cases h; exact ⟨opr_gt, by decide, by decide⟩
  · cases h; exact ⟨opr_ge, by decide, by decide⟩
theorem nx_isX {r : Res MV} (h : isX r = false) : ∀ c st, r ≠ .exc c st := fun c st e => by rw [e] at h; cases h
theorem rd_chain {o p : Op} {a b c : E} {σ : L2.St} {H : Hp} {Q : VK} (h : tM B F W (.chain o p a b c) σ H Q) : tChain (rM2 B o) (rM2 B p) (tM B F W a) (tM B F W b) (tM B F W c) σ H Q := by
  obtain ⟨A, env, st, sr, er, pp⟩ := h
  simp only [evalE] at pp
  refine tM_bind sr er pp fun x st1 u H1 A1 e1 s1 er1 r1 p1 => tM_bind s1 er1 p1 fun y st2 u2 H2 A2 e2 s2 er2 r2 p2 => ?_
  refine ⟨A2, st2, x, y, s2, r1.mono e2, r2, ?_⟩
  have hx := nx_op o [x, y] st2
  cases hr : runOp o [x, y] st2 with
  | err => rw [hr] at p2; exact p2
  | exc c st3 => exact absurd hr (nx_isX hx _ _)
  | ok v st3 =>
    rw [hr] at p2
    intro z H3 A3 e3 s3 r3
    have p3 := Post.ext e3 p2
    cases r3 <;> first | exact p3.elim | skip
    rename_i d
    refine ⟨d, rfl, ?_⟩
    cases d with
    | false => exact p3 _ H3 A3 .refl s3 (.bl false)
    | true =>
      exact tM_bind s3 (er2.mono e3) p3 fun w st4 u4 H4 A4 e4 s4 er4 r4 p4 => ⟨A4, st4, y, w, s4, (r2.mono e3).mono e4, r4, Post.noX (nx_op _ _ _) p4⟩
theorem snd_chain {o p : Op} {q r : CmpOp} {a b c : E} {x y z : PySem.Expr} {ps : Pos} (ho : cmpOf o = some q) (hp : cmpOf p = some r) (hz : noSet z = true) (ha : PE X x (tM B F W a)) (hb : PE X y (tM B F W b)) (hc : PE X z (tM B F W c)) :
    Snd B F W X (.Compare x [q, r] [y, z] ps) (.chain o p a b c) := by
  have hm : lastMarks [q, r] [y, z] = false := by
    show behindInMarks r z = false
    exact noSet_marks hz
  exact ⟨PEm (pe_chain (cmp_op ho).1 (cmp_op hp).1 ha hb hc hm) fun σ H Q q => rd_chain q, fun _ => PTm (pt_chain (cmp_op ho).1 (cmp_op hp).1 ha hb hc hm) fun σ H Q q => rd_chain (tMB_of q), fun _ _ _ q => by cases q⟩
end
end Mi
set_option Elab.async false
set_option linter.all false
set_option maxRecDepth 100000
set_option maxHeartbeats 1000000
/-! MiIt: enumerate and zip over lists, tuples, texts. -/
namespace Mi
open PySem PySem.Spec PyProof.Rows L2

/-- what an inner iterator walks -/
inductive Sk where
  | lst (a : Addr)
  | tup (a : Addr)
  | str (x : Str)
def Sk.toV : Sk → V
  | .lst a => .ref a
  | .tup a => .ref a
  | .str x => .str x
def Sk.adrs : Sk → List Addr
  | .lst a => [a]
  | .tup a => [a]
  | .str _ => []
def Sk.at (k : Sk) (h : Heap) (it : Addr) (i : Nat) : Prop := match k with
  | .lst a => h.IsListIter it a i
  | .tup a => h.IsTupleIter it a i
  | .str x => ∃ t, h.IsStrIter it (strIterType x) x t i
def charsV (x : Str) : List V := x.cps.toList.map fun c => .str ⟨#[c]⟩
def Sk.has (k : Sk) (K : PySem.W.Frag) (H : Hp) (xs : List V) : Prop := match k with
  | .lst a => SqL K H a xs
  | .tup a => SqT K H a xs
  | .str x => xs = charsV x
theorem Sk.frame {k : Sk} {h h' : Heap} {it : Addr} {i : Nat} (st : k.at h it i) (hk : ∀ o, h.get? it = some o → h'.get? it = some o) : k.at h' it i := by
  cases k with
  | lst a => exact Heap.IsListIter.at st fun o e => hk o e
  | tup a => exact Heap.IsTupleIter.at st fun o e => hk o e
  | str x => obtain ⟨t, o, ho, r⟩ := st; exact ⟨t, o, hk o ho, r⟩
theorem Sk.obj {k : Sk} {h : Heap} {it : Addr} {i : Nat} (st : k.at h it i) : ∃ o, h.get? it = some o ∧ ∀ v, o.data ≠ .cell v := by
  cases k with
  | lst a => obtain ⟨o, e, c, d⟩ := st; exact ⟨o, e, fun v z => by rw [d] at z; cases z⟩
  | tup a => obtain ⟨o, e, c, d⟩ := st; exact ⟨o, e, fun v z => by rw [d] at z; cases z⟩
  | str x => obtain ⟨t, o, e, c, d⟩ := st; exact ⟨o, e, fun v z => by rw [d] at z; cases z⟩
theorem vals_getR : ∀ {xs : List V} {us : List Value}, Vals xs us → ∀ {i : Nat} {u : Value}, us[i]? = some u → ∃ v, xs[i]? = some v ∧ RelV v u
  | _, _, .nil, _, _, h => by simp at h
  | _, _, .cons r _, 0, _, h => by simp at h; subst h; exact ⟨_, rfl, r⟩
  | _, _, .cons _ t, i + 1, _, h => by
    obtain ⟨v, e, r⟩ := vals_getR t (i := i) (by simpa using h)
    exact ⟨v, by simpa using e, r⟩
section
variable {X : Cx} {pins : List (Addr × Obj)} {σ : L2.St} {H : Hp} {s : Shared}
theorem Sk.inj {k : Sk} {xs ys : List V} (I : Inv X pins σ H s) (h : k.has X.K H xs) (h' : k.has X.K H ys) : xs = ys := by
  cases k with
  | lst a => exact I.list_inj h h'
  | tup a => exact I.tuple_inj h h'
  | str x => exact (show xs = _ from h).trans (show ys = _ from h').symm
theorem Sk.draws {k : Sk} {xs : List V} (I : Inv X pins σ H s) (hc : X.calm = true) (h : k.has X.K H xs) {it : Addr} {i : Nat} (st : k.at s.heap it i) (ha : ∀ a ∈ k.adrs, a ≠ it) :
    ∃ P St, Draws X.prog X.w X.A.in1 it (it :: k.adrs) xs.length P St ∧ St i s.heap ∧ (∀ j h', St j h' → k.at h' it j) ∧ ∀ i x, P i x → ∃ v, xs[i]? = some v ∧ RelV v x := by
  have hh : X.A.in1.handled = none := I.ok.hd hc
  cases k with
  | lst a =>
    obtain ⟨its, rv, p, _⟩ := I.list h
    have e : xs.length = its.toArray.size := by rw [List.size_toArray, rv.length]
    rw [e]
    refine ⟨_, _, Draws.list hh it a (ha a (by simp [Sk.adrs])) its.toArray, ⟨st, p.isList⟩, fun j h' z => z.1, fun i x hx => ?_⟩
    have hx : its[i]? = some x := by simpa using hx
    exact vals_getR rv hx
  | tup a =>
    obtain ⟨its, rv, p, _⟩ := I.tuple h
    have e : xs.length = its.toArray.size := by rw [List.size_toArray, rv.length]
    rw [e]
    refine ⟨_, _, Draws.tuple hh it a (ha a (by simp [Sk.adrs])) its.toArray, ⟨st, p⟩, fun j h' z => z.1, fun i x hx => ?_⟩
    have hx : its[i]? = some x := by simpa using hx
    exact vals_getR rv hx
  | str x =>
    cases (show xs = _ from h)
    obtain ⟨t, st⟩ := st
    have e : (charsV x).length = x.cps.size := by simp [charsV]
    rw [e]
    refine ⟨_, _, Draws.text hh it x t, st, fun j h' z => ⟨t, z⟩, fun i v hx => ?_⟩
    obtain ⟨c, u, hx, rfl⟩ := hx
    exact ⟨.str ⟨#[c]⟩, by simp [charsV, hx], ⟨u, rfl⟩⟩
end
/-- the iterator's object -/
def Sk.io (k : Sk) (u : Value) : Obj := match k with
  | .lst a => { cls := .type "list_iterator", data := .fields #[u, .int 0 0] }
  | .tup a => { cls := .type "tuple_iterator", data := .fields #[u, .int 0 0] }
  | .str x => { cls := .type (strIterType x), data := .fields #[u, .int 0 0] }
section
variable {X : Cx} {pins : List (Addr × Obj)} {σ : L2.St} {H : Hp} {s : Shared}
theorem Sk.begins {k : Sk} {xs : List V} {u : Value} (I : Inv X pins σ H s) (h : k.has X.K H xs) (r : RelV k.toV u) : ∃ G : Heap → Prop, Begins u (k.io u) G ∧ G s.heap ∧ (∀ a ∈ k.adrs, a < s.heap.objs.size) ∧ ∀ h' it, h'.get? it = some (k.io u) → k.at h' it 0 := by
  cases k with
  | lst a =>
    obtain ⟨its, rv, p, _⟩ := I.list h
    cases r
    exact ⟨_, begins_list a its.toArray, p.isList, fun b hb => by
      have e : b = a := by simpa [Sk.adrs] using hb
      rw [e]; exact p.lt, fun h' it e => ⟨_, e, rfl, rfl⟩⟩
  | tup a =>
    obtain ⟨its, rv, p, _⟩ := I.tuple h
    cases r
    exact ⟨_, begins_tuple a its.toArray, p, fun b hb => by
      have e : b = a := by simpa [Sk.adrs] using hb
      obtain ⟨o, ho, _⟩ := id p
      rw [e]; exact Heap.lt_size ho, fun h' it e => ⟨_, e, rfl, rfl⟩⟩
  | str x =>
    obtain ⟨t, rfl⟩ := r
    refine ⟨_, begins_text x t, trivial, fun b hb => ?_, fun h' it e => ⟨t, _, e, rfl, rfl⟩⟩
    cases (show b ∈ [] from hb)
end

/-! ### enumerate -/
def IteG (K : PySem.W.Frag) (k : Sk) : It :=
  ⟨fun i H => ∃ (xs : List V) (x : V), k.has K H xs ∧ xs[i]? = some x, fun i H v H' => ∃ T x, v = .ref T ∧ H T = none ∧ H' = upd H T (.tup [.int (i : Nat), x]) ∧ ∀ xs, k.has K H xs → xs[i]? = some x, fun i H => ∃ xs : List V, k.has K H xs ∧ xs.length = i⟩
theorem turn_enumG {P : Program} {w : World} {K : PySem.W.Frag} {elts : List PySem.Expr} {kk : Nat} {tpos : Pos} (k : Sk) (e it : Addr) (hne : e ≠ it) (ha : ∀ a ∈ k.adrs, a ≠ e ∧ a ≠ it) :
    Turn P w K (.Tuple elts kk tpos) (IteG K k) [e, it] e (fun i h => (∃ old, IsEnum h e it ((i : Nat) : Int) old) ∧ k.at h it i) where
  mem := by simp
  obj := fun i h st b hb => by
    obtain ⟨⟨old, he⟩, hi⟩ := st
    have e' : b = e ∨ b = it := by simpa using hb
    rcases e' with z | z
    · rw [z]; exact ⟨_, he, fun v q => nomatch q⟩
    · rw [z]; exact Sk.obj hi
  keep := fun i h h' st k => let ⟨⟨old, he⟩, hi⟩ := st; ⟨⟨old, k e (by simp) _ he⟩, Sk.frame hi fun o q => k it (by simp) o q⟩
  item := by
    intro X hP hw hK hc i pins s σ H E I hf st hg
    subst hP hw hK
    obtain ⟨⟨old, he⟩, hit⟩ := st
    obtain ⟨xs, x, hq, hx⟩ := hg
    obtain ⟨P, St, D, hs, hat, hP⟩ := Sk.draws I hc hq hit fun a h => (ha a h).2
    have hel : e < s.heap.objs.size := Heap.lt_size he
    have hil : it < s.heap.objs.size := by obtain ⟨_, q, _⟩ := Sk.obj hit; exact Heap.lt_size q
    have hef : e ∉ it :: k.adrs := fun hm => by
      rcases List.mem_cons.mp hm with z | z
      · exact hne z
      · exact (ha e z).1 rfl
    refine wpAny_pyNext_enum_itemC D he hs (List.getElem?_eq_some_iff.mp hx).1 hne hef fun u h' tk hu ho hs' hT hsz hk => ?_
    obtain ⟨v, hv, rv⟩ := hP i u hu
    rw [hx] at hv
    cases hv
    have hit' := hat _ _ hs'
    refine ⟨_, rfl, wpAny_letOwnedTupleGo_enum (s := { s with heap := h', toks := tk + 1 }) ho fun h'' he' sb => ?_⟩
    have hT2 : h''.get? s.heap.objs.size = some { cls := .type "tuple", data := .seq #[.int i tk, u] } := (sb.2 _ (Nat.ne_of_gt hel)).trans hT
    have new : ObjOk X.prog X.w (upd H s.heap.objs.size (.tup [.int (i : Nat), x])) h'' s.heap.objs.size (.tup [.int (i : Nat), x]) :=
      ⟨by show 2 ≤ sizeLine; decide, [.int i tk, u], .cons ⟨_, rfl⟩ (.cons rv .nil), ⟨_, hT2, rfl, _, rfl⟩⟩
    have I1 : Inv X pins σ (upd H s.heap.objs.size (.tup [.int (i : Nat), x])) { s with heap := h'', toks := tk + 1 } :=
      I.turnedNew (ch := [e, it]) (fun b ob hb q => (sb.2 b (fun z => hb (by simp [z]))).trans (hk b ob (fun z => hb (by simp [z])) (fun z => hb (by simp [z])) q)) hf (Nat.le_refl _) new
    refine ⟨.ref s.heap.objs.size, _, I1, rfl, ⟨_, x, rfl, I.hok.fresh (Nat.le_refl _), rfl, fun ys hy => by rw [Sk.inj I hy hq]; exact hx⟩, ⟨⟨u, ?_⟩, Sk.frame hit' fun o q => (sb.2 it (Ne.symm hne)).trans q⟩, fun b hb => ?_⟩
    · have e1 : ((i + 1 : Nat) : Int) = (i : Int) + 1 := by omega
      rw [e1]; exact he'
    · have hb' : b < s.heap.objs.size := by
        have e' : b = e ∨ b = it := by simpa using hb
        rcases e' with z | z
        · rw [z]; exact hel
        · rw [z]; exact hil
      rw [upd_ne (Nat.ne_of_lt hb')]
      exact (hf b hb).1
  done := by
    intro X hP hw hK hc i pins s σ H E I hf st hg
    subst hP hw hK
    obtain ⟨⟨old, he⟩, hit⟩ := st
    obtain ⟨xs, hq, hx⟩ := hg
    obtain ⟨P, St, D, hs, hat, hP⟩ := Sk.draws I hc hq hit fun a h => (ha a h).2
    obtain ⟨f0, f1, f2, f3, f4, f5⟩ := hf it (by simp)
    rw [← hx] at hs
    exact wpAny_pyNext_enum_endD D he hs fun h' eb => ⟨rfl, I.turned (t' := s.toks) (fun b o hb q => eb b o hb q) f0 f1 f3 f4 f5⟩
  self := fun A i s Q E st h => let ⟨⟨_, he⟩, _⟩ := st; wpAny_pyIter_enum he h
set_option maxHeartbeats 2000000 in
theorem meets_enum1 {v : Value} {o : Obj} {H : Heap → Prop} (B : Begins v o H) :
    Meets (Builtin.«enumerate.__new__» ⟨[.type "enumerate", v], []⟩) (fun _ R s => H s.heap ∧
      R (.ok (.ret (.ref (s.heap.push o).objs.size))) { s with heap := (s.heap.push o).push { cls := .type "enumerate", data := .fields #[.none, .bool false, .ref s.heap.objs.size, rawInt 0, .none, .none] } }) :=
  .of_wp fun prog w A R s h => by
    obtain ⟨hp, g, d, tk, os⟩ := s; obtain ⟨h1, h⟩ := h
    have hsub := sub_enumerate
    have q1 : ∀ {A' : Around} {E : Value → Shared → Prop} {Q : Value → Shared → Prop}, Q (.ref hp.objs.size) ⟨hp.push o, g, d, tk, os⟩ → wpAny (model prog w) A' (pyIter v) Q E ⟨hp, g, d, tk, os⟩ :=
      fun q => B.iter prog w _ _ ⟨hp, g, d, tk, os⟩ _ h1 q
    wp_walk using q1
    refine wpAny_stack_any fun st => wpAny_pure ?_
    split
    · rename_i c _ _ _ _ _
      cases (c == Value.type "enumerate")
      · wp_walk using q1
        exact ⟨_, rfl, h⟩
      · wp_walk using q1
        exact ⟨_, rfl, h⟩
    · wp_walk using q1
      exact ⟨_, rfl, h⟩
section
variable {prog : Program} {w : World} {A : Around} {E : Value → Shared → Prop} {s : Shared}
theorem enum_begins1 {v : Value} {o : Obj} {H : Heap → Prop} {Q : Value → Shared → Prop} (B : Begins v o H) (h1 : H s.heap)
    (h : ∀ h', IsEnum h' (s.heap.objs.size + 1) s.heap.objs.size 0 .none → h'.get? s.heap.objs.size = some o → h'.objs.size = s.heap.objs.size + 2 →
      (∀ b o, s.heap.get? b = some o → h'.get? b = some o) → Q (.ref (s.heap.objs.size + 1)) { s with heap := h' }) :
    wpAny (model prog w) A (call (.type "enumerate") [v]) Q E s := by
  refine callType_new F.called_enumerate (by decide) (F.typeCall_enumerate_1 _) (F.newCall_enumerate_1 _) (fun obj => F.args_object_init_2 obj _) F.entry_enumerate_new
    (meets_enum1 B) ⟨h1, ?_⟩
  have hz : (s.heap.push o).objs.size = s.heap.objs.size + 1 := Heap.size_push ..
  show _ ∧ _
  rw [hz]
  have he : IsEnum ((s.heap.push o).push { cls := .type "enumerate", data := .fields #[.none, .bool false, .ref s.heap.objs.size, rawInt 0, .none, .none] }) (s.heap.objs.size + 1) s.heap.objs.size 0 .none := by
    have := Heap.get?_push_size (s.heap.push o) (o := { cls := .type "enumerate", data := .fields #[.none, .bool false, .ref s.heap.objs.size, rawInt 0, .none, .none] }) rfl
    rw [hz] at this; exact this
  refine ⟨⟨_, he, rfl⟩, h _ he (Heap.get?_push_of_some _ (Heap.get?_push_size _ B.free)) (by rw [Heap.size_push, hz]) fun b o x => Heap.get?_push_of_some _ (Heap.get?_push_of_some _ x)⟩
end
def iEnumG (K : PySem.W.Frag) (ta : TA) : TI := fun σ H R => ta σ H fun vs H1 => ∃ k xs, vs = [k.toV] ∧ Sk.has k K H1 xs ∧ R (IteG K k) H1
theorem pi_enumG {X : Cx} {e : PySem.Expr} {ta : TA} {p pos tpos : Pos} {elts : List PySem.Expr} {kk : Nat} (hg : Gl X "enumerate") (hm : X.mg "enumerate" = none) (ha : PA X [e] ta) (hs : starEach [e] X.env = [(false, eval e X.env)]) :
    PI X (.Tuple elts kk tpos) (.Call (.Name "enumerate" p) [e] [] pos) (iEnumG X.K ta) := by
  refine ⟨fun pins s σ H R I h => ?_⟩
  refine Call_ (ld_blt I hg hm boot_enumerate (PyProof.Rows.callWith_type1 (thn (ha.run pos pins s σ H _ I h) fun us s1 ⟨vs, H1, I1, r1, q1⟩ => ?_) hs rfl))
  obtain ⟨k, xs, ex, hq, q⟩ := q1
  subst ex
  cases r1 with
  | cons r rr =>
    cases rr
    obtain ⟨G, B, hG, hlt, hat⟩ := Sk.begins I1 hq r
    refine enum_begins1 B hG fun h' he hit hsz hk => wpAny_pyIter_enum he ?_
    have I2 : Inv X pins σ H1 { s1 with heap := h' } := I1.kept (t' := s1.toks) hk
    refine ⟨s1.heap.objs.size + 1, [s1.heap.objs.size + 1, s1.heap.objs.size], _, _, H1, rfl, I2, turn_enumG k (s1.heap.objs.size + 1) s1.heap.objs.size (Nat.succ_ne_self _) (fun a ha => ?_), ⟨⟨.none, he⟩, hat _ _ hit⟩, fun b hb => ?_, q⟩
    · have := hlt a ha
      exact ⟨Nat.ne_of_lt (Nat.lt_succ_of_lt this), Nat.ne_of_lt this⟩
    · have e' : b = s1.heap.objs.size + 1 ∨ b = s1.heap.objs.size := by simpa using hb
      have hle : s1.heap.objs.size ≤ b := by
        rcases e' with z | z
        · rw [z]; exact Nat.le_add_right _ _
        · rw [z]; exact Nat.le_refl _
      exact I1.fpOk hle (I1.hok.fresh hle)

/-! ### zip -/
def ItzG (K : PySem.W.Frag) (k1 k2 : Sk) : It :=
  ⟨fun i H => ∃ (xs ys : List V) (x y : V), k1.has K H xs ∧ k2.has K H ys ∧ xs[i]? = some x ∧ ys[i]? = some y,
    fun i H v H' => ∃ T x y, v = .ref T ∧ H T = none ∧ H' = upd H T (.tup [x, y]) ∧ (∀ xs, k1.has K H xs → xs[i]? = some x) ∧ ∀ ys, k2.has K H ys → ys[i]? = some y,
    fun i H => ∃ xs ys : List V, k1.has K H xs ∧ k2.has K H ys ∧ i ≤ xs.length ∧ i ≤ ys.length ∧ (i = xs.length ∨ i = ys.length)⟩
theorem turn_zipG {P : Program} {w : World} {K : PySem.W.Frag} {elts : List PySem.Expr} {kk : Nat} {tpos : Pos} {k1 k2 : Sk} {z TI TO i1 i2 : Addr} (S : ZipSep2 z TI TO i1 i2 (i1 :: k1.adrs) (i2 :: k2.adrs)) (ha1 : ∀ a ∈ k1.adrs, a ≠ i1) (ha2 : ∀ a ∈ k2.adrs, a ≠ i2) :
    Turn P w K (.Tuple elts kk tpos) (ItzG K k1 k2) [z, TI, TO, i1, i2] z (fun i h => IsZip h z TI TO .none ∧ IsTupOf2 h TI (.ref i1) (.ref i2) ∧ (∃ x y, IsTupOf2 h TO x y) ∧ k1.at h i1 i ∧ k2.at h i2 i) where
  mem := by simp
  obj := fun i h st c hc => by
    obtain ⟨hz, hTI, ⟨x, y, hTO⟩, h1, h2⟩ := st
    have e' : c = z ∨ c = TI ∨ c = TO ∨ c = i1 ∨ c = i2 := by simpa using hc
    rcases e' with q | q | q | q | q
    · rw [q]; exact ⟨_, hz, fun v q => nomatch q⟩
    · rw [q]; exact ⟨_, hTI, fun v q => nomatch q⟩
    · rw [q]; exact ⟨_, hTO, fun v q => nomatch q⟩
    · rw [q]; exact Sk.obj h1
    · rw [q]; exact Sk.obj h2
  keep := fun i h h' st k => by
    obtain ⟨hz, hTI, ⟨x, y, hTO⟩, h1, h2⟩ := st
    exact ⟨k z (by simp) _ hz, k TI (by simp) _ hTI, ⟨x, y, k TO (by simp) _ hTO⟩, Sk.frame h1 fun o q => k i1 (by simp) o q, Sk.frame h2 fun o q => k i2 (by simp) o q⟩
  item := by
    intro X hP hw hK hc i pins s σ H E I hf st hg
    subst hP hw hK
    obtain ⟨hz, hTI, ⟨x0, y0, hTO⟩, h1, h2⟩ := st
    obtain ⟨xs, ys, x, y, hqx, hqy, hx, hy⟩ := hg
    obtain ⟨P1, St1, D1, hs1, hat1, hP1⟩ := Sk.draws I hc hqx h1 ha1
    obtain ⟨P2, St2, D2, hs2, hat2, hP2⟩ := Sk.draws I hc hqy h2 ha2
    have hzl : z < s.heap.objs.size := Heap.lt_size hz
    refine wpAny_pyNext_zipD2_item S D1 D2 hz hTI hTO hs1 hs2 (List.getElem?_eq_some_iff.mp hx).1 (List.getElem?_eq_some_iff.mp hy).1 fun u u2 h' tk hu hu2 z' TO' h1' h2' hT hsz hk => ?_
    obtain ⟨v, hv, rv⟩ := hP1 i u hu
    rw [hx] at hv
    cases hv
    obtain ⟨v2, hv2, rv2⟩ := hP2 i u2 hu2
    rw [hy] at hv2
    cases hv2
    refine ⟨_, rfl, wpAny_letOwnedTupleGo_zip (s := { s with heap := h', toks := tk }) z' fun h'' z'' sb => ?_⟩
    have hT2 : h''.get? s.heap.objs.size = some { cls := .type "tuple", data := .seq #[u, u2] } := (sb.2 _ (Nat.ne_of_gt hzl)).trans hT
    have new : ObjOk X.prog X.w (upd H s.heap.objs.size (.tup [x, y])) h'' s.heap.objs.size (.tup [x, y]) :=
      ⟨by show 2 ≤ sizeLine; decide, [u, u2], .cons rv (.cons rv2 .nil), ⟨_, hT2, rfl, _, rfl⟩⟩
    have I1 : Inv X pins σ (upd H s.heap.objs.size (.tup [x, y])) { s with heap := h'', toks := tk } :=
      I.turnedNew (t' := tk) (ch := [z, TI, TO, i1, i2]) (fun c o hb q => (sb.2 c (fun q' => hb (by simp [q']))).trans (hk c o (fun q' => hb (by simp [q'])) (fun q' => hb (by simp [q'])) (fun q' => hb (by simp [q'])) (fun q' => hb (by simp [q'])) q)) hf (Nat.le_refl _) new
    refine ⟨.ref s.heap.objs.size, _, I1, rfl, ⟨_, x, y, rfl, I.hok.fresh (Nat.le_refl _), rfl, fun l hl => by rw [Sk.inj I hl hqx]; exact hx, fun l hl => by rw [Sk.inj I hl hqy]; exact hy⟩, ⟨z'', ?_, ⟨u, u2, ?_⟩, ?_, ?_⟩, fun c hcm => ?_⟩
    · exact (sb.2 _ S.TIz).trans (hk _ _ S.TIz S.TITO S.TIi1 S.TIi2 hTI)
    · exact (sb.2 _ S.TOz).trans TO'
    · exact Sk.frame (hat1 _ _ h1') fun o q => (sb.2 _ S.zi1.symm).trans q
    · exact Sk.frame (hat2 _ _ h2') fun o q => (sb.2 _ S.zi2.symm).trans q
    · have hlt : c < s.heap.objs.size := by
        have e' : c = z ∨ c = TI ∨ c = TO ∨ c = i1 ∨ c = i2 := by simpa using hcm
        rcases e' with q | q | q | q | q
        · rw [q]; exact hzl
        · rw [q]; exact Heap.lt_size hTI
        · rw [q]; exact Heap.lt_size hTO
        · rw [q]; obtain ⟨_, e1, _⟩ := Sk.obj h1; exact Heap.lt_size e1
        · rw [q]; obtain ⟨_, e2, _⟩ := Sk.obj h2; exact Heap.lt_size e2
      rw [upd_ne (Nat.ne_of_lt hlt)]
      exact (hf c hcm).1
  done := by
    intro X hP hw hK hc i pins s σ H E I hf st hg
    subst hP hw hK
    obtain ⟨hz, hTI, ⟨x0, y0, hTO⟩, h1, h2⟩ := st
    obtain ⟨xs, ys, hqx, hqy, l1, l2, hend⟩ := hg
    obtain ⟨P1, St1, D1, hs1, hat1, hP1⟩ := Sk.draws I hc hqx h1 ha1
    obtain ⟨P2, St2, D2, hs2, hat2, hP2⟩ := Sk.draws I hc hqy h2 ha2
    exact wpAny_pyNext_zipD2_end S D1 D2 hz hTI hTO hs1 hs2 l1 l2 hend fun h' tk hk => ⟨rfl, I.turnedL (t' := tk) (ch := [z, TI, TO, i1, i2]) (fun c o hb q =>
      hk c o (fun q' => hb (by simp [q'])) (fun q' => hb (by simp [q'])) (fun q' => hb (by simp [q'])) (fun q' => hb (by simp [q'])) q) hf⟩
  self := fun A i s Q E st h => wpAny_pyIter_zip st.1 h
def iZipG (K : PySem.W.Frag) (ta : TA) : TI := fun σ H R => ta σ H fun vs H1 => ∃ k1 k2 xs ys, vs = [k1.toV, k2.toV] ∧ Sk.has k1 K H1 xs ∧ Sk.has k2 K H1 ys ∧ R (ItzG K k1 k2) H1
theorem pi_zipG {X : Cx} {e e2 : PySem.Expr} {ta : TA} {p pos tpos : Pos} {elts : List PySem.Expr} {kk : Nat} (hg : Gl X "zip") (hm : X.mg "zip" = none) (ha : PA X [e, e2] ta)
    (hs : starEach [e, e2] X.env = (false, eval e X.env) :: starEach [e2] X.env) (hpl : (backTo pos (starEach [e2] X.env)).any (·.1) = false) :
    PI X (.Tuple elts kk tpos) (.Call (.Name "zip" p) [e, e2] [] pos) (iZipG X.K ta) := by
  refine ⟨fun pins s σ H R I h => ?_⟩
  refine Call_ (ld_blt I hg hm PyProof.Rows.boot_zip (PyProof.Rows.callWith_type1 (thn (ha.run pos pins s σ H _ I h) fun us s1 ⟨vs, H1, I1, r1, q1⟩ => ?_) hs hpl))
  obtain ⟨k1, k2, xs, ys, ex, hqx, hqy, q⟩ := q1
  subst ex
  cases r1 with
  | cons r rr =>
    cases rr with
    | cons r' rr =>
      cases rr
      obtain ⟨G1, B1, hG1, hlt1, hat1⟩ := Sk.begins I1 hqx r
      obtain ⟨G2, B2, hG2, hlt2, hat2⟩ := Sk.begins I1 hqy r'
      refine zip_begins2 B1 B2 hG1 hG2 fun h' hz hTI hTO h1 h2 hsz hk => wpAny_pyIter_zip hz ?_
      have I2 : Inv X pins σ H1 { s1 with heap := h' } := I1.kept (t' := s1.toks) hk
      refine ⟨s1.heap.objs.size + 4, [s1.heap.objs.size + 4, s1.heap.objs.size + 2, s1.heap.objs.size + 3, s1.heap.objs.size, s1.heap.objs.size + 1], _, _, H1, rfl, I2, turn_zipG (zip_sep2 hlt1 hlt2) (fun a ha => Nat.ne_of_lt (hlt1 a ha)) (fun a ha => Nat.ne_of_lt (Nat.lt_succ_of_lt (hlt2 a ha))), ⟨hz, hTI, ⟨_, _, hTO⟩, hat1 _ _ h1, hat2 _ _ h2⟩, fun c hcm => ?_, q⟩
      have e' : c = s1.heap.objs.size + 4 ∨ c = s1.heap.objs.size + 2 ∨ c = s1.heap.objs.size + 3 ∨ c = s1.heap.objs.size ∨ c = s1.heap.objs.size + 1 := by simpa using hcm
      have hle : s1.heap.objs.size ≤ c := by
        rcases e' with z | z | z | z | z
        · rw [z]; exact Nat.le_add_right _ _
        · rw [z]; exact Nat.le_add_right _ _
        · rw [z]; exact Nat.le_add_right _ _
        · rw [z]; exact Nat.le_refl _
        · rw [z]; exact Nat.le_add_right _ _
      exact I1.fpOk hle (I1.hok.fresh hle)
end Mi
set_option Elab.async false
set_option linter.all false
set_option maxRecDepth 100000
set_option maxHeartbeats 1000000
/-! MiIt2: targets; what a walk yields. -/
namespace Mi
open PySem PySem.Spec PyProof.Rows L2
section
variable {B : Fix} {F : Fn} {lv : Nat} {k : Ck} {W : WS} {X : Cx}

/-! ### targets -/
theorem wipe_set {σ : L2.St} {i : Nat} {v : Option V} : ∀ {vs : List Nat}, i ∈ vs → L2.wipe (σ.set i v) vs = L2.wipe σ vs
  | [], h => by cases h
  | a :: vs, h => by
    unfold L2.wipe
    by_cases ha : i ∈ vs
    · rw [wipe_set ha]
    · have e : i = a := by
        rcases List.mem_cons.mp h with h | h
        · exact h
        · exact absurd h ha
      subst e
      have key : ∀ (l : List Nat), i ∉ l → L2.wipe (σ.set i v) l = (L2.wipe σ l).set i v := by
        intro l
        induction l with
        | nil => intro _; rfl
        | cons b l ih =>
          intro hb
          unfold L2.wipe
          rw [ih (fun h => hb (List.mem_cons_of_mem _ h)), List.set_comm _ _ (fun e => hb (by rw [e]; exact List.mem_cons_self ..))]
      rw [key vs ha, List.set_set]
/-- what is wanted behind a binding -/
def GP (B : Fix) (A : List Addr) (H : Hp) (tg : Tg) (σ : L2.St) (Q : L2.St → Hp → Prop) : Option Env → Prop
  | some env => ∀ σ', ER B H A σ' env → (∀ vs, tgIn tg vs = true → L2.wipe σ' vs = L2.wipe σ vs) → Q σ' H
  | none => False
def gM (B : Fix) (tg : Tg) : TG := fun v σ H Q => ∃ A st x env, SR B H A st ∧ ER B H A σ env ∧ RV B H A x v ∧ GP B A H tg σ Q (bindT st tg x env)
def gMs (B : Fix) (tg : Tg) : TGs := fun vs σ H Q => ∃ A st xs env, SR B H A st ∧ ER B H A σ env ∧ RVs B H A xs vs ∧ GP B A H tg σ Q (bindT st tg (.tup xs) env)
theorem PGm {e : PySem.Expr} {t t' : TG} (h : PG X e t) (m : ∀ v σ H Q, t' v σ H Q → t v σ H Q) : PG X e t' := ⟨fun pins s σ H v u Q I r q => h.run pins s σ H v u Q I r (m _ _ _ _ q)⟩
theorem PGsm {e : List PySem.Expr} {t t' : TGs} (h : PGs X e t) (m : ∀ v σ H Q, t' v σ H Q → t v σ H Q) : PGs X e t' := ⟨fun pins s σ H v u Q I r q => h.run pins s σ H v u Q I r (m _ _ _ _ q)⟩
theorem PGor {e : PySem.Expr} {t t' : TG} (h : PG X e t) (h' : PG X e t') : PG X e (fun v σ H Q => t v σ H Q ∨ t' v σ H Q) := ⟨fun pins s σ H v u Q I r q => q.elim (h.run pins s σ H v u Q I r) (h'.run pins s σ H v u Q I r)⟩
theorem ae_cons {e : PySem.Expr} (h : notStar e = true) (es : List PySem.Expr) (env : PySem.Env) : assignEach (e :: es) env = (false, assign e env) :: assignEach es env := by
  cases e <;> first | rfl | cases h
theorem ae_len : ∀ (es : List PySem.Expr) (env : PySem.Env), (assignEach es env).length = es.length
  | [], _ => rfl
  | e :: es, env => by
    have ih := ae_len es env
    cases e <;> (simp only [assignEach, List.length_cons, ih])
theorem ae_st : ∀ {es : List PySem.Expr} {env : PySem.Env}, es.all notStar = true → (assignEach es env).findIdx? (·.1) = none
  | [], _, _ => rfl
  | e :: es, env, h => by
    rw [List.all_cons, Bool.and_eq_true] at h
    rw [ae_cons h.1, List.findIdx?_cons, ae_st h.2]
    rfl
theorem tgC_star : ∀ {r : Tg} {es : List PySem.Expr}, tg1 r = false → tgC r k es = true → es.all notStar = true
  | .name _, _, h, _ => by cases h
  | .tup _, _, h, _ => by cases h
  | .nil, es, _, h => by
    cases es with
    | nil => rfl
    | cons _ _ => cases h
  | .cons a r, es, _, h => by
    cases es with
    | nil => cases h
    | cons e es =>
      simp only [tgC, Bool.and_eq_true] at h
      rw [List.all_cons, h.1, Bool.true_and]
      cases hr : tg1 r with
      | false => exact tgC_star hr h.2.2
      | true =>
        have h2 := h.2.2
        cases r <;> first | (cases hr; done) | skip
        · simp only [tgC] at h2
          split at h2
          · rfl
          · cases h2
        · simp only [tgC] at h2
          split at h2
          · rfl
          · cases h2
theorem bindT_len {st : Store} : ∀ {r : Tg} {es : List PySem.Expr} {xs : List MV} {env env' : Env}, tgW r = true → tg1 r = false → tgC r k es = true → bindT st r (.tup xs) env = some env' → xs.length = es.length
  | .name _, _, _, _, _, _, h, _, _ => by cases h
  | .tup _, _, _, _, _, _, h, _, _ => by cases h
  | .nil, es, xs, env, env', _, _, h, hb => by
    cases es with
    | cons _ _ => cases h
    | nil =>
      cases xs with
      | nil => rfl
      | cons _ _ => cases hb
  | .cons a r, es, xs, env, env', hw, _, h, hb => by
    simp only [tgW, Bool.and_eq_true, Bool.not_eq_true'] at hw
    cases es with
    | nil => cases h
    | cons e es =>
      simp only [tgC, Bool.and_eq_true] at h
      cases xs with
      | nil => cases hb
      | cons x xs =>
        simp only [bindT] at hb
        cases e1 : bindT st a x env with
        | none => rw [e1] at hb; cases hb
        | some env1 =>
          rw [e1] at hb
          rw [List.length_cons, List.length_cons, bindT_len hw.2.2.2 hw.2.1 h.2.2 hb]
theorem pg_M (g : GoodX B F lv k W X) : ∀ tg : Tg, tgW tg = true → (∀ e, tg1 tg = true → tgC tg k [e] = true → PG X e (gM B tg)) ∧ (∀ es, tg1 tg = false → tgC tg k es = true → PGs X es (gMs B tg)) := by
  intro tg
  induction tg with
  | name i =>
    intro _
    refine ⟨fun e _ h => ?_, fun es h => (by cases h)⟩
    simp only [tgC] at h
    split at h
    · rename_i x p q
      cases q
      rw [Bool.and_eq_true, decide_eq_true_eq] at h
      obtain ⟨h1, h2⟩ := h
      have hl : L2.Loc X.env.scope x ∧ (X.fn x = true ∨ X.env.scope.names.lookup x = some .local) := by
        unfold L2.Loc
        rw [g.sc]
        split at h2
        · rename_i e
          exact ⟨.inl e, .inr e⟩
        · rename_i e
          split at h2
          · rename_i e2
            exact ⟨.inr e, .inl (g.fn x e2)⟩
          · cases h2
        · cases h2
      refine PGm (pg_name (by rw [g.N]; exact g.nd) (by rw [g.N]; exact h1) hl.1 hl.2) fun v σ H Q z => ?_
      obtain ⟨A, st, x', env, sr, er, rv, q⟩ := z
      exact q _ (er.set rv) fun vs hv => wipe_set (by simpa [tgIn] using hv)
    · cases h
  | nil =>
    intro _
    refine ⟨fun e h => (by cases h), fun es _ h => ?_⟩
    cases es with
    | cons _ _ => cases h
    | nil =>
      refine PGsm pgs_nil fun vs σ H Q z => ?_
      obtain ⟨A, st, xs, env, sr, er, rv, q⟩ := z
      cases rv with
      | nil => exact ⟨rfl, q σ er fun _ _ => rfl⟩
      | cons _ _ => exact q.elim
  | cons a r iha ihr =>
    intro hw
    simp only [tgW, Bool.and_eq_true, Bool.not_eq_true'] at hw
    refine ⟨fun e h => (by cases h), fun es _ h => ?_⟩
    cases es with
    | nil => cases h
    | cons e es =>
      simp only [tgC, Bool.and_eq_true] at h
      have pa := (iha hw.2.2.1).1 e hw.1 h.2.1
      have pr := (ihr hw.2.2.2).2 es hw.2.1 h.2.2
      refine PGsm (pgs_cons pa pr (by rw [ae_cons h.1]; rfl)) fun vs σ H Q z => ?_
      obtain ⟨A, st, xs, env, sr, er, rv, q⟩ := z
      cases rv with
      | nil => exact q.elim
      | cons r1 rs =>
        rename_i x v xs vs
        refine ⟨v, vs, rfl, A, st, x, env, sr, er, r1, ?_⟩
        simp only [bindT] at q
        cases e1 : bindT st a x env with
        | none => rw [e1] at q; exact q
        | some env1 =>
          rw [e1] at q
          intro σ' er' hw'
          refine ⟨A, st, xs, env1, sr, er', rs, ?_⟩
          replace q : GP B A H (.cons a r) σ Q (bindT st r (.tup xs) env1) := q
          cases e2 : bindT st r (.tup xs) env1 with
          | none => rw [e2] at q; exact q
          | some env2 =>
            rw [e2] at q
            intro σ2 er2 hw2
            refine q σ2 er2 fun ws hs => ?_
            simp only [tgIn, Bool.and_eq_true] at hs
            rw [hw2 ws hs.2.2, hw' ws hs.2.1]
  | tup r ih =>
    intro hw
    simp only [tgW, Bool.and_eq_true, Bool.not_eq_true'] at hw
    refine ⟨fun e _ h => ?_, fun es h => (by cases h)⟩
    simp only [tgC] at h
    split at h
    · rename_i xs kk p q
      cases q
      have pr := (ih hw.2).2 xs hw.1 h
      have hst := ae_st (env := X.env) (tgC_star hw.1 h)
      refine PGm (PGor (pg_tup g.calm pr (ae_len _ _) hst) (pg_lst g.calm pr (ae_len _ _) hst)) fun v σ H Q z => ?_
      obtain ⟨A, st, x, env, sr, er, rv, q⟩ := z
      simp only [bindT] at q
      cases e1 : seqOf st x with
      | none => rw [e1] at q; exact q.elim
      | some ys =>
        rw [e1] at q
        obtain ⟨p, vs, rfl, hq, rs, hl⟩ := seq_of sr rv e1
        replace q : GP B A H (.tup r) σ Q (bindT st r (.tup ys) env) := q
        have hlen : vs.length = xs.length := by
          rw [← rs.length]
          cases e2 : bindT st r (.tup ys) env with
          | none => rw [e2] at q; exact q.elim
          | some env' => exact bindT_len hw.2 hw.1 h e2
        have key : gMs B r vs σ H Q := by
          refine ⟨A, st, ys, env, sr, er, rs, ?_⟩
          cases e2 : bindT st r (.tup ys) env with
          | none => rw [e2] at q; exact q
          | some env' =>
            rw [e2] at q
            intro σ' er' hw'
            refine q σ' er' fun ws hs => ?_
            simp only [tgIn, Bool.and_eq_true] at hs
            exact hw' ws hs.2
        rcases hq with hq | hq
        · exact .inr ⟨p, vs, rfl, by rw [g.on.K]; exact hq, hlen, key⟩
        · exact .inl ⟨p, vs, rfl, by rw [g.on.K]; exact hq, hlen, key⟩
    · cases h
end
end Mi
set_option Elab.async false
set_option linter.all false
set_option maxRecDepth 100000
set_option maxHeartbeats 1000000
/-! MiIt3: what a walk yields. -/
namespace Mi
open PySem PySem.Spec PyProof.Rows L2

/-- an item comes -/
def YR (B : Fix) (A0 : List Addr) (H0 : Hp) (v : MV) (x : V) (H H' : Hp) : Prop :=
  (H' = H ∧ RV B H0 A0 v x) ∨ ∃ T ps us, v = .tup ps ∧ RVs B H0 A0 ps us ∧ ps.length ≤ lim ∧ x = .ref T ∧ H T = none ∧ H' = upd H T (.tup us)
structure Wk (B : Fix) (J : It) (xs : List MV) (A0 : List Addr) (H0 : Hp) : Prop where
  go : ∀ i A H, Ext A0 A H0 H → i < xs.length → J.go i H
  yld : ∀ i A H x H', Ext A0 A H0 H → J.yld i H x H' → ∀ v, xs[i]? = some v → YR B A0 H0 v x H H'
  stop : ∀ A H, Ext A0 A H0 H → J.stop xs.length H
section
variable {B : Fix} {F : Fn} {lv : Nat} {k : Ck} {W : WS} {X : Cx} {A A0 : List Addr} {H H' H0 : Hp} {st : Store}
theorem YR.here {v : MV} {x : V} (y : YR B A0 H0 v x H H') (e : Ext A0 A H0 H) (s : SR B H A st) : Ext A A H H' ∧ SR B H' A st ∧ RV B H' A v x := by
  rcases y with ⟨rfl, r⟩ | ⟨T, ps, us, rfl, r, l, rfl, hT, rfl⟩
  · exact ⟨.refl, s, r.mono e⟩
  · exact ⟨Ext.upd hT, s.side hT, .tup (.inl ⟨.inl upd_same, s.notA hT, s.notZ hT⟩) ((r.mono e).mono (Ext.upd hT)) l⟩
theorem wk_list {a : Addr} {xs : List MV} {vs : List V} (r : RVs B H A xs vs) (h : ∀ A' H', Ext A A' H H' → SqL B.K H' a vs) : Wk B (Itl B.K a) xs A H where
  go := fun i A' H' e hi => by
    have hv : i < vs.length := by rw [← r.length]; exact hi
    exact ⟨vs, vs[i], h A' H' e, List.getElem?_eq_getElem hv⟩
  yld := fun i A' H' x H'' e y v hv => by
    obtain ⟨rfl, y⟩ := y
    obtain ⟨u, hu, ru⟩ := r.get hv
    have := y vs (h A' _ e)
    rw [hu] at this
    cases this
    exact .inl ⟨rfl, ru⟩
  stop := fun A' H' e => ⟨vs, h A' H' e, by rw [r.length]; exact Nat.le_refl _⟩
theorem wk_tup {a : Addr} {xs : List MV} {vs : List V} (r : RVs B H A xs vs) (h : ∀ A' H', Ext A A' H H' → SqT B.K H' a vs) : Wk B (Itt B.K a) xs A H where
  go := fun i A' H' e hi => by
    have hv : i < vs.length := by rw [← r.length]; exact hi
    exact ⟨vs, vs[i], h A' H' e, List.getElem?_eq_getElem hv⟩
  yld := fun i A' H' x H'' e y v hv => by
    obtain ⟨rfl, y⟩ := y
    obtain ⟨u, hu, ru⟩ := r.get hv
    have := y vs (h A' _ e)
    rw [hu] at this
    cases this
    exact .inl ⟨rfl, ru⟩
  stop := fun A' H' e => ⟨vs, h A' H' e, by rw [r.length]; exact Nat.le_refl _⟩
theorem wk_keys {d : Addr} {o : Obj} {kvs : List (Str × MV)} {ks : List (Key × V)} (r : RKs B H A kvs ks) (h : H d = some (.frz o (.dK ks))) : Wk B (Itk d o ks) (kvs.map fun kv => .str kv.1) A H where
  go := fun i A' H' e hi => ⟨e.frz _ _ _ h, by rw [← r.length]; simpa using hi⟩
  yld := fun i A' H' x H'' e y v hv => by
    obtain ⟨rfl, key, val, hk, rfl⟩ := y
    obtain ⟨u, hu, ru⟩ := r.keys.get hv
    rw [List.getElem?_map, hk] at hu
    cases hu
    exact .inl ⟨rfl, ru⟩
  stop := fun A' H' e => ⟨e.frz _ _ _ h, by rw [List.length_map, r.length]; exact Nat.le_refl _⟩
theorem rvs_chars (x : Str) : RVs B H A (chars x) (charsV x) := by
  unfold chars charsV
  induction x.cps.toList with
  | nil => exact .nil
  | cons c l ih => exact .cons (.str _) ih
theorem wk_str {x : Str} : Wk B (Its x) (chars x) A H where
  go := fun i A' H' e hi => show i < x.cps.size by simpa [chars] using hi
  yld := fun i A' H' v H'' e y w hw => by
    obtain ⟨rfl, c, hc, rfl⟩ := y
    have hw : (chars x)[i]? = some w := hw
    simp only [chars, List.getElem?_map] at hw
    rw [show x.cps.toList[i]? = some c by simpa using hc] at hw
    cases hw
    exact .inl ⟨rfl, .str _⟩
  stop := fun A' H' e => by simp [chars, Its]
theorem wk_range {n : Nat} : Wk B (Itr 0 n) ((List.range n).map fun (i : Nat) => .int i) A H where
  go := fun i A' H' e hi => show i < n by simpa using hi
  yld := fun i A' H' v H'' e y w hw => by
    obtain ⟨rfl, rfl⟩ := y
    rw [List.getElem?_map] at hw
    cases hr : (List.range n)[i]? with
    | none => rw [hr] at hw; cases hw
    | some j =>
      rw [hr] at hw
      cases hw
      have := List.getElem?_eq_some_iff.mp hr
      obtain ⟨_, e⟩ := this
      rw [List.getElem_range] at e
      subst e
      refine .inl ⟨rfl, ?_⟩
      rw [Int.zero_add]
      exact .int _
  stop := fun A' H' e => by simp [Itr]
theorem wk_range3 {a : Int} {n : Nat} : Wk B (Itc a (-1) n) ((List.range n).map fun (i : Nat) => .int (a - i)) A H where
  go := fun i A' H' e hi => show i < n by simpa using hi
  yld := fun i A' H' v H'' e y w hw => by
    obtain ⟨rfl, rfl⟩ := y
    rw [List.getElem?_map] at hw
    cases hr : (List.range n)[i]? with
    | none => rw [hr] at hw; cases hw
    | some j =>
      rw [hr] at hw
      cases hw
      have := List.getElem?_eq_some_iff.mp hr
      obtain ⟨_, e⟩ := this
      rw [List.getElem_range] at e
      subst e
      refine .inl ⟨rfl, ?_⟩
      have e : a + ((i : Nat) : Int) * (-1) = a - i := by omega
      rw [e]
      exact .int _
  stop := fun A' H' e => by simp [Itc]
theorem wk_enum {q : Sk} {xs : List MV} {vs : List V} (r : RVs B H A xs vs) (h : ∀ A' H', Ext A A' H H' → q.has B.K H' vs) : Wk B (IteG B.K q) (enumL xs) A H where
  go := fun i A' H' e hi => by
    have hv : i < vs.length := by rw [← r.length]; simpa [enumL] using hi
    exact ⟨vs, vs[i], h A' H' e, List.getElem?_eq_getElem hv⟩
  yld := fun i A' H' x H'' e y v hv => by
    obtain ⟨T, u, rfl, hT, rfl, y⟩ := y
    have hu := y vs (h A' _ e)
    obtain ⟨w, hw, rw'⟩ := r.getV hu
    have hx : (enumL xs)[i]? = some (.tup [.int i, w]) := by
      simp only [enumL, List.getElem?_map, List.getElem?_zipIdx, hw]
      simp
    have hv : (enumL xs)[i]? = some v := hv
    rw [hx] at hv
    cases hv
    exact .inr ⟨T, _, _, rfl, .cons (.int _) (.cons rw' .nil), by show 2 ≤ lim; decide, rfl, hT, rfl⟩
  stop := fun A' H' e => ⟨vs, h A' H' e, by rw [← r.length]; simp [enumL]⟩
theorem wk_zip {q1 q2 : Sk} {xs ys : List MV} {vs us : List V} (r : RVs B H A xs vs) (r2 : RVs B H A ys us) (h : ∀ A' H', Ext A A' H H' → q1.has B.K H' vs) (h2 : ∀ A' H', Ext A A' H H' → q2.has B.K H' us) : Wk B (ItzG B.K q1 q2) (zipL xs ys) A H where
  go := fun i A' H' e hi => by
    have hi : i < (zipL xs ys).length := hi
    simp only [zipL, List.length_map, List.length_zip] at hi
    have hv : i < vs.length := by rw [← r.length]; omega
    have hv2 : i < us.length := by rw [← r2.length]; omega
    exact ⟨vs, us, vs[i], us[i], h A' H' e, h2 A' H' e, List.getElem?_eq_getElem hv, List.getElem?_eq_getElem hv2⟩
  yld := fun i A' H' x H'' e y v hv => by
    obtain ⟨T, u, u2, rfl, hT, rfl, y, y2⟩ := y
    have hu := y vs (h A' _ e)
    have hu2 := y2 us (h2 A' _ e)
    obtain ⟨w, hw, rw'⟩ := r.getV hu
    obtain ⟨w2, hw2, rw2⟩ := r2.getV hu2
    have hx : (zipL xs ys)[i]? = some (.tup [w, w2]) := by
      simp only [zipL, List.getElem?_map, List.getElem?_zip_eq_some]
      have : (xs.zip ys)[i]? = some (w, w2) := List.getElem?_zip_eq_some.mpr ⟨hw, hw2⟩
      rw [this]
      rfl
    have hv : (zipL xs ys)[i]? = some v := hv
    rw [hx] at hv
    cases hv
    exact .inr ⟨T, _, _, rfl, .cons rw' (.cons rw2 .nil), by show 2 ≤ lim; decide, rfl, hT, rfl⟩
  stop := fun A' H' e => by
    refine ⟨vs, us, h A' H' e, h2 A' H' e, ?_, ?_, ?_⟩
    · rw [← r.length]; simp [zipL]; omega
    · rw [← r2.length]; simp [zipL]; omega
    · rw [← r.length, ← r2.length]; simp [zipL]; omega
/-- a fixed sequence -/
theorem fix_src {v : MV} {u : V} {xs : List MV} (r : RV B H A v u) (h : fixedSeq v = some xs) : ∃ (q : Sk) (vs : List V), u = q.toV ∧ RVs B H A xs vs ∧ ∀ A' H', Ext A A' H H' → q.has B.K H' vs := by
  cases r <;> first | (cases h; done) | skip
  · cases h; exact ⟨.str _, _, rfl, rvs_chars _, fun _ _ _ => rfl⟩
  · rename_i p vs xs' t rs l
    cases h
    exact ⟨.tup p, vs, rfl, rs, fun A' H' e => (t.mono e).sq⟩
  · rename_i p vs xs' t rs l
    cases h
    exact ⟨.lst p, vs, rfl, rs, fun A' H' e => (t.mono e).sq⟩

/-! ### what is walked -/
/-- locked while it is walked -/
def Lk (X : Cx) (B : Fix) (H0 : Hp) (l : Option (Nat × MO)) (A : List Addr) (H : Hp) : Prop := match l with
  | none => True
  | some (n, o) => ∃ d od u, A[n]? = some d ∧ H d = some (.frz od u) ∧ (∀ o' u', u ≠ .frz o' u') ∧ RO B (upd H d u) A d o ∧ (∀ o' u', X.H_0 d ≠ some (.frz o' u')) ∧ NF H0 d
def PostI (X : Cx) (B : Fix) (A : List Addr) (H : Hp) (R : It → Hp → Prop) (kk : ItK) : Res MV → Prop
  | .ok (.tup vs) st1 => (match items kk vs st1 with
    | some (xs, l) => ∀ J H1 A1, Ext A A1 H H1 → SR B H1 A1 (lock l st1) → Lk X B H l A1 H1 → Wk B J xs A1 H1 → R J H1
    | none => False)
  | _ => False
def tMI (X : Cx) (B : Fix) (F : Fn) (kk : ItK) (it : E) : TI := fun σ H R => ∃ A env st, SR B H A st ∧ ER B H A σ env ∧ PostI X B A H R kk (evalE F it env st)
theorem PIm {tg e : PySem.Expr} {t t' : TI} (h : PI X tg e t) (m : ∀ σ H R, t' σ H R → t σ H R) : PI X tg e t' := ⟨fun pins s σ H R I q => h.run pins s σ H R I (m _ _ _ q)⟩
/-- the value is locked behind the evaluation -/
def tLk (X : Cx) (t : TE) : TE := fun σ H Q => t σ H fun x H1 => ∃ d u, H1 d = some u ∧ Mut (some u) ∧ ∀ od, (∀ o' u', X.H_0 d ≠ some (.frz o' u')) → Q x (upd H1 d (.frz od u))
theorem pe_lk {e : PySem.Expr} {t : TE} (h : PE X e t) : PE X e (tLk X t) := by
  refine ⟨fun pins s σ H Q I hw => ?_⟩
  refine thn (h.run pins s σ H _ I hw) fun v s1 ⟨x, H1, I1, r, d, u, hd, mu, q⟩ => ?_
  obtain ⟨od, I2⟩ := I1.lock hd mu
  exact ⟨x, _, I2, r, q od (I1.nofrz hd mu)⟩
/-- a list of the store is locked -/
theorem lock_lst {n : Nat} {a : Addr} {xs : List MV} {vs : List V} {od : Obj} (s : SR B H A st) (ha : A[n]? = some a) (hn : st[n]? = some (.lst xs)) (hH : H a = some (.lst vs)) (rs : RVs B H A xs vs) (l : xs.length ≤ lim) {H0 : Hp} {A0 : List Addr} (e0 : Ext A0 A H0 H) (hz : ∀ o' u', X.H_0 a ≠ some (.frz o' u')) :
    Ext A A H (upd H a (.frz od (.lst vs))) ∧ SR B (upd H a (.frz od (.lst vs))) A (lock (some (n, .lst xs)) st) ∧ Lk X B H0 (some (n, .lst xs)) A (upd H a (.frz od (.lst vs))) ∧ Wk B (Itl B.K a) xs A (upd H a (.frz od (.lst vs))) := by
  have e1 : Ext A A H (upd H a (.frz od (.lst vs))) := Ext.set ha (nf_lst hH)
  refine ⟨e1, s.set ha (nf_lst hH) ⟨od, vs, upd_same, rs.mono e1, l⟩, ⟨a, od, .lst vs, ha, upd_same, fun _ _ z => (by cases z), ?_, hz, fun ob u' z => by
    have := e0.frz _ _ _ z
    rw [hH] at this
    cases this⟩, wk_list (rs.mono e1) fun A' H' e => .inl (.inr ⟨od, e.frz _ _ _ upd_same⟩)⟩
  rw [upd_upd]
  exact ⟨vs, upd_same, rs.mono (Ext.set ha (nf_lst hH)), l⟩
theorem lock_dic {n : Nat} {a : Addr} {kvs : List (Str × MV)} {ks : List (Key × V)} {od : Obj} (s : SR B H A st) (ha : A[n]? = some a) (hn : st[n]? = some (.dic kvs)) (hH : H a = some (.dK ks)) (rs : RKs B H A kvs ks) (l : kvs.length ≤ lim) {H0 : Hp} {A0 : List Addr} (e0 : Ext A0 A H0 H) (hz : ∀ o' u', X.H_0 a ≠ some (.frz o' u')) :
    Ext A A H (upd H a (.frz od (.dK ks))) ∧ SR B (upd H a (.frz od (.dK ks))) A (lock (some (n, .dic kvs)) st) ∧ Lk X B H0 (some (n, .dic kvs)) A (upd H a (.frz od (.dK ks))) ∧ Wk B (Itk a od ks) (kvs.map fun kv => .str kv.1) A (upd H a (.frz od (.dK ks))) := by
  have e1 : Ext A A H (upd H a (.frz od (.dK ks))) := Ext.set ha (nf_dK hH)
  refine ⟨e1, s.set ha (nf_dK hH) ⟨od, ks, upd_same, rs.mono e1, l⟩, ⟨a, od, .dK ks, ha, upd_same, fun _ _ z => (by cases z), ?_, hz, fun ob u' z => by
    have := e0.frz _ _ _ z
    rw [hH] at this
    cases this⟩, wk_keys (rs.mono e1) upd_same⟩
  rw [upd_upd]
  exact ⟨ks, upd_same, rs.mono (Ext.set ha (nf_dK hH)), l⟩
/-- the mirror's value, to go on with -/
theorem tM_ok {e : E} {σ : L2.St} {env : Env} {v : MV} {st1 : Store} {Q : VK} (s : SR B H A st) (r : ER B H A σ env) (q : evalE F e env st = .ok v st1) (h : ∀ u H1 A1, Ext A A1 H H1 → SR B H1 A1 st1 → RV B H1 A1 v u → Q u H1) : tM B F W e σ H Q := ⟨A, env, st, s, r, by rw [q]; exact h⟩
theorem evalE_one {a : E} {env : Env} : evalE F (.cons a .nil) env st = (evalE F a env st).bind fun v st => .ok (.tup [v]) st := by
  rw [evalE_cons]
  cases evalE F a env st <;> rfl
theorem pi_seq (g : GoodX B F lv k W X) {tg e : PySem.Expr} {a : E} (he : PE X e (tM B F W a)) : PI X tg e (tMI X B F .seq (.cons a .nil)) := by
  refine PIm (PIor (pi_list he) (PIor (pi_tup he) (PIor (pi_str he) (PIor (pi_keys he) (PIor (pi_list (pe_lk he)) (pi_keys (pe_lk he))))))) fun σ H R z => ?_
  obtain ⟨A, env, st, sr, er, p⟩ := z
  rw [evalE_one] at p
  cases q : evalE F a env st with
  | err => rw [q] at p; exact p.elim
  | exc c st1 => rw [q] at p; exact p.elim
  | ok v st1 =>
    rw [q] at p
    replace p : (match items .seq [v] st1 with
      | some (xs, l) => ∀ J H1 A1, Ext A A1 H H1 → SR B H1 A1 (lock l st1) → Lk X B H l A1 H1 → Wk B J xs A1 H1 → R J H1
      | none => False) := p
    cases v with
    | tup xs =>
      refine .inr (.inl (tM_ok sr er q fun u H1 A1 e1 s1 r1 => ?_))
      cases r1 with
      | tup t rs l =>
        rw [g.on.K]
        exact ⟨_, rfl, ⟨_, t.sq⟩, p _ H1 A1 e1 s1 trivial (wk_tup rs fun A' H' e => (t.mono e).sq)⟩
    | lst xs =>
      refine .inl (tM_ok sr er q fun u H1 A1 e1 s1 r1 => ?_)
      cases r1 with
      | lst t rs l =>
        rw [g.on.K]
        exact ⟨_, rfl, ⟨_, t.sq⟩, p _ H1 A1 e1 s1 trivial (wk_list rs fun A' H' e => (t.mono e).sq)⟩
    | str x =>
      refine .inr (.inr (.inl (tM_ok sr er q fun u H1 A1 e1 s1 r1 => ?_)))
      cases r1
      exact ⟨x, rfl, p _ H1 A1 e1 s1 trivial wk_str⟩
    | loc n =>
      simp only [items] at p
      cases hn : st1[n]? with
      | none => rw [hn] at p; exact p.elim
      | some o =>
        rw [hn] at p
        cases o with
        | ins c fs => exact p.elim
        | flst xs =>
          refine .inl (tM_ok sr er q fun u H1 A1 e1 s1 r1 => ?_)
          cases r1 with
          | loc ha =>
            obtain ⟨ob, vs, hH, rs, l⟩ := s1.obj n _ _ ha hn
            rw [g.on.K]
            exact ⟨_, rfl, ⟨vs, .inl (.inr ⟨ob, hH⟩)⟩, p _ H1 A1 e1 s1 trivial (wk_list rs fun A' H' e => .inl (.inr ⟨ob, e.frz _ _ _ hH⟩))⟩
        | fdic kvs =>
          refine .inr (.inr (.inr (.inl (tM_ok sr er q fun u H1 A1 e1 s1 r1 => ?_))))
          cases r1 with
          | loc ha =>
            obtain ⟨ob, ks, hH, rs, l⟩ := s1.obj n _ _ ha hn
            exact ⟨_, ob, rfl, .inl ⟨ks, hH, p _ H1 A1 e1 s1 trivial (wk_keys rs hH)⟩⟩
        | lst xs =>
          refine .inr (.inr (.inr (.inr (.inl (tM_ok sr er q fun u H1 A1 e1 s1 r1 => ?_)))))
          cases r1 with
          | loc ha =>
            obtain ⟨vs, hH, rs, l⟩ := s1.obj n _ _ ha hn
            refine ⟨_, _, hH, trivial, fun od hz => ?_⟩
            obtain ⟨e2, s2, l2, w2⟩ := lock_lst (X := X) (od := od) s1 ha hn hH rs l e1 hz
            rw [g.on.K]
            exact ⟨_, rfl, ⟨vs, .inl (.inr ⟨od, upd_same⟩)⟩, p _ _ A1 (e1.trans e2) s2 l2 w2⟩
        | dic kvs =>
          refine .inr (.inr (.inr (.inr (.inr (tM_ok sr er q fun u H1 A1 e1 s1 r1 => ?_)))))
          cases r1 with
          | loc ha =>
            obtain ⟨ks, hH, rs, l⟩ := s1.obj n _ _ ha hn
            refine ⟨_, _, hH, trivial, fun od hz => ?_⟩
            obtain ⟨e2, s2, l2, w2⟩ := lock_dic (X := X) (od := od) s1 ha hn hH rs l e1 hz
            exact ⟨_, od, rfl, .inl ⟨ks, upd_same, p _ _ A1 (e1.trans e2) s2 l2 w2⟩⟩
    | _ => exact p.elim
end
end Mi
set_option Elab.async false
set_option linter.all false
set_option maxRecDepth 100000
set_option maxHeartbeats 1000000
/-! MiLc: walks; comprehensions. -/
namespace Mi
open PySem PySem.Spec PyProof.Rows L2
section
variable {B : Fix} {F : Fn} {lv : Nat} {k : Ck} {W : WS} {X : Cx}
theorem tMA_I {it : E} {σ : L2.St} {H : Hp} {R : It → Hp → Prop} {kk : ItK} {Q : List V → Hp → Prop} (h : tMI X B F kk it σ H R)
    (m : ∀ vs st1 us H1 A1 A xs l, items kk vs st1 = some (xs, l) → Ext A A1 H H1 → SR B H1 A1 st1 → RVs B H1 A1 vs us → (∀ J H1 A1, Ext A A1 H H1 → SR B H1 A1 (lock l st1) → Lk X B H l A1 H1 → Wk B J xs A1 H1 → R J H1) → Q us H1) : tMA B F W it σ H Q := by
  obtain ⟨A, env, st, sr, er, p⟩ := h
  refine ⟨A, env, st, sr, er, ?_⟩
  cases q : evalE F it env st with
  | err => rw [q] at p; exact p.elim
  | exc c st1 => rw [q] at p; exact p.elim
  | ok v st1 =>
    rw [q] at p
    cases v <;> first | exact p.elim | skip
    rename_i vs
    intro us H1 A1 e1 s1 r1
    replace p : (match items kk vs st1 with
      | some (xs, l) => ∀ J H1 A1, Ext A A1 H H1 → SR B H1 A1 (lock l st1) → Lk X B H l A1 H1 → Wk B J xs A1 H1 → R J H1
      | none => False) := p
    cases hi : items kk vs st1 with
    | none => rw [hi] at p; exact p.elim
    | some pr =>
      obtain ⟨xs, l⟩ := pr
      rw [hi] at p
      exact m vs st1 us H1 A1 A xs l hi e1 s1 r1 p
theorem tup_of {e : PySem.Expr} (h : isTupE e = true) : ∃ es kk p, e = .Tuple es kk p := by
  cases e <;> first | (cases h; done) | exact ⟨_, _, _, rfl⟩
theorem pi_M (g : GoodX B F lv k W X) {kk : ItK} {tg e : PySem.Expr} {it : E} {xs : List PySem.Expr} (hi : itArgs kk k tg e = some xs) (h : AllPE B F W X it xs) : PI X tg e (tMI X B F kk it) := by
  cases kk with
  | seq =>
    cases hi
    obtain ⟨a, rfl, _, ha⟩ := one h
    exact pi_seq g ha
  | range1 =>
    obtain ⟨p, a, q, rfl, rfl, hg⟩ := call1_of hi
    have hs := h.star
    rw [List.all_cons, Bool.and_eq_true] at hs
    refine PIm (pi_range1 (g.gl hg).1 (g.blt (by decide)) h.pa (star_cons hs.1 _ _)) fun σ H R z => tMA_I z fun vs st1 us H1 A1 A ys l hit e1 s1 r1 m => ?_
    cases vs with
    | nil => cases hit
    | cons v vs =>
      cases v <;> first | (cases hit; done) | skip
      rename_i j
      cases vs with
      | cons _ _ => cases hit
      | nil =>
        simp only [items] at hit
        split at hit
        · rename_i hb
          cases hit
          cases r1 with
          | cons r rr =>
            cases rr
            cases r
            exact ⟨j, rfl, hb.1, hb.2, m _ H1 A1 e1 s1 trivial wk_range⟩
        · cases hit
  | range3 =>
    simp only [itArgs] at hi
    split at hi
    · rename_i f p a b c q
      split at hi
      · rename_i hc
        cases hi
        obtain ⟨rfl, hg⟩ := hc
        have hs := h.star
        rw [List.all_cons, Bool.and_eq_true] at hs
        refine PIm (pi_range3 (g.gl hg).1 (g.blt (by decide)) h.pa (star_cons hs.1 _ _) (star_all hs.2)) fun σ H R z => tMA_I z fun vs st1 us H1 A1 A ys l hit e1 s1 r1 m => ?_
        unfold items at hit
        split at hit <;> first | (rename_i hkk _; cases hkk; done) | skip
        all_goals first | (cases hit; done) | skip
        all_goals first | (simp at *; done) | skip
        rename_i i j _ _
        split at hit
        · rename_i hb
          cases hit
          cases r1 with
          | cons r rr =>
            cases r
            cases rr with
            | cons r rr =>
              cases r
              cases rr with
              | cons r rr =>
                cases r
                cases rr
                exact ⟨_, _, _, _, rfl, RgC.neg hb.1 hb.2.1 hb.2.2.1 hb.2.2.2, m _ H1 A1 e1 s1 trivial wk_range3⟩
        · cases hit
      · cases hi
    · cases hi
  | enum =>
    simp only [itArgs] at hi
    split at hi
    · rename_i ht
      obtain ⟨es, kk, tp, rfl⟩ := tup_of ht
      obtain ⟨p, a, q, rfl, rfl, hg⟩ := call1_of hi
      have hs := h.star
      rw [List.all_cons, Bool.and_eq_true] at hs
      refine PIm (pi_enumG (g.gl hg).1 (g.blt (by decide)) h.pa (star_cons hs.1 _ _)) fun σ H R z => tMA_I z fun vs st1 us H1 A1 A ys l hit e1 s1 r1 m => ?_
      cases vs with
      | nil => cases hit
      | cons v vs =>
        cases vs with
        | cons _ _ => cases hit
        | nil =>
          simp only [items] at hit
          cases hf : fixedSeq v with
          | none => rw [hf] at hit; cases hit
          | some zs =>
            rw [hf] at hit
            cases hit
            cases r1 with
            | cons r rr =>
              cases rr
              obtain ⟨s, vs, rfl, rs, hp⟩ := fix_src r hf
              rw [g.on.K]
              exact ⟨s, vs, rfl, hp _ _ .refl, m _ H1 A1 e1 s1 trivial (wk_enum rs hp)⟩
    · cases hi
  | zip =>
    simp only [itArgs] at hi
    split at hi
    · rename_i ht
      obtain ⟨es, kk, tp, rfl⟩ := tup_of ht
      obtain ⟨p, a, b, q, rfl, rfl, hg⟩ := call2_of hi
      have hs := h.star
      rw [List.all_cons, Bool.and_eq_true] at hs
      refine PIm (pi_zipG (g.gl hg).1 (g.blt (by decide)) h.pa (star_cons hs.1 _ _) (star_all hs.2)) fun σ H R z => tMA_I z fun vs st1 us H1 A1 A ys l hit e1 s1 r1 m => ?_
      cases vs with
      | nil => cases hit
      | cons v vs =>
        cases vs with
        | nil => cases hit
        | cons v2 vs =>
          cases vs with
          | cons _ _ => cases hit
          | nil =>
            simp only [items] at hit
            cases hf : fixedSeq v with
            | none => rw [hf] at hit; cases hit
            | some zs =>
              cases hf2 : fixedSeq v2 with
              | none => rw [hf, hf2] at hit; cases hit
              | some zs2 =>
                rw [hf, hf2] at hit
                cases hit
                cases r1 with
                | cons r rr =>
                  cases rr with
                  | cons r2 rr =>
                    cases rr
                    obtain ⟨s, vs, rfl, rs, hp⟩ := fix_src r hf
                    obtain ⟨s2, vs2, rfl, rs2, hp2⟩ := fix_src r2 hf2
                    rw [g.on.K]
                    exact ⟨s, s2, vs, vs2, rfl, hp _ _ .refl, hp2 _ _ .refl, m _ H1 A1 e1 s1 trivial (wk_zip rs rs2 hp hp2)⟩
    · cases hi
  | enumzip => cases hi
  | zip3 => cases hi
end
end Mi
set_option Elab.async false
set_option linter.all false
set_option maxRecDepth 100000
set_option maxHeartbeats 1000000
/-! MiLc2: comprehensions. -/
namespace Mi
open PySem PySem.Spec PyProof.Rows L2
/-- from one heap to another, other addresses hidden -/
structure Tr (B : Fix) (Z' : List Addr) (A A' : List Addr) (H H' : Hp) : Prop where
  keep : ∀ q o, H q = some o → q ∉ A → q ∉ B.Z → H' q = some o ∧ q ∉ A' ∧ q ∉ Z'
  pre : ∀ (n : Nat) a, A[n]? = some a → A'[n]? = some a
section
variable {B : Fix} {Z' : List Addr} {H H' : Hp} {A A' : List Addr}
theorem Tr.rd (t : Tr B Z' A A' H H') {p : Addr} {u : HO} (h : Rd H p u) (n : p ∉ A) (z : p ∉ B.Z) : Rd H' p u ∧ p ∉ A' ∧ p ∉ Z' := by
  rcases h with h | ⟨o, h⟩
  · obtain ⟨h1, n1⟩ := t.keep p _ h n z
    exact ⟨.inl h1, n1⟩
  · obtain ⟨h1, n1⟩ := t.keep p _ h n z
    exact ⟨.inr ⟨o, h1⟩, n1⟩
theorem TupAt.tr (t : Tr B Z' A A' H H') {p : Addr} {vs : List V} (h : TupAt B H A p vs) : TupAt (B.z Z') H' A' p vs := by
  rcases h with ⟨h, n, z⟩ | h
  · exact .inl (t.rd h n z)
  · exact .inr h
theorem LckAt.tr (t : Tr B Z' A A' H H') {p : Addr} {vs : List V} (h : LckAt B H A p vs) : LckAt (B.z Z') H' A' p vs := by
  rcases h with ⟨h, n, z⟩ | h
  · exact .inl (t.rd h n z)
  · exact .inr h
mutual
theorem RV.tr (t : Tr B Z' A A' H H') : ∀ {x : MV} {v : V}, RV B H A x v → RV (B.z Z') H' A' x v
  | _, _, .non => .non
  | _, _, .bl b => .bl b
  | _, _, .int i => .int i
  | _, _, .str x => .str x
  | _, _, .tup h r l => .tup (h.tr t) (RVs.tr t r) l
  | _, _, .lst h r l => .lst (t.keep _ _ h.1 h.2.1 h.2.2) (RVs.tr t r) l
  | _, _, .slst h r l => .slst (h.tr t) (RVs.tr t r) l
  | _, _, .loc h => .loc (t.pre _ _ h)
  | _, _, .nam h => .nam h
  | _, _, .cdic h => .cdic h
theorem RVs.tr (t : Tr B Z' A A' H H') : ∀ {xs : List MV} {vs : List V}, RVs B H A xs vs → RVs (B.z Z') H' A' xs vs
  | _, _, .nil => .nil
  | _, _, .cons r s => .cons (RV.tr t r) (RVs.tr t s)
end
theorem RKs.tr (t : Tr B Z' A A' H H') : ∀ {xs : List (Str × MV)} {vs : List (Key × V)}, RKs B H A xs vs → RKs (B.z Z') H' A' xs vs
  | _, _, .nil => .nil
  | _, _, .cons r s => .cons (r.tr t) (RKs.tr t s)
theorem RFs.tr (t : Tr B Z' A A' H H') : ∀ {xs : List (Str × MV)} {vs : List (Str × V)}, RFs B H A xs vs → RFs (B.z Z') H' A' xs vs
  | _, _, .nil => .nil
  | _, _, .cons r s => .cons (r.tr t) (RFs.tr t s)
theorem RO.tr (t : Tr B Z' A A' H H') {a : Addr} {o : MO} (h : RO B H A a o) (k : H' a = H a) : RO (B.z Z') H' A' a o := by
  cases o with
  | lst xs => obtain ⟨vs, q, r, l⟩ := h; exact ⟨vs, by rw [k]; exact q, r.tr t, l⟩
  | flst xs => obtain ⟨ob, vs, q, r, l⟩ := h; exact ⟨ob, vs, by rw [k]; exact q, r.tr t, l⟩
  | dic xs => obtain ⟨vs, q, r, l⟩ := h; exact ⟨vs, by rw [k]; exact q, r.tr t, l⟩
  | fdic xs => obtain ⟨ob, vs, q, r, l⟩ := h; exact ⟨ob, vs, by rw [k]; exact q, r.tr t, l⟩
  | ins c fs => obtain ⟨C, dx, vs, m, q, r⟩ := h; exact ⟨C, dx, vs, m, by rw [k]; exact q, r.tr t⟩
theorem ER.tr (t : Tr B Z' A A' H H') {σ : L2.St} {env : Env} (h : ER B H A σ env) : ER (B.z Z') H' A' σ env := ⟨h.len, fun i v q => by
  obtain ⟨u, q1, r⟩ := h.get i v q
  exact ⟨u, q1, r.tr t⟩⟩
/-- the store at the same addresses -/
theorem SR.tr {st : Store} (t : Tr B Z' A A H H') (s : SR B H A st) (k : ∀ a ∈ A, H' a = H a) (hz : ∀ z ∈ Z', z ∉ A ∧ ∃ o, H' z = some o) : SR (B.z Z') H' A st :=
  ⟨s.len, s.nd, fun n a o h1 h2 => (s.obj n a o h1 h2).tr t (k a (List.mem_of_getElem? h1)), hz⟩
theorem Ext.tr {D : Addr} (e : Ext A A' H H') (hD : H D = none) : Tr B (D :: B.Z) A A' H H' := ⟨fun q o h n z => ⟨(e.keep q o h n).1, (e.keep q o h n).2, by
  rw [List.mem_cons, not_or]
  exact ⟨ne_of_none h hD, z⟩⟩, fun n a h => e.get h⟩
theorem wipeE_len (env : Env) : ∀ vs : List Nat, (wipeE env vs).length = env.length
  | [] => rfl
  | v :: vs => by unfold wipeE; rw [List.length_set, wipeE_len env vs]
theorem wipe_wipe {σ : L2.St} (vs : List Nat) : L2.wipe (L2.wipe σ vs) vs = L2.wipe σ vs := by
  have key : ∀ (ws : List Nat) (τ : L2.St), (∀ w ∈ ws, w ∈ vs) → L2.wipe (L2.wipe τ ws) vs = L2.wipe τ vs := by
    intro ws
    induction ws with
    | nil => intro τ _; rfl
    | cons w ws ih =>
      intro τ h
      show L2.wipe ((L2.wipe τ ws).set w none) vs = _
      rw [wipe_set (h w (List.mem_cons_self ..)), ih τ fun x hx => h x (List.mem_cons_of_mem _ hx)]
  exact key vs σ fun w h => h

/-! ### unlocked at the end -/
def Un (X : Cx) (Q : Hp → Prop) (H : Hp) : Prop := Q H ∨ ∃ d od u, H d = some (.frz od u) ∧ (∀ o' u', X.H_0 d ≠ some (.frz o' u')) ∧ Q (upd H d u)
theorem pe_un {X : Cx} {e : PySem.Expr} {t : TE} (h : PE X e t) : PE X e (fun σ H Q => t σ H fun v H' => Un X (Q v) H') := by
  refine ⟨fun pins s σ H Q I hw => thn (h.run pins s σ H _ I hw) fun v s1 ⟨x, H1, I1, r, q⟩ => ?_⟩
  rcases q with q | ⟨d, od, u, hd, hz, q⟩
  · exact ⟨x, H1, I1, r, q⟩
  · exact ⟨x, _, I1.unlock hd hz, r, q⟩
def Ends.un (X : Cx) (D : Ends) : Ends := ⟨fun σ H => Un X (D.nx σ) H, fun v H => Un X (D.rt v) H, fun σ H => Un X (D.bk σ) H, fun σ H => Un X (D.ct σ) H⟩
theorem ps_un {X : Cx} {st : Stmt} {t : TS} (h : PS X st t) : PS X st (fun D σ H => t (Ends.un X D) σ H) := by
  refine ⟨fun pins s σ H D I hw => thn (h.run pins s σ _ _ I hw) fun f s1 q => ?_⟩
  cases f with
  | next =>
    obtain ⟨σ', H', I2, q⟩ := q
    rcases q with q | ⟨d, od, u, hd, hz, q⟩
    · exact ⟨σ', H', I2, q⟩
    · exact ⟨σ', _, I2.unlock hd hz, q⟩
  | brk =>
    obtain ⟨σ', H', I2, q⟩ := q
    rcases q with q | ⟨d, od, u, hd, hz, q⟩
    · exact ⟨σ', H', I2, q⟩
    · exact ⟨σ', _, I2.unlock hd hz, q⟩
  | cont =>
    obtain ⟨σ', H', I2, q⟩ := q
    rcases q with q | ⟨d, od, u, hd, hz, q⟩
    · exact ⟨σ', H', I2, q⟩
    · exact ⟨σ', _, I2.unlock hd hz, q⟩
  | ret v =>
    obtain ⟨x, σ', H', I2, r, q⟩ := q
    rcases q with q | ⟨d, od, u, hd, hz, q⟩
    · exact ⟨x, σ', H', I2, r, q⟩
    · exact ⟨x, σ', _, I2.unlock hd hz, r, q⟩
/-- unlocked: the heap, the store -/
theorem unlocked {X : Cx} {H0 H1 Hc : Hp} {A0 A1 Ac : List Addr} {l : Option (Nat × MO)} {st : Store} {Q : Hp → Prop} (hB : ∀ z ∈ B.Z, z ∉ A1) (lk : Lk X (B.z Z') H0 l A1 H1) (hZ : ∀ z ∈ B.Z, z ∈ Z' ∨ H1 z = none) (e0 : Ext A0 A1 H0 H1) (e : Ext A1 Ac H1 Hc) (s : SR B Hc Ac st)
    (h : ∀ Hu, Ext A0 Ac H0 Hu → SR B Hu Ac (unlock l st) → (∀ q, q ∉ Ac → Hu q = Hc q) → (∀ {v u}, RV B Hc Ac v u → RV B Hu Ac v u) → (∀ {v u}, RVs B Hc Ac v u → RVs B Hu Ac v u) → (∀ {σ env}, ER B Hc Ac σ env → ER B Hu Ac σ env) → Q Hu) : Un X Q Hc := by
  cases l with
  | none => exact .inl (h Hc (e0.trans e) s (fun _ _ => rfl) id id id)
  | some p =>
    obtain ⟨n, o⟩ := p
    obtain ⟨d, od, u, hd, hH, hu, ro, hz, nf⟩ := lk
    have hdA : d ∈ A1 := List.mem_of_getElem? hd
    have hdc := e.get hd
    have hdAc : d ∈ Ac := List.mem_of_getElem? hdc
    have tr : Tr B B.Z Ac Ac Hc (upd Hc d u) := ⟨fun q o h n z => ⟨by rw [upd_ne (fun e => n (by rw [e]; exact hdAc))]; exact h, n, z⟩, fun _ _ h => h⟩
    have tr2 : Tr (B.z Z') B.Z A1 Ac (upd H1 d u) (upd Hc d u) := by
      refine ⟨fun q o h n z => ?_, fun n a h => e.get h⟩
      have hq : q ≠ d := fun e => n (by rw [e]; exact hdA)
      rw [upd_ne hq] at h ⊢
      obtain ⟨h1, n1⟩ := e.keep q o h n
      refine ⟨h1, n1, fun hb => ?_⟩
      rcases hZ q hb with z1 | z1
      · exact z z1
      · rw [z1] at h; cases h
    refine .inr ⟨d, od, u, e.frz _ _ _ hH, hz, h _ ?_ ?_ (fun q hq => upd_ne fun e => hq (by rw [e]; exact hdAc)) (fun r => r.tr tr) (fun r => r.tr tr) (fun r => r.tr tr)⟩
    · have et := e0.trans e
      refine ⟨et.pre, fun q o h n => ?_, fun q ob u' h => ?_⟩
      · obtain ⟨h1, n1⟩ := et.keep q o h n
        exact ⟨by rw [upd_ne (fun e => n1 (by rw [e]; exact hdAc))]; exact h1, n1⟩
      · rw [upd_ne (fun e => nf ob u' (by rw [← e]; exact h))]
        exact et.frz q ob u' h
    · refine ⟨by show Ac.length = (st.set n o).length; rw [List.length_set]; exact s.len, s.nd, fun m a ob h1 h2 => ?_, fun z hz => ?_⟩
      · by_cases hm : n = m
        · subst hm
          rw [hdc] at h1
          cases h1
          have hn : n < st.length := by rw [← s.len]; exact (List.getElem?_eq_some_iff.mp hdc).1
          have h2 : (st.set n o)[n]? = some ob := h2
          rw [List.getElem?_set_self hn] at h2
          cases h2
          exact ro.tr tr2 (by rw [upd_same, upd_same])
        · have h2 : (st.set n o)[m]? = some ob := h2
          rw [List.getElem?_set_ne hm] at h2
          refine (s.obj m a ob h1 h2).tr tr (upd_ne fun e => hm ?_)
          subst e
          obtain ⟨b1, e1⟩ := List.getElem?_eq_some_iff.mp hdc
          obtain ⟨b2, e2⟩ := List.getElem?_eq_some_iff.mp h1
          exact (List.getElem_inj s.nd).mp (e1.trans e2.symm)
      · obtain ⟨n', o', e'⟩ := s.zs z hz
        exact ⟨n', o', by rw [upd_ne (fun q => n' (by rw [q]; exact hdAc))]; exact e'⟩
end
end Mi
set_option Elab.async false
set_option linter.all false
set_option maxRecDepth 100000
set_option maxHeartbeats 1000000
/-! MiLc3: a comprehension is what its mirror says. -/
namespace Mi
open PySem PySem.Spec PyProof.Rows L2
/-- no exception -/
abbrev W0 : WS := fun _ _ _ => False
section
variable {B : Fix} {F : Fn} {lv : Nat} {k : Ck} {W : WS} {X : Cx}
theorem FnAt.z (Z : List Addr) {kk : FK} {f : Addr} (h : FnAt B F lv kk f) : FnAt (B.z Z) F lv kk f := ⟨h.ex⟩
theorem Facts.z (Z : List Addr) (h : Facts B F lv k) : Facts (B.z Z) F lv k := ⟨h.blt, h.glo, fun x hx => by
    obtain ⟨f, h1, h2, h3⟩ := h.fn x hx
    exact ⟨f, h1, h2, h3.z Z⟩, fun p hp => by
    obtain ⟨C, f, h1, h2, h3, h4⟩ := h.me p hp
    exact ⟨C, f, h1, h2, h3, h4.z Z⟩, fun p hp => by
    obtain ⟨C, f, h1, h2, h3⟩ := h.mkc p hp
    exact ⟨C, f, h1, h2, h3.z Z⟩, h.fl, h.exc⟩
theorem GoodX.z (Z : List Addr) (g : GoodX B F lv k W X) : GoodX (B.z Z) F lv k W X := ⟨⟨g.on.P, g.on.w, g.on.K, g.on.mg, g.on.base⟩, g.N, g.nd, g.sc, g.calm, g.room, g.tk, g.fn, g.fa.z Z⟩
theorem Facts.sc (sc fsc : Scope) (h : Facts B F lv k) : Facts B F lv { k with sc := sc, fsc := fsc } := ⟨h.blt, h.glo, h.fn, h.me, h.mkc, h.fl, h.exc⟩
/-- the block of a comprehension -/
theorem GoodX.blk (g : GoodX B F lv k W X) (scope : Scope) (s : Shared) (H : Hp) (C : Addr) (cl : List (Str × Addr)) (fp : List Addr) :
    GoodX B F lv { k with sc := relS scope k.sc, fsc := scope } W0 (X.blk s H scope (compEnvC scope cl C X.env) fp) := by
  refine ⟨⟨g.on.P, g.on.w, g.on.K, g.on.mg, g.on.base⟩, g.N, g.nd, ?_, g.calm, g.room, ?_, fun x h => ?_, g.fa.sc _ _⟩
  · show (compEnvC scope cl C X.env).scope = relS scope k.sc
    rw [← g.sc]
    rfl
  · intro e s' h
    obtain ⟨_, _, _, _, _, _, _, _, _, _, _, _, _, _, _, _, c, C, _, _, _, hw⟩ := h
    exact hw.elim
  · show (scope.names.lookup x == some .cell) = true
    rw [h]
    rfl
theorem PGx {e : PySem.Expr} {ι : Type} {t : ι → TG} (h : ∀ i, PG X e (t i)) : PG X e (fun v σ H Q => ∃ i, t i v σ H Q) := ⟨fun pins s σ H v u Q I r ⟨i, q⟩ => (h i).run pins s σ H v u Q I r q⟩
theorem PEx {e : PySem.Expr} {ι : Type} {t : ι → TE} (h : ∀ i, PE X e (t i)) : PE X e (fun σ H Q => ∃ i, t i σ H Q) := ⟨fun pins s σ H Q I ⟨i, q⟩ => (h i).run pins s σ H Q I q⟩
theorem PTsx {e : List PySem.Expr} {ι : Type} {t : ι → TT} (h : ∀ i, PTs X e (t i)) : PTs X e (fun σ H Q => ∃ i, t i σ H Q) := ⟨fun pins s σ H Q I ⟨i, q⟩ => (h i).run pins s σ H Q I q⟩
theorem YR.hid {A1 Ac : List Addr} {H1 Hc H' : Hp} {D : Addr} {st : Store} {v : MV} {x : V} (y : YR B A1 H1 v x Hc H') (e : Ext A1 Ac H1 Hc) (hD : H1 D = none) (s : SR (B.z (D :: B.Z)) Hc Ac st) : Ext Ac Ac Hc H' ∧ SR (B.z (D :: B.Z)) H' Ac st ∧ RV (B.z (D :: B.Z)) H' Ac v x := by
  rcases y with ⟨rfl, r⟩ | ⟨T, ps, us, rfl, r, l, rfl, hT, rfl⟩
  · exact ⟨.refl, s, r.tr (e.tr hD)⟩
  · exact ⟨Ext.upd hT, s.side hT, .tup (.inl ⟨.inl upd_same, s.notA hT, s.notZ hT⟩) ((r.tr (e.tr hD)).mono (Ext.upd hT)) l⟩
theorem foldIt {iter : PySem.Expr} (h : noSet iter = true) (env : PySem.Env) (x : Value) : foldedSetIterable iter env x = pure x := by
  cases iter <;> first | rfl | cases h
/-- what a turn has left -/
structure LcI (B : Fix) (A1 : List Addr) (H1 : Hp) (D : Addr) (P : List MV → Store → Prop) (H : Hp) : Prop where
  ex : ∃ A st acc accV, Ext A1 A H1 H ∧ SR (B.z (D :: B.Z)) H A st ∧ H D = some (.lst accV) ∧ RVs (B.z (D :: B.Z)) H A acc accV ∧ acc.length ≤ lim ∧ P acc st
theorem lc_end {A A1 : List Addr} {H H1 Hc : Hp} {D : Addr} {l : Option (Nat × MO)} {p : Bool} {Q : VK} {V : Str → Hp → Prop} (s1 : SR B H1 A1 st1) (hD : H1 D = none) (lk : Lk X B H l A1 H1) (e1 : Ext A A1 H H1)
    (h : LcI B A1 H1 D (fun acc st => Post B A H Q V (newL p acc (unlock l st))) Hc) : Un X (Q (.ref D)) Hc := by
  obtain ⟨Ac, st, acc, accV, ec, sc, hDc, ra, hl, pp⟩ := h.ex
  have hDA : D ∉ Ac := (sc.zs D (List.mem_cons_self ..)).1
  refine unlocked (B := B.z (D :: B.Z)) (Z' := B.Z) (fun z hz => ?_) lk (fun z hz => ?_) e1 ec sc fun Hu eu su same rv rvs er => ?_
  · rcases List.mem_cons.mp hz with rfl | hz
    · exact fun h => s1.notA hD h
    · exact (s1.zs z hz).1
  · rcases List.mem_cons.mp hz with rfl | hz
    · exact .inr hD
    · exact .inl hz
  · have hDu : Hu D = some (.lst accV) := by rw [same D hDA]; exact hDc
    have ru := rvs ra
    have hDZ : D ∉ B.Z := s1.notZ hD
    have sZ : ∀ z ∈ B.Z, z ∉ Ac ∧ ∃ o, Hu z = some o := fun z hz => su.zs z (List.mem_cons_of_mem _ hz)
    cases p with
    | true =>
      have tr : Tr (B.z (D :: B.Z)) B.Z Ac Ac Hu Hu := ⟨fun q o h n z => ⟨h, n, fun hq => z (List.mem_cons_of_mem _ hq)⟩, fun _ _ h => h⟩
      have s9 : SR ((B.z (D :: B.Z)).z B.Z) Hu Ac (unlock l st) := SR.tr tr su (fun _ _ => rfl) sZ
      have r9 : RVs ((B.z (D :: B.Z)).z B.Z) Hu Ac acc accV := RVs.tr tr ru
      exact pp _ Hu Ac eu s9 (.lst ⟨hDu, hDA, hDZ⟩ r9 hl)
    | false =>
      have tr : Tr (B.z (D :: B.Z)) B.Z Ac (Ac ++ [D]) Hu Hu := ⟨fun q o h n z => ⟨h, fun hm => by
        rcases List.mem_append.mp hm with hm | hm
        · exact n hm
        · have e : q = D := by simpa using hm
          exact z (by rw [e]; exact List.mem_cons_self ..), fun hq => z (List.mem_cons_of_mem _ hq)⟩, fun n a h => by
        rw [List.getElem?_append_left (List.getElem?_eq_some_iff.mp h).1]
        exact h⟩
      have hlen := su.len
      refine pp _ Hu (Ac ++ [D]) ⟨?_, fun q o h n => ?_, eu.frz⟩ ⟨by simp [hlen], List.nodup_append.mpr ⟨su.nd, by simp, fun a ha b hb => ?_⟩, fun n a ob h1 h2 => ?_, fun z hz => ?_⟩ (.loc ?_)
      · obtain ⟨r, er⟩ := eu.pre
        exact ⟨r ++ [D], by rw [er, List.append_assoc]⟩
      · obtain ⟨h1, n1⟩ := eu.keep q o h n
        refine ⟨h1, fun hm => ?_⟩
        rcases List.mem_append.mp hm with hm | hm
        · exact n1 hm
        · have : q = D := by simpa using hm
          have h2 := (e1.keep q o h n).1
          rw [this, hD] at h2
          cases h2
      · have : b = D := by simpa using hb
        rw [this]
        exact fun e => hDA (e ▸ ha)
      · by_cases hn : n < Ac.length
        · rw [List.getElem?_append_left hn] at h1
          rw [List.getElem?_append_left (by rw [← hlen]; exact hn)] at h2
          exact (su.obj n a ob h1 h2).tr tr rfl
        · rw [List.getElem?_append_right (by omega)] at h1
          rw [List.getElem?_append_right (by rw [← hlen]; omega)] at h2
          rw [← hlen] at h2
          cases hk : n - Ac.length with
          | zero =>
            rw [hk] at h1 h2
            simp at h1 h2
            subst h1 h2
            exact ⟨accV, hDu, ru.tr tr, hl⟩
          | succ k =>
            rw [hk] at h1
            simp at h1
      · obtain ⟨n1, o, e⟩ := sZ z hz
        refine ⟨fun hm => ?_, o, e⟩
        rcases List.mem_append.mp hm with hm | hm
        · exact n1 hm
        · have : z = D := by simpa using hm
          exact hDZ (this ▸ hz)
      · rw [← hlen]
        simp
theorem rd_lc {p : Bool} {own : List Nat} {tg : Tg} {kk : ItK} {it cond elt : E} (hin : tgIn tg own = true) {σ : L2.St} {H : Hp} {Q : VK} (z : tM B F W (.lc p own tg kk it cond elt) σ H Q) :
    tLc (tMI X B F kk it) (fun v σ H Q => ∃ Z, gM (B.z Z) tg v σ H Q) (fun σ H Q => ∃ Z, tMB (B.z Z) F W0 cond σ H Q) (fun σ H Q => ∃ Z, tM (B.z Z) F W0 elt σ H Q) own σ H fun v H' => Un X (Q v) H' := by
  obtain ⟨A, env, st, sr, er, pp⟩ := z
  refine ⟨A, env, st, sr, er, ?_⟩
  simp only [evalE] at pp
  cases q : evalE F it env st with
  | err => rw [q] at pp; exact pp.elim
  | exc c st1 => rw [q] at pp; exact pp.elim
  | ok v st1 =>
    rw [q] at pp
    cases v <;> first | exact pp.elim | skip
    rename_i vs
    simp only [itR] at pp
    show (match items kk vs st1 with | some (xs, l) => _ | none => False)
    cases hit : items kk vs st1 with
    | none => rw [hit] at pp; exact pp.elim
    | some pr =>
      obtain ⟨xs, l⟩ := pr
      rw [hit] at pp
      replace pp : Post B A H Q (fun c => W c σ) (lcEnd p l (lcGo (fun x st => lcStep (evalE F cond) (evalE F elt) (bindT st tg x (wipeE env own)) st) xs [] (lock l st1))) := pp
      generalize hstep : (fun x st => lcStep (evalE F cond) (evalE F elt) (bindT st tg x (wipeE env own)) st) = step at pp
      intro J H1 A1 e1 s1 lk wk D hD
      have hDA : D ∉ A1 := s1.notA hD
      refine ⟨fun i m H' => m = xs.length - i ∧ i ≤ xs.length ∧ LcI B A1 H1 D (fun acc st => Post B A H Q (fun c => W c σ) (lcEnd p l (lcGo step (xs.drop i) acc st))) H', ⟨xs.length, by simp, Nat.zero_le _, ⟨A1, lock l st1, [], [], ?_, ?_, upd_same, .nil, Nat.zero_le _, pp⟩⟩, ?_⟩
      · exact ⟨⟨[], by simp⟩, fun q o h n => ⟨by rw [upd_ne (ne_of_none h hD)]; exact h, n⟩, fun q ob u h => by rw [upd_ne (ne_of_none h hD)]; exact h⟩
      · refine s1.tr ⟨fun q o h n z => ⟨by rw [upd_ne (ne_of_none h hD)]; exact h, n, ?_⟩, fun _ _ h => h⟩ (fun a ha => upd_ne fun e => hDA (e ▸ ha)) fun z hz => ?_
        · rw [List.mem_cons, not_or]
          exact ⟨ne_of_none h hD, z⟩
        · rcases List.mem_cons.mp hz with rfl | hz
          · exact ⟨hDA, _, upd_same⟩
          · obtain ⟨n, o, e⟩ := s1.zs z hz
            exact ⟨n, o, by rw [upd_ne (ne_of_none e hD)]; exact e⟩
      · rintro i m Hc ⟨rfl, hle, hI⟩
        obtain ⟨Ac, stc, acc, accV, ec, sc, hDc, ra, hla, pi⟩ := hI.ex
        have hDAc : D ∉ Ac := (sc.zs D (List.mem_cons_self ..)).1
        by_cases hlt : i < xs.length
        · have hdrop : xs.drop i = xs[i] :: xs.drop (i + 1) := List.drop_eq_getElem_cons hlt
          have hget : xs[i]? = some xs[i] := List.getElem?_eq_getElem hlt
          refine .inr ⟨wk.go i Ac Hc ec hlt, fun H' => LcI B A1 H1 D (fun acc st => Post B A H Q (fun c => W c σ) (lcEnd p l (lcGo step (xs.drop (i + 1)) acc st))) H', fun H' hn => ⟨xs.length - (i + 1), by omega, rfl, hlt, hn⟩, fun x H' y => ?_⟩
          have yr := wk.yld i Ac Hc x H' ec y _ hget
          obtain ⟨ey, sy, ry⟩ := yr.hid ec hD sc
          have erc : ER (B.z (D :: B.Z)) H' Ac (L2.wipe σ own) (wipeE env own) := (((er.mono e1).wipe own).tr (ec.tr hD)).mono ey
          have eH : Ext A1 Ac H1 H' := ec.trans ey
          have hDH : H' D = some (.lst accV) := (ey.keep _ _ hDc hDAc).1
          rw [hdrop] at pi
          simp only [lcGo] at pi
          have hx : step xs[i] stc = lcStep (evalE F cond) (evalE F elt) (bindT stc tg xs[i] (wipeE env own)) stc := by rw [← hstep]
          rw [hx] at pi
          refine ⟨D :: B.Z, Ac, stc, xs[i], wipeE env own, sy, erc, ry, ?_⟩
          cases hb : bindT stc tg xs[i] (wipeE env own) with
          | none =>
            rw [hb] at pi
            exact pi.elim
          | some env1 =>
            rw [hb] at pi
            intro σ2 er2 hw2
            refine ⟨by rw [hw2 own hin, wipe_wipe], D :: B.Z, Ac, env1, stc, sy, er2, ?_⟩
            simp only [lcStep] at pi
            cases hc : evalE F cond env1 stc with
            | err => rw [hc] at pi; exact pi.elim
            | exc c st2 => rw [hc] at pi; exact pi.elim
            | ok v st2 =>
              rw [hc] at pi
              cases v <;> first | exact pi.elim | skip
              rename_i b
              intro H3 A3 e3 s3
              cases b with
              | false =>
                replace pi : Post B A H Q (fun c => W c σ) (lcEnd p l (lcGo step (xs.drop (i + 1)) acc st2)) := pi
                exact ⟨A3, st2, acc, accV, eH.trans e3, s3, (e3.keep _ _ hDH hDAc).1, (ra.mono ey).mono e3, hla, pi⟩
              | true =>
                simp only [if_true]
                refine ⟨D :: B.Z, A3, env1, st2, s3, er2.mono e3, ?_⟩
                simp only [onB] at pi
                cases hv : evalE F elt env1 st2 with
                | err => rw [hv] at pi; exact pi.elim
                | exc c st3 => rw [hv] at pi; exact pi.elim
                | ok w st3 =>
                  rw [hv] at pi
                  replace pi : Post B A H Q (fun c => W c σ) (lcEnd p l (if acc.length < lim then lcGo step (xs.drop (i + 1)) (acc ++ [w]) st3 else .err)) := pi
                  intro u H4 A4 e4 s4 r4
                  have hD3 := e3.keep _ _ hDH hDAc
                  have hD4 := e4.keep _ _ hD3.1 hD3.2
                  split at pi
                  · rename_i hl
                    have tr : Tr (B.z (D :: B.Z)) (D :: B.Z) A4 A4 H4 (upd H4 D (.lst (accV ++ [u]))) := ⟨fun q o h n z => ⟨by rw [upd_ne (fun e => z (by rw [e]; exact List.mem_cons_self ..))]; exact h, n, z⟩, fun _ _ h => h⟩
                    refine ⟨accV, hD4.1, by rw [lim_eq, ← ra.length]; exact hl, ⟨A4, st3, acc ++ [w], accV ++ [u], ?_, (show SR ((B.z (D :: B.Z)).z (D :: B.Z)) _ _ _ from SR.tr tr s4 (fun a ha => upd_ne fun e => hD4.2 (e ▸ ha)) (fun z hz => ?_)), upd_same, ?_, by rw [List.length_append, List.length_singleton]; omega, pi⟩⟩
                    · have et := (eH.trans e3).trans e4
                      exact ⟨et.pre, fun q o h n => ⟨by rw [upd_ne (ne_of_none h hD)]; exact (et.keep q o h n).1, (et.keep q o h n).2⟩, fun q ob u h => by rw [upd_ne (ne_of_none h hD)]; exact et.frz q ob u h⟩
                    · obtain ⟨n, o, e⟩ := s4.zs z hz
                      by_cases hzD : z = D
                      · rw [hzD]; exact ⟨hD4.2, _, upd_same⟩
                      · exact ⟨n, o, by rw [upd_ne hzD]; exact e⟩
                    · have q1 : RVs ((B.z (D :: B.Z)).z (D :: B.Z)) _ _ acc accV := RVs.tr tr (((ra.mono ey).mono e3).mono e4)
                      have q2 : RV ((B.z (D :: B.Z)).z (D :: B.Z)) _ _ w u := RV.tr tr r4
                      exact q1.append (.cons q2 .nil)
                  · exact pi.elim
        · have e : i = xs.length := by omega
          subst e
          rw [List.drop_length] at pi
          exact .inl ⟨wk.stop Ac Hc ec, lc_end s1 hD lk e1 ⟨Ac, stc, acc, accV, ec, sc, hDc, ra, hla, pi⟩⟩
theorem own_map (k : Ck) (own : List Nat) : (ownOf k.N own).map (·.2) = own := by simp [ownOf, Function.comp_def]
theorem pe_lcM (g : GoodX B F lv k W X) {p : Bool} {own : List Nat} {tg : Tg} {kk : ItK} {it cond elt : E} {el tgE iter : PySem.Expr} {ifs : List PySem.Expr} {scope : Scope} {pos : Pos}
    (hi : PI X tgE iter (tMI X B F kk it)) (ns : noSet iter = true) (ok : BlkOk X.N X.env.scope scope (ownOf k.N own)) (hin : tgIn tg own = true)
    (hg : ∀ Z s H C cl fp, PG (X.blk s H scope (compEnvC scope cl C X.env) fp) tgE (gM (B.z Z) tg)) (ht : ∀ Z s H C cl fp, PTs (X.blk s H scope (compEnvC scope cl C X.env) fp) ifs (tMB (B.z Z) F W0 cond))
    (he : ∀ Z s H C cl fp, PE (X.blk s H scope (compEnvC scope cl C X.env) fp) el (tM (B.z Z) F W0 elt)) :
    PE X (.ListComp el [⟨tgE, iter, ifs, 0⟩] scope pos) (tM B F W (.lc p own tg kk it cond elt)) := by
  have h0 := pe_un (pe_lc (pos := pos) g.calm (by rw [g.N]; exact g.nd) hi ok (fun s H C cl fp => PGx fun Z => hg Z s H C cl fp) (fun s H C cl fp => PTsx fun Z => ht Z s H C cl fp) (fun s H C cl fp => PEx fun Z => he Z s H C cl fp) (foldIt ns X.env))
  rw [own_map] at h0
  exact PEm h0 fun σ H Q z => rd_lc hin z
end
end Mi
set_option Elab.async false
set_option linter.all false
set_option maxRecDepth 100000
set_option maxHeartbeats 2000000
/-! MiExp: every expression that is checked is what its mirror says. -/
namespace Mi
open PySem PySem.Spec PyProof.Rows L2
def isL : E → Bool
  | .nil => true
  | .cons .. => true
  | _ => false
/-- lists where lists are asked -/
def wfE : E → Bool
  | .var _ => true
  | .lit _ => true
  | .glob .. => true
  | .nil => true
  | .cons a r => !isL a && (isL r && (wfE a && wfE r))
  | .op _ as => isL as && wfE as
  | .me _ o as => !isL o && (isL as && (wfE o && wfE as))
  | .chain _ _ a b c => !isL a && (!isL b && (!isL c && (wfE a && (wfE b && wfE c))))
  | .and a b => !isL a && (!isL b && (wfE a && wfE b))
  | .or a b => !isL a && (!isL b && (wfE a && wfE b))
  | .not a => !isL a && wfE a
  | .ite c a b => !isL c && (!isL a && (!isL b && (wfE c && (wfE a && wfE b))))
  | .call _ as => isL as && wfE as
  | .callv _ _ as => isL as && wfE as
  | .make _ as => isL as && wfE as
  | .meth _ _ o as => !isL o && (isL as && (wfE o && wfE as))
  | .fld _ o _ => !isL o && wfE o
  | .lc _ _ _ _ it cond elt => isL it && (!isL cond && (!isL elt && (wfE it && (wfE cond && wfE elt))))
/-- what is shown of each -/
def Sn (e : E) : Prop := ∀ {B : Fix} {F : Fn} {lv : Nat} {k : Ck} {W : WS} {X : Cx}, GoodX B F lv k W X → wfE e = true → ∀ es, chk e k es = true → (isL e = true → AllPE B F W X e es) ∧ (isL e = false → ∀ pe, es = [pe] → Snd B F W X pe e)
theorem Sn.one {e : E} (h : Sn e) {B : Fix} {F : Fn} {lv : Nat} {k : Ck} {W : WS} {X : Cx} (g : GoodX B F lv k W X) (hw : wfE e = true) (hl : isL e = false) {pe : PySem.Expr} (hc : chk e k [pe] = true) : Snd B F W X pe e := (h g hw _ hc).2 hl pe rfl
theorem Sn.all {e : E} (h : Sn e) {B : Fix} {F : Fn} {lv : Nat} {k : Ck} {W : WS} {X : Cx} (g : GoodX B F lv k W X) (hw : wfE e = true) (hl : isL e = true) {es : List PySem.Expr} (hc : chk e k es = true) : AllPE B F W X e es := (h g hw _ hc).1 hl
theorem tMB_yes {B : Fix} {F : Fn} {W : WS} {c : E} (h : isYes c = true) {σ : L2.St} {H : Hp} {Q : Bool → Hp → Prop} (z : tMB B F W c σ H Q) : tYes σ H Q := by
  cases c <;> first | (cases h; done) | skip
  rename_i v
  cases v <;> first | (cases h; done) | skip
  rename_i b
  cases b <;> first | (cases h; done) | skip
  obtain ⟨A, env, st, sr, er, p⟩ := z
  exact p H A .refl sr
theorem PTsm {X : Cx} {e : List PySem.Expr} {t t' : TT} (h : PTs X e t) (m : ∀ σ H Q, t' σ H Q → t σ H Q) : PTs X e t' := ⟨fun pins s σ H Q I q => h.run pins s σ H Q I (m _ _ _ q)⟩
theorem sn_all : ∀ e : E, Sn e := by
  intro e
  induction e with
  | nil =>
    intro B F lv k W X g hw es h
    refine ⟨fun _ => ?_, fun h => (by cases h)⟩
    cases es with
    | nil => rfl
    | cons _ _ => cases h
  | cons a r iha ihr =>
    intro B F lv k W X g hw es h
    refine ⟨fun _ => ?_, fun h => (by cases h)⟩
    simp only [wfE, Bool.and_eq_true, Bool.not_eq_true'] at hw
    cases es with
    | nil => cases h
    | cons e es =>
      simp only [chk, Bool.and_eq_true] at h
      exact ⟨e, es, rfl, h.1, (iha.one g hw.2.2.1 hw.1 h.2.1).ex, ihr.all g hw.2.2.2 hw.2.1 h.2.2⟩
  | var i =>
    intro B F lv k W X g hw es h
    refine ⟨fun h => (by cases h), fun _ pe q => ?_⟩
    subst q
    simp only [chk] at h
    split at h
    · rename_i q; cases q; exact snd_var g h
    · cases h
  | lit v =>
    intro B F lv k W X g hw es h
    refine ⟨fun h => (by cases h), fun _ pe q => ?_⟩
    subst q
    simp only [chk] at h
    split at h
    · rename_i q; cases q; exact snd_lit h
    · cases h
  | glob x v =>
    intro B F lv k W X g hw es h
    refine ⟨fun h => (by cases h), fun _ pe q => ?_⟩
    subst q
    simp only [chk] at h
    split at h
    · rename_i q
      cases q
      simp only [Bool.and_eq_true, decide_eq_true_eq] at h
      obtain ⟨rfl, h1, h2⟩ := h
      exact snd_glob g h1 (by simpa using h2)
    · cases h
  | op o as iha =>
    intro B F lv k W X g hw es h
    refine ⟨fun h => (by cases h), fun _ pe q => ?_⟩
    subst q
    simp only [wfE, Bool.and_eq_true, Bool.not_eq_true'] at hw
    simp only [chk] at h
    cases hs : shape k o pe with
    | none => rw [hs] at h; cases h
    | some xs =>
      rw [hs] at h
      exact snd_op g hs (iha.all g hw.2 hw.1 h)
  | me m o as iho iha =>
    intro B F lv k W X g hw es h
    refine ⟨fun h => (by cases h), fun _ pe q => ?_⟩
    subst q
    simp only [wfE, Bool.and_eq_true, Bool.not_eq_true'] at hw
    simp only [chk] at h
    split at h
    · rename_i q
      cases q
      simp only [Bool.and_eq_true, decide_eq_true_eq] at h
      obtain ⟨h0, rfl, h1, h2, h3, h4, h5⟩ := h
      exact snd_me g h0 h1 h2 h3 (iho.one g hw.2.2.1 hw.1 h4).ex (iha.all g hw.2.2.2 hw.2.1 h5)
    · cases h
  | chain o p a b c iha ihb ihc =>
    intro B F lv k W X g hw es h
    refine ⟨fun h => (by cases h), fun _ pe q => ?_⟩
    subst q
    simp only [wfE, Bool.and_eq_true, Bool.not_eq_true'] at hw
    simp only [chk] at h
    split at h
    · rename_i q
      cases q
      simp only [Bool.and_eq_true, decide_eq_true_eq] at h
      obtain ⟨h0, h1, h2, h3, h4, h5⟩ := h
      exact snd_chain h0 h1 h2 (iha.one g hw.2.2.2.1 hw.1 h3).ex (ihb.one g hw.2.2.2.2.1 hw.2.1 h4).ex (ihc.one g hw.2.2.2.2.2 hw.2.2.1 h5).ex
    · cases h
  | and a b iha ihb =>
    intro B F lv k W X g hw es h
    refine ⟨fun h => (by cases h), fun _ pe q => ?_⟩
    subst q
    simp only [wfE, Bool.and_eq_true, Bool.not_eq_true'] at hw
    simp only [chk] at h
    split at h
    · rename_i q
      cases q
      simp only [Bool.and_eq_true] at h
      exact snd_and2 (iha.one g hw.2.2.1 hw.1 h.2.2.1) (ihb.one g hw.2.2.2 hw.2.1 h.2.2.2) h.1 h.2.1
    · rename_i q
      cases q
      simp only [Bool.and_eq_true] at h
      exact snd_andN (iha.one g hw.2.2.1 hw.1 h.2.1) (ihb.one g hw.2.2.2 hw.2.1 h.2.2) h.1
    · cases h
  | or a b iha ihb =>
    intro B F lv k W X g hw es h
    refine ⟨fun h => (by cases h), fun _ pe q => ?_⟩
    subst q
    simp only [wfE, Bool.and_eq_true, Bool.not_eq_true'] at hw
    simp only [chk] at h
    split at h
    · rename_i q
      cases q
      simp only [Bool.and_eq_true] at h
      exact snd_or2 (iha.one g hw.2.2.1 hw.1 h.2.2.1) (ihb.one g hw.2.2.2 hw.2.1 h.2.2.2) h.1 h.2.1
    · rename_i q
      cases q
      simp only [Bool.and_eq_true] at h
      exact snd_orN (iha.one g hw.2.2.1 hw.1 h.2.1) (ihb.one g hw.2.2.2 hw.2.1 h.2.2) h.1
    · cases h
  | not a iha =>
    intro B F lv k W X g hw es h
    refine ⟨fun h => (by cases h), fun _ pe q => ?_⟩
    subst q
    simp only [wfE, Bool.and_eq_true, Bool.not_eq_true'] at hw
    simp only [chk] at h
    split at h
    · rename_i q
      cases q
      simp only [Bool.and_eq_true] at h
      exact snd_not (iha.one g hw.2 hw.1 h.2) h.1
    · cases h
  | ite c a b ihc iha ihb =>
    intro B F lv k W X g hw es h
    refine ⟨fun h => (by cases h), fun _ pe q => ?_⟩
    subst q
    simp only [wfE, Bool.and_eq_true, Bool.not_eq_true'] at hw
    simp only [chk] at h
    split at h
    · rename_i q
      cases q
      simp only [Bool.and_eq_true] at h
      exact snd_ite (ihc.one g hw.2.2.2.1 hw.1 h.2.1) (iha.one g hw.2.2.2.2.1 hw.2.1 h.2.2.1) (ihb.one g hw.2.2.2.2.2 hw.2.2.1 h.2.2.2) h.1
    · cases h
  | call f as iha =>
    intro B F lv k W X g hw es h
    refine ⟨fun h => (by cases h), fun _ pe q => ?_⟩
    subst q
    simp only [wfE, Bool.and_eq_true, Bool.not_eq_true'] at hw
    simp only [chk] at h
    split at h
    · rename_i q
      cases q
      simp only [Bool.and_eq_true, decide_eq_true_eq, List.contains_iff_mem] at h
      obtain ⟨rfl, h1, h2, h3⟩ := h
      exact snd_call g h1 h2 (iha.all g hw.2 hw.1 h3)
    · cases h
  | callv i fs as iha =>
    intro B F lv k W X g hw es h
    refine ⟨fun h => (by cases h), fun _ pe q => ?_⟩
    subst q
    simp only [wfE, Bool.and_eq_true, Bool.not_eq_true'] at hw
    simp only [chk] at h
    split at h
    · rename_i q
      cases q
      simp only [Bool.and_eq_true, List.all_eq_true, List.contains_iff_mem] at h
      obtain ⟨h1, h2, h3⟩ := h
      exact snd_callv g h1 h2 (iha.all g hw.2 hw.1 h3)
    · cases h
  | make c as iha =>
    intro B F lv k W X g hw es h
    refine ⟨fun h => (by cases h), fun _ pe q => ?_⟩
    subst q
    simp only [wfE, Bool.and_eq_true, Bool.not_eq_true'] at hw
    simp only [chk] at h
    split at h
    · rename_i q
      cases q
      simp only [Bool.and_eq_true, decide_eq_true_eq, List.contains_iff_mem] at h
      obtain ⟨rfl, h1, h2, h3⟩ := h
      exact snd_make g h1 h2 (iha.all g hw.2 hw.1 h3)
    · cases h
  | meth c m o as iho iha =>
    intro B F lv k W X g hw es h
    refine ⟨fun h => (by cases h), fun _ pe q => ?_⟩
    subst q
    simp only [wfE, Bool.and_eq_true, Bool.not_eq_true'] at hw
    simp only [chk] at h
    split at h
    · rename_i q
      cases q
      simp only [Bool.and_eq_true, decide_eq_true_eq, List.contains_iff_mem] at h
      obtain ⟨rfl, h1, h2, h3, h4, h5, h6⟩ := h
      exact snd_meth g h1 h2 h3 h4 (iho.one g hw.2.2.1 hw.1 h5).ex (iha.all g hw.2.2.2 hw.2.1 h6)
    · cases h
  | fld c o f iho =>
    intro B F lv k W X g hw es h
    refine ⟨fun h => (by cases h), fun _ pe q => ?_⟩
    subst q
    simp only [wfE, Bool.and_eq_true, Bool.not_eq_true'] at hw
    simp only [chk] at h
    split at h
    · rename_i q
      cases q
      simp only [Bool.and_eq_true, decide_eq_true_eq, List.contains_iff_mem] at h
      obtain ⟨rfl, h1, h2, h3⟩ := h
      exact snd_fld g h1 h2 (iho.one g hw.2 hw.1 h3).ex
    · cases h
  | lc p own tg kk it cond elt ihi ihc ihe =>
    intro B F lv k W X g hw es h
    refine ⟨fun h => (by cases h), fun _ pe q => ?_⟩
    subst q
    simp only [wfE, Bool.and_eq_true, Bool.not_eq_true'] at hw
    obtain ⟨w1, w2, w3, w4, w5, w6⟩ := hw
    simp only [chk] at h
    split at h
    · rename_i el tgE iter ifs scope pos q
      cases q
      simp only [Bool.and_eq_true] at h
      obtain ⟨h0, h1, h2, h3, ⟨h4, h5⟩, h6, h7, h8⟩ := h
      cases hi : itArgs kk k tgE iter with
      | none => rw [hi] at h0; cases h0
      | some xs =>
        rw [hi] at h0
        refine .of (pe_lcM g (pi_M g hi (ihi.all g w4 w1 h0)) h1 (by rw [g.N, g.sc]; exact blkOk_by h2) h3 (fun Z s H C cl fp => (pg_M ((g.blk scope s H C cl fp).z Z) tg h5).1 tgE h4 h6) (fun Z s H C cl fp => ?_)
          (fun Z s H C cl fp => (ihe.one ((g.blk scope s H C cl fp).z Z) w6 w3 h8).ex)) rfl
        split at h7
        · exact PTsm pts_nil fun σ H Q z => tMB_yes h7 z
        · rw [Bool.and_eq_true] at h7
          exact pts_one ((ihc.one ((g.blk scope s H C cl fp).z Z) w5 w2 h7.2).test h7.1)
        · cases h7
    · cases h
end Mi
set_option Elab.async false
set_option linter.all false
set_option maxRecDepth 100000
set_option maxHeartbeats 2000000
/-! MiSt: every statement that is checked is what its mirror says. -/
namespace Mi
open PySem PySem.Spec PyProof.Rows L2
def notComp : PySem.Expr → Bool
  | .ListComp .. => false
  | .SetComp .. => false
  | .DictComp .. => false
  | _ => true
def notTupE : PySem.Expr → Bool
  | .Tuple .. => false
  | _ => true
def isNameE : PySem.Expr → Bool
  | .Name .. => true
  | _ => false
def isLc : E → Bool
  | .lc .. => true
  | _ => false
/-- how an assignment stores -/
def asgOk (k : Ck) (tg : Tg) (e : E) (t pe : PySem.Expr) : Bool := match t with
  | .Name y py => (match pe with
    | .ListComp _ _ scope pos => isLc e && (match k.sc.names.lookup y with
      | some .local => py.line == pos.line && !(scope.names.any fun (n, k) => n == y && (k == .local || k == .cell))
      | some .cell => true
      | _ => false)
    | pe => notComp pe)
  | .Tuple .. => notComp pe && notTupE pe
  | _ => false
/-- a single statement -/
def is1 : S → Bool
  | .skip => false
  | .seq .. => false
  | _ => true
def chkS : S → Ck → List Stmt → Bool
  | .skip, _, ss => (match ss with
    | [] => true
    | [.Pass _] => true
    | _ => false)
  | .seq a b, k, ss => (match ss with
    | s :: r => is1 a && (chkS a k [s] && chkS b k r)
    | [] => false)
  | .exp e, k, ss => (match ss with
    | [.Expr pe _] => notComp pe && (!isL e && (wfE e && chk e k [pe]))
    | _ => false)
  | .asg tg e, k, ss => (match ss with
    | [.Assign [t] pe _] => (tg1 tg && tgW tg) && (tgC tg k [t] && (asgOk k tg e t pe && (!isL e && (wfE e && chk e k [pe]))))
    | _ => false)
  | .setI o i e, k, ss => (match ss with
    | [.Assign [.Subscript x y _] pe _] => notComp pe && (noSlice y && ((!isL o && (wfE o && chk o k [x])) && ((!isL i && (wfE i && chk i k [y])) && (!isL e && (wfE e && chk e k [pe])))))
    | _ => false)
  | .setF c o f e, k, ss => (match ss with
    | [.Assign [.Attribute x g _] pe _] => decide (g = f) && (k.flds.contains (c, f) && ((!isL o && (wfE o && chk o k [x])) && (!isL e && (wfE e && chk e k [pe]))))
    | _ => false)
  | .ite c a b, k, ss => (match ss with
    | [.If pe x y _] => notIte c && ((!isL c && (wfE c && chk c k [pe])) && (chkS a k x && chkS b k y))
    | _ => false)
  | .for_ tg kk it body, k, ss => (match ss with
    | [.For t pe x [] _] => (tg1 tg && tgW tg) && (tgC tg k [t] && (noSet pe && ((match itArgs kk k t pe with
      | some xs => isL it && (wfE it && chk it k xs)
      | none => false) && chkS body k x)))
    | _ => false)
  | .while_ c body, k, ss => (match ss with
    | [.While pe x [] _] => notIte c && ((!isL c && (wfE c && chk c k [pe])) && chkS body k x)
    | _ => false)
  | .ret e, k, ss => (match ss with
    | [.Return (some pe) _] => !isL e && (wfE e && chk e k [pe])
    | _ => false)
  | .retN, _, ss => (match ss with
    | [.Return none _] => true
    | _ => false)
  | .brk, _, ss => (match ss with
    | [.Break _] => true
    | _ => false)
  | .raise c, k, ss => (match ss with
    | [.Raise (some (.Call (.Name g _) [.Constant (.str _) _ _] [] _)) none _] => decide (g = c) && (glb k c && k.excs.contains c)
    | _ => false)
  | .tryN body, k, ss => (match ss with
    | [.Try x (_ :: _) [] [] _] => chkS body k x
    | _ => false)
  | .tryX .., _, _ => false

section
variable {B : Fix} {F : Fn} {lv : Nat} {k : Ck} {W : WS} {X : Cx}
theorem sw_no {pe : PySem.Expr} (h : notComp pe = true) (t : Option PySem.Expr) (l : Nat) (env : PySem.Env) : swapsWith pe t l env = pure false := by
  cases pe <;> first | rfl | cases h
theorem sws_tup {pe : PySem.Expr} (h : notTupE pe = true) (t : PySem.Expr) (env : PySem.Env) : swappedStores [t] pe env = pure none := by
  cases pe <;> first | (cases h; done) | (cases t <;> rfl)
theorem sws_name {pe : PySem.Expr} (x : Str) (p : Pos) (env : PySem.Env) : swappedStores [.Name x p] pe env = pure none := by
  cases pe <;> rfl
/-- an expression first, then what follows -/
theorem tM_bindS {e : E} {σ : L2.St} {H : Hp} {A : List Addr} {env : Env} {st : Store} {k : MV → Store → Res Out} {D : Ends} {Q : VK} (s : SR B H A st) (r : ER B H A σ env)
    (p : PostS B A H D σ W ((evalE F e env st).bind k))
    (h : ∀ v st1 u H1 A1, Ext A A1 H H1 → SR B H1 A1 st1 → ER B H1 A1 σ env → RV B H1 A1 v u → PostS B A1 H1 D σ W (k v st1) → Q u H1) : tM B F W e σ H Q := by
  refine ⟨A, env, st, s, r, ?_⟩
  cases q : evalE F e env st with
  | ok v st1 =>
    rw [q] at p
    exact fun u H1 A1 e1 s1 r1 => h v st1 u H1 A1 e1 s1 (r.mono e1) r1 (PostS.ext e1 p)
  | exc c st1 => rw [q] at p; exact fun H1 A1 e1 s1 => p σ H1 A1 e1 s1
  | err => rw [q] at p; exact p
theorem tMB_bindS {e : E} {σ : L2.St} {H : Hp} {A : List Addr} {env : Env} {st : Store} {t f : Store → Res Out} {D : Ends} {Q : Bool → Hp → Prop} (s : SR B H A st) (r : ER B H A σ env)
    (p : PostS B A H D σ W ((evalE F e env st).bind (onB t f)))
    (h : ∀ b st1 H1 A1, Ext A A1 H H1 → SR B H1 A1 st1 → ER B H1 A1 σ env → PostS B A1 H1 D σ W (if b = true then t st1 else f st1) → Q b H1) : tMB B F W e σ H Q := by
  refine ⟨A, env, st, s, r, ?_⟩
  cases q : evalE F e env st with
  | ok v st1 =>
    rw [q] at p
    cases v <;> first | exact p.elim | skip
    rename_i b
    refine fun H1 A1 e1 s1 => h b st1 H1 A1 e1 s1 (r.mono e1) (PostS.ext (σ := σ) e1 ?_)
    cases b <;> exact p
  | exc c st1 => rw [q] at p; exact fun H1 A1 e1 s1 => p σ H1 A1 e1 s1
  | err => rw [q] at p; exact p
/-- behind a binding -/
theorem gM_S {tg : Tg} {σ : L2.St} {H : Hp} {A : List Addr} {env : Env} {st : Store} {D : Ends} {v : MV} {u : V} {σ0 : L2.St} (s : SR B H A st) (r : ER B H A σ env) (rv : RV B H A v u) (p : PostS B A H D σ0 W (stEnv (bindT st tg v env) st)) : gM B tg u σ H D.nx := by
  refine ⟨A, st, v, env, s, r, rv, ?_⟩
  cases q : bindT st tg v env with
  | none => rw [q] at p; exact p
  | some env1 => rw [q] at p; exact fun σ' er' _ => p σ' H A .refl s er'
end
end Mi
set_option Elab.async false
set_option linter.all false
set_option maxRecDepth 100000
set_option maxHeartbeats 2000000
/-! MiSt2: statements, one by one. -/
namespace Mi
open PySem PySem.Spec PyProof.Rows L2
section
variable {B : Fix} {F : Fn} {lv : Nat} {k : Ck} {W : WS} {X : Cx}
theorem PEs {pe : PySem.Expr} {e : E} (g : GoodX B F lv k W X) (h : (!isL e && (wfE e && chk e k [pe])) = true) : Snd B F W X pe e := by
  simp only [Bool.and_eq_true, Bool.not_eq_true'] at h
  exact Sn.one (sn_all e) g h.2.1 h.1 h.2.2
theorem GoodX.nox (g : GoodX B F lv k W X) : GoodX B F lv k W0 X.nox := by
  refine ⟨⟨g.on.P, g.on.w, g.on.K, g.on.mg, g.on.base⟩, g.N, g.nd, g.sc, g.calm, g.room, ?_, g.fn, g.fa⟩
  intro e s' h
  obtain ⟨_, _, _, _, _, _, _, _, _, _, _, _, _, _, _, _, c, C, _, _, _, hw⟩ := h
  exact hw.elim
theorem PS.nox' {st : Stmt} {t : TS} (h : PS X.nox st t) : PS X st t := ⟨fun pins s σ H D I hw =>
  wpAny_mono (h.run pins s σ H D (I.wish _) hw) (fun _ _ q => q.unwish) fun _ _ z => False.elim z⟩
/-! ### assignments -/
theorem kindX {st : Stmt} {t : TS} (h : X.env.scope.kind = .function → PS X st t) : PS X st t := ⟨fun pins s σ H D I hw => (h I.ok.kind).run pins s σ H D I hw⟩
theorem lc_parts (g : GoodX B F lv k W X) {p : Bool} {own : List Nat} {tg : Tg} {kk : ItK} {it cond elt : E} {el : PySem.Expr} {gens : List Comprehension} {scope : Scope} {pos : Pos} (hw : wfE (.lc p own tg kk it cond elt) = true) (h : chk (.lc p own tg kk it cond elt) k [.ListComp el gens scope pos] = true) :
    ∃ tgE iter ifs, gens = [⟨tgE, iter, ifs, 0⟩] ∧ PI X tgE iter (tMI X B F kk it) ∧ noSet iter = true ∧ BlkOk X.N X.env.scope scope (ownOf k.N own) ∧ tgIn tg own = true ∧
      (∀ Z s H C cl fp, PG (X.blk s H scope (compEnvC scope cl C X.env) fp) tgE (gM (B.z Z) tg)) ∧ (∀ Z s H C cl fp, PTs (X.blk s H scope (compEnvC scope cl C X.env) fp) ifs (tMB (B.z Z) F W0 cond)) ∧
      (∀ Z s H C cl fp, PE (X.blk s H scope (compEnvC scope cl C X.env) fp) el (tM (B.z Z) F W0 elt)) := by
  simp only [wfE, Bool.and_eq_true, Bool.not_eq_true'] at hw
  obtain ⟨w1, w2, w3, w4, w5, w6⟩ := hw
  simp only [chk] at h
  split at h
  · rename_i el' tgE iter ifs scope' pos' q
    cases q
    simp only [Bool.and_eq_true] at h
    obtain ⟨h0, h1, h2, h3, ⟨h4, h5⟩, h6, h7, h8⟩ := h
    cases hi : itArgs kk k tgE iter with
    | none => rw [hi] at h0; cases h0
    | some xs =>
      rw [hi] at h0
      refine ⟨tgE, iter, ifs, rfl, pi_M g hi (Sn.all (sn_all it) g w4 w1 h0), h1, by rw [g.N, g.sc]; exact blkOk_by h2, h3, fun Z s H C cl fp => (pg_M ((g.blk scope s H C cl fp).z Z) tg h5).1 tgE h4 h6, fun Z s H C cl fp => ?_, fun Z s H C cl fp => (Sn.one (sn_all elt) ((g.blk scope s H C cl fp).z Z) w6 w3 h8).ex⟩
      split at h7
      · exact PTsm pts_nil fun σ H Q z => tMB_yes h7 z
      · rw [Bool.and_eq_true] at h7
        exact pts_one ((Sn.one (sn_all cond) ((g.blk scope s H C cl fp).z Z) w5 w2 h7.2).test h7.1)
      · cases h7
  · cases h
theorem tg_name {tg : Tg} {y : Str} {p : Pos} (h1 : tg1 tg = true) (h : tgC tg k [.Name y p] = true) : ∃ i, tg = .name i ∧ k.N[i]? = some y := by
  cases tg <;> first | (cases h1; done) | skip
  · rename_i i
    simp only [tgC, Bool.and_eq_true, decide_eq_true_eq] at h
    exact ⟨i, rfl, h.1⟩
  · cases h
theorem st_asg (g : GoodX B F lv k W X) {tg : Tg} {e : E} {t pe : PySem.Expr} {pos : Pos} (h : ((tg1 tg && tgW tg) && (tgC tg k [t] && (asgOk k tg e t pe && (!isL e && (wfE e && chk e k [pe]))))) = true) : PS X (.Assign [t] pe pos) (tMS B F W (.asg tg e)) := by
  rw [Bool.and_eq_true, Bool.and_eq_true, Bool.and_eq_true, Bool.and_eq_true] at h
  obtain ⟨⟨h1, h2⟩, h3, h4, h5⟩ := h
  have pe0 := (PEs g h5).ex
  have pg := (pg_M g tg h2).1 t h1 h3
  have key : ∀ D σ H, tMS B F W (.asg tg e) D σ H → tAsg (tM B F W e) (gM B tg) D σ H := fun D σ H z => by
    obtain ⟨A, env, st, sr, er, p⟩ := z
    exact tM_bindS sr er p fun v st1 u H1 A1 e1 s1 er1 r1 p1 => gM_S s1 er1 r1 p1
  cases t <;> first | (cases h4; done) | skip
  · -- a name
    rename_i y py
    obtain ⟨i, rfl, hi⟩ := tg_name h1 h3
    have nm : ∀ {t : Str} {env : PySem.Env}, (assignEach [.Name y py] env).map (·.2) = [assign (.Name y py) env] := fun {t env} => rfl
    by_cases hc : notComp pe = true
    · exact PSm (ps_asg pe0 pg (show swapsWith pe (some (.Name y py)) pos.line X.env = pure false from sw_no hc _ _ _) (sws_name _ _ _) rfl) key
    · cases pe <;> first | (exact absurd rfl hc) | skip
      · -- a comprehension
        rename_i el gens scope lpos
        simp only [asgOk, Bool.and_eq_true] at h4
        obtain ⟨hlc, h4⟩ := h4
        split at h4
        · rename_i hl
          simp only [Bool.and_eq_true, Bool.not_eq_true'] at h4
          cases e <;> first | (cases hlc; done) | skip
          rename_i p own tg2 kk it cond elt
          rw [Bool.and_eq_true, Bool.and_eq_true] at h5
          obtain ⟨tgE, iter, ifs, rfl, q1, q2, q3, q4, q5, q6, q7⟩ := lc_parts g h5.2.1 h5.2.2
          refine kindX fun hk => ?_
          have hsw := sw_true (elt := el) (gs := [⟨tgE, iter, ifs, 0⟩]) (scope := scope) (pos := lpos) (py := py) (y := y) (l := pos.line) (env := X.env) hk (by rw [g.sc]; exact hl) h4.1 h4.2
          have h0 := ps_un (ps_setLc (i := i) (spos := pos) g.calm (by rw [g.N]; exact g.nd) (by rw [g.N]; exact hi) (by rw [g.sc]; exact hl) hsw q1 q3 (fun s H C cl fp => PGx fun Z => q5 Z s H C cl fp) (fun s H C cl fp => PTsx fun Z => q6 Z s H C cl fp) (fun s H C cl fp => PEx fun Z => q7 Z s H C cl fp) (foldIt q2 X.env))
          rw [own_map] at h0
          refine PSm h0 fun D σ H z => ?_
          obtain ⟨A, env, st, sr, er, pp⟩ := z
          have zz : tM B F W (.lc p own tg2 kk it cond elt) σ H fun u H1 => D.nx (σ.set i (some u)) H1 := tM_bindS sr er pp fun v st1 u H1 A1 e1 s1 er1 r1 p1 => p1 _ H1 A1 .refl s1 (er1.set r1)
          exact rd_lc q4 zz
        · rename_i hl
          have hsw : swapsWith (.ListComp el gens scope lpos) (some (.Name y py)) pos.line X.env = pure false := by
            have ky : X.env.kindOf y = some .cell := by
              show X.env.scope.names.lookup y = _
              rw [g.sc]
              exact hl
            unfold swapsWith
            simp only [ky]
            rw [show ((some NameKind.cell == some NameKind.local) : Bool) = false from rfl]
            simp
          exact PSm (ps_asg pe0 pg (show swapsWithSole [.Name y py] (.ListComp el gens scope lpos) pos.line X.env = pure false from hsw) (sws_name _ _ _) rfl) key
        · cases h4
      · cases h4
      · cases h4
  · -- a tuple
    rename_i ts kk tp
    simp only [asgOk, Bool.and_eq_true] at h4
    exact PSm (ps_asg pe0 pg (show swapsWith pe (some (.Tuple ts kk tp)) pos.line X.env = pure false from sw_no h4.1 _ _ _) (sws_tup h4.2 _ _) rfl) key
end
end Mi
set_option Elab.async false
set_option linter.all false
set_option maxRecDepth 100000
set_option maxHeartbeats 2000000
/-! MiSt3: all statements. -/
namespace Mi
open PySem PySem.Spec PyProof.Rows L2
section
variable {B : Fix} {F : Fn} {lv : Nat} {k : Ck} {W : WS} {X : Cx}
def rSetM (B : Fix) : TSet := fun o i v H Q => ∃ A st mo mi mv, SR B H A st ∧ RV B H A mo o ∧ RV B H A mi i ∧ RV B H A mv v ∧ (match setIx mo mi mv st with
  | some st' => ∀ H' A', Ext A A' H H' → SR B H' A' st' → Q H'
  | none => False)
theorem set_M (hu : X.A.units + 64 < cLine) : PSet X (rSetM B) := by
  intro pins s σ H o i v ov iv u Q I ro ri rv h
  obtain ⟨A, st, mo, mi, mv, sr, r1, r2, r3, q⟩ := h
  cases mo <;> first | exact q.elim | skip
  rename_i n
  cases mi <;> first | exact q.elim | skip
  · -- a list
    rename_i j
    simp only [setIx] at q
    cases hn : st[n]? with
    | none => rw [hn] at q; exact q.elim
    | some ob =>
      rw [hn] at q
      cases ob <;> first | exact q.elim | skip
      rename_i xs
      obtain ⟨a, vs, rfl, ha, hH, rs, hl⟩ := at_lst sr r1 hn
      cases r2
      replace q : (match (match ixN xs.length j with | some j => some (st.set n (.lst (xs.set j mv))) | none => none) with | some st' => ∀ H' A', Ext A A' H H' → SR B H' A' st' → Q H' | none => False) := q
      cases hj : ixN xs.length j with
      | none => rw [hj] at q; exact q.elim
      | some m =>
        rw [hj] at q
        have e := Ext.set (o := HO.lst (vs.set m v)) ha (nf_lst hH)
        refine set_list pins s σ H _ _ v ov iv u Q I ro ri rv ⟨a, vs, j, m, rfl, rfl, hH, by rw [← rs.length]; exact hj, q _ A e (sr.set ha (nf_lst hH) ⟨_, upd_same, (rs.set r3 m).mono e, by rw [List.length_set]; exact hl⟩)⟩
  · -- a table
    rename_i key
    simp only [setIx] at q
    cases hn : st[n]? with
    | none => rw [hn] at q; exact q.elim
    | some ob =>
      rw [hn] at q
      cases ob <;> first | exact q.elim | skip
      rename_i kvs
      obtain ⟨a, ks, rfl, ha, hH, rs, hl⟩ := at_dic sr r1 hn
      cases r2
      replace q : (match (if kvs.length < lim then some (st.set n (.dic (dput kvs key mv))) else none) with | some st' => ∀ H' A', Ext A A' H H' → SR B H' A' st' → Q H' | none => False) := q
      by_cases hlt : kvs.length < lim
      · rw [if_pos hlt] at q
        have e := Ext.set (o := HO.dK (putK ks (Sum.inr key) v)) ha (nf_dK hH)
        refine set_dict (by omega) pins s σ H _ _ v ov iv u Q I ro ri rv ⟨a, _, rfl, DPut.k (k := Sum.inr key) hH (by rw [lim_eq, ← rs.length]; exact hlt), q _ A e (sr.set ha (nf_dK hH) ⟨_, upd_same, (rs.put r3).mono e, ?_⟩)⟩
        have := dput_length kvs key mv
        omega
      · rw [if_neg hlt] at q
        exact q.elim
theorem st_setI (g : GoodX B F lv k W X) {o i e : E} {x y pe : PySem.Expr} {p pos : Pos} (hc : notComp pe = true) (hs : noSlice y = true) (ho : Snd B F W X x o) (hi : Snd B F W X y i) (he : Snd B F W X pe e) : PS X (.Assign [.Subscript x y p] pe pos) (tMS B F W (.setI o i e)) := by
  have pg : PG X (.Subscript x y p) (gSub (tM B F W o) (tM B F W i) (rSetM B)) := pg_sub ho.ex hi.ex (set_M g.u64) fun v => by
    cases y <;> first | rfl | cases hs
  refine PSm (ps_asg he.ex pg (show swapsWith pe (some (.Subscript x y p)) pos.line X.env = pure false from sw_no hc _ _ _) (by cases pe <;> rfl) rfl) fun D σ H z => ?_
  obtain ⟨A, env, st, sr, er, pp⟩ := z
  refine tM_bindS sr er pp fun v st1 u H1 A1 e1 s1 er1 r1 p1 => tM_bindS s1 er1 p1 fun w st2 u2 H2 A2 e2 s2 er2 r2 p2 => tM_bindS s2 er2 p2 fun z st3 u3 H3 A3 e3 s3 er3 r3 p3 => ?_
  refine ⟨A3, st3, w, z, v, s3, r2.mono e3, r3, (r1.mono e2).mono e3, ?_⟩
  cases hx : setIx w z v st3 with
  | none => rw [hx] at p3; exact p3
  | some st4 => rw [hx] at p3; exact fun H4 A4 e4 s4 => p3 σ H4 A4 e4 s4 (er3.mono e4)
theorem st_setF (g : GoodX B F lv k W X) {c f : Str} {o e : E} {x pe : PySem.Expr} {p pos : Pos} (hf : (c, f) ∈ k.flds) (ho : Snd B F W X x o) (he : Snd B F W X pe e) : PS X (.Assign [.Attribute x f p] pe pos) (tMS B F W (.setF c o f e)) := by
  obtain ⟨C, hm, hC, hN⟩ := g.fa.fl (c, f) hf
  have hsw : swapsWith pe (some (.Attribute x f p)) pos.line X.env = pure false := by cases pe <;> rfl
  refine PSm (ps_fld ho.ex he.ex hsw) fun D σ H z => ?_
  obtain ⟨A, env, st, sr, er, pp⟩ := z
  refine tM_bindS sr er pp fun v st1 u H1 A1 e1 s1 er1 r1 p1 => tM_bindS s1 er1 p1 fun w st2 u2 H2 A2 e2 s2 er2 r2 p2 => ?_
  rw [g.on.K]
  cases r2 <;> first | exact p2.elim | skip
  rename_i n a hn
  simp only [setFl] at p2
  cases hst : st2[n]? with
  | none => rw [hst] at p2; exact p2.elim
  | some ob =>
    rw [hst] at p2
    cases ob <;> first | exact p2.elim | skip
    rename_i d fs
    replace p2 : PostS B A2 H2 D σ W (stSt env (if c = d ∧ fs.length < 1000 then some (st2.set n (.ins d (fput f v fs))) else none)) := p2
    split at p2
    · rename_i hcd
      obtain ⟨rfl, hlt⟩ := hcd
      obtain ⟨C', dx, vs, q1, q2, q3⟩ := s2.obj n a _ hn hst
      rw [hm] at q1
      cases q1
      have ex := Ext.set (o := HO.ins C dx (putF f u vs)) hn (nf_ins q2)
      exact ⟨a, C, dx, vs, rfl, q2, hC, hN, by rw [← q3.length]; exact hlt, p2 σ _ A2 ex (s2.set hn (nf_ins q2) ⟨C, dx, _, hm, upd_same, (q3.put (r1.mono e2)).mono ex⟩) (er2.mono ex)⟩
    · exact p2.elim
/-! ### loops -/
theorem st_while (g : GoodX B F lv k W X) {c : E} {b : S} {pe : PySem.Expr} {body : List Stmt} {pos : Pos} (hc : PT X.nox pe (tMB B F W0 c)) (hb : PSs X.nox body (tMS B F W0 b)) : PS X (.While pe body [] pos) (tMS B F W (.while_ c b)) := by
  refine PS.nox' (PSm (ps_while PassesOwn.never hc hb) fun D σ H z => ?_)
  obtain ⟨A, env, st, sr, er, pp⟩ := z
  replace pp : PostS B A H D σ W (whileGo (evalE F c) (execS F b) turns env st) := pp
  generalize turns = n at pp
  refine ⟨fun m σ' H' => ∃ A' env' st', Ext A A' H H' ∧ SR B H' A' st' ∧ ER B H' A' σ' env' ∧ PostS B A' H' D σ' W (whileGo (evalE F c) (execS F b) m env' st'), ⟨n, A, env, st, .refl, sr, er, pp⟩, ?_⟩
  rintro m σ1 H1 ⟨A1, env1, st1, e1, s1, er1, p1⟩
  cases m with
  | zero => exact p1.elim
  | succ m =>
    simp only [whileGo] at p1
    refine ⟨A1, env1, st1, s1, er1, ?_⟩
    cases hv : evalE F c env1 st1 with
    | err => rw [hv] at p1; exact p1.elim
    | exc c' st2 => rw [hv] at p1; exact p1.elim
    | ok v st2 =>
      rw [hv] at p1
      cases v <;> first | exact p1.elim | skip
      rename_i t
      intro H2 A2 e2 s2
      cases t with
      | false => exact p1 σ1 H2 A2 e2 s2 (er1.mono e2)
      | true =>
        simp only [if_true]
        replace p1 : PostS B A1 H1 D σ1 W (whileK (whileGo (evalE F c) (execS F b) m) (execS F b env1 st2)) := p1
        refine ⟨fun σ' H' => ∃ A' env' st', Ext A A' H H' ∧ SR B H' A' st' ∧ ER B H' A' σ' env' ∧ PostS B A' H' D σ' W (whileGo (evalE F c) (execS F b) m env' st'), fun σ' H' h => ⟨m, Nat.lt_succ_self _, h⟩, A2, env1, st2, s2, er1.mono e2, ?_⟩
        have p2 := PostS.ext (σ1 := σ1) e2 p1
        cases hx : execS F b env1 st2 with
        | err => rw [hx] at p2; exact p2.elim
        | exc c' st3 => rw [hx] at p2; exact p2.elim
        | ok out st3 =>
          rw [hx] at p2
          cases out with
          | nx env3 => exact fun σ3 H3 A3 e3 s3 er3 => ⟨A3, env3, st3, (e1.trans e2).trans e3, s3, er3, PostS.ext (σ := σ1) e3 p2⟩
          | bk env3 => exact fun σ3 H3 A3 e3 s3 er3 => p2 σ3 H3 A3 e3 s3 er3
          | rt v => exact fun u H3 A3 e3 s3 r3 => p2 u H3 A3 e3 s3 r3
theorem st_for (g : GoodX B F lv k W X) {tg : Tg} {kk : ItK} {it : E} {b : S} {t pe : PySem.Expr} {body : List Stmt} {pos : Pos} (hi : PI X.nox t pe (tMI X.nox B F kk it)) (ns : noSet pe = true) (hg : PG X.nox t (gM B tg)) (hb : PSs X.nox body (tMS B F W0 b)) : PS X (.For t pe body [] pos) (tMS B F W (.for_ tg kk it b)) := by
  refine PS.nox' (PSm (ps_un (ps_for PassesOwn.never g.nox.calm hi hg hb (foldIt ns _))) fun D σ H z => ?_)
  obtain ⟨A, env, st, sr, er, pp⟩ := z
  refine ⟨A, env, st, sr, er, ?_⟩
  simp only [execS] at pp
  cases q : evalE F it env st with
  | err => rw [q] at pp; exact pp.elim
  | exc c st1 => rw [q] at pp; exact pp.elim
  | ok v st1 =>
    rw [q] at pp
    cases v <;> first | exact pp.elim | skip
    rename_i vs
    simp only [itR] at pp
    show (match items kk vs st1 with | some (xs, l) => _ | none => False)
    cases hit : items kk vs st1 with
    | none => rw [hit] at pp; exact pp.elim
    | some pr =>
      obtain ⟨xs, l⟩ := pr
      rw [hit] at pp
      replace pp : PostS B A H D σ W (forGo (fun x env st => forStep (execS F b) (bindT st tg x env) st) l xs env (lock l st1)) := pp
      generalize hstep : (fun x env st => forStep (execS F b) (bindT st tg x env) st) = step at pp
      intro J H1 A1 e1 s1 lk wk
      have fin : ∀ {σ' : L2.St} {env' : Env} {A' : List Addr} {H' : Hp} {st' : Store} {σ0 : L2.St}, Ext A1 A' H1 H' → SR B H' A' st' → ER B H' A' σ' env' → PostS B A H D σ0 W (.ok (.nx env') (unlock l st')) → Un X.nox (D.nx σ') H' := fun {σ' env' A' H' st' σ0} e s r p => by
        refine unlocked (B := B) (Z' := B.Z) (fun z hz => (s1.zs z hz).1) lk (fun z hz => .inl hz) e1 e s fun Hu eu su _ _ _ er' => ?_
        exact p σ' Hu A' eu su (er' r)
      have finR : ∀ {v : MV} {u : V} {A' : List Addr} {H' : Hp} {st' : Store} {σ0 : L2.St}, Ext A1 A' H1 H' → SR B H' A' st' → RV B H' A' v u → PostS B A H D σ0 W (.ok (.rt v) (unlock l st')) → Un X.nox (D.rt u) H' := fun {v u A' H' st' σ0} e s r p => by
        refine unlocked (B := B) (Z' := B.Z) (fun z hz => (s1.zs z hz).1) lk (fun z hz => .inl hz) e1 e s fun Hu eu su _ rv' _ _ => ?_
        exact p u Hu A' eu su (rv' r)
      refine ⟨fun i m σ' H' => m = xs.length - i ∧ i ≤ xs.length ∧ ∃ A' env' st', Ext A1 A' H1 H' ∧ SR B H' A' st' ∧ ER B H' A' σ' env' ∧ PostS B A H D σ W (forGo step l (xs.drop i) env' st'), ⟨xs.length, by simp, Nat.zero_le _, A1, env, lock l st1, .refl, s1, er.mono e1, pp⟩, ?_⟩
      rintro i m σ2 H2 ⟨rfl, hle, A2, env2, st2, e2, s2, er2, p2⟩
      by_cases hlt : i < xs.length
      · have hdrop : xs.drop i = xs[i] :: xs.drop (i + 1) := List.drop_eq_getElem_cons hlt
        have hget : xs[i]? = some xs[i] := List.getElem?_eq_getElem hlt
        refine .inr ⟨wk.go i A2 H2 e2 hlt, fun σ' H' => ∃ A' env' st', Ext A1 A' H1 H' ∧ SR B H' A' st' ∧ ER B H' A' σ' env' ∧ PostS B A H D σ W (forGo step l (xs.drop (i + 1)) env' st'), fun σ' H' h => ⟨xs.length - (i + 1), by omega, rfl, hlt, h⟩, fun x H' y => ?_⟩
        obtain ⟨ey, sy, ry⟩ := (wk.yld i A2 H2 x H' e2 y _ hget).here e2 s2
        have e3 : Ext A1 A2 H1 H' := e2.trans ey
        rw [hdrop] at p2
        simp only [forGo] at p2
        have hx : step xs[i] env2 st2 = forStep (execS F b) (bindT st2 tg xs[i] env2) st2 := by rw [← hstep]
        rw [hx] at p2
        refine ⟨A2, st2, xs[i], env2, sy, er2.mono ey, ry, ?_⟩
        cases hb' : bindT st2 tg xs[i] env2 with
        | none => rw [hb'] at p2; exact p2.elim
        | some env3 =>
          rw [hb'] at p2
          intro σ3 er3 _
          refine ⟨A2, env3, st2, sy, er3, ?_⟩
          simp only [forStep] at p2
          cases hr : execS F b env3 st2 with
          | err => rw [hr] at p2; exact p2.elim
          | exc c st3 => rw [hr] at p2; exact p2.elim
          | ok out st3 =>
            rw [hr] at p2
            cases out with
            | nx env4 => exact fun σ4 H4 A4 e4 s4 er4 => ⟨A4, env4, st3, e3.trans e4, s4, er4, p2⟩
            | bk env4 => exact fun σ4 H4 A4 e4 s4 er4 => fin (e3.trans e4) s4 er4 p2
            | rt v => exact fun u H4 A4 e4 s4 r4 => finR (e3.trans e4) s4 r4 p2
      · have e : i = xs.length := by omega
        subst e
        rw [List.drop_length] at p2
        exact .inl ⟨wk.stop A2 H2 e2, fin e2 s2 er2 p2⟩
end
end Mi
set_option Elab.async false
set_option linter.all false
set_option maxRecDepth 100000
set_option maxHeartbeats 2000000
/-! MiSt4: all statements. -/
namespace Mi
open PySem PySem.Spec PyProof.Rows L2
/-- what is shown of each -/
def SnS (s : S) : Prop := ∀ {B : Fix} {F : Fn} {lv : Nat} {k : Ck} {W : WS} {X : Cx}, GoodX B F lv k W X → ∀ ss, chkS s k ss = true → PSs X ss (tMS B F W s) ∧ (is1 s = true → ∀ st, ss = [st] → PS X st (tMS B F W s))
theorem SnS.of {s : S} (h : ∀ {B : Fix} {F : Fn} {lv : Nat} {k : Ck} {W : WS} {X : Cx}, GoodX B F lv k W X → ∀ ss, chkS s k ss = true → ∃ st, ss = [st] ∧ PS X st (tMS B F W s)) : SnS s := fun g ss hc => by
  obtain ⟨st, rfl, hp⟩ := h g ss hc
  exact ⟨pss_one hp, fun _ st' q => by cases q; exact hp⟩
theorem sns_all : ∀ s : S, SnS s := by
  intro s
  induction s with
  | skip =>
    intro B F lv k W X g ss h
    refine ⟨?_, fun h => (by cases h)⟩
    have key : ∀ D σ H, tMS B F W .skip D σ H → tNext D σ H := fun D σ H ⟨A, env, st, sr, er, p⟩ => p σ H A .refl sr er
    simp only [chkS] at h
    split at h
    · exact PSsm pss_nil key
    · exact PSsm (pss_one ps_pass) key
    · cases h
  | seq a b iha ihb =>
    intro B F lv k W X g ss h
    refine ⟨?_, fun h => (by cases h)⟩
    cases ss with
    | nil => cases h
    | cons s r =>
      simp only [chkS, Bool.and_eq_true] at h
      refine PSsm (pss_cons ((iha g [s] h.2.1).2 h.1 s rfl) (ihb g r h.2.2).1) fun D σ H z => ?_
      obtain ⟨A, env, st, sr, er, p⟩ := z
      refine ⟨A, env, st, sr, er, ?_⟩
      replace p : PostS B A H D σ W ((execS F a env st).bind (seqK (execS F b))) := p
      cases q : execS F a env st with
      | err => rw [q] at p; exact p
      | exc c st1 => rw [q] at p; exact p
      | ok out st1 =>
        rw [q] at p
        cases out with
        | nx env1 => exact fun σ1 H1 A1 e1 s1 er1 => ⟨A1, env1, st1, s1, er1, PostS.ext (σ := σ) e1 p⟩
        | bk env1 => exact p
        | rt v => exact p
  | exp e =>
    refine SnS.of fun {B F lv k W X} g ss h => ?_
    simp only [chkS] at h
    split at h
    · rw [Bool.and_eq_true] at h
      refine ⟨_, rfl, PSm (ps_expr (PEs g h.2).ex (sw_no h.1 _ _ _)) fun D σ H z => ?_⟩
      obtain ⟨A, env, st, sr, er, p⟩ := z
      exact tM_bindS sr er p fun v st1 u H1 A1 e1 s1 er1 r1 p1 => p1 σ H1 A1 .refl s1 er1
    · cases h
  | asg tg e =>
    refine SnS.of fun {B F lv k W X} g ss h => ?_
    simp only [chkS] at h
    split at h
    · exact ⟨_, rfl, st_asg g h⟩
    · cases h
  | setI o i e =>
    refine SnS.of fun {B F lv k W X} g ss h => ?_
    simp only [chkS] at h
    split at h
    · rw [Bool.and_eq_true, Bool.and_eq_true, Bool.and_eq_true, Bool.and_eq_true (a := (!isL i && (wfE i && chk i k [_])))] at h
      exact ⟨_, rfl, st_setI g h.1 h.2.1 (PEs g h.2.2.1) (PEs g h.2.2.2.1) (PEs g h.2.2.2.2)⟩
    · cases h
  | setF c o f e =>
    refine SnS.of fun {B F lv k W X} g ss h => ?_
    simp only [chkS] at h
    split at h
    · rw [Bool.and_eq_true, Bool.and_eq_true, Bool.and_eq_true (a := (!isL o && (wfE o && chk o k [_]))), decide_eq_true_eq, List.contains_iff_mem] at h
      obtain ⟨rfl, h1, h2, h3⟩ := h
      exact ⟨_, rfl, st_setF g h1 (PEs g h2) (PEs g h3)⟩
    · cases h
  | ite c a b iha ihb =>
    refine SnS.of fun {B F lv k W X} g ss h => ?_
    simp only [chkS] at h
    split at h
    · rw [Bool.and_eq_true, Bool.and_eq_true (a := (!isL c && (wfE c && chk c k [_]))), Bool.and_eq_true (a := chkS a k _)] at h
      obtain ⟨h0, h1, h2, h3⟩ := h
      refine ⟨_, rfl, PSm (ps_if ((PEs g h1).test h0) (iha g _ h2).1 (ihb g _ h3).1) fun D σ H z => ?_⟩
      obtain ⟨A, env, st, sr, er, p⟩ := z
      refine tMB_bindS sr er p fun d st1 H1 A1 e1 s1 er1 p1 => ?_
      cases d with
      | true => exact ⟨A1, env, st1, s1, er1, p1⟩
      | false => exact ⟨A1, env, st1, s1, er1, p1⟩
    · cases h
  | for_ tg kk it body ih =>
    refine SnS.of fun {B F lv k W X} g ss h => ?_
    simp only [chkS] at h
    split at h
    · rename_i t pe x pos
      rw [Bool.and_eq_true, Bool.and_eq_true, Bool.and_eq_true, Bool.and_eq_true, Bool.and_eq_true] at h
      obtain ⟨⟨h1, h2⟩, h3, h4, h5, h6⟩ := h
      cases hi : itArgs kk k t pe with
      | none => rw [hi] at h5; cases h5
      | some xs =>
        rw [hi] at h5
        replace h5 : (isL it && (wfE it && chk it k xs)) = true := h5
        rw [Bool.and_eq_true, Bool.and_eq_true] at h5
        exact ⟨_, rfl, st_for g (pi_M g.nox hi (Sn.all (sn_all it) g.nox h5.2.1 h5.1 h5.2.2)) h4 ((pg_M g.nox tg h2).1 t h1 h3) (ih g.nox _ h6).1⟩
    · cases h
  | while_ c body ih =>
    refine SnS.of fun {B F lv k W X} g ss h => ?_
    simp only [chkS] at h
    split at h
    · rw [Bool.and_eq_true, Bool.and_eq_true (a := (!isL c && (wfE c && chk c k [_])))] at h
      exact ⟨_, rfl, st_while g ((PEs g.nox h.2.1).test h.1) (ih g.nox _ h.2.2).1⟩
    · cases h
  | ret e =>
    refine SnS.of fun {B F lv k W X} g ss h => ?_
    simp only [chkS] at h
    split at h
    · refine ⟨_, rfl, PSm (ps_ret (PEs g h).ex) fun D σ H z => ?_⟩
      obtain ⟨A, env, st, sr, er, p⟩ := z
      exact tM_bindS sr er p fun v st1 u H1 A1 e1 s1 er1 r1 p1 => p1 u H1 A1 .refl s1 r1
    · cases h
  | retN =>
    refine SnS.of fun {B F lv k W X} g ss h => ?_
    simp only [chkS] at h
    split at h
    · exact ⟨_, rfl, PSm ps_retN fun D σ H ⟨A, env, st, sr, er, p⟩ => p .non H A .refl sr .non⟩
    · cases h
  | brk =>
    refine SnS.of fun {B F lv k W X} g ss h => ?_
    simp only [chkS] at h
    split at h
    · exact ⟨_, rfl, PSm ps_break fun D σ H ⟨A, env, st, sr, er, p⟩ => p σ H A .refl sr er⟩
    · cases h
  | raise c =>
    refine SnS.of fun {B F lv k W X} g ss h => ?_
    simp only [chkS] at h
    split at h
    · rw [Bool.and_eq_true, Bool.and_eq_true, decide_eq_true_eq, List.contains_iff_mem] at h
      obtain ⟨rfl, h1, h2⟩ := h
      obtain ⟨C, hm, q1, q2, q3, q4⟩ := g.fa.exc _ h2
      refine ⟨_, rfl, PSm (ps_raise g.calm g.tk (pmk_own PySem.F.excBase_ValueError (by rw [g.on.K]; exact q1) (by rw [g.on.mg]; exact hm) (by rw [g.on.K]; exact q2) (raises_own (by rw [g.on.K]; exact q3) (by rw [g.on.K]; exact q4)) (g.gl h1).1 (g.gl h1).2)) fun D σ H z => ?_⟩
      obtain ⟨A, env, st, sr, er, p⟩ := z
      exact ⟨_, C, hm, rfl, rfl, p σ H A .refl sr⟩
    · cases h
  | tryN body ih =>
    refine SnS.of fun {B F lv k W X} g ss h => ?_
    simp only [chkS] at h
    split at h
    · refine ⟨_, rfl, PSm (ps_try_thru0 (ih g.nox _ h).1) fun D σ H z => ?_⟩
      obtain ⟨A, env, st, sr, er, p⟩ := z
      refine ⟨A, env, st, sr, er, ?_⟩
      replace p : PostS B A H D σ W (tryR (fun _ _ => .err) (execS F body env st)) := p
      cases q : execS F body env st with
      | err => rw [q] at p; exact p
      | exc c st1 => rw [q] at p; exact p.elim
      | ok out st1 =>
        rw [q] at p
        cases out <;> exact p
    · cases h
  | tryX body i h _ _ => intro B F lv k W X g ss hc; cases hc
end Mi
set_option Elab.async false
set_option linter.all false
set_option maxRecDepth 100000
set_option maxHeartbeats 2000000
/-! MiFn: the program's defs, by their depth. -/
namespace Mi
open PySem PySem.Spec PyProof.Rows L2
/-- a def at its address: what it is called with, its text, its mirror -/
structure DefAt (B : Fix) (k : Ck) (m : MDef) (f : Addr) (fd : FuncData) (ps : List Str) : Prop where
  ex : ∃ (name qual : Str) (params : Arguments) (body : List Stmt) (scope : Scope) (dV kV doc pm cdv ct oc : Value) (an od : Option Addr) (osl : Array (Option Value)),
    fd = PySem.W.fnOf name qual params body scope dV kV doc pm an cdv ct ∧ B.K.lookup f = some ⟨oc, od, .func fd, osl⟩ ∧ PySem.W.codeIn B.K cdv qual = true ∧ FnScope k.N ps scope ∧ k.sc = scope ∧ chkS m.body k body = true
  bd : Binds B.K fd ps []
  np : ps.length = m.np
  ns : k.N.length = m.ns
theorem retR_post {B : Fix} {A : List Addr} {H : Hp} {D : Ends} {Q : VK} {σ : L2.St} {V : Str → Hp → Prop} {r : Res Out} (hr : ∀ v H, Q v H → D.rt v H) (hn : ∀ σ H, Q .non H → D.nx σ H) (p : Post B A H Q V (retR r)) : PostS B A H D σ (fun c _ H => V c H) r := by
  cases r with
  | err => exact p
  | exc c st => exact fun σ' H' A' e s => p H' A' e s
  | ok out st =>
    cases out with
    | nx env => exact fun σ' H' A' e s _ => hn _ _ (p .non H' A' e s .non)
    | bk env => exact p.elim
    | rt v => exact fun u H' A' e s r => hr _ _ (p u H' A' e s r)
theorem fn_ok {B : Fix} {F : Fn} {lv : Nat} {k : Ck} {m : MDef} {f : Addr} {fd : FuncData} {ps : List Str} {kk : FK} {F' : Fn} (fa : Facts B F lv k) (d : DefAt B k m f fd ps) (hF : ∀ args st, F' kk args st = runDef F m args st) :
    FnOk B.P B.w B.K B.mg B.base (L2.CX B.P B.w) (lv + 2) f fd ps (spOf B F' kk ps.length) := by
  obtain ⟨name, qual, params, body, scope, dV, kV, doc, pm, cdv, ct, oc, an, od, osl, rfl, lk, hcd, S, hsc, hch⟩ := d.ex
  refine fn_of lk hcd S (fun vs H Q E h => h.1) fun A outer s H vs Q E hr hsp => ?_
  obtain ⟨hl, Z, A0, st, args, sr, rv, p⟩ := hsp
  have g : GoodX (B.z Z) F lv k (fun c _ H' => ∀ C, B.mg c = some (.ref C) → E (.ref C) none H') (cxOf (L2.CX B.P B.w) B.P B.w B.K B.mg B.base k.N qual scope f cdv A outer s H E) := by
    refine ⟨⟨rfl, rfl, rfl, rfl, rfl⟩, rfl, S.nd, hsc.symm, rfl, hr, ?_, fun _ _ => rfl, fa.z Z⟩
    refine Takes.imp (takes_of (E := E) (E₁ := fun e' s'' => L2.CX B.P B.w outer H s E e' s'') rfl rfl rfl rfl) ?_
    rintro cls d σ H' ⟨c, C, hc, rfl, rfl, hw⟩
    exact hw C hc
  refine ⟨_, (sns_all m.body g body hch).1, A0, startE m.ns args, st, sr, ?_, ?_⟩
  · exact ER.start rv k.N m.ns d.ns
  · rw [hF] at p
    unfold runDef at p
    rw [if_pos (by rw [rv.length, hl, d.np])] at p
    exact retR_post (fun _ _ q => q) (fun _ _ q => q) p
/-- the same module -/
structure Same (k k0 : Ck) : Prop where
  globs : k.globs = k0.globs
  fns : k.fns = k0.fns
  meths : k.meths = k0.meths
  clss : k.clss = k0.clss
  flds : k.flds = k0.flds
  excs : k.excs = k0.excs
/-- a def with its mirror -/
def Has (B : Fix) (G : Tab) (k0 : Ck) (kk : FK) (f : Addr) : Prop := ∃ m k fd ps, G kk = some m ∧ Same k k0 ∧ DefAt B k m f fd ps
structure Module (B : Fix) (G : Tab) (k : Ck) : Prop where
  blt : ∀ x ∈ bltNames, B.mg x = none
  glo : ∀ p ∈ k.globs, GlobOk B p.1 p.2
  fn : ∀ x ∈ k.fns, ∃ f, B.mg x = some (.ref f) ∧ PySem.W.keepIn B.K (.ref f) = true ∧ Has B G k (.fn x) f
  me : ∀ p ∈ k.meths, ∃ C f, B.mg p.1 = some (.ref C) ∧ Cls B.K C ∧ Meth B.K C p.2 f ∧ Has B G k (.me p.1 p.2) f
  mkc : ∀ c ∈ k.clss, ∃ C f, B.mg c = some (.ref C) ∧ Mk B.K C f ∧ Has B G k (.me c "__init__") f
  fl : ∀ p ∈ k.flds, ∃ C, B.mg p.1 = some (.ref C) ∧ Cls B.K C ∧ NoAttr B.K C p.2
  exc : ∀ c ∈ k.excs, ∃ C, B.mg c = some (.ref C) ∧ PySem.W.excIn B.K C veL "ValueError.__new__" = true ∧ PySem.W.keepIn B.K (.ref C) = true ∧ PySem.W.subIn B.K (.ref C) (.type "BaseException") = some true ∧ PySem.W.typeIn B.K (.ref C) = some (.type "type")
theorem Facts.same {B : Fix} {F : Fn} {lv : Nat} {k k0 : Ck} (s : Same k k0) (h : Facts B F lv k0) : Facts B F lv k :=
  ⟨h.blt, by rw [s.globs]; exact h.glo, by rw [s.fns]; exact h.fn, by rw [s.meths]; exact h.me, by rw [s.clss]; exact h.mkc, by rw [s.flds]; exact h.fl, by rw [s.excs]; exact h.exc⟩
theorem fnAt_0 {B : Fix} {G : Tab} {k : Ck} {kk : FK} {f : Addr} (h : Has B G k kk f) : FnAt B (callF G 0) 0 kk f := by
  obtain ⟨m, k', fd, ps, _, _, d⟩ := h
  refine ⟨fd, ps, d.bd, ⟨fun vs H Q E h => h.1, fun A outer s H args us vs Q E hr he hb hv hs => ?_⟩, fun _ _ _ => rfl⟩
  obtain ⟨_, Z, A0, st, args, _, _, p⟩ := hs
  exact p.elim
theorem fnAt_succ {B : Fix} {G : Tab} {k : Ck} {kk : FK} {f : Addr} {n : Nat} (fa : Facts B (callF G n) (2 * n) k) (h : Has B G k kk f) : FnAt B (callF G (n + 1)) (2 * (n + 1)) kk f := by
  obtain ⟨m, k', fd, ps, hG, hs, d⟩ := h
  have hF : ∀ args st, callF G (n + 1) kk args st = runDef (callF G n) m args st := fun args st => by
    simp only [callF, hG]
  refine ⟨fd, ps, d.bd, fn_ok (fa.same hs) d hF, fun args st hn => ?_⟩
  rw [hF]
  unfold runDef
  rw [if_neg (by rw [← d.np]; exact hn)]
theorem facts_all {B : Fix} {G : Tab} {k : Ck} (M : Module B G k) : ∀ n, Facts B (callF G n) (2 * n) k
  | 0 => ⟨M.blt, M.glo, fun x hx => by
      obtain ⟨f, h1, h2, h3⟩ := M.fn x hx
      exact ⟨f, h1, h2, fnAt_0 h3⟩, fun p hp => by
      obtain ⟨C, f, h1, h2, h3, h4⟩ := M.me p hp
      exact ⟨C, f, h1, h2, h3, fnAt_0 h4⟩, fun c hc => by
      obtain ⟨C, f, h1, h2, h3⟩ := M.mkc c hc
      exact ⟨C, f, h1, h2, fnAt_0 h3⟩, M.fl, M.exc⟩
  | n + 1 => ⟨M.blt, M.glo, fun x hx => by
      obtain ⟨f, h1, h2, h3⟩ := M.fn x hx
      exact ⟨f, h1, h2, fnAt_succ (facts_all M n) h3⟩, fun p hp => by
      obtain ⟨C, f, h1, h2, h3, h4⟩ := M.me p hp
      exact ⟨C, f, h1, h2, h3, fnAt_succ (facts_all M n) h4⟩, fun c hc => by
      obtain ⟨C, f, h1, h2, h3⟩ := M.mkc c hc
      exact ⟨C, f, h1, h2, fnAt_succ (facts_all M n) h3⟩, M.fl, M.exc⟩
end Mi
set_option Elab.async false
set_option linter.all false
set_option maxRecDepth 100000
set_option maxHeartbeats 2000000
/-! MiEnd: a law, by its mirror. -/
namespace Mi
open PySem PySem.Spec PyProof.Rows L2
/-- a def of the row: its key, where it stands, its names, its mirror -/
structure DefI where
  key : FK
  d : He.DefD
  N : List Str
  m : MDef
def DefI.ps (i : DefI) : List Str := i.N.take i.m.np
def DefI.ck (k : Ck) (i : DefI) : Ck := { k with N := i.N, sc := i.d.scope, fsc := i.d.scope }
def scB (N ps : List Str) (sc : Scope) : Bool := (match sc.kind with
  | .function => true
  | _ => false) && (!sc.isCoroutine && (!sc.isGenerator && (decide N.Nodup && (ps.all (fun x => (match sc.names.lookup x with
  | some .local => true
  | some .cell => true
  | _ => false)) && sc.names.all fun y => (match y.2 with
  | .free => false
  | _ => true)))))
def keyAt : FK → Str × Option Str
  | .fn x => (x, none)
  | .me c m => (c, some m)
def DefI.ok (k : Ck) (i : DefI) : Bool := scB i.N i.ps i.d.scope && (decide (i.N.length = i.m.ns) && (decide (i.m.np ≤ i.N.length) && (i.d.dfl.isEmpty && (i.d.kwd.isEmpty && (decide (i.d.at_ = keyAt i.key) && chkS i.m.body (i.ck k) i.d.body)))))
/-- its parameters are bound one by one -/
def DefI.bind (i : DefI) : Prop := ∀ (kV doc pm : Value) (an : Option Addr) (cdv ct : Value) (us : List Value), us.length = i.ps.length → bindArgs (PySem.W.fnOf i.d.name i.d.qual i.d.params i.d.body i.d.scope .none kV doc pm an cdv ct) ⟨us, []⟩ = pure (i.ps.zip us)
def tabG (tab : List DefI) : Tab := fun k => (tab.find? fun i => decide (i.key = k)).map (·.m)
/-- facts asked of the head -/
def globFa (p : Str × MV) : List He.Fa := match p.2 with
  | .int i => [.int p.1 i]
  | .str z => [.str p.1 z]
  | _ => [.glo p.1]
def mkFa (k : Ck) : List He.Fa := He.Fa.glo "law" :: (bltNames.map He.Fa.free ++ (k.fns.map He.Fa.glo ++ ((k.meths.flatMap fun p => [.glo p.1, .cls p.1, .meth p.1 p.2]) ++ ((k.clss.flatMap fun c => [.glo c, .mkr c]) ++ ((k.flds.flatMap fun p => [.glo p.1, .cls p.1, .noat p.1 p.2]) ++ ((k.excs.flatMap fun c => [.glo c, .exc c]) ++ k.globs.flatMap globFa))))))
def mkTs (k : Ck) : List He.Tab := k.globs.filterMap fun p => match p.2 with
  | .cdic kvs => some (fun K => He.ga K p.1, kvs.map (·.1))
  | _ => none
def mkEx (k : Ck) (K : PySem.W.Frag) : Bool := k.globs.all fun p => match p.2 with
  | .int _ => true
  | .str _ => true
  | .nam y => decide (y = p.1)
  | .tup vs => (match strsOf vs with
    | some ss => decide (ss.length ≤ 1000) && He.tupB K p.1 (ss.map He.Dv.str)
    | none => false)
  | .cdic kvs => (match strKvs kvs with
    | some ss => He.valsB K (He.ga K p.1) (ss.map fun q => (q.1, He.Dv.str q.2))
    | none => false)
  | _ => false
theorem scB_ok {N ps : List Str} {sc : Scope} {n : Nat} (h : scB N ps sc = true) (hp : ps = N.take n) (hn : n ≤ N.length) : FnScope N ps sc := by
  unfold scB at h
  simp only [Bool.and_eq_true, Bool.not_eq_true', decide_eq_true_eq, List.all_eq_true] at h
  obtain ⟨h1, h2, h3, h4, h5, h6⟩ := h
  refine ⟨?_, h2, h3, h4, ?_, fun x hx => ?_, fun y hy e => ?_⟩
  · split at h1
    · assumption
    · cases h1
  · rw [hp, List.length_take, Nat.min_eq_left hn]
  · have q := h5 x hx
    split at q
    · exact .inl (by assumption)
    · exact .inr (by assumption)
    · cases q
  · have q := h6 y hy
    rw [e] at q
    cases q
section
variable {P : Program} {w : World} {K : PySem.W.Frag} {h : Heap} {mg : Str → Option Value} {base : Heap} {k : Ck} {tab : List DefI} {tf : List He.Defn}
theorem ns_find {ks : List Str} {Pm : Params} : ∀ {l : List DictEntry}, l.map He.keyOf = He.keysIn Pm ks → ∀ {z : Str}, z ∉ ks → l.find? (·.key.isStr z) = none ∧ l.any (·.refKey) = false := by
  intro l
  induction l generalizing ks with
  | nil => intro _ z _; exact ⟨rfl, rfl⟩
  | cons e l ih =>
    intro hm z hz
    cases ks with
    | nil => cases hm
    | cons kx ks =>
      have h1 : He.keyOf e :: l.map He.keyOf = some (kx, PyData.keyHash Pm kx) :: He.keysIn Pm ks := hm
      injection h1 with h2 h3
      obtain ⟨i1, i2⟩ := ih h3 (z := z) (fun q => hz (List.mem_cons_of_mem _ q))
      unfold He.keyOf at h2
      split at h2
      · rename_i x t q
        obtain ⟨rfl, _⟩ := Prod.mk.inj (Option.some.inj h2)
        have n1 : e.key.isStr z = false := by
          rw [q]
          show (x == z) = false
          exact beq_eq_false_iff_ne.mpr fun r => hz (by rw [← r]; exact List.mem_cons_self ..)
        refine ⟨by rw [List.find?_cons, n1]; exact i1, ?_⟩
        rw [List.any_cons, i2, Bool.or_false]
        unfold DictEntry.refKey
        rw [q]
      · cases h2
/-- every key has its def -/
def keysB (tab : List DefI) (k : Ck) : Bool := (k.fns.all fun x => (tab.find? fun i => decide (i.key = .fn x)).isSome) && ((k.meths.all fun p => (tab.find? fun i => decide (i.key = .me p.1 p.2)).isSome) && k.clss.all fun c => (tab.find? fun i => decide (i.key = .me c "__init__")).isSome)
theorem defAt_of (c : He.SaysD (mkFa k) (tab.map (·.d)) K) {i : DefI} (hi : i ∈ tab) (ho : i.ok k = true) (hb : i.bind) : ∃ fd, PySem.W.keepIn K (.ref (He.fAd K (keyAt i.key))) = true ∧ DefAt ⟨P, w, K, mg, base, []⟩ (i.ck k) i.m (He.fAd K (keyAt i.key)) fd i.ps := by
  unfold DefI.ok at ho
  simp only [Bool.and_eq_true, decide_eq_true_eq] at ho
  obtain ⟨h1, h2, h3, h4, h5, h6, h7⟩ := ho
  obtain ⟨fd, F⟩ := c.defs (d := i.d) (List.mem_map.mpr ⟨i, hi, rfl⟩)
  have e1 : i.d.dvs K = [] := by
    unfold He.DefD.dvs
    rw [List.isEmpty_iff.mp h4]
    rfl
  rw [e1, h6] at F
  have hbd := F.bindsN hb
  obtain ⟨oc, od, dV, kV, doc, pm, an, cdv, ct, osl, e, lk, hcd, _, _⟩ := F.ex
  refine ⟨fd, F.kp, ⟨i.d.name, i.d.qual, i.d.params, i.d.body, i.d.scope, dV, kV, doc, pm, cdv, ct, oc, an, od, osl, e, lk, hcd, scB_ok h1 rfl h3, rfl, h7⟩, hbd, ?_, h2⟩
  show (i.N.take i.m.np).length = i.m.np
  rw [List.length_take, Nat.min_eq_left h3]
theorem has_of (c : He.SaysD (mkFa k) (tab.map (·.d)) K) (hok : ∀ i ∈ tab, i.ok k = true) (hb : ∀ i ∈ tab, i.bind) {kk : FK} (hf : (tab.find? fun i => decide (i.key = kk)).isSome = true) : PySem.W.keepIn K (.ref (He.fAd K (keyAt kk))) = true ∧ Has ⟨P, w, K, mg, base, []⟩ (tabG tab) k kk (He.fAd K (keyAt kk)) := by
  cases e : tab.find? fun i => decide (i.key = kk) with
  | none => rw [e] at hf; cases hf
  | some i =>
    have hi := List.mem_of_find?_eq_some e
    have hk : i.key = kk := by simpa using List.find?_some e
    obtain ⟨fd, h1, h2⟩ := defAt_of (P := P) (w := w) (mg := mg) (base := base) c hi (hok i hi) (hb i hi)
    rw [hk] at h1 h2
    refine ⟨h1, i.m, i.ck k, fd, i.ps, ?_, ⟨rfl, rfl, rfl, rfl, rfl, rfl⟩, h2⟩
    unfold tabG
    rw [e]
    rfl
theorem ktab_of {x : Str} {kvs : List (Str × MV)} {ss : List (Str × Str)} (hd : He.dicW K (He.ga K x) = some (He.keysIn w.params (kvs.map (·.1)))) (hs : strKvs kvs = some ss) (hv : He.valsB K (He.ga K x) (ss.map fun q => (q.1, He.Dv.str q.2)) = true) : KTab K w (He.ga K x) kvs := by
  refine ⟨He.dicW_ok hd, fun z => ?_⟩
  have e := strKvs_inj hs
  subst e
  have key : ∀ (l : List (Str × Str)), dget (l.map fun p => (p.1, MV.str p.2)) z = (l.find? fun q => decide (q.1 = z)).map fun q => MV.str q.2 := by
    intro l
    induction l with
    | nil => rfl
    | cons a l ih =>
      rw [List.map_cons, List.find?_cons]
      by_cases ha : a.1 = z
      · rw [dget_pos (p := (a.1, MV.str a.2)) ha, decide_eq_true ha]
        rfl
      · rw [dget_neg (p := (a.1, MV.str a.2)) ha, decide_eq_false ha]
        exact ih
  rw [key ss]
  cases q : ss.find? fun q => decide (q.1 = z) with
  | some a =>
    have ha := List.mem_of_find?_eq_some q
    have hz : a.1 = z := by simpa using List.find?_some q
    obtain ⟨u, h1, h2⟩ := He.valsB_ok hv (q := (a.1, He.Dv.str a.2)) (List.mem_map.mpr ⟨a, ha, rfl⟩)
    rw [hz] at h1
    exact ⟨a.2, u, rfl, h1, h2⟩
  | none =>
    have hz : z ∉ (ss.map fun p => (p.1, MV.str p.2)).map (·.1) := by
      intro hm
      rw [List.map_map] at hm
      obtain ⟨a, ha, he⟩ := List.mem_map.mp hm
      have := List.find?_eq_none.mp q a ha
      exact this (by simpa using he)
    unfold He.dicW at hd
    show PySem.W.nsIn K (He.ga K x) z = some none
    unfold PySem.W.nsIn
    cases lk : K.lookup (He.ga K x) with
    | none => rw [lk] at hd; cases hd
    | some o =>
      obtain ⟨oc, od, dt, sl⟩ := o
      rw [lk] at hd
      cases oc <;> first | (cases od <;> cases dt <;> (cases hd; done)) | skip
      cases od <;> first | (cases dt <;> (cases hd; done)) | skip
      cases dt <;> first | (cases hd; done) | skip
      rename_i tn es n
      replace hd : (match decide (tn = "dict") && (sl.isEmpty && !(He.ga K x == sysModules)) with
        | true => some (es.toList.map He.keyOf)
        | false => none) = some (He.keysIn w.params ((ss.map fun p => (p.1, MV.str p.2)).map (·.1))) := hd
      split at hd
      · obtain ⟨f1, f2⟩ := ns_find (Option.some.inj hd) hz
        show (match es.toList.find? (·.key.isStr z) with
          | some e => some (some e.val)
          | none => if es.toList.any (·.refKey) then none else some none) = some none
        rw [f1, f2]
        rfl
      · cases hd
theorem module_of (X : K.In h) (G : h.Ns mainGlobals mg) (c : He.SaysX (mkFa k) (tab.map (·.d)) (mkTs k) tf (mkEx k) w h K) (hok : ∀ i ∈ tab, i.ok k = true) (hb : ∀ i ∈ tab, i.bind) (hk : keysB tab k = true) : Module ⟨P, w, K, mg, base, []⟩ (tabG tab) k := by
  have cd := c.t.d
  unfold keysB at hk
  simp only [Bool.and_eq_true, List.all_eq_true] at hk
  obtain ⟨k1, k2, k3⟩ := hk
  have fa : ∀ {f : He.Fa}, f ∈ mkFa k → f.ok K = true := fun hf => cd.facts hf
  have m1 : ∀ {x}, x ∈ bltNames → He.Fa.free x ∈ mkFa k := fun hx => List.mem_cons_of_mem _ (List.mem_append_left _ (List.mem_map.mpr ⟨_, hx, rfl⟩))
  have m2 : ∀ {x}, x ∈ k.fns → He.Fa.glo x ∈ mkFa k := fun hx => List.mem_cons_of_mem _ (List.mem_append_right _ (List.mem_append_left _ (List.mem_map.mpr ⟨_, hx, rfl⟩)))
  have m3 : ∀ {p f}, p ∈ k.meths → f ∈ ([.glo p.1, .cls p.1, .meth p.1 p.2] : List He.Fa) → f ∈ mkFa k := fun hp hf => List.mem_cons_of_mem _ (List.mem_append_right _ (List.mem_append_right _ (List.mem_append_left _ (List.mem_flatMap.mpr ⟨_, hp, hf⟩))))
  have m4 : ∀ {p f}, p ∈ k.clss → f ∈ ([.glo p, .mkr p] : List He.Fa) → f ∈ mkFa k := fun hp hf => List.mem_cons_of_mem _ (List.mem_append_right _ (List.mem_append_right _ (List.mem_append_right _ (List.mem_append_left _ (List.mem_flatMap.mpr ⟨_, hp, hf⟩)))))
  have m5 : ∀ {p f}, p ∈ k.flds → f ∈ ([.glo p.1, .cls p.1, .noat p.1 p.2] : List He.Fa) → f ∈ mkFa k := fun hp hf => List.mem_cons_of_mem _ (List.mem_append_right _ (List.mem_append_right _ (List.mem_append_right _ (List.mem_append_right _ (List.mem_append_left _ (List.mem_flatMap.mpr ⟨_, hp, hf⟩))))))
  have m6 : ∀ {p f}, p ∈ k.excs → f ∈ ([.glo p, .exc p] : List He.Fa) → f ∈ mkFa k := fun hp hf => List.mem_cons_of_mem _ (List.mem_append_right _ (List.mem_append_right _ (List.mem_append_right _ (List.mem_append_right _ (List.mem_append_right _ (List.mem_append_left _ (List.mem_flatMap.mpr ⟨_, hp, hf⟩)))))))
  have m7 : ∀ {p f}, p ∈ k.globs → f ∈ globFa p → f ∈ mkFa k := fun hp hf => List.mem_cons_of_mem _ (List.mem_append_right _ (List.mem_append_right _ (List.mem_append_right _ (List.mem_append_right _ (List.mem_append_right _ (List.mem_append_right _ (List.mem_flatMap.mpr ⟨_, hp, hf⟩)))))))
  refine ⟨fun x hx => He.free_ok X G (fa (m1 hx)), fun p hp => ?_, fun x hx => ?_, fun p hp => ?_, fun p hp => ?_, fun p hp => ?_, fun p hp => ?_⟩
  · have ex := c.more
    unfold mkEx at ex
    have ex := List.all_eq_true.mp ex p hp
    obtain ⟨x, v⟩ := p
    cases v <;> first | (cases ex; done) | skip
    · obtain ⟨t, e⟩ := He.int_ok X G (fa (m7 hp (f := .int x _) (List.mem_singleton.mpr rfl)))
      exact ⟨.int _, _, e, ⟨t, rfl⟩, fun _ _ _ => .int _⟩
    · obtain ⟨t, e⟩ := He.str_ok X G (fa (m7 hp (f := .str x _) (List.mem_singleton.mpr rfl)))
      exact ⟨.str _, _, e, ⟨t, rfl⟩, fun _ _ _ => .str _⟩
    · rename_i vs
      have e := He.glo_ok X G (fa (m7 hp (f := .glo x) (List.mem_singleton.mpr rfl)))
      cases hs : strsOf vs with
      | none => simp only [hs] at ex; cases ex
      | some ss =>
        simp only [hs, Bool.and_eq_true, decide_eq_true_eq] at ex
        have e2 := strsOf_inj hs
        subst e2
        refine ⟨.ref (He.ga K x), _, e, rfl, fun Z H A => ?_⟩
        have hq := He.tupB_ok ex.2 (fun _ => none)
        have hm : (ss.map He.Dv.str).map (He.Dv.v K) = ss.map V.str := by rw [List.map_map]; rfl
        rw [hm] at hq
        have rs : ∀ (ss : List Str), RVs (Fix.z ⟨P, w, K, mg, base, []⟩ Z) H A (ss.map MV.str) (ss.map V.str) := by
          intro ss
          induction ss with
          | nil => exact .nil
          | cons a l ih => exact .cons (.str a) ih
        refine .tup (vs := ss.map V.str) ?_ (rs ss) (by rw [List.length_map]; exact Nat.le_trans ex.1 (by decide))
        rcases hq with hq | hq
        · rcases hq with hq | ⟨_, hq⟩ <;> cases hq
        · exact .inr hq
    · rename_i y
      simp only [decide_eq_true_eq] at ex
      subst ex
      have e := He.glo_ok X G (fa (m7 hp (f := .glo _) (List.mem_singleton.mpr rfl)))
      exact ⟨.ref _, _, e, rfl, fun _ _ _ => .nam e⟩
    · rename_i kvs
      have e := He.glo_ok X G (fa (m7 hp (f := .glo x) (List.mem_singleton.mpr rfl)))
      cases hs : strKvs kvs with
      | none => simp only [hs] at ex; cases ex
      | some ss =>
        simp only [hs] at ex
        have ht : ((fun K => He.ga K x, kvs.map (·.1)) : He.Tab) ∈ mkTs k := List.mem_filterMap.mpr ⟨(x, .cdic kvs), hp, rfl⟩
        have et : (mkTs k).map (fun t => He.dicW K (t.1 K)) = (mkTs k).map fun t => some (He.keysIn w.params t.2) := congrArg (fun z : He.AlT => z.2) c.t
        have hd := List.map_inj_left.mp et _ ht
        exact ⟨.ref (He.ga K x), _, e, rfl, fun Z H A => .cdic (ktab_of hd hs ex)⟩
  · obtain ⟨h1, h2⟩ := has_of (P := P) (w := w) (mg := mg) (base := base) cd hok hb (k1 x hx)
    exact ⟨_, He.glo_ok X G (fa (m2 hx)), h1, h2⟩
  · obtain ⟨h1, h2⟩ := has_of (P := P) (w := w) (mg := mg) (base := base) cd hok hb (k2 p hp)
    exact ⟨_, _, He.glo_ok X G (fa (m3 hp (by simp))), He.cls_ok (fa (m3 hp (by simp))), He.meth_ok (fa (m3 hp (by simp))), h2⟩
  · obtain ⟨h1, h2⟩ := has_of (P := P) (w := w) (mg := mg) (base := base) cd hok hb (k3 p hp)
    exact ⟨_, _, He.glo_ok X G (fa (m4 hp (by simp))), He.mkr_ok (fa (m4 hp (by simp))), h2⟩
  · exact ⟨_, He.glo_ok X G (fa (m5 hp (by simp))), He.cls_ok (fa (m5 hp (by simp))), He.noat_ok (fa (m5 hp (by simp)))⟩
  · obtain ⟨h1, h2, h3, h4⟩ := He.exc_ok (fa (m6 hp (f := .exc p) (by simp)))
    exact ⟨_, He.glo_ok X G (fa (m6 hp (f := .glo p) (by simp))), h1, h2, h3, h4⟩
end
/-! ### another base -/
def Fix.b (B : Fix) (b : Heap) : Fix := ⟨B.P, B.w, B.K, B.mg, b, B.Z⟩
section
variable {B : Fix} {nb : Heap} {H : Hp} {A : List Addr}
mutual
theorem RV.b : ∀ {x : MV} {v : V}, RV B H A x v → RV (B.b nb) H A x v
  | _, _, .non => .non
  | _, _, .bl b => .bl b
  | _, _, .int i => .int i
  | _, _, .str x => .str x
  | _, _, .tup h r l => .tup h (RVs.b r) l
  | _, _, .lst h r l => .lst h (RVs.b r) l
  | _, _, .slst h r l => .slst h (RVs.b r) l
  | _, _, .loc h => .loc h
  | _, _, .nam h => .nam h
  | _, _, .cdic h => .cdic h
theorem RVs.b : ∀ {xs : List MV} {vs : List V}, RVs B H A xs vs → RVs (B.b nb) H A xs vs
  | _, _, .nil => .nil
  | _, _, .cons r s => .cons (RV.b r) (RVs.b s)
end
theorem RKs.b : ∀ {xs : List (Str × MV)} {vs : List (Key × V)}, RKs B H A xs vs → RKs (B.b nb) H A xs vs
  | _, _, .nil => .nil
  | _, _, .cons r s => .cons r.b (RKs.b s)
theorem RFs.b : ∀ {xs : List (Str × MV)} {vs : List (Str × V)}, RFs B H A xs vs → RFs (B.b nb) H A xs vs
  | _, _, .nil => .nil
  | _, _, .cons r s => .cons r.b (RFs.b s)
theorem RO.b {a : Addr} {o : MO} (h : RO B H A a o) : RO (B.b nb) H A a o := by
  cases o with
  | lst xs => obtain ⟨vs, q, r, l⟩ := h; exact ⟨vs, q, r.b, l⟩
  | flst xs => obtain ⟨ob, vs, q, r, l⟩ := h; exact ⟨ob, vs, q, r.b, l⟩
  | dic xs => obtain ⟨vs, q, r, l⟩ := h; exact ⟨vs, q, r.b, l⟩
  | fdic xs => obtain ⟨ob, vs, q, r, l⟩ := h; exact ⟨ob, vs, q, r.b, l⟩
  | ins c fs => obtain ⟨C, dx, vs, m, q, r⟩ := h; exact ⟨C, dx, vs, m, q, r.b⟩
theorem SR.b {st : Store} (s : SR B H A st) : SR (B.b nb) H A st := ⟨s.len, s.nd, fun n a o h1 h2 => (s.obj n a o h1 h2).b, s.zs⟩
theorem Post.b {Q : VK} {V : Str → Hp → Prop} {r : Res MV} (p : Post B A H Q V r) : Post (B.b nb) A H Q V r := by
  cases r with
  | err => exact p
  | exc c st => exact fun H' A' e s => p H' A' e (show SR ((B.b nb).b B.base) _ _ _ from SR.b s)
  | ok v st => exact fun u H' A' e s r => p u H' A' e (show SR ((B.b nb).b B.base) _ _ _ from SR.b s) (show RV ((B.b nb).b B.base) _ _ _ _ from RV.b r)
theorem spOf_b {F : Fn} {kk : FK} {n : Nat} {vs : List V} {Q : VK} {E : XK} (h : spOf B F kk n vs H Q E) : spOf (B.b nb) F kk n vs H Q E := by
  obtain ⟨hl, Z, A, st, args, sr, rv, p⟩ := h
  exact ⟨hl, Z, A, st, args, SR.b (nb := nb) sr, RVs.b (nb := nb) rv, Post.b (nb := nb) p⟩
end
/-- the law's promise, from what its mirror answers -/
theorem lawAt_of {l : PySem.W.OpenLaw} {w : World} {K : PySem.W.Frag} {h : Heap} {mg : Str → Option Value} {k : Ck} {tab : List DefI} {tf : List He.Defn} {fa : Addr} (X : K.In h) (G : h.Ns mainGlobals mg) (c : He.SaysX (mkFa k) (tab.map (·.d)) (mkTs k) tf (mkEx k) w h K)
    (hok : ∀ i ∈ tab, i.ok k = true) (hb : ∀ i ∈ tab, i.bind) (hk : keysB tab k = true) {i : DefI} (hi : tab.find? (fun i => decide (i.key = .fn "law")) = some i) (hps : i.ps = (["script"] : List Str)) (hfa : mg "law" = some (.ref fa)) {d n : Nat} (hn : n ≤ 1000)
    (hm : ∀ ns : List Int, ns.length ≤ n → (∀ z ∈ ns, Builtin.Int.intBits z ≤ 1048576) → ∃ st, callF (tabG tab) (d + 1) (.fn "law") [.slst (ns.map MV.int)] [] = .ok (.bl true) st) :
    LamX.LawAtS l w K (L2.CX l.prog w) (2 * (d + 1)) n "script" mg fa h := by
  have hga := He.glo_ok X G (c.t.d.facts (f := .glo "law") (List.mem_cons_self ..))
  rw [hfa] at hga
  have ef : fa = He.ga K "law" := by
    have := Option.some.inj hga
    injection this
  subst ef
  have hkey : i.key = .fn "law" := by simpa using List.find?_some hi
  have hmem := List.mem_of_find?_eq_some hi
  obtain ⟨fd, _, D⟩ := defAt_of (P := l.prog) (w := w) (mg := mg) (base := h) c.t.d hmem (hok i hmem) (hb i hmem)
  rw [hkey] at D
  have M : ∀ base, Module ⟨l.prog, w, K, mg, base, []⟩ (tabG tab) k := fun base => module_of X G c hok hb hk
  have hG : tabG tab (.fn "law") = some i.m := by
    unfold tabG
    rw [hi]
    rfl
  have hF : ∀ args st, callF (tabG tab) (d + 1) (.fn "law") args st = runDef (callF (tabG tab) d) i.m args st := fun args st => by simp only [callF, hG]
  refine ⟨fd, [], spOf ⟨l.prog, w, K, mg, h, []⟩ (callF (tabG tab) (d + 1)) (.fn "law") 1, fun p hp => (by cases hp), fun p hp => (by cases hp), fun p hp => (by cases hp), fun s u => ?_, fun H a ns hl hbits _ hS => ?_, fun base hK hNs _ => ?_⟩
  · obtain ⟨fd', F⟩ := c.t.d.defs (d := i.d) (List.mem_map.mpr ⟨i, hmem, rfl⟩)
    have ho := hok i hmem
    unfold DefI.ok at ho
    simp only [Bool.and_eq_true, decide_eq_true_eq] at ho
    obtain ⟨h1, h2, h3, h4, h5, h6, h7⟩ := ho
    have e1 : i.d.dvs K = [] := by
      unfold He.DefD.dvs
      rw [List.isEmpty_iff.mp h4]
      rfl
    rw [e1, h6, hkey] at F
    have ed : fd' = fd := by
      obtain ⟨oc, od, dV, kV, doc, pm, an, cdv, ct, osl, e, lk, _⟩ := F.ex
      obtain ⟨name, qual, params, body, scope, dV', kV', doc', pm', cdv', ct', oc', an', od', osl', e', lk', _⟩ := D.ex
      have lk' : K.lookup (He.fAd K (keyAt (.fn "law"))) = some ⟨oc', od', .func fd, osl'⟩ := lk'
      rw [lk] at lk'
      injection lk' with q
      injection q with _ _ q _
      injection q
    rw [← ed]
    have b := F.bindsA (hb i hmem) s [u] (by rw [hps]; rfl)
    rw [hps] at b
    exact b
  · obtain ⟨st, hst⟩ := hm ns hl hbits
    refine ⟨rfl, [], [], [], [.slst (ns.map MV.int)], ⟨rfl, List.nodup_nil, fun n a o h1 _ => (by cases h1), fun z hz => (by cases hz)⟩, .cons (.slst (vs := ns.map V.int) ?_ ?_ ?_) .nil, ?_⟩
    · rcases hS with hS | hS
      · exact .inl ⟨hS, List.not_mem_nil, List.not_mem_nil⟩
      · exact .inr hS
    · clear hl hbits hS hst
      induction ns with
      | nil => exact .nil
      | cons a l ih => exact .cons (.int a) ih
    · rw [List.length_map]
      exact Nat.le_trans hl (Nat.le_trans hn (by decide))
    · rw [hst]
      intro u H' A' _ _ r
      cases r
      rfl
  · have D2 : DefAt ⟨l.prog, w, K, mg, base, []⟩ (i.ck k) i.m (He.ga K "law") fd i.ps := ⟨D.ex, D.bd, D.np, D.ns⟩
    have fs : Facts ⟨l.prog, w, K, mg, base, []⟩ (callF (tabG tab) d) (2 * d) (i.ck k) := Facts.same (k := i.ck k) (k0 := k) ⟨rfl, rfl, rfl, rfl, rfl, rfl⟩ (facts_all (M base) d)
    have fo := fn_ok (F' := callF (tabG tab) (d + 1)) (kk := .fn "law") fs D2 hF
    rw [hps] at fo
    exact fo.imp fun vs H Q E hsp => spOf_b (nb := base) hsp
end Mi
set_option Elab.async false
set_option linter.all false
set_option maxRecDepth 100000
set_option maxHeartbeats 1000000
/-! PlMono: more depth changes no answer. -/
namespace Mi
open PySem
/-- the second tells what the first does, if the first tells anything -/
def Le {α : Type} (a b : Res α) : Prop := a = .err ∨ a = b
theorem Le.refl {α : Type} (a : Res α) : Le a a := .inr rfl
theorem Le.err {α : Type} (b : Res α) : Le .err b := .inl rfl
theorem Le.bind {α β : Type} {a b : Res α} {f g : α → Store → Res β} (h : Le a b) (hf : ∀ v st, Le (f v st) (g v st)) : Le (a.bind f) (b.bind g) := by
  rcases h with rfl | rfl
  · exact .err _
  · cases a with
    | ok v st => exact hf v st
    | exc c st => exact .refl _
    | err => exact .err _
def FLe (F F' : Fn) : Prop := ∀ k vs st, Le (F k vs st) (F' k vs st)
theorem Le.onT {α : Type} {f g : List MV → Store → Res α} (h : ∀ vs st, Le (f vs st) (g vs st)) (v : MV) (st : Store) : Le (onT f v st) (onT g v st) := by
  cases v <;> first | exact .err _ | exact h _ _
theorem Le.onB {α : Type} {t t' f f' : Store → Res α} (ht : ∀ st, Le (t st) (t' st)) (hf : ∀ st, Le (f st) (f' st)) (v : MV) (st : Store) : Le (onB t f v st) (onB t' f' v st) := by
  cases v <;> first | exact .err _ | skip
  rename_i b
  cases b
  · exact hf st
  · exact ht st
theorem Le.noX {a b : Res MV} (h : Le a b) : Le (noX a) (noX b) := by
  rcases h with rfl | rfl
  · exact .err _
  · exact .refl _
theorem Le.madeR {n : Nat} {a b : Res MV} (h : Le a b) : Le (madeR n a) (madeR n b) := by
  rcases h with rfl | rfl
  · exact .err _
  · exact .refl _
theorem Le.chainR {r : Res MV} {k k' : Store → Res MV} (h : ∀ st, Le (k st) (k' st)) : Le (chainR r k) (chainR r k') := by
  cases r with
  | ok v st => exact Le.onB h (fun _ => .refl _) v st
  | exc c st => exact .err _
  | err => exact .err _
theorem Le.itR {α : Type} {kk : ItK} {a b : Res MV} {f g : List MV → Option (Nat × MO) → Store → Res α} (h : Le a b) (hf : ∀ xs l st, Le (f xs l st) (g xs l st)) : Le (itR kk a f) (itR kk b g) := by
  rcases h with rfl | rfl
  · exact .err _
  · cases a with
    | ok v st =>
      cases v <;> first | exact .err _ | skip
      simp only [Mi.itR]
      split
      · exact hf _ _ _
      · exact .err _
    | exc c st => exact .err _
    | err => exact .err _
theorem Le.lcStep {c c' e e' : Env → Store → Res MV} (hc : ∀ env st, Le (c env st) (c' env st)) (he : ∀ env st, Le (e env st) (e' env st)) (o : Option Env) (st : Store) : Le (lcStep c e o st) (lcStep c' e' o st) := by
  cases o with
  | none => exact .err _
  | some env =>
    simp only [Mi.lcStep]
    rcases hc env st with h | h
    · rw [h]; exact .err _
    · rw [h]
      cases c' env st with
      | ok v st =>
        refine Le.onB (fun st => ?_) (fun _ => .refl _) v st
        rcases he env st with h | h
        · rw [h]; exact .err _
        · rw [h]; exact .refl _
      | exc c st => exact .err _
      | err => exact .err _
theorem Le.lcGo {f g : MV → Store → Res (Option MV)} (h : ∀ x st, Le (f x st) (g x st)) : ∀ (xs acc : List MV) (st : Store), Le (lcGo f xs acc st) (lcGo g xs acc st)
  | [], _, _ => .refl _
  | x :: xs, acc, st => by
    simp only [Mi.lcGo]
    rcases h x st with e | e
    · rw [e]; exact .err _
    · rw [e]
      cases g x st with
      | ok o st =>
        cases o with
        | none => exact Le.lcGo h xs acc st
        | some y =>
          show Le (if acc.length < lim then _ else _) (if acc.length < lim then _ else _)
          split
          · exact Le.lcGo h xs _ st
          · exact .err _
      | exc c st => exact .err _
      | err => exact .err _
theorem Le.lcEnd {p : Bool} {l : Option (Nat × MO)} {a b : Res (List MV)} (h : Le a b) : Le (lcEnd p l a) (lcEnd p l b) := by
  rcases h with rfl | rfl
  · exact .err _
  · exact .refl _
theorem evalE_mono {F F' : Fn} (hF : FLe F F') : ∀ (e : E) (env : Env) (st : Store), Le (evalE F e env st) (evalE F' e env st) := by
  intro e
  induction e with
  | var i => intro env st; exact .refl _
  | lit v => intro env st; exact .refl _
  | glob x v => intro env st; exact .refl _
  | nil => intro env st; exact .refl _
  | cons a r iha ihr => intro env st; exact (iha env st).bind fun v st => (ihr env st).bind fun _ _ => .refl _
  | op o as iha => intro env st; exact (iha env st).bind fun _ _ => .refl _
  | me m o as iho iha =>
    intro env st
    refine (iho env st).bind fun v st => ?_
    split
    · exact (iha env st).bind fun _ _ => .refl _
    · exact .err _
  | chain o p a b c iha ihb ihc => intro env st; exact (iha env st).bind fun x st => (ihb env st).bind fun y st => Le.chainR fun st => (ihc env st).bind fun _ _ => .refl _
  | and a b iha ihb => intro env st; exact (iha env st).bind fun v st => Le.onB (fun st => ihb env st) (fun _ => .refl _) v st
  | or a b iha ihb => intro env st; exact (iha env st).bind fun v st => Le.onB (fun _ => .refl _) (fun st => ihb env st) v st
  | not a iha => intro env st; exact (iha env st).bind fun _ _ => .refl _
  | ite c a b ihc iha ihb => intro env st; exact (ihc env st).bind fun v st => Le.onB (fun st => iha env st) (fun st => ihb env st) v st
  | call f as iha => intro env st; exact (iha env st).bind fun v st => Le.onT (fun vs st => hF _ _ _) v st
  | callv i fs as iha =>
    intro env st
    simp only [evalE]
    cases env[i]? with
    | none => exact .err _
    | some o =>
      cases o with
      | none => exact .err _
      | some v =>
        cases v <;> first | exact .err _ | skip
        simp only [heldR]
        split
        · exact (iha env st).bind fun v st => Le.onT (fun vs st => hF _ _ _) v st
        · exact .err _
  | make c as iha => intro env st; exact (iha env st).bind fun v st => Le.onT (fun vs st => Le.madeR (hF _ _ _)) v st
  | meth c m o as iho iha =>
    intro env st
    refine (iho env st).bind fun v st => ?_
    split
    · exact (iha env st).bind fun w st => Le.onT (fun vs st => Le.noX (hF _ _ _)) w st
    · exact .err _
  | fld c o f iho => intro env st; exact (iho env st).bind fun _ _ => .refl _
  | lc p own tg k it cond elt ihi ihc ihe => intro env st; exact Le.itR (ihi env st) fun xs l st => Le.lcEnd (Le.lcGo (fun x st => Le.lcStep ihc ihe _ st) xs [] _)
theorem Le.seqK {f g : Env → Store → Res Out} (h : ∀ env st, Le (f env st) (g env st)) (o : Out) (st : Store) : Le (seqK f o st) (seqK g o st) := by
  cases o with
  | nx env => exact h env st
  | rt v => exact .refl _
  | bk env => exact .refl _
theorem Le.forStep {f g : Env → Store → Res Out} (h : ∀ env st, Le (f env st) (g env st)) (o : Option Env) (st : Store) : Le (forStep f o st) (forStep g o st) := by
  cases o with
  | none => exact .err _
  | some env => exact h env st
theorem Le.forGo {f g : MV → Env → Store → Res Out} {l : Option (Nat × MO)} (h : ∀ x env st, Le (f x env st) (g x env st)) : ∀ (xs : List MV) (env : Env) (st : Store), Le (forGo f l xs env st) (forGo g l xs env st)
  | [], _, _ => .refl _
  | x :: xs, env, st => by
    simp only [Mi.forGo]
    rcases h x env st with e | e
    · rw [e]; exact .err _
    · rw [e]
      cases g x env st with
      | ok o st =>
        cases o with
        | nx env => exact Le.forGo h xs env st
        | rt v => exact .refl _
        | bk env => exact .refl _
      | exc c st => exact .err _
      | err => exact .err _
theorem Le.whileGo {c c' : Env → Store → Res MV} {b b' : Env → Store → Res Out} (hc : ∀ env st, Le (c env st) (c' env st)) (hb : ∀ env st, Le (b env st) (b' env st)) : ∀ (n : Nat) (env : Env) (st : Store), Le (whileGo c b n env st) (whileGo c' b' n env st)
  | 0, _, _ => .err _
  | n + 1, env, st => by
    simp only [Mi.whileGo]
    rcases hc env st with e | e
    · rw [e]; exact .err _
    · rw [e]
      cases c' env st with
      | ok v st =>
        refine Le.onB (fun st => ?_) (fun _ => .refl _) v st
        rcases hb env st with e | e
        · rw [e]; exact .err _
        · rw [e]
          cases b' env st with
          | ok o st =>
            cases o with
            | nx env => exact Le.whileGo hc hb n env st
            | rt v => exact .refl _
            | bk env => exact .refl _
          | exc c st => exact .err _
          | err => exact .err _
      | exc c st => exact .err _
      | err => exact .err _
theorem Le.tryR {a b : Res Out} {f g : Str → Store → Res Out} (h : Le a b) (hf : ∀ c st, Le (f c st) (g c st)) : Le (tryR f a) (tryR g b) := by
  rcases h with rfl | rfl
  · exact .err _
  · cases a with
    | ok o st => exact .refl _
    | exc c st => exact hf c st
    | err => exact .err _
theorem execS_mono {F F' : Fn} (hF : FLe F F') : ∀ (s : S) (env : Env) (st : Store), Le (execS F s env st) (execS F' s env st) := by
  have he := evalE_mono hF
  intro s
  induction s with
  | skip => intro env st; exact .refl _
  | seq a b iha ihb => intro env st; exact (iha env st).bind fun o st => Le.seqK ihb o st
  | exp e => intro env st; exact (he e env st).bind fun _ _ => .refl _
  | asg tg e => intro env st; exact (he e env st).bind fun _ _ => .refl _
  | setI o i e => intro env st; exact (he e env st).bind fun _ st => (he o env st).bind fun _ st => (he i env st).bind fun _ _ => .refl _
  | setF c o f e => intro env st; exact (he e env st).bind fun _ st => (he o env st).bind fun _ _ => .refl _
  | ite c a b iha ihb => intro env st; exact (he c env st).bind fun v st => Le.onB (fun st => iha env st) (fun st => ihb env st) v st
  | for_ tg k it body ih => intro env st; exact Le.itR (he it env st) fun xs l st => Le.forGo (fun x env st => Le.forStep ih _ st) xs env _
  | while_ c body ih => intro env st; exact Le.whileGo (he c) ih _ env st
  | ret e => intro env st; exact (he e env st).bind fun _ _ => .refl _
  | retN => intro env st; exact .refl _
  | brk => intro env st; exact .refl _
  | raise c => intro env st; exact .refl _
  | tryN b ih => intro env st; exact Le.tryR (ih env st) fun _ _ => .refl _
  | tryX b i h ihb ihh => intro env st; exact Le.tryR (ihb env st) fun c st => ihh _ st
theorem callF_step (G : Tab) : ∀ d, FLe (callF G d) (callF G (d + 1))
  | 0 => fun _ _ _ => .err _
  | d + 1 => fun k vs st => by
    simp only [callF]
    cases G k with
    | none => exact .err _
    | some m =>
      simp only [runDef]
      split
      · rcases execS_mono (callF_step G d) m.body (startE m.ns vs) st with e | e
        · rw [e]; exact .err _
        · rw [e]; exact .refl _
      · exact .err _
/-- an answer at some depth is the answer at each greater one -/
theorem callF_up {G : Tab} {d : Nat} {k : FK} {vs : List MV} {st : Store} {r : Res MV} (h : callF G d k vs st = r) (hr : r ≠ .err) : ∀ n, callF G (d + n) k vs st = r
  | 0 => h
  | n + 1 => by
    have ih := callF_up h hr n
    rcases callF_step G (d + n) k vs st with e | e
    · rw [ih] at e; exact absurd e hr
    · rw [ih] at e; exact e.symm
theorem callF_le {G : Tab} {d d' : Nat} {k : FK} {vs : List MV} {st st' : Store} {v : MV} (h : callF G d k vs st = .ok v st') (hd : d ≤ d') : callF G d' k vs st = .ok v st' := by
  have := callF_up h (by intro e; cases e) (d' - d)
  rwa [Nat.add_sub_cancel' hd] at this
end Mi
set_option Elab.async false
set_option linter.all false
set_option maxRecDepth 100000
set_option maxHeartbeats 1000000
/-! PlKit: steps of the mirror, as equations. -/
namespace Mi
open PySem
theorem bind_ok {α β : Type} (a : α) (st : Store) (f : α → Store → Res β) : (Res.ok a st).bind f = f a st := rfl
theorem bind_exc {α β : Type} (c : Str) (st : Store) (f : α → Store → Res β) : (Res.exc c st : Res α).bind f = .exc c st := rfl
theorem onT_tup {α : Type} (f : List MV → Store → Res α) (vs : List MV) (st : Store) : onT f (.tup vs) st = f vs st := rfl
theorem onB_true {α : Type} (t f : Store → Res α) (st : Store) : onB t f (.bl true) st = t st := rfl
theorem onB_false {α : Type} (t f : Store → Res α) (st : Store) : onB t f (.bl false) st = f st := rfl
theorem onB_dec {α : Type} (t f : Store → Res α) (b : Bool) (st : Store) : onB t f (.bl b) st = if b = true then t st else f st := by cases b <;> rfl
theorem varR_some (v : MV) (st : Store) : varR (some (some v)) st = .ok v st := rfl
theorem eval_args0 {F : Fn} {env : Env} {st : Store} : evalE F .nil env st = .ok (.tup []) st := rfl
theorem eval_args {F : Fn} {a r : E} {env : Env} {st st1 st2 : Store} {v : MV} {vs : List MV} (h1 : evalE F a env st = .ok v st1) (h2 : evalE F r env st1 = .ok (.tup vs) st2) : evalE F (.cons a r) env st = .ok (.tup (v :: vs)) st2 := by
  simp only [evalE, h1, bind_ok, h2, onT_tup, consR]
theorem data_str (st : Store) (d : Nat) (x : Str) : dataOf st (d + 1) (.str x) = some (.str x) := rfl
theorem data_int (st : Store) (d : Nat) (x : Int) : dataOf st (d + 1) (.int x) = some (.int x) := rfl
theorem data_non (st : Store) (d : Nat) : dataOf st (d + 1) .non = some .none := rfl
/-- == of flat values -/
theorem eqMV_flat {a b : MV} {st : Store} {x y : PyData} (ha : dicL st a = none) (h1 : dataOf st 65 a = some x) (h2 : dataOf st 65 b = some y) (l1 : x.canLay0 = true) (l2 : y.canLay0 = true) (d1 : x.depth ≤ 64) (d2 : y.depth ≤ 64) : eqMV st a b = some (x.eqv y) := by
  unfold eqMV
  rw [ha, h1, h2]
  simp only [l1, l2, d1, d2, decide_true, Bool.and_self, if_true]
theorem eq_str {a b : Str} {st : Store} (ha : (PyData.str a).canLay0 = true) (hb : (PyData.str b).canLay0 = true) : runOp .eq [.str a, .str b] st = .ok (.bl (a == b)) st := by
  show ofB (eqMV st (.str a) (.str b)) st = _
  rw [eqMV_flat (x := .str a) (y := .str b) rfl rfl rfl ha hb (Nat.zero_le _) (Nat.zero_le _)]
  rfl
theorem ne_str {a b : Str} {st : Store} (ha : (PyData.str a).canLay0 = true) (hb : (PyData.str b).canLay0 = true) : runOp .ne [.str a, .str b] st = .ok (.bl (!(a == b))) st := by
  show ofB ((eqMV st (.str a) (.str b)).map (!·)) st = _
  rw [eqMV_flat (x := .str a) (y := .str b) rfl rfl rfl ha hb (Nat.zero_le _) (Nat.zero_le _)]
  rfl
theorem eq_int {a b : Int} {st : Store} : runOp .eq [.int a, .int b] st = .ok (.bl (a == b)) st := by
  show ofB (eqMV st (.int a) (.int b)) st = _
  rw [eqMV_flat (x := .int a) (y := .int b) rfl rfl rfl rfl rfl (Nat.zero_le _) (Nat.zero_le _)]
  rfl
theorem ne_int {a b : Int} {st : Store} : runOp .ne [.int a, .int b] st = .ok (.bl (!(a == b))) st := by
  show ofB ((eqMV st (.int a) (.int b)).map (!·)) st = _
  rw [eqMV_flat (x := .int a) (y := .int b) rfl rfl rfl rfl rfl (Nat.zero_le _) (Nat.zero_le _)]
  rfl
theorem lt_int {a b : Int} {st : Store} : runOp .lt [.int a, .int b] st = .ok (.bl (decide (a < b))) st := rfl
theorem le_int {a b : Int} {st : Store} : runOp .le [.int a, .int b] st = .ok (.bl (decide (a ≤ b))) st := rfl
theorem gt_int {a b : Int} {st : Store} : runOp .gt [.int a, .int b] st = .ok (.bl (decide (b < a))) st := rfl
theorem add_int {a b : Int} {st : Store} : runOp .add [.int a, .int b] st = .ok (.int (a + b)) st := rfl
theorem sub_int {a b : Int} {st : Store} : runOp .sub [.int a, .int b] st = .ok (.int (a - b)) st := rfl
theorem mod_int {a b : Int} {st : Store} (h : 0 < b) : runOp .mod [.int a, .int b] st = .ok (.int (a % b)) st := by
  show (if 0 < b then _ else _) = _
  rw [if_pos h]
end Mi
namespace Mi
open PySem
/-! ### big steps -/
section
variable {F : Fn} {env env' : Env} {st st1 st2 st3 : Store} {v : MV} {vs : List MV}
theorem ev_op {o : Op} {as : E} (ha : evalE F as env st = .ok (.tup vs) st1) (ho : runOp o vs st1 = .ok v st2) : evalE F (.op o as) env st = .ok v st2 := by
  simp only [evalE, ha, bind_ok, onT_tup, ho]
theorem ev_call {f : Str} {as : E} (ha : evalE F as env st = .ok (.tup vs) st1) (hf : F (.fn f) vs st1 = .ok v st2) : evalE F (.call f as) env st = .ok v st2 := by
  simp only [evalE, ha, bind_ok, onT_tup, hf]
theorem ev_me {m : Me} {o as : E} {a : MV} (ho : evalE F o env st = .ok a st1) (hk : kdOk m.kd a st1 = true) (ha : evalE F as env st1 = .ok (.tup vs) st2) (hm : runMe m a vs st2 = .ok v st3) : evalE F (.me m o as) env st = .ok v st3 := by
  simp only [evalE, ho, bind_ok, hk, if_true, ha, onT_tup, hm]
theorem ev_meth {c m : Str} {o as : E} {a : MV} (ho : evalE F o env st = .ok a st1) (hk : hasM c m a st1 = true) (ha : evalE F as env st1 = .ok (.tup vs) st2) (hm : F (.me c m) (a :: vs) st2 = .ok v st3) : evalE F (.meth c m o as) env st = .ok v st3 := by
  simp only [evalE, ho, bind_ok, hk, if_true, ha, onT_tup, hm, noX]
theorem ev_and_t {a b : E} {r : Res MV} (ha : evalE F a env st = .ok (.bl true) st1) (hb : evalE F b env st1 = r) : evalE F (.and a b) env st = r := by
  simp only [evalE, ha, bind_ok, onB_true, hb]
theorem ev_and_f {a b : E} (ha : evalE F a env st = .ok (.bl false) st1) : evalE F (.and a b) env st = .ok (.bl false) st1 := by
  simp only [evalE, ha, bind_ok, onB_false]
theorem ev_or_t {a b : E} (ha : evalE F a env st = .ok (.bl true) st1) : evalE F (.or a b) env st = .ok (.bl true) st1 := by
  simp only [evalE, ha, bind_ok, onB_true]
theorem ev_or_f {a b : E} {r : Res MV} (ha : evalE F a env st = .ok (.bl false) st1) (hb : evalE F b env st1 = r) : evalE F (.or a b) env st = r := by
  simp only [evalE, ha, bind_ok, onB_false, hb]
theorem ev_not {a : E} {b : Bool} (ha : evalE F a env st = .ok (.bl b) st1) : evalE F (.not a) env st = .ok (.bl (!b)) st1 := by
  simp only [evalE, ha, bind_ok, notR]
theorem ex_seq {a b : S} {r : Res Out} (ha : execS F a env st = .ok (.nx env') st1) (hb : execS F b env' st1 = r) : execS F (.seq a b) env st = r := by
  simp only [execS, ha, bind_ok, seqK, hb]
theorem ex_seq_r {a b : S} (ha : execS F a env st = .ok (.rt v) st1) : execS F (.seq a b) env st = .ok (.rt v) st1 := by
  simp only [execS, ha, bind_ok, seqK]
theorem ex_exp {e : E} (he : evalE F e env st = .ok v st1) : execS F (.exp e) env st = .ok (.nx env) st1 := by
  simp only [execS, he, bind_ok]
theorem ex_asg {tg : Tg} {e : E} (he : evalE F e env st = .ok v st1) (hb : bindT st1 tg v env = some env') : execS F (.asg tg e) env st = .ok (.nx env') st1 := by
  simp only [execS, he, bind_ok, hb, stEnv]
theorem ex_ret {e : E} (he : evalE F e env st = .ok v st1) : execS F (.ret e) env st = .ok (.rt v) st1 := by
  simp only [execS, he, bind_ok]
theorem ex_ite_t {c : E} {a b : S} {r : Res Out} (hc : evalE F c env st = .ok (.bl true) st1) (ha : execS F a env st1 = r) : execS F (.ite c a b) env st = r := by
  simp only [execS, hc, bind_ok, onB_true, ha]
theorem ex_ite_f {c : E} {a b : S} {r : Res Out} (hc : evalE F c env st = .ok (.bl false) st1) (hb : execS F b env st1 = r) : execS F (.ite c a b) env st = r := by
  simp only [execS, hc, bind_ok, onB_false, hb]
end
end Mi
namespace Mi
open PySem
/-! ### walks -/
/-- a comprehension's turns where each yields, the store standing -/
theorem lcGo_map {f : MV → Store → Res (Option MV)} {st : Store} {g : MV → MV} : ∀ (xs acc : List MV), (∀ x ∈ xs, f x st = .ok (some (g x)) st) → acc.length + xs.length ≤ lim → lcGo f xs acc st = .ok (acc ++ xs.map g) st
  | [], acc, _, _ => by rw [List.map_nil, List.append_nil]; rfl
  | x :: xs, acc, h, hl => by
    have hx := h x (List.mem_cons_self ..)
    rw [List.length_cons] at hl
    simp only [lcGo, hx]
    rw [if_pos (by omega), lcGo_map xs (acc ++ [g x]) (fun y hy => h y (List.mem_cons_of_mem _ hy)) (by rw [List.length_append, List.length_singleton]; omega)]
    rw [List.map_cons, List.append_assoc]
    rfl
/-- .. where some are left out -/
theorem lcGo_filter {f : MV → Store → Res (Option MV)} {st : Store} {g : MV → Option MV} : ∀ (xs acc : List MV), (∀ x ∈ xs, f x st = .ok (g x) st) → acc.length + xs.length ≤ lim → lcGo f xs acc st = .ok (acc ++ xs.filterMap g) st
  | [], acc, _, _ => by rw [List.filterMap_nil, List.append_nil]; rfl
  | x :: xs, acc, h, hl => by
    have hx := h x (List.mem_cons_self ..)
    rw [List.length_cons] at hl
    simp only [lcGo, hx]
    cases hg : g x with
    | none =>
      simp only
      rw [lcGo_filter xs acc (fun y hy => h y (List.mem_cons_of_mem _ hy)) (by omega), List.filterMap_cons, hg]
    | some y =>
      simp only
      rw [if_pos (by omega), lcGo_filter xs (acc ++ [y]) (fun y hy => h y (List.mem_cons_of_mem _ hy)) (by rw [List.length_append, List.length_singleton]; omega), List.filterMap_cons, hg, List.append_assoc]
      rfl
end Mi
namespace Mi
open PySem
/-- [elt for target in it], the store standing: l the items, typed; enc, res: as they are walked, as they come -/
theorem ev_lc {α : Type} {F : Fn} {env : Env} {st st1 : Store} {own : List Nat} {tg : Tg} {k : ItK} {it cond elt : E} {vs : List MV} (l : List α) (enc res : α → MV) (hi : evalE F it env st = .ok (.tup vs) st1) (hx : items k vs st1 = some (l.map enc, none)) (hl : l.length ≤ lim)
    (hs : ∀ x ∈ l, ∃ env1, bindT st1 tg (enc x) (wipeE env own) = some env1 ∧ evalE F cond env1 st1 = .ok (.bl true) st1 ∧ evalE F elt env1 st1 = .ok (res x) st1) :
    evalE F (.lc true own tg k it cond elt) env st = .ok (.lst (l.map res)) st1 := by
  have key : ∀ (l : List α) (acc : List MV), (∀ x ∈ l, ∃ env1, bindT st1 tg (enc x) (wipeE env own) = some env1 ∧ evalE F cond env1 st1 = .ok (.bl true) st1 ∧ evalE F elt env1 st1 = .ok (res x) st1) → acc.length + l.length ≤ lim →
      lcGo (fun x st => lcStep (evalE F cond) (evalE F elt) (bindT st tg x (wipeE env own)) st) (l.map enc) acc st1 = .ok (acc ++ l.map res) st1 := by
    intro l
    induction l with
    | nil => intro acc _ _; simp [lcGo]
    | cons x l ih =>
      intro acc h hl
      obtain ⟨env1, h1, h2, h3⟩ := h x (List.mem_cons_self ..)
      rw [List.length_cons] at hl
      have e : lcStep (evalE F cond) (evalE F elt) (bindT st1 tg (enc x) (wipeE env own)) st1 = .ok (some (res x)) st1 := by
        rw [h1]
        simp only [lcStep, h2, onB_true, h3]
      have ih' := ih (acc ++ [res x]) (fun y hy => h y (List.mem_cons_of_mem _ hy)) (by rw [List.length_append, List.length_singleton]; omega)
      rw [List.map_cons]
      simp only [lcGo, e]
      rw [if_pos (by omega), ih', List.append_assoc]
      rfl
  simp only [evalE, hi, itR, hx]
  have := key l [] hs (by simpa using hl)
  show lcEnd true none (lcGo _ (l.map enc) [] st1) = _
  rw [this]
  rfl
end Mi
namespace Mi
open PySem
/-! ### for -/
theorem for_nil {step : MV → Env → Store → Res Out} {l : Option (Nat × MO)} {env : Env} {st : Store} : forGo step l [] env st = .ok (.nx env) (unlock l st) := rfl
theorem for_cons {step : MV → Env → Store → Res Out} {l : Option (Nat × MO)} {x : MV} {xs : List MV} {env env' : Env} {st st' : Store} (h : step x env st = .ok (.nx env') st') : forGo step l (x :: xs) env st = forGo step l xs env' st' := by
  simp only [forGo, h]
theorem for_ret {step : MV → Env → Store → Res Out} {l : Option (Nat × MO)} {x v : MV} {xs : List MV} {env : Env} {st st' : Store} (h : step x env st = .ok (.rt v) st') : forGo step l (x :: xs) env st = .ok (.rt v) (unlock l st') := by
  simp only [forGo, h]
theorem ex_for {F : Fn} {tg : Tg} {k : ItK} {it : E} {body : S} {env : Env} {st st1 : Store} {vs xs : List MV} {l : Option (Nat × MO)} {r : Res Out} (hi : evalE F it env st = .ok (.tup vs) st1) (hx : items k vs st1 = some (xs, l))
    (h : forGo (fun x env st => forStep (execS F body) (bindT st tg x env) st) l xs env (lock l st1) = r) : execS F (.for_ tg k it body) env st = r := by
  simp only [execS, hi, itR, hx, h]
theorem step_some {F : Fn} {tg : Tg} {body : S} {x : MV} {env env1 : Env} {st : Store} {r : Res Out} (hb : bindT st tg x env = some env1) (h : execS F body env1 st = r) : (fun x env st => forStep (execS F body) (bindT st tg x env) st) x env st = r := by
  simp only [hb, forStep, h]
/-- a def's answer, from its body's -/
theorem call_ok {G : Tab} {d : Nat} {k : FK} {m : MDef} {vs : List MV} {st st' : Store} {v : MV} (hG : G k = some m) (hn : vs.length = m.np) (h : execS (callF G d) m.body (startE m.ns vs) st = .ok (.rt v) st') : callF G (d + 1) k vs st = .ok v st' := by
  simp only [callF, hG, runDef, hn, if_true, h, retR]
theorem call_non {G : Tab} {d : Nat} {k : FK} {m : MDef} {vs : List MV} {st st' : Store} {env : Env} (hG : G k = some m) (hn : vs.length = m.np) (h : execS (callF G d) m.body (startE m.ns vs) st = .ok (.nx env) st') : callF G (d + 1) k vs st = .ok .non st' := by
  simp only [callF, hG, runDef, hn, if_true, h, retR]
end Mi
set_option Elab.async false
set_option linter.all false
set_option maxRecDepth 100000
set_option maxHeartbeats 1000000
/-! PlProg: rows, blocks, programs, typed. -/
namespace Mi
open PySem
mutual
inductive Row where
  | num (x : Str) (i : Int)
  | copy (x y : Str)
  | add (x y z : Str)
  | make (t x y : Str)
  | get (x t : Str) (f : Int)
  | put (t : Str) (f : Int) (x : Str)
  | lett (t u : Str)
  | same (x t u : Str)
  | say (x : Str)
  | give (t : Str)
  | stir
  | ifr (x : Str) (a b : Blk)
  | loop (x : Str) (a : Blk)
inductive Blk where
  | nil
  | cons (r : Row) (b : Blk)
end
mutual
def Row.mv : Row → MV
  | .num x i => .tup [.str "num", .str x, .int i]
  | .copy x y => .tup [.str "copy", .str x, .str y]
  | .add x y z => .tup [.str "add", .str x, .str y, .str z]
  | .make t x y => .tup [.str "make", .str t, .str x, .str y]
  | .get x t f => .tup [.str "get", .str x, .str t, .int f]
  | .put t f x => .tup [.str "put", .str t, .int f, .str x]
  | .lett t u => .tup [.str "let", .str t, .str u]
  | .same x t u => .tup [.str "same", .str x, .str t, .str u]
  | .say x => .tup [.str "say", .str x]
  | .give t => .tup [.str "give", .str t]
  | .stir => .tup [.str "stir"]
  | .ifr x a b => .tup [.str "if", .str x, .tup a.mvs, .tup b.mvs]
  | .loop x a => .tup [.str "loop", .str x, .tup a.mvs]
def Blk.mvs : Blk → List MV
  | .nil => []
  | .cons r b => r.mv :: b.mvs
end
def Blk.mv (b : Blk) : MV := .tup b.mvs
/-- the blocks within a row -/
def Row.blks : Row → List Blk
  | .ifr _ a b => [a, b]
  | .loop _ a => [a]
  | _ => []
mutual
/-- the most makes -/
def Row.most : Row → Nat
  | .make _ _ _ => 1
  | .ifr _ a b => max a.most b.most
  | .loop _ a => 9 * a.most
  | _ => 0
def Blk.most : Blk → Nat
  | .nil => 0
  | .cons r b => r.most + b.most
end
mutual
/-- how many rows -/
def Row.size : Row → Nat
  | .ifr _ a b => 1 + (a.size + b.size)
  | .loop _ a => 1 + a.size
  | _ => 1
def Blk.size : Blk → Nat
  | .nil => 0
  | .cons r b => r.size + b.size
end
structure Prg where
  params : List Str
  body : Blk
def Prg.mv (p : Prg) : MV := .tup [.tup (p.params.map MV.str), p.body.mv]
end Mi
set_option Elab.async false
set_option linter.all false
set_option maxRecDepth 100000
/-! PlDefs: the mirror defs that laws share (printed by gendefs.py). -/
namespace Mi.Sh
open PySem Mi
def c_SHAPES : List (Str × MV) := [("num", (.str "n#")), ("copy", (.str "nn")), ("add", (.str "nnn")), ("make", (.str "tnn")), ("get", (.str "ntf")), ("put", (.str "tfn")), ("let", (.str "tt")), ("same", (.str "ntt")), ("say", (.str "n")), ("give", (.str "t")), ("stir", (.str ""))]
def c_SETS : List MV := [(.str "num"), (.str "copy"), (.str "add"), (.str "make"), (.str "get"), (.str "let"), (.str "same")]
/-- is_word: thing -/
def d_is_word : MDef := ⟨1, 1, (.ret (.and (.op .isStr (.cons (.var 0) .nil)) (.and (.chain .le .le (.lit (.int 1)) (.op .len (.cons (.var 0) .nil)) (.glob "LONGEST" (.int 6))) (.op .eq (.cons (.me .strip (.var 0) (.cons (.glob "LETTERS" (.str "abcdefghijklmnopqrstuvwxyz")) .nil)) (.cons (.lit (.str "")) .nil))))))⟩
/-- is_whole: thing low most -/
def d_is_whole : MDef := ⟨3, 3, (.ret (.and (.op .isInt (.cons (.var 0) .nil)) (.and (.not (.op .isBool (.cons (.var 0) .nil))) (.chain .le .le (.var 1) (.var 0) (.var 2)))))⟩
/-- is_part: shape thing -/
def d_is_part : MDef := ⟨2, 2, (.seq (.ite (.op .eq (.cons (.var 0) (.cons (.lit (.str "#")) .nil))) (.ret (.call "is_whole" (.cons (.var 1) (.cons (.lit (.int 0)) (.cons (.glob "GREATEST" (.int 999)) .nil))))) .skip)
  (.seq (.ite (.op .eq (.cons (.var 0) (.cons (.lit (.str "f")) .nil))) (.ret (.call "is_whole" (.cons (.var 1) (.cons (.lit (.int 0)) (.cons (.lit (.int 1)) .nil))))) .skip)
  (.ret (.call "is_word" (.cons (.var 1) .nil)))))⟩
/-- blocks_of: row -/
def d_blocks_of : MDef := ⟨1, 1, (.seq (.ite (.op .eq (.cons (.op .ix (.cons (.var 0) (.cons (.lit (.int 0)) .nil))) (.cons (.lit (.str "if")) .nil))) (.ret (.op (.lst true) (.cons (.op .ix (.cons (.var 0) (.cons (.lit (.int 2)) .nil))) (.cons (.op .ix (.cons (.var 0) (.cons (.lit (.int 3)) .nil))) .nil)))) .skip)
  (.seq (.ite (.op .eq (.cons (.op .ix (.cons (.var 0) (.cons (.lit (.int 0)) .nil))) (.cons (.lit (.str "loop")) .nil))) (.ret (.op (.lst true) (.cons (.op .ix (.cons (.var 0) (.cons (.lit (.int 2)) .nil))) .nil))) .skip)
  (.ret (.op (.lst true) .nil))))⟩
def d_is_row_e1 : E := (.call "is_block" (.cons (.var 4) (.cons (.op .add (.cons (.var 1) (.cons (.lit (.int 1)) .nil))) .nil)))
def d_is_row_lc1 : E := (.lc true [4] (.name 4) .seq (.cons (.op .slL (.cons (.var 0) (.cons (.lit (.int 2)) .nil))) .nil) (.lit (.bl true)) d_is_row_e1)
def d_is_row_e2 : E := (.call "is_part" (.cons (.var 3) (.cons (.var 4) .nil)))
def d_is_row_lc2 : E := (.lc true [3, 4] (.tup (.cons (.name 3) (.cons (.name 4) .nil))) .zip (.cons (.var 2) (.cons (.op .slL (.cons (.var 0) (.cons (.lit (.int 1)) .nil))) .nil)) (.lit (.bl true)) d_is_row_e2)
/-- is_row: thing deep shapes shape part -/
def d_is_row : MDef := ⟨2, 5, (.seq (.ite (.or (.not (.op .isTup (.cons (.var 0) .nil))) (.or (.op .eq (.cons (.op .len (.cons (.var 0) .nil)) (.cons (.lit (.int 0)) .nil))) (.not (.op .isStr (.cons (.op .ix (.cons (.var 0) (.cons (.lit (.int 0)) .nil))) .nil))))) (.ret (.lit (.bl false))) .skip)
  (.seq (.ite (.op .inn (.cons (.op .ix (.cons (.var 0) (.cons (.lit (.int 0)) .nil))) (.cons (.glob "SHAPES" (.cdic c_SHAPES)) .nil))) (.seq (.asg (.name 2) (.op .ix (.cons (.glob "SHAPES" (.cdic c_SHAPES)) (.cons (.op .ix (.cons (.var 0) (.cons (.lit (.int 0)) .nil))) .nil))))
  (.seq (.ite (.op .ne (.cons (.op .len (.cons (.var 0) .nil)) (.cons (.op .add (.cons (.op .len (.cons (.var 2) .nil)) (.cons (.lit (.int 1)) .nil))) .nil))) (.ret (.lit (.bl false))) .skip)
  (.ret (.op .all (.cons d_is_row_lc2 .nil))))) .skip)
  (.seq (.ite (.op .eq (.cons (.op .ix (.cons (.var 0) (.cons (.lit (.int 0)) .nil))) (.cons (.lit (.str "if")) .nil))) (.ret (.and (.op .eq (.cons (.op .len (.cons (.var 0) .nil)) (.cons (.lit (.int 4)) .nil))) (.and (.call "is_word" (.cons (.op .ix (.cons (.var 0) (.cons (.lit (.int 1)) .nil))) .nil)) (.op .all (.cons d_is_row_lc1 .nil))))) .skip)
  (.ret (.and (.op .eq (.cons (.op .ix (.cons (.var 0) (.cons (.lit (.int 0)) .nil))) (.cons (.lit (.str "loop")) .nil))) (.and (.op .eq (.cons (.op .len (.cons (.var 0) .nil)) (.cons (.lit (.int 3)) .nil))) (.and (.call "is_word" (.cons (.op .ix (.cons (.var 0) (.cons (.lit (.int 1)) .nil))) .nil)) (.call "is_block" (.cons (.op .ix (.cons (.var 0) (.cons (.lit (.int 2)) .nil))) (.cons (.op .add (.cons (.var 1) (.cons (.lit (.int 1)) .nil))) .nil))))))))))⟩
def d_is_block_e1 : E := (.call "is_row" (.cons (.var 2) (.cons (.var 1) .nil)))
def d_is_block_lc1 : E := (.lc true [2] (.name 2) .seq (.cons (.var 0) .nil) (.lit (.bl true)) d_is_block_e1)
/-- is_block: thing deep one -/
def d_is_block (ROWS : Str) : MDef := ⟨2, 3, (.seq (.ite (.or (.not (.op .isTup (.cons (.var 0) .nil))) (.or (.op .gt (.cons (.var 1) (.cons (.glob "DEEP" (.int 6)) .nil))) (.op .gt (.cons (.op .len (.cons (.var 0) .nil)) (.cons (.glob ROWS (.int 400)) .nil))))) (.ret (.lit (.bl false))) .skip)
  (.ret (.op .all (.cons d_is_block_lc1 .nil))))⟩
def d_count_of_e1 : E := (.call "count_of" (.cons (.var 2) .nil))
def d_count_of_lc1 : E := (.lc true [2] (.name 2) .seq (.cons (.call "blocks_of" (.cons (.var 1) .nil)) .nil) (.lit (.bl true)) d_count_of_e1)
def d_count_of_e2 : E := (.op .add (.cons (.lit (.int 1)) (.cons (.op .sum (.cons d_count_of_lc1 .nil)) .nil)))
def d_count_of_lc2 : E := (.lc true [1] (.name 1) .seq (.cons (.var 0) .nil) (.lit (.bl true)) d_count_of_e2)
/-- count_of: block row part -/
def d_count_of : MDef := ⟨1, 3, (.ret (.op .sum (.cons d_count_of_lc2 .nil)))⟩
def d_kinds_of_e1 : E := (.op .tup (.cons (.var 2) (.cons (.var 1) .nil)))
def d_kinds_of_i1 : E := (.op .inn (.cons (.var 1) (.cons (.lit (.str "nt")) .nil)))
def d_kinds_of_lc1 : E := (.lc true [1, 2] (.tup (.cons (.name 1) (.cons (.name 2) .nil))) .zip (.cons (.op .ix (.cons (.glob "SHAPES" (.cdic c_SHAPES)) (.cons (.op .ix (.cons (.var 0) (.cons (.lit (.int 0)) .nil))) .nil))) (.cons (.op .slL (.cons (.var 0) (.cons (.lit (.int 1)) .nil))) .nil)) d_kinds_of_i1 d_kinds_of_e1)
/-- kinds_of: row shape part -/
def d_kinds_of : MDef := ⟨1, 3, (.seq (.ite (.op .inn (.cons (.op .ix (.cons (.var 0) (.cons (.lit (.int 0)) .nil))) (.cons (.glob "SHAPES" (.cdic c_SHAPES)) .nil))) (.ret d_kinds_of_lc1) .skip)
  (.ret (.op (.lst true) (.cons (.op .tup (.cons (.op .ix (.cons (.var 0) (.cons (.lit (.int 1)) .nil))) (.cons (.lit (.str "n")) .nil))) .nil))))⟩
def d_kinds_in_e1 : E := (.call "kinds_in" (.cons (.var 5) (.cons (.var 1) .nil)))
def d_kinds_in_lc1 : E := (.lc true [5] (.name 5) .seq (.cons (.call "blocks_of" (.cons (.var 2) .nil)) .nil) (.lit (.bl true)) d_kinds_in_e1)
def d_kinds_in_fb1 : S := (.ite (.op .ne (.cons (.me .setdefault (.var 1) (.cons (.var 3) (.cons (.var 4) .nil))) (.cons (.var 4) .nil))) (.ret (.lit (.bl false))) .skip)
def d_kinds_in_for1 : S := (.for_ (.tup (.cons (.name 3) (.cons (.name 4) .nil))) .seq (.cons (.call "kinds_of" (.cons (.var 2) .nil)) .nil) d_kinds_in_fb1)
def d_kinds_in_fb2 : S := (.seq d_kinds_in_for1
  (.ite (.not (.op .all (.cons d_kinds_in_lc1 .nil))) (.ret (.lit (.bl false))) .skip))
def d_kinds_in_for2 : S := (.for_ (.name 2) .seq (.cons (.var 0) .nil) d_kinds_in_fb2)
/-- kinds_in: block known row name kind part -/
def d_kinds_in : MDef := ⟨2, 6, (.seq d_kinds_in_for2
  (.ret (.lit (.bl true))))⟩
def d_reads_lc1 : E := (.lc true [2, 3] (.tup (.cons (.name 2) (.cons (.name 3) .nil))) .seq (.cons (.call "kinds_of" (.cons (.var 0) .nil)) .nil) (.lit (.bl true)) (.var 2))
/-- reads: row names name kind -/
def d_reads : MDef := ⟨1, 4, (.seq (.asg (.name 1) d_reads_lc1)
  (.seq (.ite (.op .inn (.cons (.op .ix (.cons (.var 0) (.cons (.lit (.int 0)) .nil))) (.cons (.glob "SETS" (.tup c_SETS)) .nil))) (.ret (.op .slL (.cons (.var 1) (.cons (.lit (.int 1)) .nil)))) .skip)
  (.ret (.var 1))))⟩
/-- sets: row -/
def d_sets : MDef := ⟨1, 1, (.seq (.ite (.op .inn (.cons (.op .ix (.cons (.var 0) (.cons (.lit (.int 0)) .nil))) (.cons (.glob "SETS" (.tup c_SETS)) .nil))) (.ret (.op .ix (.cons (.var 0) (.cons (.lit (.int 1)) .nil)))) .skip)
  (.ret (.lit .non)))⟩
def d_surely_fb1 : S := (.ite (.op .inn (.cons (.var 4) (.cons (.op .ix (.cons (.var 3) (.cons (.lit (.int 1)) .nil))) .nil))) (.setI (.var 1) (.var 4) (.lit (.bl true))) .skip)
def d_surely_for1 : S := (.for_ (.name 4) .seq (.cons (.op .ix (.cons (.var 3) (.cons (.lit (.int 0)) .nil))) .nil) d_surely_fb1)
def d_surely_e1 : E := (.call "surely" (.cons (.var 5) (.cons (.var 1) .nil)))
def d_surely_lc1 : E := (.lc true [5] (.name 5) .seq (.cons (.call "blocks_of" (.cons (.var 2) .nil)) .nil) (.lit (.bl true)) d_surely_e1)
def d_surely_e2 : E := (.op .inn (.cons (.var 4) (.cons (.var 1) .nil)))
def d_surely_lc2 : E := (.lc true [4] (.name 4) .seq (.cons (.call "reads" (.cons (.var 2) .nil)) .nil) (.lit (.bl true)) d_surely_e2)
def d_surely_fb2 : S := (.seq (.ite (.not (.op .all (.cons d_surely_lc2 .nil))) (.ret (.lit .non)) .skip)
  (.seq (.asg (.name 3) d_surely_lc1)
  (.seq (.ite (.op .inn (.cons (.lit .non) (.cons (.var 3) .nil))) (.ret (.lit .non)) .skip)
  (.seq (.ite (.op .eq (.cons (.op .ix (.cons (.var 2) (.cons (.lit (.int 0)) .nil))) (.cons (.lit (.str "if")) .nil))) d_surely_for1 .skip)
  (.ite (.op .notN (.cons (.call "sets" (.cons (.var 2) .nil)) .nil)) (.setI (.var 1) (.call "sets" (.cons (.var 2) .nil)) (.lit (.bl true))) .skip)))))
def d_surely_for2 : S := (.for_ (.name 2) .seq (.cons (.var 0) .nil) d_surely_fb2)
/-- surely: block have row found name part -/
def d_surely : MDef := ⟨2, 6, (.seq (.asg (.name 1) (.op (.dict1 false) (.cons (.var 1) .nil)))
  (.seq d_surely_for2
  (.ret (.var 1))))⟩
def d_is_program_e1 : E := (.op .tup (.cons (.var 2) (.cons (.lit (.bl true)) .nil)))
def d_is_program_lc1 : E := (.lc true [2] (.name 2) .seq (.cons (.op .ix (.cons (.var 0) (.cons (.lit (.int 0)) .nil))) .nil) (.lit (.bl true)) d_is_program_e1)
def d_is_program_e2 : E := (.op .tup (.cons (.var 2) (.cons (.lit (.str "n")) .nil)))
def d_is_program_lc2 : E := (.lc true [2] (.name 2) .seq (.cons (.op .ix (.cons (.var 0) (.cons (.lit (.int 0)) .nil))) .nil) (.lit (.bl true)) d_is_program_e2)
def d_is_program_e3 : E := (.call "is_word" (.cons (.var 2) .nil))
def d_is_program_lc3 : E := (.lc true [2] (.name 2) .seq (.cons (.op .ix (.cons (.var 0) (.cons (.lit (.int 0)) .nil))) .nil) (.lit (.bl true)) d_is_program_e3)
/-- is_program: thing known name -/
def d_is_program (ROWS : Str) : MDef := ⟨1, 3, (.seq (.ite (.or (.not (.op .isTup (.cons (.var 0) .nil))) (.or (.op .ne (.cons (.op .len (.cons (.var 0) .nil)) (.cons (.lit (.int 2)) .nil))) (.or (.not (.op .isTup (.cons (.op .ix (.cons (.var 0) (.cons (.lit (.int 0)) .nil))) .nil))) (.op .gt (.cons (.op .len (.cons (.op .ix (.cons (.var 0) (.cons (.lit (.int 0)) .nil))) .nil)) (.cons (.glob "PARAMS" (.int 3)) .nil)))))) (.ret (.lit (.bl false))) .skip)
  (.seq (.ite (.or (.not (.op .all (.cons d_is_program_lc3 .nil))) (.op .ne (.cons (.op .lenset (.cons (.op .ix (.cons (.var 0) (.cons (.lit (.int 0)) .nil))) .nil)) (.cons (.op .len (.cons (.op .ix (.cons (.var 0) (.cons (.lit (.int 0)) .nil))) .nil)) .nil)))) (.ret (.lit (.bl false))) .skip)
  (.seq (.ite (.or (.not (.call "is_block" (.cons (.op .ix (.cons (.var 0) (.cons (.lit (.int 1)) .nil))) (.cons (.lit (.int 0)) .nil)))) (.op .gt (.cons (.call "count_of" (.cons (.op .ix (.cons (.var 0) (.cons (.lit (.int 1)) .nil))) .nil)) (.cons (.glob ROWS (.int 400)) .nil)))) (.ret (.lit (.bl false))) .skip)
  (.seq (.asg (.name 1) (.op (.dict1 false) (.cons d_is_program_lc2 .nil)))
  (.seq (.ite (.not (.call "kinds_in" (.cons (.op .ix (.cons (.var 0) (.cons (.lit (.int 1)) .nil))) (.cons (.var 1) .nil)))) (.ret (.lit (.bl false))) .skip)
  (.ret (.op .notN (.cons (.call "surely" (.cons (.op .ix (.cons (.var 0) (.cons (.lit (.int 1)) .nil))) (.cons (.op (.dict1 false) (.cons d_is_program_lc1 .nil)) .nil))) .nil))))))))⟩
/-- need_program: program -/
def d_need_program : MDef := ⟨1, 1, (.ite (.not (.call "is_program" (.cons (.var 0) .nil))) (.raise "NoProgram") .skip)⟩
/-- checked: program -/
def d_checked : MDef := ⟨1, 1, (.seq (.exp (.call "need_program" (.cons (.var 0) .nil)))
  (.ret (.var 0)))⟩
/-- _law_cell_at: script k -/
def d__law_cell_at : MDef := ⟨2, 2, (.seq (.ite (.op .lt (.cons (.var 1) (.cons (.op .len (.cons (.var 0) .nil)) .nil))) (.ret (.op .ix (.cons (.var 0) (.cons (.var 1) .nil)))) .skip)
  (.seq (.ite (.op .eq (.cons (.var 0) (.cons (.op (.lst true) .nil) .nil))) (.ret (.lit (.int 0))) .skip)
  (.ret (.op .add (.cons (.op .mul (.cons (.op .ix (.cons (.var 0) (.cons (.op .mod (.cons (.var 1) (.cons (.op .len (.cons (.var 0) .nil)) .nil))) .nil))) (.cons (.lit (.int 31)) .nil))) (.cons (.var 1) .nil))))))⟩
/-- _law_mixed: script k many drawn -/
def d__law_mixed : MDef := ⟨3, 4, (.seq (.asg (.name 3) (.op .mod (.cons (.op .mul (.cons (.op .add (.cons (.op .add (.cons (.call "_law_cell_at" (.cons (.var 0) (.cons (.var 1) .nil))) (.cons (.op .mul (.cons (.lit (.int 7919)) (.cons (.var 1) .nil))) .nil))) (.cons (.lit (.int 1)) .nil))) (.cons (.lit (.int 48271)) .nil))) (.cons (.lit (.int 2147483647)) .nil))))
  (.ret (.op .mod (.cons (.op .mod (.cons (.op .add (.cons (.op .add (.cons (.op .mul (.cons (.var 3) (.cons (.var 3) .nil))) (.cons (.op .mul (.cons (.lit (.int 7)) (.cons (.var 3) .nil))) .nil))) (.cons (.var 1) .nil))) (.cons (.lit (.int 2147483629)) .nil))) (.cons (.var 2) .nil)))))⟩
/-- _law_draw: script town many -/
def d__law_draw : MDef := ⟨3, 3, (.seq (.exp (.me .append (.var 1) (.cons (.lit (.int 0)) .nil)))
  (.ret (.call "_law_mixed" (.cons (.var 0) (.cons (.op .len (.cons (.var 1) .nil)) (.cons (.var 2) .nil))))))⟩
/-- _law_pick: script town some -/
def d__law_pick : MDef := ⟨3, 3, (.ret (.op .ix (.cons (.var 2) (.cons (.call "_law_draw" (.cons (.var 0) (.cons (.var 1) (.cons (.op .len (.cons (.var 2) .nil)) .nil)))) .nil))))⟩
def d__law_simple_i1 : E := (.op .inn (.cons (.var 13) (.cons (.var 3) .nil)))
def d__law_simple_lc1 : E := (.lc true [13] (.name 13) .seq (.cons (.op .ix (.cons (.var 2) (.cons (.lit (.int 1)) .nil))) .nil) d__law_simple_i1 (.var 13))
def d__law_simple_i2 : E := (.op .inn (.cons (.var 13) (.cons (.var 3) .nil)))
def d__law_simple_lc2 : E := (.lc true [13] (.name 13) .seq (.cons (.op .ix (.cons (.var 2) (.cons (.lit (.int 0)) .nil))) .nil) d__law_simple_i2 (.var 13))
/-- _law_simple: script town names have numbers things kind goal one two thing held some name -/
def d__law_simple : MDef := ⟨4, 14, (.seq (.asg (.name 4) d__law_simple_lc2)
  (.seq (.asg (.name 5) d__law_simple_lc1)
  (.seq (.asg (.name 6) (.call "_law_draw" (.cons (.var 0) (.cons (.var 1) (.cons (.lit (.int 28)) .nil)))))
  (.seq (.asg (.name 7) (.call "_law_pick" (.cons (.var 0) (.cons (.var 1) (.cons (.op .ix (.cons (.var 2) (.cons (.lit (.int 0)) .nil))) .nil)))))
  (.seq (.ite (.or (.op .eq (.cons (.var 4) (.cons (.op (.lst true) .nil) .nil))) (.op .lt (.cons (.var 6) (.cons (.lit (.int 2)) .nil)))) (.ret (.op .tup (.cons (.lit (.str "num")) (.cons (.var 7) (.cons (.call "_law_pick" (.cons (.var 0) (.cons (.var 1) (.cons (.op (.lst true) (.cons (.lit (.int 0)) (.cons (.lit (.int 1)) (.cons (.lit (.int 2)) (.cons (.lit (.int 999)) (.cons (.call "_law_draw" (.cons (.var 0) (.cons (.var 1) (.cons (.lit (.int 1000)) .nil)))) .nil)))))) .nil)))) .nil))))) .skip)
  (.seq (.asg (.name 8) (.call "_law_pick" (.cons (.var 0) (.cons (.var 1) (.cons (.var 4) .nil)))))
  (.seq (.asg (.name 9) (.call "_law_pick" (.cons (.var 0) (.cons (.var 1) (.cons (.var 4) .nil)))))
  (.seq (.ite (.op .lt (.cons (.var 6) (.cons (.lit (.int 6)) .nil))) (.ret (.call "_law_pick" (.cons (.var 0) (.cons (.var 1) (.cons (.op (.lst true) (.cons (.op .tup (.cons (.lit (.str "copy")) (.cons (.var 7) (.cons (.var 8) .nil)))) (.cons (.op .tup (.cons (.lit (.str "copy")) (.cons (.var 7) (.cons (.var 9) .nil)))) (.cons (.op .tup (.cons (.lit (.str "add")) (.cons (.var 7) (.cons (.var 8) (.cons (.var 9) .nil))))) .nil)))) .nil))))) .skip)
  (.seq (.asg (.name 10) (.call "_law_pick" (.cons (.var 0) (.cons (.var 1) (.cons (.op .ix (.cons (.var 2) (.cons (.lit (.int 1)) .nil))) .nil)))))
  (.seq (.ite (.or (.op .eq (.cons (.var 5) (.cons (.op (.lst true) .nil) .nil))) (.op .lt (.cons (.var 6) (.cons (.lit (.int 10)) .nil)))) (.ret (.op .tup (.cons (.lit (.str "make")) (.cons (.var 10) (.cons (.var 8) (.cons (.var 9) .nil)))))) .skip)
  (.seq (.asg (.name 11) (.call "_law_pick" (.cons (.var 0) (.cons (.var 1) (.cons (.var 5) .nil)))))
  (.seq (.ite (.op .lt (.cons (.var 6) (.cons (.lit (.int 13)) .nil))) (.ret (.op .tup (.cons (.lit (.str "get")) (.cons (.var 7) (.cons (.var 11) (.cons (.call "_law_draw" (.cons (.var 0) (.cons (.var 1) (.cons (.lit (.int 2)) .nil)))) .nil)))))) .skip)
  (.seq (.ite (.op .lt (.cons (.var 6) (.cons (.lit (.int 16)) .nil))) (.ret (.op .tup (.cons (.lit (.str "put")) (.cons (.var 11) (.cons (.call "_law_draw" (.cons (.var 0) (.cons (.var 1) (.cons (.lit (.int 2)) .nil)))) (.cons (.var 8) .nil)))))) .skip)
  (.seq (.ite (.op .lt (.cons (.var 6) (.cons (.lit (.int 18)) .nil))) (.ret (.op .tup (.cons (.lit (.str "let")) (.cons (.var 10) (.cons (.var 11) .nil))))) .skip)
  (.seq (.ite (.op .lt (.cons (.var 6) (.cons (.lit (.int 20)) .nil))) (.ret (.op .tup (.cons (.lit (.str "same")) (.cons (.var 7) (.cons (.var 11) (.cons (.call "_law_pick" (.cons (.var 0) (.cons (.var 1) (.cons (.var 5) .nil)))) .nil)))))) .skip)
  (.seq (.asg (.name 12) (.op .mul (.cons (.op (.lst true) (.cons (.op .tup (.cons (.lit (.str "say")) (.cons (.var 8) .nil))) (.cons (.op .tup (.cons (.lit (.str "say")) (.cons (.var 9) .nil))) (.cons (.op .tup (.cons (.lit (.str "give")) (.cons (.var 11) .nil))) (.cons (.op .tup (.cons (.lit (.str "stir")) .nil)) .nil))))) (.cons (.lit (.int 2)) .nil))))
  (.ret (.op .ix (.cons (.var 12) (.cons (.op .sub (.cons (.var 6) (.cons (.lit (.int 20)) .nil))) .nil))))))))))))))))))))⟩
def d__law_block_fb1 : S := (.ite (.op .inn (.cons (.var 14) (.cons (.var 11) .nil))) (.setI (.var 3) (.var 14) (.lit (.bl true))) .skip)
def d__law_block_for1 : S := (.for_ (.name 14) .seq (.cons (.var 10) .nil) d__law_block_fb1)
def d__law_block_i1 : E := (.op .inn (.cons (.var 14) (.cons (.var 3) .nil)))
def d__law_block_lc1 : E := (.lc true [14] (.name 14) .seq (.cons (.op .ix (.cons (.var 2) (.cons (.lit (.int 0)) .nil))) .nil) d__law_block_i1 (.var 14))
def d__law_block_fb2 : S := (.seq (.asg (.name 8) (.call "_law_draw" (.cons (.var 0) (.cons (.var 1) (.cons (.lit (.int 9)) .nil)))))
  (.seq (.asg (.name 9) d__law_block_lc1)
  (.ite (.and (.op .lt (.cons (.var 8) (.cons (.lit (.int 2)) .nil))) (.and (.op .gt (.cons (.var 5) (.cons (.lit (.int 0)) .nil))) (.op .ne (.cons (.var 9) (.cons (.op (.lst true) .nil) .nil))))) (.seq (.asg (.name 10) (.op (.dict1 false) (.cons (.var 3) .nil)))
  (.seq (.asg (.name 11) (.op (.dict1 false) (.cons (.var 3) .nil)))
  (.seq (.asg (.name 12) (.call "_law_block" (.cons (.var 0) (.cons (.var 1) (.cons (.var 2) (.cons (.var 10) (.cons (.op .add (.cons (.op .fdiv (.cons (.var 4) (.cons (.lit (.int 2)) .nil))) (.cons (.lit (.int 1)) .nil))) (.cons (.op .sub (.cons (.var 5) (.cons (.lit (.int 1)) .nil))) .nil))))))))
  (.seq (.asg (.name 13) (.call "_law_block" (.cons (.var 0) (.cons (.var 1) (.cons (.var 2) (.cons (.var 11) (.cons (.op .add (.cons (.op .fdiv (.cons (.var 4) (.cons (.lit (.int 2)) .nil))) (.cons (.lit (.int 1)) .nil))) (.cons (.op .sub (.cons (.var 5) (.cons (.lit (.int 1)) .nil))) .nil))))))))
  (.seq (.exp (.me .append (.var 6) (.cons (.op .tup (.cons (.lit (.str "if")) (.cons (.call "_law_pick" (.cons (.var 0) (.cons (.var 1) (.cons (.var 9) .nil)))) (.cons (.var 12) (.cons (.var 13) .nil))))) .nil)))
  d__law_block_for1))))) (.ite (.and (.op .eq (.cons (.var 8) (.cons (.lit (.int 2)) .nil))) (.and (.op .gt (.cons (.var 5) (.cons (.lit (.int 0)) .nil))) (.op .ne (.cons (.var 9) (.cons (.op (.lst true) .nil) .nil))))) (.seq (.asg (.name 15) (.op .ix (.cons (.op (.lst true) (.cons (.op .sub (.cons (.var 5) (.cons (.lit (.int 1)) .nil))) (.cons (.lit (.int 0)) (.cons (.lit (.int 0)) (.cons (.lit (.int 0)) .nil))))) (.cons (.call "_law_draw" (.cons (.var 0) (.cons (.var 1) (.cons (.lit (.int 4)) .nil)))) .nil))))
  (.seq (.asg (.name 16) (.call "_law_block" (.cons (.var 0) (.cons (.var 1) (.cons (.var 2) (.cons (.op (.dict1 false) (.cons (.var 3) .nil)) (.cons (.op .add (.cons (.op .fdiv (.cons (.var 4) (.cons (.lit (.int 2)) .nil))) (.cons (.lit (.int 1)) .nil))) (.cons (.var 15) .nil))))))))
  (.exp (.me .append (.var 6) (.cons (.op .tup (.cons (.lit (.str "loop")) (.cons (.call "_law_pick" (.cons (.var 0) (.cons (.var 1) (.cons (.var 9) .nil)))) (.cons (.var 16) .nil)))) .nil))))) (.seq (.asg (.name 17) (.call "_law_simple" (.cons (.var 0) (.cons (.var 1) (.cons (.var 2) (.cons (.var 3) .nil))))))
  (.seq (.exp (.me .append (.var 6) (.cons (.var 17) .nil)))
  (.ite (.op .inn (.cons (.op .ix (.cons (.var 17) (.cons (.lit (.int 0)) .nil))) (.cons (.op .tup (.cons (.lit (.str "num")) (.cons (.lit (.str "copy")) (.cons (.lit (.str "add")) (.cons (.lit (.str "make")) (.cons (.lit (.str "get")) (.cons (.lit (.str "let")) (.cons (.lit (.str "same")) .nil)))))))) .nil))) (.setI (.var 3) (.op .ix (.cons (.var 17) (.cons (.lit (.int 1)) .nil))) (.lit (.bl true))) .skip)))))))
def d__law_block_for2 : S := (.for_ (.name 7) .range1 (.cons (.call "_law_draw" (.cons (.var 0) (.cons (.var 1) (.cons (.op .add (.cons (.var 4) (.cons (.lit (.int 1)) .nil))) .nil)))) .nil) d__law_block_fb2)
/-- _law_block: script town names have many deep made k kind numbers one two first second name within body row -/
def d__law_block : MDef := ⟨6, 18, (.seq (.asg (.name 6) (.op (.lst false) .nil))
  (.seq d__law_block_for2
  (.ret (.op .tuple1 (.cons (.var 6) .nil)))))⟩
def d__law_names_e1 : E := (.op .add (.cons (.var 5) (.cons (.var 2) .nil)))
def d__law_names_lc1 : E := (.lc true [5] (.name 5) .seq (.cons (.lit (.str "tuv")) .nil) (.lit (.bl true)) d__law_names_e1)
def d__law_names_e2 : E := (.op .add (.cons (.var 5) (.cons (.var 2) .nil)))
def d__law_names_lc2 : E := (.lc true [5] (.name 5) .seq (.cons (.var 4) .nil) (.lit (.bl true)) d__law_names_e2)
def d__law_names_fb1 : S := (.asg (.name 2) (.op .add (.cons (.var 2) (.cons (.call "_law_pick" (.cons (.var 0) (.cons (.var 1) (.cons (.lit (.str "abcdefghijklmnopqrstuvwxyz")) .nil)))) .nil))))
def d__law_names_for1 : S := (.for_ (.name 3) .range1 (.cons (.call "_law_draw" (.cons (.var 0) (.cons (.var 1) (.cons (.lit (.int 4)) .nil)))) .nil) d__law_names_fb1)
/-- _law_names: script town rest k order sign -/
def d__law_names : MDef := ⟨2, 6, (.seq (.asg (.name 2) (.lit (.str "")))
  (.seq d__law_names_for1
  (.seq (.asg (.name 4) (.call "_law_pick" (.cons (.var 0) (.cons (.var 1) (.cons (.op (.lst true) (.cons (.lit (.str "abcd")) (.cons (.lit (.str "dcba")) (.cons (.lit (.str "bdac")) .nil)))) .nil)))))
  (.ret (.op .tup (.cons d__law_names_lc2 (.cons d__law_names_lc1 .nil)))))))⟩
def d__law_program_e1 : E := (.op .tup (.cons (.var 7) (.cons (.lit (.bl true)) .nil)))
def d__law_program_lc1 : E := (.lc true [7] (.name 7) .seq (.cons (.var 5) .nil) (.lit (.bl true)) d__law_program_e1)
/-- _law_program: script town many deep names params have name -/
def d__law_program : MDef := ⟨4, 8, (.seq (.asg (.name 4) (.call "_law_names" (.cons (.var 0) (.cons (.var 1) .nil))))
  (.seq (.asg (.name 5) (.op .tuple1 (.cons (.op .slU (.cons (.op .ix (.cons (.var 4) (.cons (.lit (.int 0)) .nil))) (.cons (.call "_law_draw" (.cons (.var 0) (.cons (.var 1) (.cons (.lit (.int 4)) .nil)))) .nil))) .nil)))
  (.seq (.asg (.name 6) (.op (.dict1 false) (.cons d__law_program_lc1 .nil)))
  (.ret (.op .tup (.cons (.var 5) (.cons (.call "_law_block" (.cons (.var 0) (.cons (.var 1) (.cons (.var 4) (.cons (.var 6) (.cons (.var 2) (.cons (.var 3) .nil))))))) .nil)))))))⟩
def d__law_program2_wb1 : S := (.asg (.name 7) (.op .slU (.cons (.var 7) (.cons (.op .neg (.cons (.lit (.int 1)) .nil)) .nil))))
def d__law_program2_wc1 : E := (.op .gt (.cons (.call "_law_size" (.cons (.var 7) .nil)) (.cons (.lit (.int 100)) .nil)))
def d__law_program2_wh1 : S := (.while_ d__law_program2_wc1 d__law_program2_wb1)
def d__law_program2_e1 : E := (.op .tup (.cons (.var 8) (.cons (.lit (.bl true)) .nil)))
def d__law_program2_lc1 : E := (.lc true [8] (.name 8) .seq (.cons (.var 5) .nil) (.lit (.bl true)) d__law_program2_e1)
/-- _law_program: script town many deep names params have block name -/
def d__law_program2 : MDef := ⟨4, 9, (.seq (.asg (.name 4) (.call "_law_names" (.cons (.var 0) (.cons (.var 1) .nil))))
  (.seq (.asg (.name 5) (.op .tuple1 (.cons (.op .slU (.cons (.op .ix (.cons (.var 4) (.cons (.lit (.int 0)) .nil))) (.cons (.call "_law_draw" (.cons (.var 0) (.cons (.var 1) (.cons (.lit (.int 4)) .nil)))) .nil))) .nil)))
  (.seq (.asg (.name 6) (.op (.dict1 false) (.cons d__law_program2_lc1 .nil)))
  (.seq (.asg (.name 7) (.call "_law_block" (.cons (.var 0) (.cons (.var 1) (.cons (.var 4) (.cons (.var 6) (.cons (.var 2) (.cons (.var 3) .nil))))))))
  (.seq d__law_program2_wh1
  (.ret (.op .tup (.cons (.var 5) (.cons (.var 7) .nil)))))))))⟩
/-- _law_bad_row: script town some -/
def d__law_bad_row : MDef := ⟨2, 3, (.seq (.asg (.name 2) (.op (.lst false) (.cons (.op .tup (.cons (.lit (.str "num")) (.cons (.lit (.str "x")) .nil))) (.cons (.op .tup (.cons (.lit (.str "num")) (.cons (.lit (.str "x")) (.cons (.lit (.int 1000)) .nil)))) (.cons (.op .tup (.cons (.lit (.str "num")) (.cons (.lit (.str "x")) (.cons (.lit (.bl true)) .nil)))) (.cons (.op .tup (.cons (.lit (.str "num")) (.cons (.lit (.str "x")) (.cons (.op .neg (.cons (.lit (.int 1)) .nil)) .nil)))) (.cons (.op .tup (.cons (.lit (.str "copy")) (.cons (.lit (.str "x")) (.cons (.lit (.str "X")) .nil)))) .nil)))))))
  (.seq (.exp (.me .extend (.var 2) (.cons (.op (.lst true) (.cons (.op .tup (.cons (.lit (.str "copy")) (.cons (.lit (.str "x")) (.cons (.lit (.int 1)) .nil)))) (.cons (.op .tup (.cons (.lit (.str "add")) (.cons (.lit (.str "x")) (.cons (.lit (.str "a")) .nil)))) (.cons (.op .tup (.cons (.lit (.str "make")) (.cons (.lit (.str "t")) (.cons (.lit (.str "a")) .nil)))) (.cons (.op .tup (.cons (.lit (.str "get")) (.cons (.lit (.str "x")) (.cons (.lit (.str "t")) (.cons (.lit (.int 2)) .nil))))) (.cons (.op .tup (.cons (.lit (.str "stir")) (.cons (.lit (.str "t")) .nil))) .nil)))))) .nil)))
  (.seq (.exp (.me .append (.var 2) (.cons (.op .tup (.cons (.lit (.str "get")) (.cons (.lit (.str "x")) (.cons (.lit (.str "t")) (.cons (.lit (.bl true)) .nil))))) .nil)))
  (.seq (.exp (.me .extend (.var 2) (.cons (.op (.lst true) (.cons (.op .tup (.cons (.lit (.str "put")) (.cons (.lit (.str "t")) (.cons (.lit (.int 2)) (.cons (.lit (.str "a")) .nil))))) (.cons (.op .tup (.cons (.lit (.str "say")) .nil)) (.cons (.op .tup (.cons (.lit (.str "say")) (.cons (.lit (.str "a")) (.cons (.lit (.str "a")) .nil)))) (.cons (.op .tup (.cons (.lit (.str "hear")) (.cons (.lit (.str "a")) .nil))) (.cons (.op (.lst true) (.cons (.lit (.str "say")) (.cons (.lit (.str "a")) .nil))) (.cons (.lit .non) (.cons (.op .tup .nil) .nil)))))))) .nil)))
  (.seq (.exp (.me .append (.var 2) (.cons (.op .tup (.cons (.lit (.str "say")) (.cons (.op (.lst true) (.cons (.lit (.str "a")) .nil)) .nil))) .nil)))
  (.seq (.exp (.me .extend (.var 2) (.cons (.op (.lst true) (.cons (.op .tup (.cons (.lit (.str "if")) (.cons (.lit (.str "a")) (.cons (.op .tup .nil) .nil)))) (.cons (.op .tup (.cons (.lit (.str "if")) (.cons (.lit (.str "a")) (.cons (.op .tup .nil) (.cons (.op (.lst true) (.cons (.op .tup .nil) .nil)) .nil))))) (.cons (.op .tup (.cons (.lit (.str "loop")) (.cons (.lit (.str "a")) .nil))) (.cons (.op .tup (.cons (.lit (.str "loop")) (.cons (.lit (.str "a")) (.cons (.lit .non) .nil)))) (.cons (.op .tup (.cons (.lit (.str "loop")) (.cons (.lit (.int 1)) (.cons (.op .tup .nil) .nil)))) .nil)))))) .nil)))
  (.seq (.exp (.me .extend (.var 2) (.cons (.op (.lst true) (.cons (.op .tup (.cons (.lit (.str "say")) (.cons (.lit (.str "zzzzz")) .nil))) (.cons (.op .tup (.cons (.lit (.str "give")) (.cons (.lit (.str "a")) .nil))) (.cons (.op .tup (.cons (.lit (.str "get")) (.cons (.lit (.str "a")) (.cons (.lit (.str "t")) (.cons (.lit (.int 0)) .nil))))) (.cons (.op .tup (.cons (.lit (.str "let")) (.cons (.lit (.str "a")) (.cons (.lit (.str "a")) .nil)))) (.cons (.op .tup (.cons (.lit (.str "same")) (.cons (.lit (.str "b")) (.cons (.lit (.str "a")) (.cons (.lit (.str "a")) .nil))))) .nil)))))) .nil)))
  (.ret (.call "_law_pick" (.cons (.var 0) (.cons (.var 1) (.cons (.var 2) .nil))))))))))))⟩
def d__law_deep_fb1 : S := (.asg (.name 1) (.op .tup (.cons (.lit (.str "loop")) (.cons (.lit (.str "a")) (.cons (.op .tup (.cons (.var 1) .nil)) .nil)))))
def d__law_deep_for1 : S := (.for_ (.name 2) .range1 (.cons (.var 0) .nil) d__law_deep_fb1)
/-- _law_deep: many row k -/
def d__law_deep : MDef := ⟨1, 3, (.seq (.asg (.name 1) (.op .tup (.cons (.lit (.str "say")) (.cons (.lit (.str "a")) .nil))))
  (.seq d__law_deep_for1
  (.ret (.var 1))))⟩
/-- _law_bad_program: script town bad good some late first -/
def d__law_bad_program : MDef := ⟨2, 7, (.seq (.asg (.name 2) (.call "_law_bad_row" (.cons (.var 0) (.cons (.var 1) .nil))))
  (.seq (.asg (.name 3) (.op .tup (.cons (.lit (.str "say")) (.cons (.lit (.str "a")) .nil))))
  (.seq (.asg (.name 4) (.op (.lst false) (.cons (.op .tup (.cons (.op .tup (.cons (.lit (.str "a")) .nil)) (.cons (.op .tup (.cons (.var 2) .nil)) .nil))) (.cons (.op .tup (.cons (.op .tup (.cons (.lit (.str "a")) .nil)) (.cons (.op .tup (.cons (.var 3) (.cons (.var 2) (.cons (.var 3) .nil)))) .nil))) (.cons (.op .tup (.cons (.op .tup (.cons (.lit (.str "a")) .nil)) (.cons (.op .tup (.cons (.op .tup (.cons (.lit (.str "if")) (.cons (.lit (.str "a")) (.cons (.op .tup (.cons (.var 2) .nil)) (.cons (.op .tup .nil) .nil))))) .nil)) .nil))) (.cons (.op .tup (.cons (.op .tup (.cons (.lit (.str "a")) .nil)) (.cons (.op (.lst true) (.cons (.var 3) .nil)) .nil))) .nil))))))
  (.seq (.exp (.me .extend (.var 4) (.cons (.op (.lst true) (.cons (.op .tup (.cons (.op .tup (.cons (.lit (.str "a")) (.cons (.lit (.str "a")) .nil))) (.cons (.op .tup .nil) .nil))) (.cons (.op .tup (.cons (.op .tup (.cons (.lit (.str "a")) (.cons (.lit (.str "b")) (.cons (.lit (.str "c")) (.cons (.lit (.str "d")) .nil))))) (.cons (.op .tup .nil) .nil))) (.cons (.op .tup (.cons (.op (.lst true) (.cons (.lit (.str "a")) .nil)) (.cons (.op .tup .nil) .nil))) (.cons (.op .tup (.cons (.op .tup (.cons (.lit (.str "A")) .nil)) (.cons (.op .tup .nil) .nil))) (.cons (.op .tup (.cons (.op .tup (.cons (.lit (.str "a")) .nil)) .nil)) (.cons (.lit .non) .nil))))))) .nil)))
  (.seq (.exp (.me .extend (.var 4) (.cons (.op (.lst true) (.cons (.op (.lst true) (.cons (.op .tup (.cons (.lit (.str "a")) .nil)) (.cons (.op .tup .nil) .nil))) (.cons (.op .tup (.cons (.op .tup (.cons (.lit (.str "a")) .nil)) (.cons (.op .mul (.cons (.op .tup (.cons (.var 3) .nil)) (.cons (.lit (.int 401)) .nil))) .nil))) (.cons (.op .tup (.cons (.op .tup (.cons (.lit (.str "a")) .nil)) (.cons (.op .tup (.cons (.call "_law_deep" (.cons (.lit (.int 7)) .nil)) .nil)) .nil))) (.cons (.op .tup (.cons (.op .tup (.cons (.lit (.str "a")) .nil)) (.cons (.var 3) .nil))) .nil))))) .nil)))
  (.seq (.exp (.me .append (.var 4) (.cons (.op .tup (.cons (.op .tup (.cons (.lit (.str "a")) .nil)) (.cons (.op .tup (.cons (.op .tup (.cons (.lit (.str "loop")) (.cons (.lit (.str "a")) (.cons (.op .tup (.cons (.var 2) .nil)) .nil)))) .nil)) .nil))) .nil)))
  (.seq (.exp (.me .append (.var 4) (.cons (.op .tup (.cons (.op .tup (.cons (.lit (.str "a")) .nil)) (.cons (.op .tup (.cons (.op .tup (.cons (.lit (.str "if")) (.cons (.lit (.str "a")) (.cons (.op .mul (.cons (.op .tup (.cons (.var 3) .nil)) (.cons (.lit (.int 200)) .nil))) (.cons (.op .mul (.cons (.op .tup (.cons (.var 3) .nil)) (.cons (.lit (.int 202)) .nil))) .nil))))) .nil)) .nil))) .nil)))
  (.seq (.asg (.name 5) (.op .tup (.cons (.lit (.str "say")) (.cons (.lit (.str "b")) .nil))))
  (.seq (.asg (.name 6) (.op .tup (.cons (.lit (.str "num")) (.cons (.lit (.str "b")) (.cons (.lit (.int 1)) .nil)))))
  (.seq (.exp (.me .extend (.var 4) (.cons (.op (.lst true) (.cons (.op .tup (.cons (.op .tup (.cons (.lit (.str "a")) .nil)) (.cons (.op .tup (.cons (.op .tup (.cons (.lit (.str "if")) (.cons (.lit (.str "a")) (.cons (.op .tup (.cons (.var 6) .nil)) (.cons (.op .tup .nil) .nil))))) (.cons (.var 5) .nil))) .nil))) (.cons (.op .tup (.cons (.op .tup (.cons (.lit (.str "a")) .nil)) (.cons (.op .tup (.cons (.op .tup (.cons (.lit (.str "loop")) (.cons (.lit (.str "a")) (.cons (.op .tup (.cons (.var 6) .nil)) .nil)))) (.cons (.var 5) .nil))) .nil))) .nil))) .nil)))
  (.seq (.exp (.me .append (.var 4) (.cons (.op .tup (.cons (.op .tup (.cons (.lit (.str "a")) .nil)) (.cons (.op .tup (.cons (.op .tup (.cons (.lit (.str "make")) (.cons (.lit (.str "t")) (.cons (.lit (.str "a")) (.cons (.lit (.str "a")) .nil))))) (.cons (.op .tup (.cons (.lit (.str "num")) (.cons (.lit (.str "t")) (.cons (.lit (.int 1)) .nil)))) .nil))) .nil))) .nil)))
  (.ret (.call "_law_pick" (.cons (.var 0) (.cons (.var 1) (.cons (.var 4) .nil))))))))))))))))⟩
/-- _law_which: e own -/
def d__law_which : MDef := ⟨1, 2, (.seq (.asg (.name 1) (.op (.lst false) (.cons (.op (.isExc "NoProgram") (.cons (.var 0) .nil)) (.cons (.op (.isExc "NoInputs") (.cons (.var 0) .nil)) (.cons (.op (.isExc "NoNumber") (.cons (.var 0) .nil)) (.cons (.op (.isExc "Unlike") (.cons (.var 0) .nil)) .nil))))))
  (.seq (.exp (.me .extend (.var 1) (.cons (.op (.lst true) (.cons (.op (.isExc "TooMany") (.cons (.var 0) .nil)) (.cons (.op (.isExc "NoText") (.cons (.var 0) .nil)) .nil))) .nil)))
  (.seq (.ite (.or (.op .ne (.cons (.me .count (.var 1) (.cons (.lit (.bl true)) .nil)) (.cons (.lit (.int 1)) .nil))) (.not (.op (.isExc "ValueError") (.cons (.var 0) .nil)))) (.ret (.op .tup (.cons (.lit (.str "refused")) (.cons (.op .neg (.cons (.lit (.int 1)) .nil)) .nil)))) .skip)
  (.ret (.op .tup (.cons (.lit (.str "refused")) (.cons (.me .index (.var 1) (.cons (.lit (.bl true)) .nil)) .nil)))))))⟩
def d__law_told_tb1 : S := (.ret (.callv 0 ["checked"] (.cons (.var 1) .nil)))
def d__law_told_th1 : S := (.ret (.call "_law_which" (.cons (.var 2) .nil)))
def d__law_told_try1 : S := (.tryX d__law_told_tb1 (some 2) d__law_told_th1)
/-- _law_told: ask one e -/
def d__law_told : MDef := ⟨2, 3, d__law_told_try1⟩
def d__law_told2_tb1 : S := (.ret (.callv 0 ["read"] (.cons (.var 1) .nil)))
def d__law_told2_th1 : S := (.ret (.call "_law_which" (.cons (.var 2) .nil)))
def d__law_told2_try1 : S := (.tryX d__law_told2_tb1 (some 2) d__law_told2_th1)
/-- _law_told: ask one e -/
def d__law_told2 : MDef := ⟨2, 3, d__law_told2_try1⟩
/-- _law_parts: row -/
def d__law_parts : MDef := ⟨1, 1, (.seq (.ite (.op .eq (.cons (.op .ix (.cons (.var 0) (.cons (.lit (.int 0)) .nil))) (.cons (.lit (.str "if")) .nil))) (.ret (.op (.lst true) (.cons (.op .ix (.cons (.var 0) (.cons (.lit (.int 2)) .nil))) (.cons (.op .ix (.cons (.var 0) (.cons (.lit (.int 3)) .nil))) .nil)))) .skip)
  (.ret (.ite (.op .eq (.cons (.op .ix (.cons (.var 0) (.cons (.lit (.int 0)) .nil))) (.cons (.lit (.str "loop")) .nil))) (.op (.lst true) (.cons (.op .ix (.cons (.var 0) (.cons (.lit (.int 2)) .nil))) .nil)) (.op (.lst true) .nil))))⟩
/-- __init__: self program inputs -/
def d_Runner___init__ : MDef := ⟨3, 3, (.seq (.setF "Runner" (.var 0) "worth" (.op .dictzip (.cons (.op .ix (.cons (.var 1) (.cons (.lit (.int 0)) .nil))) (.cons (.var 2) .nil))))
  (.seq (.setF "Runner" (.var 0) "things" (.op (.lst false) .nil))
  (.seq (.setF "Runner" (.var 0) "given" (.op (.lst false) .nil))
  (.seq (.setF "Runner" (.var 0) "noted" (.op (.lst false) .nil))
  (.setF "Runner" (.var 0) "sites" (.op (.lst false) .nil))))))⟩
def d_Runner_block_fb1 : S := (.exp (.meth "Runner" "row" (.var 0) (.cons (.var 4) (.cons (.op .add (.cons (.var 2) (.cons (.op .tup (.cons (.var 3) .nil)) .nil))) .nil))))
def d_Runner_block_for1 : S := (.for_ (.tup (.cons (.name 3) (.cons (.name 4) .nil))) .enum (.cons (.var 1) .nil) d_Runner_block_fb1)
/-- block: self block place number row -/
def d_Runner_block : MDef := ⟨3, 5, d_Runner_block_for1⟩
def d_Runner_row_wb1 : S := (.seq (.exp (.meth "Runner" "block" (.var 0) (.cons (.op .ix (.cons (.var 1) (.cons (.lit (.int 2)) .nil))) (.cons (.op .add (.cons (.var 2) (.cons (.op .tup (.cons (.lit (.int 0)) .nil)) .nil))) .nil))))
  (.asg (.name 4) (.op .add (.cons (.var 4) (.cons (.lit (.int 1)) .nil)))))
def d_Runner_row_wc1 : E := (.and (.op .lt (.cons (.var 4) (.cons (.glob "TURNS" (.int 9)) .nil))) (.op .ne (.cons (.op .ix (.cons (.fld "Runner" (.var 0) "worth") (.cons (.op .ix (.cons (.var 1) (.cons (.lit (.int 1)) .nil))) .nil))) (.cons (.lit (.int 0)) .nil))))
def d_Runner_row_wh1 : S := (.while_ d_Runner_row_wc1 d_Runner_row_wb1)
/-- row: self row place which turns -/
def d_Runner_row : MDef := ⟨3, 5, (.ite (.op .eq (.cons (.op .ix (.cons (.var 1) (.cons (.lit (.int 0)) .nil))) (.cons (.lit (.str "if")) .nil))) (.seq (.asg (.name 3) (.op .int1 (.cons (.op .eq (.cons (.op .ix (.cons (.fld "Runner" (.var 0) "worth") (.cons (.op .ix (.cons (.var 1) (.cons (.lit (.int 1)) .nil))) .nil))) (.cons (.lit (.int 0)) .nil))) .nil)))
  (.exp (.meth "Runner" "block" (.var 0) (.cons (.op .ix (.cons (.var 1) (.cons (.op .add (.cons (.lit (.int 2)) (.cons (.var 3) .nil))) .nil))) (.cons (.op .add (.cons (.var 2) (.cons (.op .tup (.cons (.var 3) .nil)) .nil))) .nil))))) (.ite (.op .eq (.cons (.op .ix (.cons (.var 1) (.cons (.lit (.int 0)) .nil))) (.cons (.lit (.str "loop")) .nil))) (.seq (.asg (.name 4) (.lit (.int 0)))
  d_Runner_row_wh1) (.ite (.op .inn (.cons (.op .ix (.cons (.var 1) (.cons (.lit (.int 0)) .nil))) (.cons (.op .tup (.cons (.lit (.str "say")) (.cons (.lit (.str "give")) (.cons (.lit (.str "stir")) .nil)))) .nil))) (.exp (.meth "Runner" "tell" (.var 0) (.cons (.var 1) .nil))) (.ite (.op .eq (.cons (.op .ix (.cons (.var 1) (.cons (.lit (.int 0)) .nil))) (.cons (.lit (.str "put")) .nil))) (.setI (.op .ix (.cons (.fld "Runner" (.var 0) "things") (.cons (.op .ix (.cons (.fld "Runner" (.var 0) "worth") (.cons (.op .ix (.cons (.var 1) (.cons (.lit (.int 1)) .nil))) .nil))) .nil))) (.op .ix (.cons (.var 1) (.cons (.lit (.int 2)) .nil))) (.op .ix (.cons (.fld "Runner" (.var 0) "worth") (.cons (.op .ix (.cons (.var 1) (.cons (.lit (.int 3)) .nil))) .nil)))) (.ite (.op .eq (.cons (.op .ix (.cons (.var 1) (.cons (.lit (.int 0)) .nil))) (.cons (.lit (.str "make")) .nil))) (.seq (.exp (.me .append (.fld "Runner" (.var 0) "things") (.cons (.op (.lst false) (.cons (.op .ix (.cons (.fld "Runner" (.var 0) "worth") (.cons (.op .ix (.cons (.var 1) (.cons (.lit (.int 2)) .nil))) .nil))) (.cons (.op .ix (.cons (.fld "Runner" (.var 0) "worth") (.cons (.op .ix (.cons (.var 1) (.cons (.lit (.int 3)) .nil))) .nil))) .nil))) .nil)))
  (.seq (.exp (.me .append (.fld "Runner" (.var 0) "sites") (.cons (.var 2) .nil)))
  (.setI (.fld "Runner" (.var 0) "worth") (.op .ix (.cons (.var 1) (.cons (.lit (.int 1)) .nil))) (.op .sub (.cons (.op .len (.cons (.fld "Runner" (.var 0) "things") .nil)) (.cons (.lit (.int 1)) .nil)))))) (.setI (.fld "Runner" (.var 0) "worth") (.op .ix (.cons (.var 1) (.cons (.lit (.int 1)) .nil))) (.meth "Runner" "value" (.var 0) (.cons (.var 1) .nil))))))))⟩
/-- value: self row -/
def d_Runner_value : MDef := ⟨2, 2, (.seq (.ite (.op .eq (.cons (.op .ix (.cons (.var 1) (.cons (.lit (.int 0)) .nil))) (.cons (.lit (.str "num")) .nil))) (.ret (.op .ix (.cons (.var 1) (.cons (.lit (.int 2)) .nil)))) .skip)
  (.seq (.ite (.op .eq (.cons (.op .ix (.cons (.var 1) (.cons (.lit (.int 0)) .nil))) (.cons (.lit (.str "add")) .nil))) (.ret (.op .mod (.cons (.op .add (.cons (.op .ix (.cons (.fld "Runner" (.var 0) "worth") (.cons (.op .ix (.cons (.var 1) (.cons (.lit (.int 2)) .nil))) .nil))) (.cons (.op .ix (.cons (.fld "Runner" (.var 0) "worth") (.cons (.op .ix (.cons (.var 1) (.cons (.lit (.int 3)) .nil))) .nil))) .nil))) (.cons (.glob "REST" (.int 1000)) .nil)))) .skip)
  (.seq (.ite (.op .eq (.cons (.op .ix (.cons (.var 1) (.cons (.lit (.int 0)) .nil))) (.cons (.lit (.str "get")) .nil))) (.ret (.op .ix (.cons (.op .ix (.cons (.fld "Runner" (.var 0) "things") (.cons (.op .ix (.cons (.fld "Runner" (.var 0) "worth") (.cons (.op .ix (.cons (.var 1) (.cons (.lit (.int 2)) .nil))) .nil))) .nil))) (.cons (.op .ix (.cons (.var 1) (.cons (.lit (.int 3)) .nil))) .nil)))) .skip)
  (.seq (.ite (.op .eq (.cons (.op .ix (.cons (.var 1) (.cons (.lit (.int 0)) .nil))) (.cons (.lit (.str "same")) .nil))) (.ret (.op .int1 (.cons (.op .eq (.cons (.op .ix (.cons (.fld "Runner" (.var 0) "worth") (.cons (.op .ix (.cons (.var 1) (.cons (.lit (.int 2)) .nil))) .nil))) (.cons (.op .ix (.cons (.fld "Runner" (.var 0) "worth") (.cons (.op .ix (.cons (.var 1) (.cons (.lit (.int 3)) .nil))) .nil))) .nil))) .nil))) .skip)
  (.ret (.op .ix (.cons (.fld "Runner" (.var 0) "worth") (.cons (.op .ix (.cons (.var 1) (.cons (.lit (.int 2)) .nil))) .nil))))))))⟩
def d_Runner_tell_fb1 : S := (.setI (.op .ix (.cons (.fld "Runner" (.var 0) "things") (.cons (.var 2) .nil))) (.lit (.int 0)) (.op .mod (.cons (.op .add (.cons (.op .ix (.cons (.op .ix (.cons (.fld "Runner" (.var 0) "things") (.cons (.var 2) .nil))) (.cons (.lit (.int 0)) .nil))) (.cons (.lit (.int 1)) .nil))) (.cons (.glob "REST" (.int 1000)) .nil))))
def d_Runner_tell_for1 : S := (.for_ (.name 2) .seq (.cons (.fld "Runner" (.var 0) "given") .nil) d_Runner_tell_fb1)
/-- tell: self row number some -/
def d_Runner_tell : MDef := ⟨2, 4, (.ite (.op .eq (.cons (.op .ix (.cons (.var 1) (.cons (.lit (.int 0)) .nil))) (.cons (.lit (.str "say")) .nil))) (.exp (.me .append (.fld "Runner" (.var 0) "noted") (.cons (.op .tup (.cons (.lit (.str "say")) (.cons (.op .ix (.cons (.fld "Runner" (.var 0) "worth") (.cons (.op .ix (.cons (.var 1) (.cons (.lit (.int 1)) .nil))) .nil))) .nil))) .nil))) (.ite (.op .eq (.cons (.op .ix (.cons (.var 1) (.cons (.lit (.int 0)) .nil))) (.cons (.lit (.str "stir")) .nil))) d_Runner_tell_for1 (.seq (.asg (.name 2) (.op .ix (.cons (.fld "Runner" (.var 0) "worth") (.cons (.op .ix (.cons (.var 1) (.cons (.lit (.int 1)) .nil))) .nil))))
  (.seq (.ite (.op .notin (.cons (.var 2) (.cons (.fld "Runner" (.var 0) "given") .nil))) (.exp (.me .append (.fld "Runner" (.var 0) "given") (.cons (.var 2) .nil))) .skip)
  (.seq (.asg (.name 3) (.op .ix (.cons (.fld "Runner" (.var 0) "things") (.cons (.var 2) .nil))))
  (.exp (.me .append (.fld "Runner" (.var 0) "noted") (.cons (.op .tup (.cons (.lit (.str "give")) (.cons (.me .index (.fld "Runner" (.var 0) "given") (.cons (.var 2) .nil)) (.cons (.op .ix (.cons (.var 3) (.cons (.lit (.int 0)) .nil))) (.cons (.op .ix (.cons (.var 3) (.cons (.lit (.int 1)) .nil))) .nil))))) .nil))))))))⟩
def d_need_inputs_e1 : E := (.call "is_whole" (.cons (.var 2) (.cons (.lit (.int 0)) (.cons (.glob "GREATEST" (.int 999)) .nil))))
def d_need_inputs_lc1 : E := (.lc true [2] (.name 2) .seq (.cons (.var 1) .nil) (.lit (.bl true)) d_need_inputs_e1)
/-- need_inputs: program inputs number -/
def d_need_inputs : MDef := ⟨2, 3, (.seq (.exp (.call "need_program" (.cons (.var 0) .nil)))
  (.seq (.ite (.or (.not (.op .isTup (.cons (.var 1) .nil))) (.op .ne (.cons (.op .len (.cons (.var 1) .nil)) (.cons (.op .len (.cons (.op .ix (.cons (.var 0) (.cons (.lit (.int 0)) .nil))) .nil)) .nil)))) (.raise "NoInputs") .skip)
  (.ite (.not (.op .all (.cons d_need_inputs_lc1 .nil))) (.raise "NoInputs") .skip)))⟩
/-- runner_of: program inputs runner -/
def d_runner_of : MDef := ⟨2, 3, (.seq (.asg (.name 2) (.make "Runner" (.cons (.var 0) (.cons (.var 1) .nil))))
  (.seq (.exp (.meth "Runner" "block" (.var 2) (.cons (.op .ix (.cons (.var 0) (.cons (.lit (.int 1)) .nil))) (.cons (.op .tup .nil) .nil))))
  (.ret (.var 2))))⟩
def d_run_e1 : E := (.op .tuple1 (.cons (.op .ix (.cons (.fld "Runner" (.var 2) "things") (.cons (.var 4) .nil))) .nil))
def d_run_lc1 : E := (.lc true [4] (.name 4) .seq (.cons (.fld "Runner" (.var 2) "given") .nil) (.lit (.bl true)) d_run_e1)
/-- run: program inputs runner outside number -/
def d_run : MDef := ⟨2, 5, (.seq (.exp (.call "need_inputs" (.cons (.var 0) (.cons (.var 1) .nil))))
  (.seq (.asg (.name 2) (.call "runner_of" (.cons (.var 0) (.cons (.var 1) .nil))))
  (.seq (.asg (.name 3) d_run_lc1)
  (.ret (.op .tup (.cons (.fld "Runner" (.var 2) "noted") (.cons (.var 3) (.cons (.op .len (.cons (.fld "Runner" (.var 2) "things") .nil)) .nil))))))))⟩
/-- seen: program inputs -/
def d_seen : MDef := ⟨2, 2, (.seq (.exp (.call "need_inputs" (.cons (.var 0) (.cons (.var 1) .nil))))
  (.ret (.op .slU (.cons (.call "run" (.cons (.var 0) (.cons (.var 1) .nil))) (.cons (.lit (.int 2)) .nil)))))⟩
def d_given_sites_e1 : E := (.op .ix (.cons (.fld "Runner" (.var 2) "sites") (.cons (.var 3) .nil)))
def d_given_sites_lc1 : E := (.lc true [3] (.name 3) .seq (.cons (.fld "Runner" (.var 2) "given") .nil) (.lit (.bl true)) d_given_sites_e1)
/-- given_sites: program inputs runner number -/
def d_given_sites : MDef := ⟨2, 4, (.seq (.exp (.call "need_inputs" (.cons (.var 0) (.cons (.var 1) .nil))))
  (.seq (.asg (.name 2) (.call "runner_of" (.cons (.var 0) (.cons (.var 1) .nil))))
  (.ret d_given_sites_lc1)))⟩
def d__law_inputs_e1 : E := (.call "_law_pick" (.cons (.var 0) (.cons (.var 1) (.cons (.op (.lst true) (.cons (.lit (.int 0)) (.cons (.lit (.int 1)) (.cons (.lit (.int 2)) (.cons (.lit (.int 999)) (.cons (.call "_law_draw" (.cons (.var 0) (.cons (.var 1) (.cons (.lit (.int 1000)) .nil)))) .nil)))))) .nil))))
def d__law_inputs_lc1 : E := (.lc true [3] (.name 3) .seq (.cons (.op .ix (.cons (.var 2) (.cons (.lit (.int 0)) .nil))) .nil) (.lit (.bl true)) d__law_inputs_e1)
/-- _law_inputs: script town program name -/
def d__law_inputs : MDef := ⟨3, 4, (.ret (.op .tuple1 (.cons d__law_inputs_lc1 .nil)))⟩
def d__law_row_fb1 : S := (.setI (.op .ix (.cons (.var 4) (.cons (.var 5) .nil))) (.lit (.int 0)) (.op .mod (.cons (.op .add (.cons (.op .ix (.cons (.op .ix (.cons (.var 4) (.cons (.var 5) .nil))) (.cons (.lit (.int 0)) .nil))) (.cons (.lit (.int 1)) .nil))) (.cons (.lit (.int 1000)) .nil))))
def d__law_row_for1 : S := (.for_ (.name 5) .seq (.cons (.op .ix (.cons (.var 2) (.cons (.lit (.str "out")) .nil))) .nil) d__law_row_fb1)
/-- _law_row: row place world worth things number note -/
def d__law_row : MDef := ⟨3, 7, (.seq (.asg (.name 3) (.op .ix (.cons (.var 2) (.cons (.lit (.str "worth")) .nil))))
  (.seq (.asg (.name 4) (.op .ix (.cons (.var 2) (.cons (.lit (.str "things")) .nil))))
  (.ite (.op .eq (.cons (.op .ix (.cons (.var 0) (.cons (.lit (.int 0)) .nil))) (.cons (.lit (.str "num")) .nil))) (.setI (.var 3) (.op .ix (.cons (.var 0) (.cons (.lit (.int 1)) .nil))) (.op .ix (.cons (.var 0) (.cons (.lit (.int 2)) .nil)))) (.ite (.op .inn (.cons (.op .ix (.cons (.var 0) (.cons (.lit (.int 0)) .nil))) (.cons (.op .tup (.cons (.lit (.str "copy")) (.cons (.lit (.str "let")) .nil))) .nil))) (.setI (.var 3) (.op .ix (.cons (.var 0) (.cons (.lit (.int 1)) .nil))) (.op .ix (.cons (.var 3) (.cons (.op .ix (.cons (.var 0) (.cons (.lit (.int 2)) .nil))) .nil)))) (.ite (.op .eq (.cons (.op .ix (.cons (.var 0) (.cons (.lit (.int 0)) .nil))) (.cons (.lit (.str "add")) .nil))) (.setI (.var 3) (.op .ix (.cons (.var 0) (.cons (.lit (.int 1)) .nil))) (.op .mod (.cons (.op .add (.cons (.op .ix (.cons (.var 3) (.cons (.op .ix (.cons (.var 0) (.cons (.lit (.int 2)) .nil))) .nil))) (.cons (.op .ix (.cons (.var 3) (.cons (.op .ix (.cons (.var 0) (.cons (.lit (.int 3)) .nil))) .nil))) .nil))) (.cons (.lit (.int 1000)) .nil)))) (.ite (.op .eq (.cons (.op .ix (.cons (.var 0) (.cons (.lit (.int 0)) .nil))) (.cons (.lit (.str "make")) .nil))) (.seq (.exp (.me .append (.var 4) (.cons (.op (.lst true) (.cons (.op .ix (.cons (.var 3) (.cons (.op .ix (.cons (.var 0) (.cons (.lit (.int 2)) .nil))) .nil))) (.cons (.op .ix (.cons (.var 3) (.cons (.op .ix (.cons (.var 0) (.cons (.lit (.int 3)) .nil))) .nil))) (.cons (.var 1) .nil)))) .nil)))
  (.setI (.var 3) (.op .ix (.cons (.var 0) (.cons (.lit (.int 1)) .nil))) (.op .sub (.cons (.op .len (.cons (.var 4) .nil)) (.cons (.lit (.int 1)) .nil))))) (.ite (.op .eq (.cons (.op .ix (.cons (.var 0) (.cons (.lit (.int 0)) .nil))) (.cons (.lit (.str "get")) .nil))) (.setI (.var 3) (.op .ix (.cons (.var 0) (.cons (.lit (.int 1)) .nil))) (.op .ix (.cons (.op .ix (.cons (.var 4) (.cons (.op .ix (.cons (.var 3) (.cons (.op .ix (.cons (.var 0) (.cons (.lit (.int 2)) .nil))) .nil))) .nil))) (.cons (.op .ix (.cons (.var 0) (.cons (.lit (.int 3)) .nil))) .nil)))) (.ite (.op .eq (.cons (.op .ix (.cons (.var 0) (.cons (.lit (.int 0)) .nil))) (.cons (.lit (.str "put")) .nil))) (.setI (.op .ix (.cons (.var 4) (.cons (.op .ix (.cons (.var 3) (.cons (.op .ix (.cons (.var 0) (.cons (.lit (.int 1)) .nil))) .nil))) .nil))) (.op .ix (.cons (.var 0) (.cons (.lit (.int 2)) .nil))) (.op .ix (.cons (.var 3) (.cons (.op .ix (.cons (.var 0) (.cons (.lit (.int 3)) .nil))) .nil)))) (.ite (.op .eq (.cons (.op .ix (.cons (.var 0) (.cons (.lit (.int 0)) .nil))) (.cons (.lit (.str "same")) .nil))) (.setI (.var 3) (.op .ix (.cons (.var 0) (.cons (.lit (.int 1)) .nil))) (.op .int1 (.cons (.op .eq (.cons (.op .ix (.cons (.var 3) (.cons (.op .ix (.cons (.var 0) (.cons (.lit (.int 2)) .nil))) .nil))) (.cons (.op .ix (.cons (.var 3) (.cons (.op .ix (.cons (.var 0) (.cons (.lit (.int 3)) .nil))) .nil))) .nil))) .nil))) (.ite (.op .eq (.cons (.op .ix (.cons (.var 0) (.cons (.lit (.int 0)) .nil))) (.cons (.lit (.str "say")) .nil))) (.exp (.me .append (.op .ix (.cons (.var 2) (.cons (.lit (.str "notes")) .nil))) (.cons (.op .tup (.cons (.lit (.str "say")) (.cons (.op .ix (.cons (.var 3) (.cons (.op .ix (.cons (.var 0) (.cons (.lit (.int 1)) .nil))) .nil))) .nil))) .nil))) (.ite (.op .eq (.cons (.op .ix (.cons (.var 0) (.cons (.lit (.int 0)) .nil))) (.cons (.lit (.str "stir")) .nil))) d__law_row_for1 (.seq (.asg (.name 5) (.op .ix (.cons (.var 3) (.cons (.op .ix (.cons (.var 0) (.cons (.lit (.int 1)) .nil))) .nil))))
  (.seq (.setI (.var 2) (.lit (.str "out")) (.op .add (.cons (.op .ix (.cons (.var 2) (.cons (.lit (.str "out")) .nil))) (.cons (.op .mul (.cons (.op (.lst true) (.cons (.var 5) .nil)) (.cons (.op .int1 (.cons (.op .notin (.cons (.var 5) (.cons (.op .ix (.cons (.var 2) (.cons (.lit (.str "out")) .nil))) .nil))) .nil)) .nil))) .nil))))
  (.seq (.asg (.name 6) (.op .tup (.cons (.lit (.str "give")) (.cons (.me .index (.op .ix (.cons (.var 2) (.cons (.lit (.str "out")) .nil))) (.cons (.var 5) .nil)) (.cons (.op .ix (.cons (.op .ix (.cons (.var 4) (.cons (.var 5) .nil))) (.cons (.lit (.int 0)) .nil))) (.cons (.op .ix (.cons (.op .ix (.cons (.var 4) (.cons (.var 5) .nil))) (.cons (.lit (.int 1)) .nil))) .nil))))))
  (.exp (.me .append (.op .ix (.cons (.var 2) (.cons (.lit (.str "notes")) .nil))) (.cons (.var 6) .nil)))))))))))))))))⟩
def d__law_go_fb1 : S := (.ite (.op .ne (.cons (.op .ix (.cons (.op .ix (.cons (.var 2) (.cons (.lit (.str "worth")) .nil))) (.cons (.op .ix (.cons (.var 4) (.cons (.lit (.int 1)) .nil))) .nil))) (.cons (.lit (.int 0)) .nil))) (.exp (.call "_law_go" (.cons (.op .ix (.cons (.var 4) (.cons (.lit (.int 2)) .nil))) (.cons (.op .add (.cons (.var 5) (.cons (.op .tup (.cons (.lit (.int 0)) .nil)) .nil))) (.cons (.var 2) .nil))))) .skip)
def d__law_go_for1 : S := (.for_ (.name 7) .range1 (.cons (.lit (.int 9)) .nil) d__law_go_fb1)
def d__law_go_fb2 : S := (.seq (.asg (.name 5) (.op .add (.cons (.var 1) (.cons (.op .tup (.cons (.var 3) .nil)) .nil))))
  (.ite (.op .eq (.cons (.op .ix (.cons (.var 4) (.cons (.lit (.int 0)) .nil))) (.cons (.lit (.str "if")) .nil))) (.seq (.asg (.name 6) (.op .ix (.cons (.op (.lst true) (.cons (.lit (.int 1)) (.cons (.lit (.int 0)) .nil))) (.cons (.op .int1 (.cons (.op .ne (.cons (.op .ix (.cons (.op .ix (.cons (.var 2) (.cons (.lit (.str "worth")) .nil))) (.cons (.op .ix (.cons (.var 4) (.cons (.lit (.int 1)) .nil))) .nil))) (.cons (.lit (.int 0)) .nil))) .nil)) .nil))))
  (.exp (.call "_law_go" (.cons (.op .ix (.cons (.var 4) (.cons (.op .add (.cons (.lit (.int 2)) (.cons (.var 6) .nil))) .nil))) (.cons (.op .add (.cons (.var 5) (.cons (.op .tup (.cons (.var 6) .nil)) .nil))) (.cons (.var 2) .nil)))))) (.ite (.op .eq (.cons (.op .ix (.cons (.var 4) (.cons (.lit (.int 0)) .nil))) (.cons (.lit (.str "loop")) .nil))) d__law_go_for1 (.exp (.call "_law_row" (.cons (.var 4) (.cons (.var 5) (.cons (.var 2) .nil))))))))
def d__law_go_for2 : S := (.for_ (.tup (.cons (.name 3) (.cons (.name 4) .nil))) .enum (.cons (.var 0) .nil) d__law_go_fb2)
/-- _law_go: block place world number row here which turn -/
def d__law_go : MDef := ⟨3, 8, d__law_go_for2⟩
/-- _law_run: program inputs world -/
def d__law_run : MDef := ⟨2, 3, (.seq (.asg (.name 2) (.op .disp (.cons (.lit (.str "worth")) (.cons (.op .dictzip (.cons (.op .ix (.cons (.var 0) (.cons (.lit (.int 0)) .nil))) (.cons (.var 1) .nil))) (.cons (.lit (.str "things")) (.cons (.op (.lst false) .nil) (.cons (.lit (.str "out")) (.cons (.op (.lst false) .nil) (.cons (.lit (.str "notes")) (.cons (.op (.lst false) .nil) .nil))))))))))
  (.seq (.exp (.call "_law_go" (.cons (.op .ix (.cons (.var 0) (.cons (.lit (.int 1)) .nil))) (.cons (.op .tup .nil) (.cons (.var 2) .nil)))))
  (.ret (.var 2))))⟩
def d__law_sight_e1 : E := (.op .tuple1 (.cons (.op .slU (.cons (.op .ix (.cons (.op .ix (.cons (.var 2) (.cons (.lit (.str "things")) .nil))) (.cons (.var 3) .nil))) (.cons (.lit (.int 2)) .nil))) .nil))
def d__law_sight_lc1 : E := (.lc true [3] (.name 3) .seq (.cons (.op .ix (.cons (.var 2) (.cons (.lit (.str "out")) .nil))) .nil) (.lit (.bl true)) d__law_sight_e1)
/-- _law_sight: program inputs world number -/
def d__law_sight : MDef := ⟨2, 4, (.seq (.asg (.name 2) (.call "_law_run" (.cons (.var 0) (.cons (.var 1) .nil))))
  (.ret (.op .tup (.cons (.op .ix (.cons (.var 2) (.cons (.lit (.str "notes")) .nil))) (.cons d__law_sight_lc1 .nil)))))⟩
def d_ahead_fb1 : S := (.asg (.name 1) (.call "ahead_of" (.cons (.var 2) (.cons (.var 1) .nil))))
def d_ahead_for1 : S := (.for_ (.name 2) .seq (.cons (.op .rev (.cons (.var 0) .nil)) .nil) d_ahead_fb1)
/-- ahead: block late row -/
def d_ahead : MDef := ⟨2, 3, (.seq (.asg (.name 1) (.op (.dict1 false) (.cons (.var 1) .nil)))
  (.seq d_ahead_for1
  (.ret (.var 1))))⟩
def d_ahead_of_fb1 : S := (.setI (.var 3) (.var 2) (.lit (.bl true)))
def d_ahead_of_for1 : S := (.for_ (.name 2) .seq (.cons (.call "reads" (.cons (.var 0) .nil)) .nil) d_ahead_of_fb1)
def d_ahead_of_wb1 : S := (.seq (.asg (.name 4) (.op (.dict1 false) (.cons (.var 3) .nil)))
  (.exp (.me .update (.var 3) (.cons (.call "ahead" (.cons (.op .ix (.cons (.var 0) (.cons (.lit (.int 2)) .nil))) (.cons (.var 3) .nil))) .nil))))
def d_ahead_of_wc1 : E := (.op .ne (.cons (.var 4) (.cons (.var 3) .nil)))
def d_ahead_of_wh1 : S := (.while_ d_ahead_of_wc1 d_ahead_of_wb1)
def d_ahead_of_e1 : E := (.op .tup (.cons (.var 2) (.cons (.lit (.bl true)) .nil)))
def d_ahead_of_i1 : E := (.op .ne (.cons (.var 2) (.cons (.call "sets" (.cons (.var 0) .nil)) .nil)))
def d_ahead_of_lc1 : E := (.lc true [2] (.name 2) .seq (.cons (.var 1) .nil) d_ahead_of_i1 d_ahead_of_e1)
/-- ahead_of: row late name made before -/
def d_ahead_of : MDef := ⟨2, 5, (.seq (.ite (.op .eq (.cons (.op .ix (.cons (.var 0) (.cons (.lit (.int 0)) .nil))) (.cons (.lit (.str "if")) .nil))) (.seq (.asg (.name 3) (.call "ahead" (.cons (.op .ix (.cons (.var 0) (.cons (.lit (.int 2)) .nil))) (.cons (.var 1) .nil))))
  (.exp (.me .update (.var 3) (.cons (.call "ahead" (.cons (.op .ix (.cons (.var 0) (.cons (.lit (.int 3)) .nil))) (.cons (.var 1) .nil))) .nil)))) (.ite (.op .eq (.cons (.op .ix (.cons (.var 0) (.cons (.lit (.int 0)) .nil))) (.cons (.lit (.str "loop")) .nil))) (.seq (.asg (.name 3) (.op (.dict1 false) (.cons (.var 1) .nil)))
  (.seq (.setI (.var 3) (.op .ix (.cons (.var 0) (.cons (.lit (.int 1)) .nil))) (.lit (.bl true)))
  (.seq (.asg (.name 4) (.op .disp .nil))
  d_ahead_of_wh1))) (.asg (.name 3) (.op (.dict1 false) (.cons d_ahead_of_lc1 .nil)))))
  (.seq d_ahead_of_for1
  (.ret (.var 3))))⟩
def d_alive_i1 : E := (.op .inn (.cons (.var 2) (.cons (.var 1) .nil)))
def d_alive_lc1 : E := (.lc true [2] (.name 2) .seq (.cons (.op .ix (.cons (.var 0) (.cons (.lit (.int 0)) .nil))) .nil) d_alive_i1 (.var 2))
/-- alive: program late name -/
def d_alive : MDef := ⟨1, 3, (.seq (.exp (.call "need_program" (.cons (.var 0) .nil)))
  (.seq (.asg (.name 1) (.call "ahead" (.cons (.op .ix (.cons (.var 0) (.cons (.lit (.int 1)) .nil))) (.cons (.op .disp .nil) .nil))))
  (.ret d_alive_lc1)))⟩
/-- _law_sets: row -/
def d__law_sets : MDef := ⟨1, 1, (.ret (.op .inn (.cons (.op .ix (.cons (.var 0) (.cons (.lit (.int 0)) .nil))) (.cons (.op .tup (.cons (.lit (.str "num")) (.cons (.lit (.str "copy")) (.cons (.lit (.str "add")) (.cons (.lit (.str "make")) (.cons (.lit (.str "get")) (.cons (.lit (.str "let")) (.cons (.lit (.str "same")) .nil)))))))) .nil))))⟩
def d__law_reads_i1 : E := (.op .isStr (.cons (.var 2) .nil))
def d__law_reads_lc1 : E := (.lc true [2] (.name 2) .seq (.cons (.op .slL (.cons (.var 0) (.cons (.lit (.int 1)) .nil))) .nil) d__law_reads_i1 (.var 2))
/-- _law_reads: row names part -/
def d__law_reads : MDef := ⟨1, 3, (.seq (.asg (.name 1) d__law_reads_lc1)
  (.ret (.op .slL (.cons (.var 1) (.cons (.op .int1 (.cons (.call "_law_sets" (.cons (.var 0) .nil)) .nil)) .nil)))))⟩
def d__law_late_fb1 : S := (.asg (.name 1) (.call "_law_late_of" (.cons (.var 2) (.cons (.var 1) .nil))))
def d__law_late_for1 : S := (.for_ (.name 2) .seq (.cons (.op .rev (.cons (.var 0) .nil)) .nil) d__law_late_fb1)
/-- _law_late: block late row -/
def d__law_late : MDef := ⟨2, 3, (.seq (.asg (.name 1) (.op (.list1 true) (.cons (.var 1) .nil)))
  (.seq d__law_late_for1
  (.ret (.var 1))))⟩
def d__law_late_of_wb1 : S := (.seq (.asg (.name 2) (.op .len (.cons (.var 1) .nil)))
  (.asg (.name 1) (.op .sortedset (.cons (.op .add (.cons (.op .add (.cons (.var 1) (.cons (.call "_law_late" (.cons (.op .ix (.cons (.var 0) (.cons (.lit (.int 2)) .nil))) (.cons (.op .add (.cons (.var 1) (.cons (.op (.lst true) (.cons (.op .ix (.cons (.var 0) (.cons (.lit (.int 1)) .nil))) .nil)) .nil))) .nil))) .nil))) (.cons (.op (.lst true) (.cons (.op .ix (.cons (.var 0) (.cons (.lit (.int 1)) .nil))) .nil)) .nil))) .nil))))
def d__law_late_of_wc1 : E := (.op .ne (.cons (.var 2) (.cons (.op .len (.cons (.var 1) .nil)) .nil)))
def d__law_late_of_wh1 : S := (.while_ d__law_late_of_wc1 d__law_late_of_wb1)
def d__law_late_of_i1 : E := (.op .ne (.cons (.var 3) (.cons (.op .ix (.cons (.var 0) (.cons (.lit (.int 1)) .nil))) .nil)))
def d__law_late_of_lc1 : E := (.lc true [3] (.name 3) .seq (.cons (.var 1) .nil) d__law_late_of_i1 (.var 3))
/-- _law_late_of: row late count name -/
def d__law_late_of : MDef := ⟨2, 4, (.seq (.asg (.name 1) (.op (.list1 true) (.cons (.var 1) .nil)))
  (.seq (.ite (.op .eq (.cons (.op .ix (.cons (.var 0) (.cons (.lit (.int 0)) .nil))) (.cons (.lit (.str "if")) .nil))) (.asg (.name 1) (.op .add (.cons (.call "_law_late" (.cons (.op .ix (.cons (.var 0) (.cons (.lit (.int 2)) .nil))) (.cons (.var 1) .nil))) (.cons (.call "_law_late" (.cons (.op .ix (.cons (.var 0) (.cons (.lit (.int 3)) .nil))) (.cons (.var 1) .nil))) .nil)))) (.ite (.op .eq (.cons (.op .ix (.cons (.var 0) (.cons (.lit (.int 0)) .nil))) (.cons (.lit (.str "loop")) .nil))) (.seq (.asg (.name 2) (.op .neg (.cons (.lit (.int 1)) .nil)))
  d__law_late_of_wh1) (.ite (.call "_law_sets" (.cons (.var 0) .nil)) (.asg (.name 1) d__law_late_of_lc1) .skip)))
  (.ret (.op .sortedset (.cons (.op .add (.cons (.var 1) (.cons (.call "_law_reads" (.cons (.var 0) .nil)) .nil))) .nil)))))⟩
/-- head_of: row late -/
def d_head_of : MDef := ⟨2, 2, (.ret (.call "ahead_of" (.cons (.var 0) (.cons (.var 1) .nil))))⟩
def d_left_of_e1 : E := (.op .eq (.cons (.var 5) (.cons (.op .tup .nil) .nil)))
def d_left_of_lc1 : E := (.lc true [5] (.name 5) .seq (.cons (.call "blocks_of" (.cons (.var 3) .nil)) .nil) (.lit (.bl true)) d_left_of_e1)
def d_left_of_fb1 : S := (.seq (.ite (.op .eq (.cons (.op .ix (.cons (.var 3) (.cons (.lit (.int 0)) .nil))) (.cons (.lit (.str "if")) .nil))) (.asg (.name 3) (.op .add (.cons (.op .slU (.cons (.var 3) (.cons (.lit (.int 2)) .nil))) (.cons (.op .tup (.cons (.call "left_of" (.cons (.op .ix (.cons (.var 3) (.cons (.lit (.int 2)) .nil))) (.cons (.var 1) .nil))) (.cons (.call "left_of" (.cons (.op .ix (.cons (.var 3) (.cons (.lit (.int 3)) .nil))) (.cons (.var 1) .nil))) .nil))) .nil)))) (.ite (.op .eq (.cons (.op .ix (.cons (.var 3) (.cons (.lit (.int 0)) .nil))) (.cons (.lit (.str "loop")) .nil))) (.asg (.name 3) (.op .add (.cons (.op .slU (.cons (.var 3) (.cons (.lit (.int 2)) .nil))) (.cons (.op .tup (.cons (.call "left_of" (.cons (.op .ix (.cons (.var 3) (.cons (.lit (.int 2)) .nil))) (.cons (.call "head_of" (.cons (.var 3) (.cons (.var 1) .nil))) .nil))) .nil)) .nil)))) .skip))
  (.seq (.asg (.name 4) (.and (.op .inn (.cons (.op .ix (.cons (.var 3) (.cons (.lit (.int 0)) .nil))) (.cons (.glob "SETS" (.tup c_SETS)) .nil))) (.op .notin (.cons (.op .ix (.cons (.var 3) (.cons (.lit (.int 1)) .nil))) (.cons (.var 1) .nil)))))
  (.seq (.ite (.and (.op .inn (.cons (.op .ix (.cons (.var 3) (.cons (.lit (.int 0)) .nil))) (.cons (.op .tup (.cons (.lit (.str "if")) (.cons (.lit (.str "loop")) .nil))) .nil))) (.op .all (.cons d_left_of_lc1 .nil))) (.asg (.name 4) (.lit (.bl true))) .skip)
  (.ite (.not (.var 4)) (.seq (.asg (.name 2) (.op .add (.cons (.op (.lst true) (.cons (.var 3) .nil)) (.cons (.var 2) .nil))))
  (.asg (.name 1) (.call "ahead_of" (.cons (.var 3) (.cons (.var 1) .nil))))) .skip))))
def d_left_of_for1 : S := (.for_ (.name 3) .seq (.cons (.op .rev (.cons (.var 0) .nil)) .nil) d_left_of_fb1)
/-- left_of: block late made row idle part -/
def d_left_of : MDef := ⟨2, 6, (.seq (.asg (.name 2) (.op (.lst true) .nil))
  (.seq d_left_of_for1
  (.ret (.op .tuple1 (.cons (.var 2) .nil)))))⟩
def d_spared_wb1 : S := (.seq (.asg (.name 1) (.var 0))
  (.asg (.name 0) (.op .tup (.cons (.op .ix (.cons (.var 0) (.cons (.lit (.int 0)) .nil))) (.cons (.call "left_of" (.cons (.op .ix (.cons (.var 0) (.cons (.lit (.int 1)) .nil))) (.cons (.op .disp .nil) .nil))) .nil)))))
def d_spared_wc1 : E := (.op .ne (.cons (.var 1) (.cons (.var 0) .nil)))
def d_spared_wh1 : S := (.while_ d_spared_wc1 d_spared_wb1)
/-- spared: program before -/
def d_spared : MDef := ⟨1, 2, (.seq (.asg (.name 1) (.lit .non))
  (.seq d_spared_wh1
  (.ret (.var 0))))⟩
/-- spare: program -/
def d_spare : MDef := ⟨1, 1, (.seq (.exp (.call "need_program" (.cons (.var 0) .nil)))
  (.ret (.call "spared" (.cons (.var 0) .nil))))⟩
def d_rows_in_fb1 : S := (.exp (.me .extend (.var 2) (.cons (.call "rows_in" (.cons (.var 6) (.cons (.op .add (.cons (.var 1) (.cons (.op .tup (.cons (.var 3) (.cons (.var 5) .nil))) .nil))) .nil))) .nil)))
def d_rows_in_for1 : S := (.for_ (.tup (.cons (.name 5) (.cons (.name 6) .nil))) .enum (.cons (.call "blocks_of" (.cons (.var 4) .nil)) .nil) d_rows_in_fb1)
def d_rows_in_fb2 : S := (.seq (.exp (.me .append (.var 2) (.cons (.op .tup (.cons (.var 4) (.cons (.op .add (.cons (.var 1) (.cons (.op .tup (.cons (.var 3) .nil)) .nil))) .nil))) .nil)))
  d_rows_in_for1)
def d_rows_in_for2 : S := (.for_ (.tup (.cons (.name 3) (.cons (.name 4) .nil))) .enum (.cons (.var 0) .nil) d_rows_in_fb2)
/-- rows_in: block place made number row which part -/
def d_rows_in : MDef := ⟨2, 7, (.seq (.asg (.name 2) (.op (.lst false) .nil))
  (.seq d_rows_in_for2
  (.ret (.var 2))))⟩
def d_most_of_e1 : E := (.call "most_of" (.cons (.var 4) .nil))
def d_most_of_lc1 : E := (.lc true [4] (.name 4) .seq (.cons (.call "blocks_of" (.cons (.var 2) .nil)) .nil) (.lit (.bl true)) d_most_of_e1)
def d_most_of_fb1 : S := (.seq (.asg (.name 1) (.op .add (.cons (.var 1) (.cons (.op .int1 (.cons (.op .eq (.cons (.op .ix (.cons (.var 2) (.cons (.lit (.int 0)) .nil))) (.cons (.lit (.str "make")) .nil))) .nil)) .nil))))
  (.seq (.asg (.name 3) d_most_of_lc1)
  (.seq (.ite (.op .eq (.cons (.op .ix (.cons (.var 2) (.cons (.lit (.int 0)) .nil))) (.cons (.lit (.str "if")) .nil))) (.asg (.name 1) (.op .add (.cons (.var 1) (.cons (.op .max1 (.cons (.var 3) .nil)) .nil)))) .skip)
  (.ite (.op .eq (.cons (.op .ix (.cons (.var 2) (.cons (.lit (.int 0)) .nil))) (.cons (.lit (.str "loop")) .nil))) (.asg (.name 1) (.op .add (.cons (.var 1) (.cons (.op .mul (.cons (.glob "TURNS" (.int 9)) (.cons (.op .ix (.cons (.var 3) (.cons (.lit (.int 0)) .nil))) .nil))) .nil)))) .skip))))
def d_most_of_for1 : S := (.for_ (.name 2) .seq (.cons (.var 0) .nil) d_most_of_fb1)
/-- most_of: block made row some part -/
def d_most_of : MDef := ⟨1, 5, (.seq (.asg (.name 1) (.lit (.int 0)))
  (.seq d_most_of_for1
  (.ret (.var 1))))⟩
/-- most_makes: program -/
def d_most_makes : MDef := ⟨1, 1, (.seq (.exp (.call "need_program" (.cons (.var 0) .nil)))
  (.ret (.call "most_of" (.cons (.op .ix (.cons (.var 0) (.cons (.lit (.int 1)) .nil))) .nil))))⟩
/-- size: program -/
def d_size : MDef := ⟨1, 1, (.seq (.exp (.call "need_program" (.cons (.var 0) .nil)))
  (.ret (.op .len (.cons (.call "rows_in" (.cons (.op .ix (.cons (.var 0) (.cons (.lit (.int 1)) .nil))) (.cons (.op .tup .nil) .nil))) .nil))))⟩
def d__law_asked_tb1 : S := (.ret (.callv 0 ["checked"] (.cons (.var 1) .nil)))
def d__law_asked_th1 : S := (.ret (.lit .non))
def d__law_asked_try1 : S := (.tryX d__law_asked_tb1 none d__law_asked_th1)
/-- _law_asked: ask thing -/
def d__law_asked : MDef := ⟨2, 2, d__law_asked_try1⟩
def d_all_sets_fb1 : S := (.exp (.me .update (.var 1) (.cons (.call "all_sets" (.cons (.var 3) .nil)) .nil)))
def d_all_sets_for1 : S := (.for_ (.name 3) .seq (.cons (.call "blocks_of" (.cons (.var 2) .nil)) .nil) d_all_sets_fb1)
def d_all_sets_fb2 : S := (.seq (.ite (.op .notN (.cons (.call "sets" (.cons (.var 2) .nil)) .nil)) (.setI (.var 1) (.call "sets" (.cons (.var 2) .nil)) (.lit (.bl true))) .skip)
  d_all_sets_for1)
def d_all_sets_for2 : S := (.for_ (.name 2) .seq (.cons (.var 0) .nil) d_all_sets_fb2)
/-- all_sets: block found row part -/
def d_all_sets : MDef := ⟨1, 4, (.seq (.asg (.name 1) (.op .disp .nil))
  (.seq d_all_sets_for2
  (.ret (.var 1))))⟩
def d_without_e1 : E := (.op .tup (.cons (.var 2) (.cons (.op .ix (.cons (.var 0) (.cons (.var 2) .nil))) .nil)))
def d_without_i1 : E := (.and (.op .notin (.cons (.var 2) (.cons (.var 1) .nil))) (.op .notin (.cons (.op .ix (.cons (.var 0) (.cons (.var 2) .nil))) (.cons (.var 1) .nil))))
def d_without_lc1 : E := (.lc true [2] (.name 2) .seq (.cons (.var 0) .nil) d_without_i1 d_without_e1)
/-- without: known names name -/
def d_without : MDef := ⟨2, 3, (.ret (.op (.dict1 false) (.cons d_without_lc1 .nil)))⟩
def d_turned_fb1 : S := (.seq (.ite (.and (.op .inn (.cons (.var 4) (.cons (.lit (.str "nt")) .nil))) (.not (.and (.op .eq (.cons (.var 3) (.cons (.lit (.int 0)) .nil))) (.op .notN (.cons (.call "sets" (.cons (.var 0) .nil)) .nil))))) (.asg (.name 5) (.me .get2 (.var 1) (.cons (.var 5) (.cons (.var 5) .nil)))) .skip)
  (.exp (.me .append (.var 2) (.cons (.var 5) .nil))))
def d_turned_for1 : S := (.for_ (.tup (.cons (.name 3) (.cons (.tup (.cons (.name 4) (.cons (.name 5) .nil))) .nil))) .enumzip (.cons (.op .ix (.cons (.glob "SHAPES" (.cdic c_SHAPES)) (.cons (.op .ix (.cons (.var 0) (.cons (.lit (.int 0)) .nil))) .nil))) (.cons (.op .slL (.cons (.var 0) (.cons (.lit (.int 1)) .nil))) .nil)) d_turned_fb1)
/-- turned: row known made number shape part -/
def d_turned : MDef := ⟨2, 6, (.seq (.ite (.op .notin (.cons (.op .ix (.cons (.var 0) (.cons (.lit (.int 0)) .nil))) (.cons (.glob "SHAPES" (.cdic c_SHAPES)) .nil))) (.ret (.op .add (.cons (.op .tup (.cons (.op .ix (.cons (.var 0) (.cons (.lit (.int 0)) .nil))) (.cons (.me .get2 (.var 1) (.cons (.op .ix (.cons (.var 0) (.cons (.lit (.int 1)) .nil))) (.cons (.op .ix (.cons (.var 0) (.cons (.lit (.int 1)) .nil))) .nil))) .nil))) (.cons (.op .slL (.cons (.var 0) (.cons (.lit (.int 2)) .nil))) .nil)))) .skip)
  (.seq (.asg (.name 2) (.op (.lst false) (.cons (.op .ix (.cons (.var 0) (.cons (.lit (.int 0)) .nil))) .nil)))
  (.seq d_turned_for1
  (.ret (.op .tuple1 (.cons (.var 2) .nil))))))⟩
def d_through_block_e1 : E := (.op .tup (.cons (.var 8) (.cons (.op .ix (.cons (.var 5) (.cons (.var 8) .nil))) .nil)))
def d_through_block_i1 : E := (.op .eq (.cons (.me .get1 (.var 7) (.cons (.var 8) .nil)) (.cons (.op .ix (.cons (.var 5) (.cons (.var 8) .nil))) .nil)))
def d_through_block_lc1 : E := (.lc true [8] (.name 8) .seq (.cons (.var 5) .nil) d_through_block_i1 d_through_block_e1)
def d_through_block_fb1 : S := (.seq (.ite (.op .eq (.cons (.op .ix (.cons (.var 3) (.cons (.lit (.int 0)) .nil))) (.cons (.lit (.str "loop")) .nil))) (.asg (.name 1) (.call "without" (.cons (.var 1) (.cons (.call "all_sets" (.cons (.op .ix (.cons (.var 3) (.cons (.lit (.int 2)) .nil))) .nil)) .nil)))) .skip)
  (.seq (.asg (.name 3) (.call "turned" (.cons (.var 3) (.cons (.var 1) .nil))))
  (.seq (.ite (.op .eq (.cons (.op .ix (.cons (.var 3) (.cons (.lit (.int 0)) .nil))) (.cons (.lit (.str "if")) .nil))) (.seq (.asg (.tup (.cons (.name 4) (.cons (.name 5) .nil))) (.call "through_block" (.cons (.op .ix (.cons (.var 3) (.cons (.lit (.int 2)) .nil))) (.cons (.var 1) .nil))))
  (.seq (.asg (.tup (.cons (.name 6) (.cons (.name 7) .nil))) (.call "through_block" (.cons (.op .ix (.cons (.var 3) (.cons (.lit (.int 3)) .nil))) (.cons (.var 1) .nil))))
  (.seq (.asg (.name 3) (.op .add (.cons (.op .slU (.cons (.var 3) (.cons (.lit (.int 2)) .nil))) (.cons (.op .tup (.cons (.var 4) (.cons (.var 6) .nil))) .nil))))
  (.asg (.name 1) (.op (.dict1 false) (.cons d_through_block_lc1 .nil)))))) (.ite (.op .eq (.cons (.op .ix (.cons (.var 3) (.cons (.lit (.int 0)) .nil))) (.cons (.lit (.str "loop")) .nil))) (.asg (.name 3) (.op .add (.cons (.op .slU (.cons (.var 3) (.cons (.lit (.int 2)) .nil))) (.cons (.op .tup (.cons (.op .ix (.cons (.call "through_block" (.cons (.op .ix (.cons (.var 3) (.cons (.lit (.int 2)) .nil))) (.cons (.var 1) .nil))) (.cons (.lit (.int 0)) .nil))) .nil)) .nil)))) (.ite (.op .notN (.cons (.call "sets" (.cons (.var 3) .nil)) .nil)) (.seq (.asg (.name 1) (.call "without" (.cons (.var 1) (.cons (.op .disp (.cons (.call "sets" (.cons (.var 3) .nil)) (.cons (.lit (.bl true)) .nil))) .nil))))
  (.ite (.and (.op .inn (.cons (.op .ix (.cons (.var 3) (.cons (.lit (.int 0)) .nil))) (.cons (.op .tup (.cons (.lit (.str "copy")) (.cons (.lit (.str "let")) .nil))) .nil))) (.op .ne (.cons (.op .ix (.cons (.var 3) (.cons (.lit (.int 1)) .nil))) (.cons (.op .ix (.cons (.var 3) (.cons (.lit (.int 2)) .nil))) .nil)))) (.setI (.var 1) (.op .ix (.cons (.var 3) (.cons (.lit (.int 1)) .nil))) (.op .ix (.cons (.var 3) (.cons (.lit (.int 2)) .nil)))) .skip)) .skip)))
  (.exp (.me .append (.var 2) (.cons (.var 3) .nil))))))
def d_through_block_for1 : S := (.for_ (.name 3) .seq (.cons (.var 0) .nil) d_through_block_fb1)
/-- through_block: block known made row first one second two name -/
def d_through_block : MDef := ⟨2, 9, (.seq (.asg (.name 2) (.op (.lst false) .nil))
  (.seq d_through_block_for1
  (.ret (.op .tup (.cons (.op .tuple1 (.cons (.var 2) .nil)) (.cons (.var 1) .nil))))))⟩
/-- through: program -/
def d_through : MDef := ⟨1, 1, (.seq (.exp (.call "need_program" (.cons (.var 0) .nil)))
  (.ret (.op .tup (.cons (.op .ix (.cons (.var 0) (.cons (.lit (.int 0)) .nil))) (.cons (.op .ix (.cons (.call "through_block" (.cons (.op .ix (.cons (.var 0) (.cons (.lit (.int 1)) .nil))) (.cons (.op .disp .nil) .nil))) (.cons (.lit (.int 0)) .nil))) .nil)))))⟩
def d__law_size_e1 : E := (.call "_law_size" (.cons (.var 3) .nil))
def d__law_size_lc1 : E := (.lc true [3] (.name 3) .seq (.cons (.op .slL (.cons (.var 2) (.cons (.lit (.int 2)) .nil))) .nil) (.lit (.bl true)) d__law_size_e1)
def d__law_size_fb1 : S := (.seq (.asg (.name 1) (.op .add (.cons (.var 1) (.cons (.lit (.int 1)) .nil))))
  (.ite (.op .inn (.cons (.op .ix (.cons (.var 2) (.cons (.lit (.int 0)) .nil))) (.cons (.op .tup (.cons (.lit (.str "if")) (.cons (.lit (.str "loop")) .nil))) .nil))) (.asg (.name 1) (.op .add (.cons (.var 1) (.cons (.op .sum (.cons d__law_size_lc1 .nil)) .nil)))) .skip))
def d__law_size_for1 : S := (.for_ (.name 2) .seq (.cons (.var 0) .nil) d__law_size_fb1)
/-- _law_size: block many row inner -/
def d__law_size : MDef := ⟨1, 4, (.seq (.asg (.name 1) (.lit (.int 0)))
  (.seq d__law_size_for1
  (.ret (.var 1))))⟩
def d_names_in_fb1 : S := (.setI (.var 1) (.var 3) (.lit (.bl true)))
def d_names_in_for1 : S := (.for_ (.name 3) .seq (.cons (.call "names_in" (.cons (.var 5) .nil)) .nil) d_names_in_fb1)
def d_names_in_fb2 : S := d_names_in_for1
def d_names_in_for2 : S := (.for_ (.name 5) .seq (.cons (.call "blocks_of" (.cons (.var 2) .nil)) .nil) d_names_in_fb2)
def d_names_in_fb3 : S := (.setI (.var 1) (.var 3) (.lit (.bl true)))
def d_names_in_for3 : S := (.for_ (.tup (.cons (.name 3) (.cons (.name 4) .nil))) .seq (.cons (.call "kinds_of" (.cons (.var 2) .nil)) .nil) d_names_in_fb3)
def d_names_in_fb4 : S := (.seq d_names_in_for3
  d_names_in_for2)
def d_names_in_for4 : S := (.for_ (.name 2) .seq (.cons (.var 0) .nil) d_names_in_fb4)
/-- names_in: block found row name kind part -/
def d_names_in : MDef := ⟨1, 6, (.seq (.asg (.name 1) (.op .disp .nil))
  (.seq d_names_in_for4
  (.ret (.var 1))))⟩
def d_word_of_wb1 : S := (.seq (.asg (.name 1) (.op .add (.cons (.op .ix (.cons (.glob "LETTERS" (.str "abcdefghijklmnopqrstuvwxyz")) (.cons (.op .mod (.cons (.var 0) (.cons (.lit (.int 26)) .nil))) .nil))) (.cons (.var 1) .nil))))
  (.asg (.name 0) (.op .sub (.cons (.op .fdiv (.cons (.var 0) (.cons (.lit (.int 26)) .nil))) (.cons (.lit (.int 1)) .nil)))))
def d_word_of_wc1 : E := (.op .ge (.cons (.var 0) (.cons (.lit (.int 0)) .nil)))
def d_word_of_wh1 : S := (.while_ d_word_of_wc1 d_word_of_wb1)
/-- word_of: number made -/
def d_word_of : MDef := ⟨1, 2, (.seq (.asg (.name 1) (.lit (.str "")))
  (.seq d_word_of_wh1
  (.ret (.var 1))))⟩
def d_Worker___init___fb1 : S := (.setI (.fld "Worker" (.var 0) "known") (.var 2) (.lit (.bl true)))
def d_Worker___init___for1 : S := (.for_ (.name 2) .seq (.cons (.op .ix (.cons (.var 1) (.cons (.lit (.int 0)) .nil))) .nil) d_Worker___init___fb1)
/-- __init__: self program name -/
def d_Worker___init__ : MDef := ⟨2, 3, (.seq (.setF "Worker" (.var 0) "known" (.call "names_in" (.cons (.op .ix (.cons (.var 1) (.cons (.lit (.int 1)) .nil))) .nil)))
  (.seq d_Worker___init___for1
  (.seq (.setF "Worker" (.var 0) "count" (.lit (.int 0)))
  (.setF "Worker" (.var 0) "parts" (.op (.lst false) .nil)))))⟩
/-- new_thing: self first -/
def d_Worker_new_thing : MDef := ⟨1, 2, (.seq (.asg (.name 1) (.meth "Worker" "new_word" (.var 0) .nil))
  (.seq (.exp (.me .append (.fld "Worker" (.var 0) "parts") (.cons (.op .tup (.cons (.var 1) (.cons (.meth "Worker" "new_word" (.var 0) .nil) .nil))) .nil)))
  (.ret (.op .sub (.cons (.op .len (.cons (.fld "Worker" (.var 0) "parts") .nil)) (.cons (.lit (.int 1)) .nil))))))⟩
def d_Worker_new_word_wb1 : S := (.seq (.asg (.name 1) (.call "word_of" (.cons (.fld "Worker" (.var 0) "count") .nil)))
  (.setF "Worker" (.var 0) "count" (.op .add (.cons (.fld "Worker" (.var 0) "count") (.cons (.lit (.int 1)) .nil)))))
def d_Worker_new_word_wc1 : E := (.op .inn (.cons (.var 1) (.cons (.fld "Worker" (.var 0) "known") .nil)))
def d_Worker_new_word_wh1 : S := (.while_ d_Worker_new_word_wc1 d_Worker_new_word_wb1)
/-- new_word: self word -/
def d_Worker_new_word : MDef := ⟨1, 2, (.seq (.asg (.name 1) (.call "word_of" (.cons (.fld "Worker" (.var 0) "count") .nil)))
  (.seq (.setF "Worker" (.var 0) "count" (.op .add (.cons (.fld "Worker" (.var 0) "count") (.cons (.lit (.int 1)) .nil))))
  (.seq d_Worker_new_word_wh1
  (.ret (.var 1)))))⟩
def d_Worker_together_fb1 : S := (.exp (.me .pop1 (.var 2) (.cons (.var 7) .nil)))
def d_Worker_together_for1 : S := (.for_ (.name 7) .seq (.cons (.var 4) .nil) d_Worker_together_fb1)
def d_Worker_together_fb2 : S := (.exp (.me .append (.var 3) (.cons (.op .tup (.cons (.lit (.str "let")) (.cons (.var 7) (.cons (.op .ix (.cons (.var 4) (.cons (.lit (.int 0)) .nil))) .nil)))) .nil)))
def d_Worker_together_for2 : S := (.for_ (.name 7) .seq (.cons (.op .slL (.cons (.var 4) (.cons (.lit (.int 1)) .nil))) .nil) d_Worker_together_fb2)
def d_Worker_together_i1 : E := (.op .eq (.cons (.op .ix (.cons (.var 2) (.cons (.var 7) .nil))) (.cons (.var 1) .nil)))
def d_Worker_together_lc1 : E := (.lc true [7] (.name 7) .seq (.cons (.op .sorted (.cons (.op (.list1 true) (.cons (.var 2) .nil)) .nil)) .nil) d_Worker_together_i1 (.var 7))
/-- together: self number env made names first second name -/
def d_Worker_together : MDef := ⟨4, 8, (.seq (.asg (.name 4) d_Worker_together_lc1)
  (.seq (.asg (.tup (.cons (.name 5) (.cons (.name 6) .nil))) (.op .ix (.cons (.fld "Worker" (.var 0) "parts") (.cons (.var 1) .nil))))
  (.seq (.exp (.me .append (.var 3) (.cons (.op .tup (.cons (.lit (.str "make")) (.cons (.op .ix (.cons (.var 4) (.cons (.lit (.int 0)) .nil))) (.cons (.var 5) (.cons (.var 6) .nil))))) .nil)))
  (.seq d_Worker_together_for2
  d_Worker_together_for1))))⟩
def d_Worker_block_i1 : E := (.op .notin (.cons (.var 8) (.cons (.var 7) .nil)))
def d_Worker_block_lc1 : E := (.lc true [8] (.name 8) .seq (.cons (.var 2) .nil) d_Worker_block_i1 (.var 8))
def d_Worker_block_fb1 : S := (.exp (.me .pop1 (.var 2) (.cons (.var 8) .nil)))
def d_Worker_block_for1 : S := (.for_ (.name 8) .seq (.cons d_Worker_block_lc1 .nil) d_Worker_block_fb1)
def d_Worker_block_fb2 : S := (.seq (.exp (.meth "Worker" "row" (.var 0) (.cons (.var 5) (.cons (.var 2) (.cons (.var 7) (.cons (.var 6) .nil))))))
  d_Worker_block_for1)
def d_Worker_block_for2 : S := (.for_ (.tup (.cons (.name 5) (.cons (.name 7) .nil))) .zip (.cons (.var 1) (.cons (.op .slL (.cons (.var 4) (.cons (.lit (.int 1)) .nil))) .nil)) d_Worker_block_fb2)
def d_Worker_block_fb3 : S := (.asg (.name 4) (.op .add (.cons (.op (.lst true) (.cons (.call "ahead_of" (.cons (.var 5) (.cons (.op .ix (.cons (.var 4) (.cons (.lit (.int 0)) .nil))) .nil))) .nil)) (.cons (.var 4) .nil))))
def d_Worker_block_for3 : S := (.for_ (.name 5) .seq (.cons (.op .rev (.cons (.var 1) .nil)) .nil) d_Worker_block_fb3)
/-- block: self block env late lates row made after name -/
def d_Worker_block : MDef := ⟨4, 9, (.seq (.asg (.name 4) (.op (.lst true) (.cons (.var 3) .nil)))
  (.seq d_Worker_block_for3
  (.seq (.asg (.name 6) (.op (.lst false) .nil))
  (.seq d_Worker_block_for2
  (.ret (.op .tuple1 (.cons (.var 6) .nil)))))))⟩
/-- row: self row env late made -/
def d_Worker_row : MDef := ⟨5, 5, (.ite (.op .eq (.cons (.op .ix (.cons (.var 1) (.cons (.lit (.int 0)) .nil))) (.cons (.lit (.str "if")) .nil))) (.exp (.meth "Worker" "both" (.var 0) (.cons (.var 1) (.cons (.var 2) (.cons (.var 3) (.cons (.var 4) .nil)))))) (.ite (.op .eq (.cons (.op .ix (.cons (.var 1) (.cons (.lit (.int 0)) .nil))) (.cons (.lit (.str "loop")) .nil))) (.exp (.meth "Worker" "again" (.var 0) (.cons (.var 1) (.cons (.var 2) (.cons (.var 3) (.cons (.var 4) .nil)))))) (.ite (.op .eq (.cons (.op .ix (.cons (.var 1) (.cons (.lit (.int 0)) .nil))) (.cons (.lit (.str "make")) .nil))) (.exp (.meth "Worker" "make" (.var 0) (.cons (.var 1) (.cons (.var 2) (.cons (.var 3) (.cons (.var 4) .nil)))))) (.ite (.op .inn (.cons (.op .ix (.cons (.var 1) (.cons (.lit (.int 0)) .nil))) (.cons (.op .tup (.cons (.lit (.str "get")) (.cons (.lit (.str "put")) (.cons (.lit (.str "let")) (.cons (.lit (.str "same")) .nil))))) .nil))) (.exp (.meth "Worker" "touch" (.var 0) (.cons (.var 1) (.cons (.var 2) (.cons (.var 4) .nil))))) (.seq (.ite (.and (.op .eq (.cons (.op .ix (.cons (.var 1) (.cons (.lit (.int 0)) .nil))) (.cons (.lit (.str "give")) .nil))) (.op .inn (.cons (.op .ix (.cons (.var 1) (.cons (.lit (.int 1)) .nil))) (.cons (.var 2) .nil)))) (.exp (.meth "Worker" "together" (.var 0) (.cons (.op .ix (.cons (.var 2) (.cons (.op .ix (.cons (.var 1) (.cons (.lit (.int 1)) .nil))) .nil))) (.cons (.var 2) (.cons (.var 4) .nil))))) .skip)
  (.exp (.me .append (.var 4) (.cons (.var 1) .nil))))))))⟩
/-- make: self row env late made number -/
def d_Worker_make : MDef := ⟨5, 6, (.seq (.exp (.me .pop2 (.var 2) (.cons (.op .ix (.cons (.var 1) (.cons (.lit (.int 1)) .nil))) (.cons (.lit .non) .nil))))
  (.ite (.op .inn (.cons (.op .ix (.cons (.var 1) (.cons (.lit (.int 1)) .nil))) (.cons (.var 3) .nil))) (.seq (.asg (.name 5) (.meth "Worker" "new_thing" (.var 0) .nil))
  (.seq (.exp (.me .append (.var 4) (.cons (.op .tup (.cons (.lit (.str "copy")) (.cons (.op .ix (.cons (.op .ix (.cons (.fld "Worker" (.var 0) "parts") (.cons (.var 5) .nil))) (.cons (.lit (.int 0)) .nil))) (.cons (.op .ix (.cons (.var 1) (.cons (.lit (.int 2)) .nil))) .nil)))) .nil)))
  (.seq (.exp (.me .append (.var 4) (.cons (.op .tup (.cons (.lit (.str "copy")) (.cons (.op .ix (.cons (.op .ix (.cons (.fld "Worker" (.var 0) "parts") (.cons (.var 5) .nil))) (.cons (.lit (.int 1)) .nil))) (.cons (.op .ix (.cons (.var 1) (.cons (.lit (.int 3)) .nil))) .nil)))) .nil)))
  (.setI (.var 2) (.op .ix (.cons (.var 1) (.cons (.lit (.int 1)) .nil))) (.var 5))))) .skip))⟩
/-- touch: self row env made -/
def d_Worker_touch : MDef := ⟨4, 4, (.ite (.and (.op .eq (.cons (.op .ix (.cons (.var 1) (.cons (.lit (.int 0)) .nil))) (.cons (.lit (.str "get")) .nil))) (.op .inn (.cons (.op .ix (.cons (.var 1) (.cons (.lit (.int 2)) .nil))) (.cons (.var 2) .nil)))) (.exp (.me .append (.var 3) (.cons (.op .tup (.cons (.lit (.str "copy")) (.cons (.op .ix (.cons (.var 1) (.cons (.lit (.int 1)) .nil))) (.cons (.op .ix (.cons (.op .ix (.cons (.fld "Worker" (.var 0) "parts") (.cons (.op .ix (.cons (.var 2) (.cons (.op .ix (.cons (.var 1) (.cons (.lit (.int 2)) .nil))) .nil))) .nil))) (.cons (.op .ix (.cons (.var 1) (.cons (.lit (.int 3)) .nil))) .nil))) .nil)))) .nil))) (.ite (.and (.op .eq (.cons (.op .ix (.cons (.var 1) (.cons (.lit (.int 0)) .nil))) (.cons (.lit (.str "put")) .nil))) (.op .inn (.cons (.op .ix (.cons (.var 1) (.cons (.lit (.int 1)) .nil))) (.cons (.var 2) .nil)))) (.exp (.me .append (.var 3) (.cons (.op .tup (.cons (.lit (.str "copy")) (.cons (.op .ix (.cons (.op .ix (.cons (.fld "Worker" (.var 0) "parts") (.cons (.op .ix (.cons (.var 2) (.cons (.op .ix (.cons (.var 1) (.cons (.lit (.int 1)) .nil))) .nil))) .nil))) (.cons (.op .ix (.cons (.var 1) (.cons (.lit (.int 2)) .nil))) .nil))) (.cons (.op .ix (.cons (.var 1) (.cons (.lit (.int 3)) .nil))) .nil)))) .nil))) (.ite (.and (.op .eq (.cons (.op .ix (.cons (.var 1) (.cons (.lit (.int 0)) .nil))) (.cons (.lit (.str "let")) .nil))) (.op .inn (.cons (.op .ix (.cons (.var 1) (.cons (.lit (.int 2)) .nil))) (.cons (.var 2) .nil)))) (.setI (.var 2) (.op .ix (.cons (.var 1) (.cons (.lit (.int 1)) .nil))) (.op .ix (.cons (.var 2) (.cons (.op .ix (.cons (.var 1) (.cons (.lit (.int 2)) .nil))) .nil)))) (.ite (.and (.op .eq (.cons (.op .ix (.cons (.var 1) (.cons (.lit (.int 0)) .nil))) (.cons (.lit (.str "same")) .nil))) (.or (.op .inn (.cons (.op .ix (.cons (.var 1) (.cons (.lit (.int 2)) .nil))) (.cons (.var 2) .nil))) (.op .inn (.cons (.op .ix (.cons (.var 1) (.cons (.lit (.int 3)) .nil))) (.cons (.var 2) .nil))))) (.exp (.me .append (.var 3) (.cons (.op .tup (.cons (.lit (.str "num")) (.cons (.op .ix (.cons (.var 1) (.cons (.lit (.int 1)) .nil))) (.cons (.op .int1 (.cons (.op .eq (.cons (.me .get1 (.var 2) (.cons (.op .ix (.cons (.var 1) (.cons (.lit (.int 2)) .nil))) .nil)) (.cons (.me .get1 (.var 2) (.cons (.op .ix (.cons (.var 1) (.cons (.lit (.int 3)) .nil))) .nil)) .nil))) .nil)) .nil)))) .nil))) (.seq (.ite (.op .eq (.cons (.op .ix (.cons (.var 1) (.cons (.lit (.int 0)) .nil))) (.cons (.lit (.str "let")) .nil))) (.exp (.me .pop2 (.var 2) (.cons (.op .ix (.cons (.var 1) (.cons (.lit (.int 1)) .nil))) (.cons (.lit .non) .nil)))) .skip)
  (.exp (.me .append (.var 3) (.cons (.var 1) .nil))))))))⟩
/-- both: self row env late made one other first second -/
def d_Worker_both : MDef := ⟨5, 9, (.seq (.asg (.name 5) (.op (.dict1 false) (.cons (.var 2) .nil)))
  (.seq (.asg (.name 6) (.op (.dict1 false) (.cons (.var 2) .nil)))
  (.seq (.asg (.name 7) (.op (.list1 false) (.cons (.meth "Worker" "block" (.var 0) (.cons (.op .ix (.cons (.var 1) (.cons (.lit (.int 2)) .nil))) (.cons (.var 5) (.cons (.var 3) .nil)))) .nil)))
  (.seq (.asg (.name 8) (.op (.list1 false) (.cons (.meth "Worker" "block" (.var 0) (.cons (.op .ix (.cons (.var 1) (.cons (.lit (.int 3)) .nil))) (.cons (.var 6) (.cons (.var 3) .nil)))) .nil)))
  (.seq (.exp (.meth "Worker" "meet" (.var 0) (.cons (.var 5) (.cons (.var 7) (.cons (.var 6) (.cons (.var 8) .nil))))))
  (.seq (.exp (.me .clear (.var 2) .nil))
  (.seq (.exp (.me .update (.var 2) (.cons (.var 5) .nil)))
  (.exp (.me .append (.var 4) (.cons (.op .add (.cons (.op .slU (.cons (.var 1) (.cons (.lit (.int 2)) .nil))) (.cons (.op .tup (.cons (.op .tuple1 (.cons (.var 7) .nil)) (.cons (.op .tuple1 (.cons (.var 8) .nil)) .nil))) .nil))) .nil))))))))))⟩
def d_Worker_meet_fb1 : S := (.seq (.asg (.name 7) (.me .get1 (.var 1) (.cons (.var 6) .nil)))
  (.seq (.asg (.name 8) (.me .get1 (.var 3) (.cons (.var 6) .nil)))
  (.ite (.and (.op .ne (.cons (.var 7) (.cons (.var 8) .nil))) (.not (.var 5))) (.seq (.asg (.name 5) (.lit (.bl true)))
  (.ite (.meth "Worker" "can_meet" (.var 0) (.cons (.var 1) (.cons (.var 7) (.cons (.var 3) (.cons (.var 8) .nil))))) (.exp (.meth "Worker" "be_one" (.var 0) (.cons (.var 1) (.cons (.var 2) (.cons (.var 7) (.cons (.var 3) (.cons (.var 4) (.cons (.var 8) .nil)))))))) (.seq (.ite (.op .notN (.cons (.var 7) .nil)) (.exp (.meth "Worker" "together" (.var 0) (.cons (.var 7) (.cons (.var 1) (.cons (.var 2) .nil))))) .skip)
  (.ite (.op .notN (.cons (.var 8) .nil)) (.exp (.meth "Worker" "together" (.var 0) (.cons (.var 8) (.cons (.var 3) (.cons (.var 4) .nil))))) .skip)))) .skip)))
def d_Worker_meet_for1 : S := (.for_ (.name 6) .seq (.cons (.op .sortedset (.cons (.op .add (.cons (.op (.list1 true) (.cons (.var 1) .nil)) (.cons (.op (.list1 true) (.cons (.var 3) .nil)) .nil))) .nil)) .nil) d_Worker_meet_fb1)
def d_Worker_meet_wb1 : S := (.seq (.asg (.name 5) (.lit (.bl false)))
  d_Worker_meet_for1)
def d_Worker_meet_wc1 : E := (.var 5)
def d_Worker_meet_wh1 : S := (.while_ d_Worker_meet_wc1 d_Worker_meet_wb1)
/-- meet: self one first other second uneven name mine theirs -/
def d_Worker_meet : MDef := ⟨5, 9, (.seq (.asg (.name 5) (.lit (.bl true)))
  d_Worker_meet_wh1)⟩
def d_Worker_can_meet_i1 : E := (.op .eq (.cons (.op .ix (.cons (.var 3) (.cons (.var 6) .nil))) (.cons (.var 4) .nil)))
def d_Worker_can_meet_lc1 : E := (.lc true [6] (.name 6) .seq (.cons (.op .sorted (.cons (.op (.list1 true) (.cons (.var 3) .nil)) .nil)) .nil) d_Worker_can_meet_i1 (.var 6))
def d_Worker_can_meet_i2 : E := (.op .eq (.cons (.op .ix (.cons (.var 1) (.cons (.var 6) .nil))) (.cons (.var 2) .nil)))
def d_Worker_can_meet_lc2 : E := (.lc true [6] (.name 6) .seq (.cons (.op .sorted (.cons (.op (.list1 true) (.cons (.var 1) .nil)) .nil)) .nil) d_Worker_can_meet_i2 (.var 6))
def d_Worker_can_meet_e1 : E := (.op .eq (.cons (.op .ix (.cons (.var 3) (.cons (.var 6) .nil))) (.cons (.var 2) .nil)))
def d_Worker_can_meet_lc3 : E := (.lc true [6] (.name 6) .seq (.cons (.var 3) .nil) (.lit (.bl true)) d_Worker_can_meet_e1)
def d_Worker_can_meet_e2 : E := (.op .eq (.cons (.op .ix (.cons (.var 1) (.cons (.var 6) .nil))) (.cons (.var 4) .nil)))
def d_Worker_can_meet_lc4 : E := (.lc true [6] (.name 6) .seq (.cons (.var 1) .nil) (.lit (.bl true)) d_Worker_can_meet_e2)
/-- can_meet: self one mine other theirs here name -/
def d_Worker_can_meet : MDef := ⟨5, 7, (.seq (.ite (.or (.op .isN (.cons (.var 2) .nil)) (.op .isN (.cons (.var 4) .nil))) (.ret (.lit (.bl false))) .skip)
  (.seq (.ite (.or (.op .any (.cons d_Worker_can_meet_lc4 .nil)) (.op .any (.cons d_Worker_can_meet_lc3 .nil))) (.ret (.lit (.bl false))) .skip)
  (.seq (.asg (.name 5) d_Worker_can_meet_lc2)
  (.ret (.op .eq (.cons (.var 5) (.cons d_Worker_can_meet_lc1 .nil)))))))⟩
def d_Worker_be_one_i1 : E := (.op .eq (.cons (.op .ix (.cons (.var 1) (.cons (.var 9) .nil))) (.cons (.var 3) .nil)))
def d_Worker_be_one_lc1 : E := (.lc true [9] (.name 9) .seq (.cons (.var 1) .nil) d_Worker_be_one_i1 (.var 9))
def d_Worker_be_one_fb1 : S := (.seq (.setI (.var 1) (.var 9) (.var 7))
  (.setI (.var 4) (.var 9) (.var 7)))
def d_Worker_be_one_for1 : S := (.for_ (.name 9) .seq (.cons d_Worker_be_one_lc1 .nil) d_Worker_be_one_fb1)
def d_Worker_be_one_fb2 : S := (.seq (.exp (.me .append (.var 2) (.cons (.op .tup (.cons (.lit (.str "copy")) (.cons (.op .ix (.cons (.op .ix (.cons (.fld "Worker" (.var 0) "parts") (.cons (.var 7) .nil))) (.cons (.var 8) .nil))) (.cons (.op .ix (.cons (.op .ix (.cons (.fld "Worker" (.var 0) "parts") (.cons (.var 3) .nil))) (.cons (.var 8) .nil))) .nil)))) .nil)))
  (.exp (.me .append (.var 5) (.cons (.op .tup (.cons (.lit (.str "copy")) (.cons (.op .ix (.cons (.op .ix (.cons (.fld "Worker" (.var 0) "parts") (.cons (.var 7) .nil))) (.cons (.var 8) .nil))) (.cons (.op .ix (.cons (.op .ix (.cons (.fld "Worker" (.var 0) "parts") (.cons (.var 6) .nil))) (.cons (.var 8) .nil))) .nil)))) .nil))))
def d_Worker_be_one_for2 : S := (.for_ (.name 8) .range1 (.cons (.lit (.int 2)) .nil) d_Worker_be_one_fb2)
/-- be_one: self one first mine other second theirs number k name -/
def d_Worker_be_one : MDef := ⟨7, 10, (.seq (.asg (.name 7) (.meth "Worker" "new_thing" (.var 0) .nil))
  (.seq d_Worker_be_one_for2
  d_Worker_be_one_for1))⟩
def d_Worker_is_left_otherwise_e1 : E := (.and (.op .eq (.cons (.op .ix (.cons (.var 2) (.cons (.var 4) .nil))) (.cons (.op .ix (.cons (.var 1) (.cons (.var 3) .nil))) .nil))) (.op .ne (.cons (.me .get1 (.var 1) (.cons (.var 4) .nil)) (.cons (.op .ix (.cons (.var 1) (.cons (.var 3) .nil))) .nil))))
def d_Worker_is_left_otherwise_lc1 : E := (.lc true [4] (.name 4) .seq (.cons (.var 2) .nil) (.lit (.bl true)) d_Worker_is_left_otherwise_e1)
/-- is_left_otherwise: self env trial name one -/
def d_Worker_is_left_otherwise : MDef := ⟨4, 5, (.seq (.ite (.op .ne (.cons (.me .get1 (.var 2) (.cons (.var 3) .nil)) (.cons (.op .ix (.cons (.var 1) (.cons (.var 3) .nil))) .nil))) (.ret (.lit (.bl true))) .skip)
  (.ret (.op .any (.cons d_Worker_is_left_otherwise_lc1 .nil))))⟩
def d_Worker_again_fb1 : S := (.ite (.and (.op .inn (.cons (.var 6) (.cons (.var 7) .nil))) (.op .ne (.cons (.me .get1 (.var 2) (.cons (.var 6) .nil)) (.cons (.op .ix (.cons (.var 7) (.cons (.var 6) .nil))) .nil)))) (.exp (.meth "Worker" "together" (.var 0) (.cons (.op .ix (.cons (.var 7) (.cons (.var 6) .nil))) (.cons (.var 7) (.cons (.var 8) .nil))))) .skip)
def d_Worker_again_for1 : S := (.for_ (.name 6) .seq (.cons (.op .sorted (.cons (.op (.list1 true) (.cons (.var 7) .nil)) .nil)) .nil) d_Worker_again_fb1)
def d_Worker_again_i1 : E := (.meth "Worker" "is_left_otherwise" (.var 0) (.cons (.var 2) (.cons (.var 7) (.cons (.var 6) .nil))))
def d_Worker_again_lc1 : E := (.lc true [6] (.name 6) .seq (.cons (.op .sorted (.cons (.op (.list1 true) (.cons (.var 2) .nil)) .nil)) .nil) d_Worker_again_i1 (.var 6))
def d_Worker_again_i2 : E := (.op .notin (.cons (.var 6) (.cons (.var 5) .nil)))
def d_Worker_again_lc2 : E := (.lc true [6] (.name 6) .seq (.cons (.var 2) .nil) d_Worker_again_i2 (.var 6))
def d_Worker_again_fb2 : S := (.exp (.me .pop1 (.var 2) (.cons (.var 6) .nil)))
def d_Worker_again_for2 : S := (.for_ (.name 6) .seq (.cons d_Worker_again_lc2 .nil) d_Worker_again_fb2)
def d_Worker_again_wb1 : S := (.seq d_Worker_again_for2
  (.seq (.asg (.name 7) (.op (.dict1 false) (.cons (.var 2) .nil)))
  (.seq (.asg (.name 8) (.op (.list1 false) (.cons (.meth "Worker" "block" (.var 0) (.cons (.op .ix (.cons (.var 1) (.cons (.lit (.int 2)) .nil))) (.cons (.var 7) (.cons (.var 5) .nil)))) .nil)))
  (.seq (.asg (.name 9) d_Worker_again_lc1)
  (.seq (.ite (.op .eq (.cons (.var 9) (.cons (.op (.lst true) .nil) .nil))) .brk .skip)
  (.exp (.meth "Worker" "together" (.var 0) (.cons (.op .ix (.cons (.var 2) (.cons (.op .ix (.cons (.var 9) (.cons (.lit (.int 0)) .nil))) .nil))) (.cons (.var 2) (.cons (.var 4) .nil))))))))))
def d_Worker_again_wc1 : E := (.lit (.bl true))
def d_Worker_again_wh1 : S := (.while_ d_Worker_again_wc1 d_Worker_again_wb1)
/-- again: self row env late made head name trial body lost -/
def d_Worker_again : MDef := ⟨5, 10, (.seq (.asg (.name 5) (.call "ahead_of" (.cons (.var 1) (.cons (.var 3) .nil))))
  (.seq d_Worker_again_wh1
  (.seq d_Worker_again_for1
  (.exp (.me .append (.var 4) (.cons (.op .add (.cons (.op .slU (.cons (.var 1) (.cons (.lit (.int 2)) .nil))) (.cons (.op .tup (.cons (.op .tuple1 (.cons (.var 8) .nil)) .nil)) .nil))) .nil))))))⟩
/-- apart_of: program block -/
def d_apart_of : MDef := ⟨1, 2, (.seq (.asg (.name 1) (.meth "Worker" "block" (.make "Worker" (.cons (.var 0) .nil)) (.cons (.op .ix (.cons (.var 0) (.cons (.lit (.int 1)) .nil))) (.cons (.op .disp .nil) (.cons (.op .disp .nil) .nil)))))
  (.seq (.ite (.op .gt (.cons (.call "count_of" (.cons (.var 1) .nil)) (.cons (.glob "MOST" (.int 400)) .nil))) (.ret (.var 0)) .skip)
  (.ret (.op .tup (.cons (.op .ix (.cons (.var 0) (.cons (.lit (.int 0)) .nil))) (.cons (.var 1) .nil))))))⟩
/-- apart: program -/
def d_apart : MDef := ⟨1, 1, (.seq (.exp (.call "need_program" (.cons (.var 0) .nil)))
  (.seq (.ite (.op .gt (.cons (.call "count_of" (.cons (.op .ix (.cons (.var 0) (.cons (.lit (.int 1)) .nil))) .nil)) (.cons (.glob "ROWS_apart" (.int 100)) .nil))) (.raise "TooMany") .skip)
  (.ret (.call "apart_of" (.cons (.var 0) .nil)))))⟩
/-- better: program -/
def d_better : MDef := ⟨1, 1, (.ret (.call "spared" (.cons (.call "through" (.cons (.call "apart" (.cons (.var 0) .nil)) .nil)) .nil)))⟩
def d_holders_fb1 : S := (.setI (.var 1) (.var 5) (.var 6))
def d_holders_for1 : S := (.for_ (.name 5) .seq (.cons (.var 6) .nil) d_holders_fb1)
def d_holders_fb2 : S := (.exp (.me .setdefault (.var 1) (.cons (.var 5) (.cons (.op (.lst true) (.cons (.var 5) .nil)) .nil))))
def d_holders_for2 : S := (.for_ (.name 5) .seq (.cons (.var 4) .nil) d_holders_fb2)
def d_holders_fb3 : S := (.seq (.asg (.name 4) (.ite (.op .inn (.cons (.op .ix (.cons (.var 2) (.cons (.lit (.int 0)) .nil))) (.cons (.op .tup (.cons (.lit (.str "make")) (.cons (.lit (.str "give")) .nil))) .nil))) (.op (.lst true) (.cons (.op .ix (.cons (.var 2) (.cons (.lit (.int 1)) .nil))) .nil)) (.ite (.op .eq (.cons (.op .ix (.cons (.var 2) (.cons (.lit (.int 0)) .nil))) (.cons (.lit (.str "let")) .nil))) (.op (.list1 true) (.cons (.op (.slC 1 3) (.cons (.var 2) .nil)) .nil)) (.op (.lst true) .nil))))
  (.seq d_holders_for2
  (.ite (.and (.op .eq (.cons (.op .ix (.cons (.var 2) (.cons (.lit (.int 0)) .nil))) (.cons (.lit (.str "let")) .nil))) (.op .ne (.cons (.op .ix (.cons (.var 1) (.cons (.op .ix (.cons (.var 2) (.cons (.lit (.int 1)) .nil))) .nil))) (.cons (.op .ix (.cons (.var 1) (.cons (.op .ix (.cons (.var 2) (.cons (.lit (.int 2)) .nil))) .nil))) .nil)))) (.seq (.asg (.name 6) (.op .add (.cons (.op .ix (.cons (.var 1) (.cons (.op .ix (.cons (.var 2) (.cons (.lit (.int 1)) .nil))) .nil))) (.cons (.op .ix (.cons (.var 1) (.cons (.op .ix (.cons (.var 2) (.cons (.lit (.int 2)) .nil))) .nil))) .nil))))
  d_holders_for1) .skip)))
def d_holders_for3 : S := (.for_ (.tup (.cons (.name 2) (.cons (.name 3) .nil))) .seq (.cons (.var 0) .nil) d_holders_fb3)
/-- holders: rows groups row place names name both -/
def d_holders : MDef := ⟨1, 7, (.seq (.asg (.name 1) (.op .disp .nil))
  (.seq d_holders_for3
  (.ret (.var 1))))⟩
def d_may_give_i1 : E := (.and (.op .eq (.cons (.op .ix (.cons (.var 4) (.cons (.lit (.int 0)) .nil))) (.cons (.lit (.str "make")) .nil))) (.op .inn (.cons (.op .ix (.cons (.var 4) (.cons (.lit (.int 1)) .nil))) (.cons (.var 3) .nil))))
def d_may_give_lc1 : E := (.lc true [4, 5] (.tup (.cons (.name 4) (.cons (.name 5) .nil))) .seq (.cons (.var 1) .nil) d_may_give_i1 (.var 5))
def d_may_give_fb1 : S := (.setI (.var 3) (.var 6) (.lit (.bl true)))
def d_may_give_for1 : S := (.for_ (.name 6) .seq (.cons (.op .ix (.cons (.var 2) (.cons (.op .ix (.cons (.var 4) (.cons (.lit (.int 1)) .nil))) .nil))) .nil) d_may_give_fb1)
def d_may_give_fb2 : S := (.ite (.op .eq (.cons (.op .ix (.cons (.var 4) (.cons (.lit (.int 0)) .nil))) (.cons (.lit (.str "give")) .nil))) d_may_give_for1 .skip)
def d_may_give_for2 : S := (.for_ (.tup (.cons (.name 4) (.cons (.name 5) .nil))) .seq (.cons (.var 1) .nil) d_may_give_fb2)
/-- may_give: program rows groups out row place name -/
def d_may_give : MDef := ⟨1, 7, (.seq (.exp (.call "need_program" (.cons (.var 0) .nil)))
  (.seq (.asg (.name 1) (.call "rows_in" (.cons (.op .ix (.cons (.var 0) (.cons (.lit (.int 1)) .nil))) (.cons (.op .tup .nil) .nil))))
  (.seq (.asg (.name 2) (.call "holders" (.cons (.var 1) .nil)))
  (.seq (.asg (.name 3) (.op .disp .nil))
  (.seq d_may_give_for2
  (.ret d_may_give_lc1))))))⟩
def d_inputs_to_e1 : E := (.op .add (.cons (.var 5) (.cons (.op .tup (.cons (.var 6) .nil)) .nil)))
def d_inputs_to_lc1 : E := (.lc true [6] (.name 6) .range1 (.cons (.op .add (.cons (.var 0) (.cons (.lit (.int 1)) .nil))) .nil) (.lit (.bl true)) d_inputs_to_e1)
def d_inputs_to_fb1 : S := (.exp (.me .extend (.var 4) (.cons d_inputs_to_lc1 .nil)))
def d_inputs_to_for1 : S := (.for_ (.name 5) .seq (.cons (.var 2) .nil) d_inputs_to_fb1)
def d_inputs_to_fb2 : S := (.seq (.asg (.name 4) (.op (.lst false) .nil))
  (.seq d_inputs_to_for1
  (.asg (.name 2) (.var 4))))
def d_inputs_to_for2 : S := (.for_ (.name 3) .range1 (.cons (.var 1) .nil) d_inputs_to_fb2)
/-- inputs_to: most many rows turn longer row number -/
def d_inputs_to : MDef := ⟨2, 7, (.seq (.asg (.name 2) (.op (.lst true) (.cons (.op .tup .nil) .nil)))
  (.seq d_inputs_to_for2
  (.ret (.var 2))))⟩
def d_parted_fb1 : S := (.ite (.op .ne (.cons (.call "seen" (.cons (.var 0) (.cons (.var 3) .nil))) (.cons (.call "seen" (.cons (.var 1) (.cons (.var 3) .nil))) .nil))) (.ret (.var 3)) .skip)
def d_parted_for1 : S := (.for_ (.name 3) .seq (.cons (.call "inputs_to" (.cons (.var 2) (.cons (.op .len (.cons (.op .ix (.cons (.var 0) (.cons (.lit (.int 0)) .nil))) .nil)) .nil))) .nil) d_parted_fb1)
/-- parted: one other most inputs -/
def d_parted : MDef := ⟨3, 4, (.seq (.exp (.call "need_program" (.cons (.var 0) .nil)))
  (.seq (.exp (.call "need_program" (.cons (.var 1) .nil)))
  (.seq (.ite (.op .ne (.cons (.op .len (.cons (.op .ix (.cons (.var 0) (.cons (.lit (.int 0)) .nil))) .nil)) (.cons (.op .len (.cons (.op .ix (.cons (.var 1) (.cons (.lit (.int 0)) .nil))) .nil)) .nil))) (.raise "Unlike") .skip)
  (.seq (.ite (.not (.call "is_whole" (.cons (.var 2) (.cons (.lit (.int 0)) (.cons (.lit (.int 999)) .nil))))) (.raise "NoNumber") .skip)
  (.seq (.ite (.or (.and (.op .gt (.cons (.op .pow (.cons (.op .add (.cons (.var 2) (.cons (.lit (.int 1)) .nil))) (.cons (.lit (.int 3)) .nil))) (.cons (.glob "RUNS" (.int 1000)) .nil))) (.op .eq (.cons (.op .len (.cons (.op .ix (.cons (.var 0) (.cons (.lit (.int 0)) .nil))) .nil)) (.cons (.lit (.int 3)) .nil)))) (.and (.op .gt (.cons (.op .pow (.cons (.op .add (.cons (.var 2) (.cons (.lit (.int 1)) .nil))) (.cons (.lit (.int 2)) .nil))) (.cons (.glob "RUNS" (.int 1000)) .nil))) (.op .eq (.cons (.op .len (.cons (.op .ix (.cons (.var 0) (.cons (.lit (.int 0)) .nil))) .nil)) (.cons (.lit (.int 2)) .nil))))) (.raise "TooMany") .skip)
  (.seq d_parted_for1
  (.ret (.lit .non))))))))⟩
def d_lines_of_e1 : E := (.op .str1 (.cons (.var 3) .nil))
def d_lines_of_lc1 : E := (.lc true [3] (.name 3) .seq (.cons (.var 2) .nil) (.lit (.bl true)) d_lines_of_e1)
def d_lines_of_fb1 : S := (.ite (.op .eq (.cons (.op .ix (.cons (.var 2) (.cons (.lit (.int 0)) .nil))) (.cons (.lit (.str "if")) .nil))) (.exp (.me .extend (.var 1) (.cons (.op .add (.cons (.op .add (.cons (.op .add (.cons (.op .add (.cons (.op (.lst true) (.cons (.op .add (.cons (.op .add (.cons (.lit (.str "if ")) (.cons (.op .ix (.cons (.var 2) (.cons (.lit (.int 1)) .nil))) .nil))) (.cons (.lit (.str " {")) .nil))) .nil)) (.cons (.call "lines_of" (.cons (.op .ix (.cons (.var 2) (.cons (.lit (.int 2)) .nil))) .nil)) .nil))) (.cons (.op (.lst true) (.cons (.lit (.str "} else {")) .nil)) .nil))) (.cons (.call "lines_of" (.cons (.op .ix (.cons (.var 2) (.cons (.lit (.int 3)) .nil))) .nil)) .nil))) (.cons (.op (.lst true) (.cons (.lit (.str "}")) .nil)) .nil))) .nil))) (.ite (.op .eq (.cons (.op .ix (.cons (.var 2) (.cons (.lit (.int 0)) .nil))) (.cons (.lit (.str "loop")) .nil))) (.exp (.me .extend (.var 1) (.cons (.op .add (.cons (.op .add (.cons (.op (.lst true) (.cons (.op .add (.cons (.op .add (.cons (.lit (.str "loop ")) (.cons (.op .ix (.cons (.var 2) (.cons (.lit (.int 1)) .nil))) .nil))) (.cons (.lit (.str " {")) .nil))) .nil)) (.cons (.call "lines_of" (.cons (.op .ix (.cons (.var 2) (.cons (.lit (.int 2)) .nil))) .nil)) .nil))) (.cons (.op (.lst true) (.cons (.lit (.str "}")) .nil)) .nil))) .nil))) (.exp (.me .append (.var 1) (.cons (.me .join (.lit (.str " ")) (.cons d_lines_of_lc1 .nil)) .nil)))))
def d_lines_of_for1 : S := (.for_ (.name 2) .seq (.cons (.var 0) .nil) d_lines_of_fb1)
/-- lines_of: block made row part -/
def d_lines_of : MDef := ⟨1, 4, (.seq (.asg (.name 1) (.op (.lst false) .nil))
  (.seq d_lines_of_for1
  (.ret (.var 1))))⟩
/-- text_of: program -/
def d_text_of : MDef := ⟨1, 1, (.ret (.me .join (.lit (.str "\n")) (.cons (.op .add (.cons (.op (.lst true) (.cons (.me .join (.lit (.str " ")) (.cons (.op .add (.cons (.op (.lst true) (.cons (.lit (.str "with")) .nil)) (.cons (.op (.list1 true) (.cons (.op .ix (.cons (.var 0) (.cons (.lit (.int 0)) .nil))) .nil)) .nil))) .nil)) .nil)) (.cons (.call "lines_of" (.cons (.op .ix (.cons (.var 0) (.cons (.lit (.int 1)) .nil))) .nil)) .nil))) .nil)))⟩
/-- shown: program -/
def d_shown : MDef := ⟨1, 1, (.seq (.exp (.call "need_program" (.cons (.var 0) .nil)))
  (.ret (.call "text_of" (.cons (.var 0) .nil))))⟩
def d_number_of_e1 : E := (.op .inn (.cons (.var 1) (.cons (.glob "FIGURES" (.str "0123456789")) .nil)))
def d_number_of_lc1 : E := (.lc true [1] (.name 1) .seq (.cons (.var 0) .nil) (.lit (.bl true)) d_number_of_e1)
/-- number_of: word sign -/
def d_number_of : MDef := ⟨1, 2, (.seq (.ite (.and (.chain .le .le (.lit (.int 1)) (.op .len (.cons (.var 0) .nil)) (.lit (.int 3))) (.op .all (.cons d_number_of_lc1 .nil))) (.ret (.op .int1 (.cons (.var 0) .nil))) .skip)
  (.ret (.var 0)))⟩
def d_read_row_fb1 : S := (.exp (.me .append (.var 3) (.cons (.ite (.op .inn (.cons (.var 4) (.cons (.lit (.str "#f")) .nil))) (.call "number_of" (.cons (.var 5) .nil)) (.var 5)) .nil)))
def d_read_row_for1 : S := (.for_ (.tup (.cons (.name 4) (.cons (.name 5) .nil))) .zip (.cons (.var 2) (.cons (.op .slL (.cons (.var 1) (.cons (.lit (.int 1)) .nil))) .nil)) d_read_row_fb1)
/-- read_row: line words shapes made shape word -/
def d_read_row : MDef := ⟨1, 6, (.seq (.asg (.name 1) (.me .split (.var 0) (.cons (.lit (.str " ")) .nil)))
  (.seq (.asg (.name 2) (.me .get2 (.glob "SHAPES" (.cdic c_SHAPES)) (.cons (.op .ix (.cons (.var 1) (.cons (.lit (.int 0)) .nil))) (.cons (.lit (.str "")) .nil))))
  (.seq (.asg (.name 3) (.op (.lst false) (.cons (.op .ix (.cons (.var 1) (.cons (.lit (.int 0)) .nil))) .nil)))
  (.seq d_read_row_for1
  (.ret (.op .add (.cons (.op .tuple1 (.cons (.var 3) .nil)) (.cons (.op .tuple1 (.cons (.op .slL (.cons (.var 1) (.cons (.op .add (.cons (.lit (.int 1)) (.cons (.op .len (.cons (.var 2) .nil)) .nil))) .nil))) .nil)) .nil))))))))⟩
def d_read_lines_fb1 : S := (.seq (.asg (.name 3) (.me .split (.var 2) (.cons (.lit (.str " ")) .nil)))
  (.ite (.and (.op .eq (.cons (.op .len (.cons (.var 3) .nil)) (.cons (.lit (.int 3)) .nil))) (.and (.op .inn (.cons (.op .ix (.cons (.var 3) (.cons (.lit (.int 0)) .nil))) (.cons (.op .tup (.cons (.lit (.str "if")) (.cons (.lit (.str "loop")) .nil))) .nil))) (.op .eq (.cons (.op .ix (.cons (.var 3) (.cons (.lit (.int 2)) .nil))) (.cons (.lit (.str "{")) .nil))))) (.exp (.me .append (.var 1) (.cons (.op (.lst true) (.cons (.op .ix (.cons (.var 3) (.cons (.lit (.int 0)) .nil))) (.cons (.op (.lst true) .nil) (.cons (.op .ix (.cons (.var 3) (.cons (.lit (.int 1)) .nil))) .nil)))) .nil))) (.ite (.and (.op .eq (.cons (.var 2) (.cons (.lit (.str "} else {")) .nil))) (.op .eq (.cons (.op .ix (.cons (.op .ix (.cons (.var 1) (.cons (.op .neg (.cons (.lit (.int 1)) .nil)) .nil))) (.cons (.lit (.int 0)) .nil))) (.cons (.lit (.str "if")) .nil)))) (.seq (.asg (.tup (.cons (.name 4) (.cons (.name 5) (.cons (.name 6) .nil)))) (.me .popL (.var 1) .nil))
  (.exp (.me .append (.var 1) (.cons (.op (.lst true) (.cons (.lit (.str "else")) (.cons (.op (.lst true) .nil) (.cons (.op .tup (.cons (.var 6) (.cons (.op .tuple1 (.cons (.var 5) .nil)) .nil))) .nil)))) .nil)))) (.ite (.and (.op .eq (.cons (.var 2) (.cons (.lit (.str "}")) .nil))) (.op .inn (.cons (.op .ix (.cons (.op .ix (.cons (.var 1) (.cons (.op .neg (.cons (.lit (.int 1)) .nil)) .nil))) (.cons (.lit (.int 0)) .nil))) (.cons (.op .tup (.cons (.lit (.str "else")) (.cons (.lit (.str "loop")) .nil))) .nil)))) (.seq (.asg (.tup (.cons (.name 4) (.cons (.name 5) (.cons (.name 6) .nil)))) (.me .popL (.var 1) .nil))
  (.ite (.op .eq (.cons (.var 4) (.cons (.lit (.str "loop")) .nil))) (.exp (.me .append (.op .ix (.cons (.op .ix (.cons (.var 1) (.cons (.op .neg (.cons (.lit (.int 1)) .nil)) .nil))) (.cons (.lit (.int 1)) .nil))) (.cons (.op .tup (.cons (.lit (.str "loop")) (.cons (.var 6) (.cons (.op .tuple1 (.cons (.var 5) .nil)) .nil)))) .nil))) (.exp (.me .append (.op .ix (.cons (.op .ix (.cons (.var 1) (.cons (.op .neg (.cons (.lit (.int 1)) .nil)) .nil))) (.cons (.lit (.int 1)) .nil))) (.cons (.op .tup (.cons (.lit (.str "if")) (.cons (.op .ix (.cons (.var 6) (.cons (.lit (.int 0)) .nil))) (.cons (.op .ix (.cons (.var 6) (.cons (.lit (.int 1)) .nil))) (.cons (.op .tuple1 (.cons (.var 5) .nil)) .nil))))) .nil))))) (.exp (.me .append (.op .ix (.cons (.op .ix (.cons (.var 1) (.cons (.op .neg (.cons (.lit (.int 1)) .nil)) .nil))) (.cons (.lit (.int 1)) .nil))) (.cons (.call "read_row" (.cons (.var 2) .nil)) .nil)))))))
def d_read_lines_for1 : S := (.for_ (.name 2) .seq (.cons (.var 0) .nil) d_read_lines_fb1)
/-- read_lines: lines open_ones line words kind rows name -/
def d_read_lines : MDef := ⟨1, 7, (.seq (.asg (.name 1) (.op (.lst false) (.cons (.op (.lst true) (.cons (.lit (.str "top")) (.cons (.op (.lst true) .nil) (.cons (.lit .non) .nil)))) .nil)))
  (.seq d_read_lines_for1
  (.seq (.ite (.op .ne (.cons (.op .len (.cons (.var 1) .nil)) (.cons (.lit (.int 1)) .nil))) (.ret (.lit .non)) .skip)
  (.ret (.op .tuple1 (.cons (.op .ix (.cons (.op .ix (.cons (.var 1) (.cons (.lit (.int 0)) .nil))) (.cons (.lit (.int 1)) .nil))) .nil))))))⟩
/-- read: text lines program -/
def d_read : MDef := ⟨1, 3, (.seq (.ite (.not (.op .isStr (.cons (.var 0) .nil))) (.raise "NoText") .skip)
  (.seq (.asg (.name 1) (.me .split (.var 0) (.cons (.lit (.str "\n")) .nil)))
  (.seq (.asg (.name 2) (.op .tup (.cons (.op .tuple1 (.cons (.op .slL (.cons (.me .split (.op .ix (.cons (.var 1) (.cons (.lit (.int 0)) .nil))) (.cons (.lit (.str " ")) .nil)) (.cons (.lit (.int 1)) .nil))) .nil)) (.cons (.call "read_lines" (.cons (.op .slL (.cons (.var 1) (.cons (.lit (.int 1)) .nil))) .nil)) .nil))))
  (.seq (.ite (.or (.not (.call "is_program" (.cons (.var 2) .nil))) (.op .ne (.cons (.call "text_of" (.cons (.var 2) .nil)) (.cons (.var 0) .nil)))) (.raise "NoText") .skip)
  (.ret (.var 2))))))⟩
/-- the module has them -/
structure HasP (G : Tab) : Prop where
  is_word : G (.fn "is_word") = some d_is_word
  is_whole : G (.fn "is_whole") = some d_is_whole
  is_part : G (.fn "is_part") = some d_is_part
  blocks_of : G (.fn "blocks_of") = some d_blocks_of
  is_row : G (.fn "is_row") = some d_is_row
  is_block : ∃ n, G (.fn "is_block") = some (d_is_block n)
  count_of : G (.fn "count_of") = some d_count_of
  kinds_of : G (.fn "kinds_of") = some d_kinds_of
  kinds_in : G (.fn "kinds_in") = some d_kinds_in
  reads : G (.fn "reads") = some d_reads
  sets : G (.fn "sets") = some d_sets
  surely : G (.fn "surely") = some d_surely
  is_program : ∃ n, G (.fn "is_program") = some (d_is_program n)
  need_program : G (.fn "need_program") = some d_need_program
/-- the module has them -/
structure HasR (G : Tab) : Prop extends HasP G where
  Runner___init__ : G (.me "Runner" "__init__") = some d_Runner___init__
  Runner_block : G (.me "Runner" "block") = some d_Runner_block
  Runner_row : G (.me "Runner" "row") = some d_Runner_row
  Runner_value : G (.me "Runner" "value") = some d_Runner_value
  Runner_tell : G (.me "Runner" "tell") = some d_Runner_tell
  need_inputs : G (.fn "need_inputs") = some d_need_inputs
  runner_of : G (.fn "runner_of") = some d_runner_of
  run : G (.fn "run") = some d_run
instance {G : Tab} : Coe (HasR G) (HasP G) := ⟨HasR.toHasP⟩
/-- the module has them -/
structure HasG (G : Tab) : Prop where
  _law_cell_at : G (.fn "_law_cell_at") = some d__law_cell_at
  _law_mixed : G (.fn "_law_mixed") = some d__law_mixed
  _law_draw : G (.fn "_law_draw") = some d__law_draw
  _law_pick : G (.fn "_law_pick") = some d__law_pick
  _law_simple : G (.fn "_law_simple") = some d__law_simple
  _law_block : G (.fn "_law_block") = some d__law_block
  _law_names : G (.fn "_law_names") = some d__law_names
/-- the module has them -/
structure HasM (G : Tab) : Prop where
  most_of : G (.fn "most_of") = some d_most_of
  most_makes : G (.fn "most_makes") = some d_most_makes
/-- the module has them -/
structure HasY (G : Tab) : Prop where
  rows_in : G (.fn "rows_in") = some d_rows_in
  size : G (.fn "size") = some d_size
/-- the module has them -/
structure HasH (G : Tab) : Prop where
  rows_in : G (.fn "rows_in") = some d_rows_in
  holders : G (.fn "holders") = some d_holders
  may_give : G (.fn "may_give") = some d_may_give
/-- the module has them -/
structure HasA (G : Tab) : Prop where
  ahead : G (.fn "ahead") = some d_ahead
  ahead_of : G (.fn "ahead_of") = some d_ahead_of
/-- the module has them -/
structure HasS (G : Tab) : Prop extends HasA G where
  head_of : G (.fn "head_of") = some d_head_of
  left_of : G (.fn "left_of") = some d_left_of
  spared : G (.fn "spared") = some d_spared
instance {G : Tab} : Coe (HasS G) (HasA G) := ⟨HasS.toHasA⟩
/-- the module has them -/
structure HasT (G : Tab) : Prop where
  all_sets : G (.fn "all_sets") = some d_all_sets
  without : G (.fn "without") = some d_without
  turned : G (.fn "turned") = some d_turned
  through_block : G (.fn "through_block") = some d_through_block
  through : G (.fn "through") = some d_through
/-- the module has them -/
structure HasW (G : Tab) : Prop where
  names_in : G (.fn "names_in") = some d_names_in
  word_of : G (.fn "word_of") = some d_word_of
  Worker___init__ : G (.me "Worker" "__init__") = some d_Worker___init__
  Worker_new_thing : G (.me "Worker" "new_thing") = some d_Worker_new_thing
  Worker_new_word : G (.me "Worker" "new_word") = some d_Worker_new_word
  Worker_together : G (.me "Worker" "together") = some d_Worker_together
  Worker_block : G (.me "Worker" "block") = some d_Worker_block
  Worker_row : G (.me "Worker" "row") = some d_Worker_row
  Worker_make : G (.me "Worker" "make") = some d_Worker_make
  Worker_touch : G (.me "Worker" "touch") = some d_Worker_touch
  Worker_both : G (.me "Worker" "both") = some d_Worker_both
  Worker_meet : G (.me "Worker" "meet") = some d_Worker_meet
  Worker_can_meet : G (.me "Worker" "can_meet") = some d_Worker_can_meet
  Worker_be_one : G (.me "Worker" "be_one") = some d_Worker_be_one
  Worker_is_left_otherwise : G (.me "Worker" "is_left_otherwise") = some d_Worker_is_left_otherwise
  Worker_again : G (.me "Worker" "again") = some d_Worker_again
  apart_of : G (.fn "apart_of") = some d_apart_of
  apart : G (.fn "apart") = some d_apart
/-- the module has them -/
structure HasX (G : Tab) : Prop where
  lines_of : G (.fn "lines_of") = some d_lines_of
  text_of : G (.fn "text_of") = some d_text_of
  shown : G (.fn "shown") = some d_shown
/-- the module has them -/
structure HasQ (G : Tab) : Prop where
  inputs_to : G (.fn "inputs_to") = some d_inputs_to
  parted : G (.fn "parted") = some d_parted
end Mi.Sh
set_option Elab.async false
set_option linter.all false
set_option maxRecDepth 100000
set_option maxHeartbeats 0
namespace Mi.L
open PySem PySem.Spec PyProof.Rows L2 Mi
def top (i : Nat) : Stmt := PySem.Challenge.pw_takeapart_k31_whole_joined.main.body.getD i (.Pass ⟨0, 0, 0, 0⟩)
def inCls (j : Nat) : Stmt → Stmt
  | .ClassDef (body := b) .. => b.getD j (.Pass ⟨0, 0, 0, 0⟩)
  | s => s
open Mi.Sh (c_SHAPES c_SETS)
def d__law_less_fb1 : S := (.ite (.op .eq (.cons (.op .ix (.cons (.var 2) (.cons (.lit (.int 0)) .nil))) (.cons (.lit (.str "if")) .nil))) (.exp (.me .append (.var 1) (.cons (.op .add (.cons (.op .slU (.cons (.var 2) (.cons (.lit (.int 2)) .nil))) (.cons (.op .tup (.cons (.call "_law_less" (.cons (.op .ix (.cons (.var 2) (.cons (.lit (.int 2)) .nil))) .nil)) (.cons (.call "_law_less" (.cons (.op .ix (.cons (.var 2) (.cons (.lit (.int 3)) .nil))) .nil)) .nil))) .nil))) .nil))) (.ite (.op .eq (.cons (.op .ix (.cons (.var 2) (.cons (.lit (.int 0)) .nil))) (.cons (.lit (.str "loop")) .nil))) (.exp (.me .append (.var 1) (.cons (.op .add (.cons (.op .slU (.cons (.var 2) (.cons (.lit (.int 2)) .nil))) (.cons (.op .tup (.cons (.call "_law_less" (.cons (.op .ix (.cons (.var 2) (.cons (.lit (.int 2)) .nil))) .nil)) .nil)) .nil))) .nil))) (.ite (.op .ne (.cons (.op .ix (.cons (.var 2) (.cons (.lit (.int 0)) .nil))) (.cons (.lit (.str "stir")) .nil))) (.exp (.me .append (.var 1) (.cons (.var 2) .nil))) .skip)))
def d__law_less_for1 : S := (.for_ (.name 2) .seq (.cons (.var 0) .nil) d__law_less_fb1)
/-- _law_less: block made row -/
def d__law_less : MDef := ⟨1, 3, (.seq (.asg (.name 1) (.op (.lst false) .nil))
  (.seq d__law_less_for1
  (.ret (.op .tuple1 (.cons (.var 1) .nil)))))⟩
def d__law_named_fb1 : S := (.seq (.ite (.op .isTup (.cons (.var 4) .nil)) (.asg (.name 4) (.call "_law_named" (.cons (.var 4) .nil))) (.ite (.op .isStr (.cons (.var 4) .nil)) (.asg (.name 4) (.op .add (.cons (.lit (.str "zz")) (.cons (.var 4) .nil)))) .skip))
  (.exp (.me .append (.var 3) (.cons (.var 4) .nil))))
def d__law_named_for1 : S := (.for_ (.name 4) .seq (.cons (.op .slL (.cons (.var 2) (.cons (.lit (.int 1)) .nil))) .nil) d__law_named_fb1)
def d__law_named_fb2 : S := (.seq (.asg (.name 3) (.op (.lst false) (.cons (.op .ix (.cons (.var 2) (.cons (.lit (.int 0)) .nil))) .nil)))
  (.seq d__law_named_for1
  (.exp (.me .append (.var 1) (.cons (.op .tuple1 (.cons (.var 3) .nil)) .nil)))))
def d__law_named_for2 : S := (.for_ (.name 2) .seq (.cons (.var 0) .nil) d__law_named_fb2)
/-- _law_named: block made row new part -/
def d__law_named : MDef := ⟨1, 5, (.seq (.asg (.name 1) (.op (.lst false) .nil))
  (.seq d__law_named_for2
  (.ret (.op .tuple1 (.cons (.var 1) .nil)))))⟩
def d_law_fb1 : S := (.exp (.me .append (.var 14) (.cons (.ite (.op .eq (.cons (.op .ix (.cons (.var 15) (.cons (.lit (.int 0)) .nil))) (.cons (.lit (.str "say")) .nil))) (.var 15) (.op .add (.cons (.op .tup (.cons (.lit (.str "give")) (.cons (.op .add (.cons (.op .ix (.cons (.var 15) (.cons (.lit (.int 1)) .nil))) (.cons (.op .len (.cons (.var 9) .nil)) .nil))) .nil))) (.cons (.op .slL (.cons (.var 15) (.cons (.lit (.int 2)) .nil))) .nil)))) .nil)))
def d_law_for1 : S := (.for_ (.name 15) .seq (.cons (.var 11) .nil) d_law_fb1)
def d_law_fb2 : S := (.seq (.asg (.name 6) (.call "_law_inputs" (.cons (.var 0) (.cons (.var 1) (.cons (.var 2) .nil)))))
  (.seq (.asg (.name 7) (.call "_law_inputs" (.cons (.var 0) (.cons (.var 1) (.cons (.var 3) .nil)))))
  (.seq (.asg (.tup (.cons (.name 8) (.cons (.name 9) (.cons (.name 10) .nil)))) (.call "run" (.cons (.var 2) (.cons (.var 6) .nil))))
  (.seq (.asg (.tup (.cons (.name 11) (.cons (.name 12) (.cons (.name 13) .nil)))) (.call "run" (.cons (.var 3) (.cons (.var 7) .nil))))
  (.seq (.asg (.name 14) (.op (.lst false) .nil))
  (.seq d_law_for1
  (.ite (.op .ne (.cons (.call "run" (.cons (.var 4) (.cons (.op .add (.cons (.var 6) (.cons (.var 7) .nil))) .nil))) (.cons (.op .tup (.cons (.op .add (.cons (.var 8) (.cons (.var 14) .nil))) (.cons (.op .add (.cons (.var 9) (.cons (.var 12) .nil))) (.cons (.op .add (.cons (.var 10) (.cons (.var 13) .nil))) .nil)))) .nil))) (.ret (.lit (.bl false))) .skip)))))))
def d_law_for2 : S := (.for_ (.name 5) .range1 (.cons (.lit (.int 3)) .nil) d_law_fb2)
def d_law_e1 : E := (.op .add (.cons (.lit (.str "zz")) (.cons (.var 16) .nil)))
def d_law_lc1 : E := (.lc true [16] (.name 16) .seq (.cons (.op .ix (.cons (.var 3) (.cons (.lit (.int 0)) .nil))) .nil) (.lit (.bl true)) d_law_e1)
/-- law: script town one two both k first second notes outside many later more made moved note name -/
def d_law : MDef := ⟨1, 17, (.seq (.asg (.name 1) (.op (.lst false) .nil))
  (.seq (.asg (.name 2) (.call "_law_program" (.cons (.var 0) (.cons (.var 1) (.cons (.lit (.int 5)) (.cons (.lit (.int 2)) .nil))))))
  (.seq (.asg (.name 3) (.call "_law_program" (.cons (.var 0) (.cons (.var 1) (.cons (.lit (.int 5)) (.cons (.lit (.int 2)) .nil))))))
  (.seq (.asg (.name 2) (.op .tup (.cons (.op .ix (.cons (.var 2) (.cons (.lit (.int 0)) .nil))) (.cons (.call "_law_less" (.cons (.op .ix (.cons (.var 2) (.cons (.lit (.int 1)) .nil))) .nil)) .nil))))
  (.seq (.asg (.name 3) (.op .tup (.cons (.op .ix (.cons (.var 3) (.cons (.lit (.int 0)) .nil))) (.cons (.call "_law_less" (.cons (.op .ix (.cons (.var 3) (.cons (.lit (.int 1)) .nil))) .nil)) .nil))))
  (.seq (.ite (.op .gt (.cons (.op .add (.cons (.op .len (.cons (.op .ix (.cons (.var 2) (.cons (.lit (.int 0)) .nil))) .nil)) (.cons (.op .len (.cons (.op .ix (.cons (.var 3) (.cons (.lit (.int 0)) .nil))) .nil)) .nil))) (.cons (.lit (.int 3)) .nil))) (.ret (.lit (.bl true))) .skip)
  (.seq (.asg (.name 4) (.op .tup (.cons (.op .add (.cons (.op .ix (.cons (.var 2) (.cons (.lit (.int 0)) .nil))) (.cons (.op .tuple1 (.cons d_law_lc1 .nil)) .nil))) (.cons (.op .add (.cons (.op .ix (.cons (.var 2) (.cons (.lit (.int 1)) .nil))) (.cons (.call "_law_named" (.cons (.op .ix (.cons (.var 3) (.cons (.lit (.int 1)) .nil))) .nil)) .nil))) .nil))))
  (.seq d_law_for2
  (.ret (.lit (.bl true)))))))))))⟩

abbrev d_is_word : MDef := Sh.d_is_word
abbrev d_is_whole : MDef := Sh.d_is_whole
abbrev d_is_part : MDef := Sh.d_is_part
abbrev d_blocks_of : MDef := Sh.d_blocks_of
abbrev d_is_row : MDef := Sh.d_is_row
abbrev d_is_block : MDef := (Sh.d_is_block "ROWS")
abbrev d_count_of : MDef := Sh.d_count_of
abbrev d_kinds_of : MDef := Sh.d_kinds_of
abbrev d_kinds_in : MDef := Sh.d_kinds_in
abbrev d_reads : MDef := Sh.d_reads
abbrev d_sets : MDef := Sh.d_sets
abbrev d_surely : MDef := Sh.d_surely
abbrev d_is_program : MDef := (Sh.d_is_program "ROWS")
abbrev d_need_program : MDef := Sh.d_need_program
abbrev d_Runner___init__ : MDef := Sh.d_Runner___init__
abbrev d_Runner_block : MDef := Sh.d_Runner_block
abbrev d_Runner_row : MDef := Sh.d_Runner_row
abbrev d_Runner_value : MDef := Sh.d_Runner_value
abbrev d_Runner_tell : MDef := Sh.d_Runner_tell
abbrev d_need_inputs : MDef := Sh.d_need_inputs
abbrev d_runner_of : MDef := Sh.d_runner_of
abbrev d_run : MDef := Sh.d_run
abbrev d__law_cell_at : MDef := Sh.d__law_cell_at
abbrev d__law_mixed : MDef := Sh.d__law_mixed
abbrev d__law_draw : MDef := Sh.d__law_draw
abbrev d__law_pick : MDef := Sh.d__law_pick
abbrev d__law_simple : MDef := Sh.d__law_simple
abbrev d__law_block : MDef := Sh.d__law_block
abbrev d__law_names : MDef := Sh.d__law_names
abbrev d__law_program : MDef := Sh.d__law_program2
abbrev d__law_size : MDef := Sh.d__law_size
abbrev d__law_inputs : MDef := Sh.d__law_inputs
def k0 : Ck := ⟨[], ⟨.function, [], false, false, []⟩, [("LETTERS", (.str "abcdefghijklmnopqrstuvwxyz")), ("LONGEST", (.int 6)), ("GREATEST", (.int 999)), ("ROWS", (.int 400)), ("DEEP", (.int 6)), ("PARAMS", (.int 3)), ("SHAPES", (.cdic c_SHAPES)), ("SETS", (.tup c_SETS)), ("TURNS", (.int 9)), ("REST", (.int 1000))], ((["is_word", "is_whole", "is_part", "blocks_of", "is_row", "is_block", "count_of", "kinds_of", "kinds_in", "reads", "sets", "surely", "is_program", "need_program", "need_inputs", "runner_of", "run", "_law_cell_at", "_law_mixed", "_law_draw", "_law_pick", "_law_simple", "_law_block", "_law_names", "_law_program", "_law_size", "_law_inputs", "_law_less", "_law_named"] : List PySem.Str)), [("Runner", "block"), ("Runner", "row"), ("Runner", "value"), ("Runner", "tell")], ((["Runner"] : List PySem.Str)), [("Runner", "worth"), ("Runner", "things"), ("Runner", "given"), ("Runner", "noted"), ("Runner", "sites")], ((["ApartError", "NoProgram", "NoInputs"] : List PySem.Str)), ⟨.function, [], false, false, []⟩⟩
abbrev s_is_word : Stmt := (top 13)
def k_is_word : Ck := { k0 with N := ((["thing"] : List PySem.Str)), sc := defScope s_is_word, fsc := defScope s_is_word }
abbrev s_is_whole : Stmt := (top 14)
def k_is_whole : Ck := { k0 with N := ((["thing", "low", "most"] : List PySem.Str)), sc := defScope s_is_whole, fsc := defScope s_is_whole }
abbrev s_is_part : Stmt := (top 15)
def k_is_part : Ck := { k0 with N := ((["shape", "thing"] : List PySem.Str)), sc := defScope s_is_part, fsc := defScope s_is_part }
abbrev s_blocks_of : Stmt := (top 16)
def k_blocks_of : Ck := { k0 with N := ((["row"] : List PySem.Str)), sc := defScope s_blocks_of, fsc := defScope s_blocks_of }
abbrev s_is_row : Stmt := (top 17)
def k_is_row : Ck := { k0 with N := ((["thing", "deep", "shapes", "shape", "part"] : List PySem.Str)), sc := defScope s_is_row, fsc := defScope s_is_row }
abbrev s_is_block : Stmt := (top 18)
def k_is_block : Ck := { k0 with N := ((["thing", "deep", "one"] : List PySem.Str)), sc := defScope s_is_block, fsc := defScope s_is_block }
abbrev s_count_of : Stmt := (top 19)
def k_count_of : Ck := { k0 with N := ((["block", "row", "part"] : List PySem.Str)), sc := defScope s_count_of, fsc := defScope s_count_of }
abbrev s_kinds_of : Stmt := (top 20)
def k_kinds_of : Ck := { k0 with N := ((["row", "shape", "part"] : List PySem.Str)), sc := defScope s_kinds_of, fsc := defScope s_kinds_of }
abbrev s_kinds_in : Stmt := (top 21)
def k_kinds_in : Ck := { k0 with N := ((["block", "known", "row", "name", "kind", "part"] : List PySem.Str)), sc := defScope s_kinds_in, fsc := defScope s_kinds_in }
abbrev s_reads : Stmt := (top 22)
def k_reads : Ck := { k0 with N := ((["row", "names", "name", "kind"] : List PySem.Str)), sc := defScope s_reads, fsc := defScope s_reads }
abbrev s_sets : Stmt := (top 23)
def k_sets : Ck := { k0 with N := ((["row"] : List PySem.Str)), sc := defScope s_sets, fsc := defScope s_sets }
abbrev s_surely : Stmt := (top 24)
def k_surely : Ck := { k0 with N := ((["block", "have", "row", "found", "name", "part"] : List PySem.Str)), sc := defScope s_surely, fsc := defScope s_surely }
abbrev s_is_program : Stmt := (top 25)
def k_is_program : Ck := { k0 with N := ((["thing", "known", "name"] : List PySem.Str)), sc := defScope s_is_program, fsc := defScope s_is_program }
abbrev s_need_program : Stmt := (top 26)
def k_need_program : Ck := { k0 with N := ((["program"] : List PySem.Str)), sc := defScope s_need_program, fsc := defScope s_need_program }
abbrev s_Runner___init__ : Stmt := (inCls 0 (top 30))
def k_Runner___init__ : Ck := { k0 with N := ((["self", "program", "inputs"] : List PySem.Str)), sc := defScope s_Runner___init__, fsc := defScope s_Runner___init__ }
abbrev s_Runner_block : Stmt := (inCls 1 (top 30))
def k_Runner_block : Ck := { k0 with N := ((["self", "block", "place", "number", "row"] : List PySem.Str)), sc := defScope s_Runner_block, fsc := defScope s_Runner_block }
abbrev s_Runner_row : Stmt := (inCls 2 (top 30))
def k_Runner_row : Ck := { k0 with N := ((["self", "row", "place", "which", "turns"] : List PySem.Str)), sc := defScope s_Runner_row, fsc := defScope s_Runner_row }
abbrev s_Runner_value : Stmt := (inCls 3 (top 30))
def k_Runner_value : Ck := { k0 with N := ((["self", "row"] : List PySem.Str)), sc := defScope s_Runner_value, fsc := defScope s_Runner_value }
abbrev s_Runner_tell : Stmt := (inCls 4 (top 30))
def k_Runner_tell : Ck := { k0 with N := ((["self", "row", "number", "some"] : List PySem.Str)), sc := defScope s_Runner_tell, fsc := defScope s_Runner_tell }
abbrev s_need_inputs : Stmt := (top 31)
def k_need_inputs : Ck := { k0 with N := ((["program", "inputs", "number"] : List PySem.Str)), sc := defScope s_need_inputs, fsc := defScope s_need_inputs }
abbrev s_runner_of : Stmt := (top 32)
def k_runner_of : Ck := { k0 with N := ((["program", "inputs", "runner"] : List PySem.Str)), sc := defScope s_runner_of, fsc := defScope s_runner_of }
abbrev s_run : Stmt := (top 33)
def k_run : Ck := { k0 with N := ((["program", "inputs", "runner", "outside", "number"] : List PySem.Str)), sc := defScope s_run, fsc := defScope s_run }
abbrev s__law_cell_at : Stmt := (top 35)
def k__law_cell_at : Ck := { k0 with N := ((["script", "k"] : List PySem.Str)), sc := defScope s__law_cell_at, fsc := defScope s__law_cell_at }
abbrev s__law_mixed : Stmt := (top 36)
def k__law_mixed : Ck := { k0 with N := ((["script", "k", "many", "drawn"] : List PySem.Str)), sc := defScope s__law_mixed, fsc := defScope s__law_mixed }
abbrev s__law_draw : Stmt := (top 37)
def k__law_draw : Ck := { k0 with N := ((["script", "town", "many"] : List PySem.Str)), sc := defScope s__law_draw, fsc := defScope s__law_draw }
abbrev s__law_pick : Stmt := (top 38)
def k__law_pick : Ck := { k0 with N := ((["script", "town", "some"] : List PySem.Str)), sc := defScope s__law_pick, fsc := defScope s__law_pick }
abbrev s__law_simple : Stmt := (top 39)
def k__law_simple : Ck := { k0 with N := ((["script", "town", "names", "have", "numbers", "things", "kind", "goal", "one", "two", "thing", "held", "some", "name"] : List PySem.Str)), sc := defScope s__law_simple, fsc := defScope s__law_simple }
abbrev s__law_block : Stmt := (top 40)
def k__law_block : Ck := { k0 with N := ((["script", "town", "names", "have", "many", "deep", "made", "k", "kind", "numbers", "one", "two", "first", "second", "name", "within", "body", "row"] : List PySem.Str)), sc := defScope s__law_block, fsc := defScope s__law_block }
abbrev s__law_names : Stmt := (top 41)
def k__law_names : Ck := { k0 with N := ((["script", "town", "rest", "k", "order", "sign"] : List PySem.Str)), sc := defScope s__law_names, fsc := defScope s__law_names }
abbrev s__law_program : Stmt := (top 42)
def k__law_program : Ck := { k0 with N := ((["script", "town", "many", "deep", "names", "params", "have", "block", "name"] : List PySem.Str)), sc := defScope s__law_program, fsc := defScope s__law_program }
abbrev s__law_size : Stmt := (top 43)
def k__law_size : Ck := { k0 with N := ((["block", "many", "row", "inner"] : List PySem.Str)), sc := defScope s__law_size, fsc := defScope s__law_size }
abbrev s__law_inputs : Stmt := (top 44)
def k__law_inputs : Ck := { k0 with N := ((["script", "town", "program", "name"] : List PySem.Str)), sc := defScope s__law_inputs, fsc := defScope s__law_inputs }
abbrev s__law_less : Stmt := (top 45)
def k__law_less : Ck := { k0 with N := ((["block", "made", "row"] : List PySem.Str)), sc := defScope s__law_less, fsc := defScope s__law_less }
abbrev s__law_named : Stmt := (top 46)
def k__law_named : Ck := { k0 with N := ((["block", "made", "row", "new", "part"] : List PySem.Str)), sc := defScope s__law_named, fsc := defScope s__law_named }
abbrev s_law : Stmt := (top 47)
def k_law : Ck := { k0 with N := ((["script", "town", "one", "two", "both", "k", "first", "second", "notes", "outside", "many", "later", "more", "made", "moved", "note", "name"] : List PySem.Str)), sc := defScope s_law, fsc := defScope s_law }
def i_is_word : DefI := ⟨(.fn "is_word"), ⟨("is_word", none), "is_word", "is_word", defArgs s_is_word, defBody s_is_word, defScope s_is_word, [], []⟩, ((["thing"] : List PySem.Str)), d_is_word⟩
theorem b_is_word : i_is_word.bind := by
  intro kV doc pm an cdv ct us hl
  have hl : us.length = 1 := hl
  match us, hl with
  | [_], _ => kernel_rfl
def i_is_whole : DefI := ⟨(.fn "is_whole"), ⟨("is_whole", none), "is_whole", "is_whole", defArgs s_is_whole, defBody s_is_whole, defScope s_is_whole, [], []⟩, ((["thing", "low", "most"] : List PySem.Str)), d_is_whole⟩
theorem b_is_whole : i_is_whole.bind := by
  intro kV doc pm an cdv ct us hl
  have hl : us.length = 3 := hl
  match us, hl with
  | [_, _, _], _ => kernel_rfl
def i_is_part : DefI := ⟨(.fn "is_part"), ⟨("is_part", none), "is_part", "is_part", defArgs s_is_part, defBody s_is_part, defScope s_is_part, [], []⟩, ((["shape", "thing"] : List PySem.Str)), d_is_part⟩
theorem b_is_part : i_is_part.bind := by
  intro kV doc pm an cdv ct us hl
  have hl : us.length = 2 := hl
  match us, hl with
  | [_, _], _ => kernel_rfl
def i_blocks_of : DefI := ⟨(.fn "blocks_of"), ⟨("blocks_of", none), "blocks_of", "blocks_of", defArgs s_blocks_of, defBody s_blocks_of, defScope s_blocks_of, [], []⟩, ((["row"] : List PySem.Str)), d_blocks_of⟩
theorem b_blocks_of : i_blocks_of.bind := by
  intro kV doc pm an cdv ct us hl
  have hl : us.length = 1 := hl
  match us, hl with
  | [_], _ => kernel_rfl
def i_is_row : DefI := ⟨(.fn "is_row"), ⟨("is_row", none), "is_row", "is_row", defArgs s_is_row, defBody s_is_row, defScope s_is_row, [], []⟩, ((["thing", "deep", "shapes", "shape", "part"] : List PySem.Str)), d_is_row⟩
theorem b_is_row : i_is_row.bind := by
  intro kV doc pm an cdv ct us hl
  have hl : us.length = 2 := hl
  match us, hl with
  | [_, _], _ => kernel_rfl
def i_is_block : DefI := ⟨(.fn "is_block"), ⟨("is_block", none), "is_block", "is_block", defArgs s_is_block, defBody s_is_block, defScope s_is_block, [], []⟩, ((["thing", "deep", "one"] : List PySem.Str)), d_is_block⟩
theorem b_is_block : i_is_block.bind := by
  intro kV doc pm an cdv ct us hl
  have hl : us.length = 2 := hl
  match us, hl with
  | [_, _], _ => kernel_rfl
def i_count_of : DefI := ⟨(.fn "count_of"), ⟨("count_of", none), "count_of", "count_of", defArgs s_count_of, defBody s_count_of, defScope s_count_of, [], []⟩, ((["block", "row", "part"] : List PySem.Str)), d_count_of⟩
theorem b_count_of : i_count_of.bind := by
  intro kV doc pm an cdv ct us hl
  have hl : us.length = 1 := hl
  match us, hl with
  | [_], _ => kernel_rfl
def i_kinds_of : DefI := ⟨(.fn "kinds_of"), ⟨("kinds_of", none), "kinds_of", "kinds_of", defArgs s_kinds_of, defBody s_kinds_of, defScope s_kinds_of, [], []⟩, ((["row", "shape", "part"] : List PySem.Str)), d_kinds_of⟩
theorem b_kinds_of : i_kinds_of.bind := by
  intro kV doc pm an cdv ct us hl
  have hl : us.length = 1 := hl
  match us, hl with
  | [_], _ => kernel_rfl
def i_kinds_in : DefI := ⟨(.fn "kinds_in"), ⟨("kinds_in", none), "kinds_in", "kinds_in", defArgs s_kinds_in, defBody s_kinds_in, defScope s_kinds_in, [], []⟩, ((["block", "known", "row", "name", "kind", "part"] : List PySem.Str)), d_kinds_in⟩
theorem b_kinds_in : i_kinds_in.bind := by
  intro kV doc pm an cdv ct us hl
  have hl : us.length = 2 := hl
  match us, hl with
  | [_, _], _ => kernel_rfl
def i_reads : DefI := ⟨(.fn "reads"), ⟨("reads", none), "reads", "reads", defArgs s_reads, defBody s_reads, defScope s_reads, [], []⟩, ((["row", "names", "name", "kind"] : List PySem.Str)), d_reads⟩
theorem b_reads : i_reads.bind := by
  intro kV doc pm an cdv ct us hl
  have hl : us.length = 1 := hl
  match us, hl with
  | [_], _ => kernel_rfl
def i_sets : DefI := ⟨(.fn "sets"), ⟨("sets", none), "sets", "sets", defArgs s_sets, defBody s_sets, defScope s_sets, [], []⟩, ((["row"] : List PySem.Str)), d_sets⟩
theorem b_sets : i_sets.bind := by
  intro kV doc pm an cdv ct us hl
  have hl : us.length = 1 := hl
  match us, hl with
  | [_], _ => kernel_rfl
def i_surely : DefI := ⟨(.fn "surely"), ⟨("surely", none), "surely", "surely", defArgs s_surely, defBody s_surely, defScope s_surely, [], []⟩, ((["block", "have", "row", "found", "name", "part"] : List PySem.Str)), d_surely⟩
theorem b_surely : i_surely.bind := by
  intro kV doc pm an cdv ct us hl
  have hl : us.length = 2 := hl
  match us, hl with
  | [_, _], _ => kernel_rfl
def i_is_program : DefI := ⟨(.fn "is_program"), ⟨("is_program", none), "is_program", "is_program", defArgs s_is_program, defBody s_is_program, defScope s_is_program, [], []⟩, ((["thing", "known", "name"] : List PySem.Str)), d_is_program⟩
theorem b_is_program : i_is_program.bind := by
  intro kV doc pm an cdv ct us hl
  have hl : us.length = 1 := hl
  match us, hl with
  | [_], _ => kernel_rfl
def i_need_program : DefI := ⟨(.fn "need_program"), ⟨("need_program", none), "need_program", "need_program", defArgs s_need_program, defBody s_need_program, defScope s_need_program, [], []⟩, ((["program"] : List PySem.Str)), d_need_program⟩
theorem b_need_program : i_need_program.bind := by
  intro kV doc pm an cdv ct us hl
  have hl : us.length = 1 := hl
  match us, hl with
  | [_], _ => kernel_rfl
def i_Runner___init__ : DefI := ⟨(.me "Runner" "__init__"), ⟨("Runner", (some "__init__")), "__init__", "Runner.__init__", defArgs s_Runner___init__, defBody s_Runner___init__, defScope s_Runner___init__, [], []⟩, ((["self", "program", "inputs"] : List PySem.Str)), d_Runner___init__⟩
theorem b_Runner___init__ : i_Runner___init__.bind := by
  intro kV doc pm an cdv ct us hl
  have hl : us.length = 3 := hl
  match us, hl with
  | [_, _, _], _ => kernel_rfl
def i_Runner_block : DefI := ⟨(.me "Runner" "block"), ⟨("Runner", (some "block")), "block", "Runner.block", defArgs s_Runner_block, defBody s_Runner_block, defScope s_Runner_block, [], []⟩, ((["self", "block", "place", "number", "row"] : List PySem.Str)), d_Runner_block⟩
theorem b_Runner_block : i_Runner_block.bind := by
  intro kV doc pm an cdv ct us hl
  have hl : us.length = 3 := hl
  match us, hl with
  | [_, _, _], _ => kernel_rfl
def i_Runner_row : DefI := ⟨(.me "Runner" "row"), ⟨("Runner", (some "row")), "row", "Runner.row", defArgs s_Runner_row, defBody s_Runner_row, defScope s_Runner_row, [], []⟩, ((["self", "row", "place", "which", "turns"] : List PySem.Str)), d_Runner_row⟩
theorem b_Runner_row : i_Runner_row.bind := by
  intro kV doc pm an cdv ct us hl
  have hl : us.length = 3 := hl
  match us, hl with
  | [_, _, _], _ => kernel_rfl
def i_Runner_value : DefI := ⟨(.me "Runner" "value"), ⟨("Runner", (some "value")), "value", "Runner.value", defArgs s_Runner_value, defBody s_Runner_value, defScope s_Runner_value, [], []⟩, ((["self", "row"] : List PySem.Str)), d_Runner_value⟩
theorem b_Runner_value : i_Runner_value.bind := by
  intro kV doc pm an cdv ct us hl
  have hl : us.length = 2 := hl
  match us, hl with
  | [_, _], _ => kernel_rfl
def i_Runner_tell : DefI := ⟨(.me "Runner" "tell"), ⟨("Runner", (some "tell")), "tell", "Runner.tell", defArgs s_Runner_tell, defBody s_Runner_tell, defScope s_Runner_tell, [], []⟩, ((["self", "row", "number", "some"] : List PySem.Str)), d_Runner_tell⟩
theorem b_Runner_tell : i_Runner_tell.bind := by
  intro kV doc pm an cdv ct us hl
  have hl : us.length = 2 := hl
  match us, hl with
  | [_, _], _ => kernel_rfl
def i_need_inputs : DefI := ⟨(.fn "need_inputs"), ⟨("need_inputs", none), "need_inputs", "need_inputs", defArgs s_need_inputs, defBody s_need_inputs, defScope s_need_inputs, [], []⟩, ((["program", "inputs", "number"] : List PySem.Str)), d_need_inputs⟩
theorem b_need_inputs : i_need_inputs.bind := by
  intro kV doc pm an cdv ct us hl
  have hl : us.length = 2 := hl
  match us, hl with
  | [_, _], _ => kernel_rfl
def i_runner_of : DefI := ⟨(.fn "runner_of"), ⟨("runner_of", none), "runner_of", "runner_of", defArgs s_runner_of, defBody s_runner_of, defScope s_runner_of, [], []⟩, ((["program", "inputs", "runner"] : List PySem.Str)), d_runner_of⟩
theorem b_runner_of : i_runner_of.bind := by
  intro kV doc pm an cdv ct us hl
  have hl : us.length = 2 := hl
  match us, hl with
  | [_, _], _ => kernel_rfl
def i_run : DefI := ⟨(.fn "run"), ⟨("run", none), "run", "run", defArgs s_run, defBody s_run, defScope s_run, [], []⟩, ((["program", "inputs", "runner", "outside", "number"] : List PySem.Str)), d_run⟩
theorem b_run : i_run.bind := by
  intro kV doc pm an cdv ct us hl
  have hl : us.length = 2 := hl
  match us, hl with
  | [_, _], _ => kernel_rfl
def i__law_cell_at : DefI := ⟨(.fn "_law_cell_at"), ⟨("_law_cell_at", none), "_law_cell_at", "_law_cell_at", defArgs s__law_cell_at, defBody s__law_cell_at, defScope s__law_cell_at, [], []⟩, ((["script", "k"] : List PySem.Str)), d__law_cell_at⟩
theorem b__law_cell_at : i__law_cell_at.bind := by
  intro kV doc pm an cdv ct us hl
  have hl : us.length = 2 := hl
  match us, hl with
  | [_, _], _ => kernel_rfl
def i__law_mixed : DefI := ⟨(.fn "_law_mixed"), ⟨("_law_mixed", none), "_law_mixed", "_law_mixed", defArgs s__law_mixed, defBody s__law_mixed, defScope s__law_mixed, [], []⟩, ((["script", "k", "many", "drawn"] : List PySem.Str)), d__law_mixed⟩
theorem b__law_mixed : i__law_mixed.bind := by
  intro kV doc pm an cdv ct us hl
  have hl : us.length = 3 := hl
  match us, hl with
  | [_, _, _], _ => kernel_rfl
def i__law_draw : DefI := ⟨(.fn "_law_draw"), ⟨("_law_draw", none), "_law_draw", "_law_draw", defArgs s__law_draw, defBody s__law_draw, defScope s__law_draw, [], []⟩, ((["script", "town", "many"] : List PySem.Str)), d__law_draw⟩
theorem b__law_draw : i__law_draw.bind := by
  intro kV doc pm an cdv ct us hl
  have hl : us.length = 3 := hl
  match us, hl with
  | [_, _, _], _ => kernel_rfl
def i__law_pick : DefI := ⟨(.fn "_law_pick"), ⟨("_law_pick", none), "_law_pick", "_law_pick", defArgs s__law_pick, defBody s__law_pick, defScope s__law_pick, [], []⟩, ((["script", "town", "some"] : List PySem.Str)), d__law_pick⟩
theorem b__law_pick : i__law_pick.bind := by
  intro kV doc pm an cdv ct us hl
  have hl : us.length = 3 := hl
  match us, hl with
  | [_, _, _], _ => kernel_rfl
def i__law_simple : DefI := ⟨(.fn "_law_simple"), ⟨("_law_simple", none), "_law_simple", "_law_simple", defArgs s__law_simple, defBody s__law_simple, defScope s__law_simple, [], []⟩, ((["script", "town", "names", "have", "numbers", "things", "kind", "goal", "one", "two", "thing", "held", "some", "name"] : List PySem.Str)), d__law_simple⟩
theorem b__law_simple : i__law_simple.bind := by
  intro kV doc pm an cdv ct us hl
  have hl : us.length = 4 := hl
  match us, hl with
  | [_, _, _, _], _ => kernel_rfl
def i__law_block : DefI := ⟨(.fn "_law_block"), ⟨("_law_block", none), "_law_block", "_law_block", defArgs s__law_block, defBody s__law_block, defScope s__law_block, [], []⟩, ((["script", "town", "names", "have", "many", "deep", "made", "k", "kind", "numbers", "one", "two", "first", "second", "name", "within", "body", "row"] : List PySem.Str)), d__law_block⟩
theorem b__law_block : i__law_block.bind := by
  intro kV doc pm an cdv ct us hl
  have hl : us.length = 6 := hl
  match us, hl with
  | [_, _, _, _, _, _], _ => kernel_rfl
def i__law_names : DefI := ⟨(.fn "_law_names"), ⟨("_law_names", none), "_law_names", "_law_names", defArgs s__law_names, defBody s__law_names, defScope s__law_names, [], []⟩, ((["script", "town", "rest", "k", "order", "sign"] : List PySem.Str)), d__law_names⟩
theorem b__law_names : i__law_names.bind := by
  intro kV doc pm an cdv ct us hl
  have hl : us.length = 2 := hl
  match us, hl with
  | [_, _], _ => kernel_rfl
def i__law_program : DefI := ⟨(.fn "_law_program"), ⟨("_law_program", none), "_law_program", "_law_program", defArgs s__law_program, defBody s__law_program, defScope s__law_program, [], []⟩, ((["script", "town", "many", "deep", "names", "params", "have", "block", "name"] : List PySem.Str)), d__law_program⟩
theorem b__law_program : i__law_program.bind := by
  intro kV doc pm an cdv ct us hl
  have hl : us.length = 4 := hl
  match us, hl with
  | [_, _, _, _], _ => kernel_rfl
def i__law_size : DefI := ⟨(.fn "_law_size"), ⟨("_law_size", none), "_law_size", "_law_size", defArgs s__law_size, defBody s__law_size, defScope s__law_size, [], []⟩, ((["block", "many", "row", "inner"] : List PySem.Str)), d__law_size⟩
theorem b__law_size : i__law_size.bind := by
  intro kV doc pm an cdv ct us hl
  have hl : us.length = 1 := hl
  match us, hl with
  | [_], _ => kernel_rfl
def i__law_inputs : DefI := ⟨(.fn "_law_inputs"), ⟨("_law_inputs", none), "_law_inputs", "_law_inputs", defArgs s__law_inputs, defBody s__law_inputs, defScope s__law_inputs, [], []⟩, ((["script", "town", "program", "name"] : List PySem.Str)), d__law_inputs⟩
theorem b__law_inputs : i__law_inputs.bind := by
  intro kV doc pm an cdv ct us hl
  have hl : us.length = 3 := hl
  match us, hl with
  | [_, _, _], _ => kernel_rfl
def i__law_less : DefI := ⟨(.fn "_law_less"), ⟨("_law_less", none), "_law_less", "_law_less", defArgs s__law_less, defBody s__law_less, defScope s__law_less, [], []⟩, ((["block", "made", "row"] : List PySem.Str)), d__law_less⟩
theorem b__law_less : i__law_less.bind := by
  intro kV doc pm an cdv ct us hl
  have hl : us.length = 1 := hl
  match us, hl with
  | [_], _ => kernel_rfl
def i__law_named : DefI := ⟨(.fn "_law_named"), ⟨("_law_named", none), "_law_named", "_law_named", defArgs s__law_named, defBody s__law_named, defScope s__law_named, [], []⟩, ((["block", "made", "row", "new", "part"] : List PySem.Str)), d__law_named⟩
theorem b__law_named : i__law_named.bind := by
  intro kV doc pm an cdv ct us hl
  have hl : us.length = 1 := hl
  match us, hl with
  | [_], _ => kernel_rfl
def i_law : DefI := ⟨(.fn "law"), ⟨("law", none), "law", "law", defArgs s_law, defBody s_law, defScope s_law, [], []⟩, ((["script", "town", "one", "two", "both", "k", "first", "second", "notes", "outside", "many", "later", "more", "made", "moved", "note", "name"] : List PySem.Str)), d_law⟩
theorem b_law : i_law.bind := by
  intro kV doc pm an cdv ct us hl
  have hl : us.length = 1 := hl
  match us, hl with
  | [_], _ => kernel_rfl
def items : List DefI := [i_is_word, i_is_whole, i_is_part, i_blocks_of, i_is_row, i_is_block, i_count_of, i_kinds_of, i_kinds_in, i_reads, i_sets, i_surely, i_is_program, i_need_program, i_Runner___init__, i_Runner_block, i_Runner_row, i_Runner_value, i_Runner_tell, i_need_inputs] ++ [i_runner_of, i_run, i__law_cell_at, i__law_mixed, i__law_draw, i__law_pick, i__law_simple, i__law_block, i__law_names, i__law_program, i__law_size, i__law_inputs, i__law_less, i__law_named, i_law]
theorem ok_all : (items.all fun i => i.ok k0) = true := by kernel_rfl
theorem keys_all : keysB items k0 = true := by kernel_rfl
theorem bind_all : ∀ i ∈ items, i.bind := by
  intro i hi
  simp only [items, List.mem_append, List.mem_cons, List.not_mem_nil, or_false] at hi
  rcases hi with (rfl | rfl | rfl | rfl | rfl | rfl | rfl | rfl | rfl | rfl | rfl | rfl | rfl | rfl | rfl | rfl | rfl | rfl | rfl | rfl) | (rfl | rfl | rfl | rfl | rfl | rfl | rfl | rfl | rfl | rfl | rfl | rfl | rfl | rfl | rfl)
  · exact b_is_word
  · exact b_is_whole
  · exact b_is_part
  · exact b_blocks_of
  · exact b_is_row
  · exact b_is_block
  · exact b_count_of
  · exact b_kinds_of
  · exact b_kinds_in
  · exact b_reads
  · exact b_sets
  · exact b_surely
  · exact b_is_program
  · exact b_need_program
  · exact b_Runner___init__
  · exact b_Runner_block
  · exact b_Runner_row
  · exact b_Runner_value
  · exact b_Runner_tell
  · exact b_need_inputs
  · exact b_runner_of
  · exact b_run
  · exact b__law_cell_at
  · exact b__law_mixed
  · exact b__law_draw
  · exact b__law_pick
  · exact b__law_simple
  · exact b__law_block
  · exact b__law_names
  · exact b__law_program
  · exact b__law_size
  · exact b__law_inputs
  · exact b__law_less
  · exact b__law_named
  · exact b_law
abbrev R : PySem.W.OpenRow := PySem.W.OpenLaw.row PySem.Challenge.rw_takeapart_k31_whole_joined
def fn : List He.DefD := items.map (·.d)
abbrev hk : PySem.W.Hook := He.hookX 5 (mkFa k0) fn (mkTs k0) [] (mkEx k0)
def ob (s : PySem.W.SharedT) : He.AlX := He.obsX 5 (mkFa k0) fn (mkTs k0) [] (mkEx k0) (HandSHeadRun.getT s)
theorem ob_eq (s : PySem.W.SharedT) : ob s = hk.obs s.abs := He.obsX_eq (HandSHeadRun.getT_eq s)
def names : List PySem.Str := ((["ApartError", "NoProgram", "NoInputs", "LETTERS", "LONGEST", "GREATEST", "ROWS", "DEEP", "PARAMS", "SHAPES", "SETS", "is_word", "is_whole", "is_part", "blocks_of", "is_row", "is_block", "count_of", "kinds_of", "kinds_in", "reads", "sets", "surely", "is_program", "need_program", "TURNS", "REST", "Runner", "need_inputs", "runner_of"] : List PySem.Str) ++ (["run", "_law_cell_at", "_law_mixed", "_law_draw", "_law_pick", "_law_simple", "_law_block", "_law_names", "_law_program", "_law_size", "_law_inputs", "_law_less", "_law_named"] : List PySem.Str))
theorem runF (w : World) : HandSHeadRun.RunEq R (PySem.W.view R.prog [47]) hk ob 6000 names (w.withFollow "special-get-raises" false) := by
  intro os
  kernel_rfl
theorem runT (w : World) : HandSHeadRun.RunEq R (PySem.W.view R.prog [47]) hk ob 6000 names (w.withFollow "special-get-raises" true) := by
  intro os
  kernel_rfl
theorem run (w : World) : HandSHeadRun.RunEq R (PySem.W.view R.prog [47]) hk ob 6000 names w := PySem.W.byRow2 "special-get-raises" (P := fun w => HandSHeadRun.RunEq R (PySem.W.view R.prog [47]) hk ob 6000 names w) runF runT w
end Mi.L
open PySem PySem.W PySem.Calls PyProof.Rows Mi in
theorem Mi.L.end_ (d : Nat) (hd : d = 100) (hm : ∀ ns : List Int, ns.length ≤ 63 → (∀ z ∈ ns, Builtin.Int.intBits z ≤ 1048576) → ∃ st, callF (tabG Mi.L.items) (d + 1) (.fn "law") [.slst (ns.map MV.int)] [] = .ok (.bl true) st) : PySem.Challenge.rw_takeapart_k31_whole_joined.Holds := by
  subst hd
  w_on; o_law
  refine HandSHeadRun.head_any (r := OpenLaw.row PySem.Challenge.rw_takeapart_k31_whole_joined) (q := view (OpenLaw.row PySem.Challenge.rw_takeapart_k31_whole_joined).prog [47]) (H := Mi.L.hk) (ob := Mi.L.ob) (M := 6000) (loose := Mi.L.names) (d := HandSHeadRun.topDef (OpenLaw.row PySem.Challenge.rw_takeapart_k31_whole_joined).prog 47) (kwd := []) Mi.L.ob_eq
    (by kernel_rfl) (fun s => by kernel_rfl) Mi.L.run (by kernel_rfl) (by kernel_rfl) (by kernel_rfl) (by rfl) (by first | assumption | decide +kernel) (by decide +kernel) ⟨rfl, rfl, rfl, rfl, rfl, by decide +kernel⟩ ?hw ?hc
  case hw => w_witness2
  case hc =>
    refine LamX.walk_ofTsE (l := PySem.Challenge.rw_takeapart_k31_whole_joined) (n := 63) (k := 2 * (100 + 1)) (x := "script") (CX := fun w => L2.CX (PySem.Challenge.rw_takeapart_k31_whole_joined).prog w) rfl (by decide) (by kernel_rfl) ⟨rfl, by decide, by decide⟩ ?F (fun _ _ _ _ _ ⟨_, _, _, _, _, _, _, _, _, _, _, _, h⟩ => h.elim)
    intro w mg fa h Y G hmg0
    obtain ⟨K, KX, c⟩ := Y
    have hmg : mg ("law" : PySem.Str) = some (.ref fa) := by
      have e : (HandSHeadRun.topDef (OpenLaw.row PySem.Challenge.rw_takeapart_k31_whole_joined).prog 47).name = ("law" : PySem.Str) := by kernel_rfl
      rw [← e]
      exact hmg0
    exact ⟨K, KX, lawAt_of (i := Mi.L.i_law) KX G c (List.all_eq_true.mp Mi.L.ok_all) Mi.L.bind_all Mi.L.keys_all (by kernel_rfl) (by kernel_rfl) hmg (by decide) hm⟩
namespace Mi.L
end Mi.L
set_option Elab.async false
set_option linter.all false
set_option maxRecDepth 100000
set_option maxHeartbeats 1000000
/-! PlTree: a run as a tree of questions: calls, looks into the store, tests; the rest is reckoned by the kernel. -/
namespace Mi
open PySem
inductive T (α : Type) where
  | ret (a : α) (st : Store)
  | exc (c : Str) (st : Store)
  | err
  | nM (r : Res MV) (k : MV → Store → T α)
  | nO (r : Res Out) (k : Out → Store → T α)
def T.run {α : Type} : T α → Res α
  | .ret a st => .ok a st
  | .exc c st => .exc c st
  | .err => .err
  | .nM r k => r.bind fun v st => (k v st).run
  | .nO r k => r.bind fun v st => (k v st).run
def T.bind {α β : Type} : T α → (α → Store → T β) → T β
  | .ret a st, f => f a st
  | .exc c st, _ => .exc c st
  | .err, _ => .err
  | .nM r k, f => .nM r fun v st => (k v st).bind f
  | .nO r k, f => .nO r fun v st => (k v st).bind f
theorem Res.bind_bind {α β γ : Type} (r : Res α) (f : α → Store → Res β) (g : β → Store → Res γ) : (r.bind f).bind g = r.bind fun v st => (f v st).bind g := by
  cases r <;> rfl
theorem T.bind_run {α β : Type} (t : T α) (f : α → Store → T β) : (t.bind f).run = t.run.bind fun v st => (f v st).run := by
  induction t with
  | ret a st => rfl
  | exc c st => rfl
  | err => rfl
  | nM r k ih => simp only [T.bind, T.run, Res.bind_bind, ih]
  | nO r k ih => simp only [T.bind, T.run, Res.bind_bind, ih]
def T.ofR {α : Type} : Res α → T α
  | .ok a st => .ret a st
  | .exc c st => .exc c st
  | .err => .err
theorem T.ofR_run {α : Type} (r : Res α) : (T.ofR r).run = r := by cases r <;> rfl
def T.askM (r : Res MV) : T MV := .nM r .ret
def T.askO (r : Res Out) : T Out := .nO r .ret
theorem T.askM_run (r : Res MV) : (T.askM r).run = r := by cases r <;> rfl
theorem T.askO_run (r : Res Out) : (T.askO r).run = r := by cases r <;> rfl
def gate (b : Bool) (st : Store) : Res MV := if b then .ok .non st else .err
theorem gate_t {b : Bool} {st : Store} (h : b = true) : gate b st = .ok .non st := by rw [h]; rfl
theorem gate_bind {α : Type} (b : Bool) (st : Store) (r : Res α) : (gate b st).bind (fun _ _ => r) = if b then r else .err := by cases b <;> rfl
/-- is the second argument written out -/
def litE : E → Bool
  | .cons _ (.cons (.lit _) .nil) => true
  | .cons _ (.cons (.glob _ _) .nil) => true
  | .cons _ (.cons (.op .tup _) .nil) => true
  | _ => false
def litS : E → Bool
  | .cons _ (.cons (.lit (.str _)) .nil) => true
  | _ => false
/-- is an operation reckoned outright -/
def autoOp (o : Op) (as : E) (vs : List MV) : Bool := match o, vs with
  | .eq, _ => litS as
  | .ne, _ => litS as
  | .inn, _ => litE as
  | .notin, _ => litE as
  | .add, [.int _, .int _] => true
  | .sub, _ => true
  | .mod, _ => litE as
  | .fdiv, _ => litE as
  | .ix, [.tup _, _] => litE as
  | .ix, [.cdic _, _] => true
  | .slL, [.tup _, _] => true
  | .slU, [.tup _, _] => true
  | .slC _ _, [.tup _] => true
  | .tup, _ => true
  | .lst _, _ => true
  | .len, [.tup _] => true
  | .len, [.lst _] => true
  | .len, [.slst _] => true
  | .max2, _ => true
  | .min2, _ => true
  | .int1, _ => true
  | .tuple1, [.tup _] => true
  | .tuple1, [.lst _] => true
  | .isStr, [.loc _] => false
  | .isInt, [.loc _] => false
  | .isBool, [.loc _] => false
  | .isTup, [.loc _] => false
  | .isList, [.loc _] => false
  | .isStr, _ => true
  | .isInt, _ => true
  | .isBool, _ => true
  | .isTup, _ => true
  | .isList, _ => true
  | .isN, _ => true
  | .notN, _ => true
  | .disp, [] => true
  | .isExc _, _ => true
  | .neg, _ => true
  | _, _ => false
def T.rOp (o : Op) (as : E) (vs : List MV) (st : Store) : T MV := if autoOp o as vs then .ofR (runOp o vs st) else .askM (runOp o vs st)
theorem T.rOp_run (o : Op) (as : E) (vs : List MV) (st : Store) : (T.rOp o as vs st).run = runOp o vs st := by
  unfold T.rOp
  split
  · exact T.ofR_run _
  · exact T.askM_run _
def T.onT {α : Type} (f : List MV → Store → T α) : MV → Store → T α
  | .tup vs, st => f vs st
  | _, _ => .err
def T.onB {α : Type} (t f : Store → T α) : MV → Store → T α
  | .bl true, st => t st
  | .bl false, st => f st
  | _, _ => .err
def T.notR : MV → Store → T MV
  | .bl b, st => .ret (.bl (!b)) st
  | _, _ => .err
theorem T.onT_run {α : Type} (f : List MV → Store → T α) (v : MV) (st : Store) : (T.onT f v st).run = Mi.onT (fun vs st => (f vs st).run) v st := by
  cases v <;> rfl
theorem T.onB_run {α : Type} (t f : Store → T α) (v : MV) (st : Store) : (T.onB t f v st).run = Mi.onB (fun st => (t st).run) (fun st => (f st).run) v st := by
  cases v <;> first | rfl | (rename_i b; cases b <;> rfl)
theorem T.notR_run (v : MV) (st : Store) : (T.notR v st).run = Mi.notR v st := by
  cases v <;> rfl
def T.heldR (fs : List Str) (F : Fn) (k : (List MV → Store → Res MV) → T MV) : Option (Option MV) → T MV
  | some (some (.nam f)) => if f ∈ fs then k (F (.fn f)) else .err
  | _ => .err
def noR : Res MV → Res MV
  | .ok v st => .ok v st
  | _ => .err
def T.kdR (m : Me) (v : MV) (st : Store) : T MV := match m.kd with
  | .s => .ofR (gate (kdOk m.kd v st) st)
  | _ => .askM (gate (kdOk m.kd v st) st)
theorem T.kdR_run (m : Me) (v : MV) (st : Store) : (T.kdR m v st).run = gate (kdOk m.kd v st) st := by
  unfold T.kdR
  split
  · exact T.ofR_run _
  · exact T.askM_run _
def tE (F : Fn) : E → Env → Store → T MV
  | .var i, env, st => .ofR (varR env[i]? st)
  | .lit v, _, st => .ret v st
  | .glob _ v, _, st => .ret v st
  | .nil, _, st => .ret (.tup []) st
  | .cons a r, env, st => (tE F a env st).bind fun v st => (tE F r env st).bind (T.onT fun vs st => .ret (.tup (v :: vs)) st)
  | .op o as, env, st => (tE F as env st).bind (T.onT (T.rOp o as))
  | .me m o as, env, st => (tE F o env st).bind fun v st => (T.kdR m v st).bind fun _ _ => (tE F as env st).bind (T.onT fun vs st => .askM (runMe m v vs st))
  | .chain o p a b c, env, st => (tE F a env st).bind fun x st => (tE F b env st).bind fun y st => (T.askM (noR (runOp o [x, y] st))).bind (T.onB (fun st => (tE F c env st).bind fun z st => .askM (runOp p [y, z] st)) fun st => .ret (.bl false) st)
  | .and a b, env, st => (tE F a env st).bind (T.onB (tE F b env) fun st => .ret (.bl false) st)
  | .or a b, env, st => (tE F a env st).bind (T.onB (fun st => .ret (.bl true) st) (tE F b env))
  | .not a, env, st => (tE F a env st).bind T.notR
  | .ite c a b, env, st => (tE F c env st).bind (T.onB (tE F a env) (tE F b env))
  | .call f as, env, st => (tE F as env st).bind (T.onT fun vs st => .askM (F (.fn f) vs st))
  | .callv i fs as, env, st => T.heldR fs F (fun f => (tE F as env st).bind (T.onT fun vs st => .askM (f vs st))) env[i]?
  | .make c as, env, st => (tE F as env st).bind (T.onT fun vs st => .askM (madeR st.length (F (.me c "__init__") (.loc st.length :: vs) (st ++ [.ins c []]))))
  | .meth c m o as, env, st => (tE F o env st).bind fun v st => (T.askM (gate (hasM c m v st) st)).bind fun _ _ => (tE F as env st).bind (T.onT fun vs st => .askM (noX (F (.me c m) (v :: vs) st)))
  | .fld c o f, env, st => (tE F o env st).bind fun v st => .askM (getF c f v st)
  | .lc p own tg k it cond elt, env, st => .askM (evalE F (.lc p own tg k it cond elt) env st)
theorem chainR_eq (r : Res MV) (k : Store → Res MV) : chainR r k = (noR r).bind (onB k fun st => .ok (.bl false) st) := by
  cases r <;> rfl
theorem tE_run (F : Fn) : ∀ (e : E) (env : Env) (st : Store), (tE F e env st).run = evalE F e env st := by
  intro e
  induction e with
  | var i => intro env st; exact T.ofR_run _
  | lit v => intro env st; rfl
  | glob x v => intro env st; rfl
  | nil => intro env st; rfl
  | cons a r iha ihr =>
    intro env st
    simp only [tE, evalE, T.bind_run, iha, ihr]
    congr 1; funext v st; congr 1; funext w st
    rw [T.onT_run]; rfl
  | op o as iha =>
    intro env st
    simp only [tE, evalE, T.bind_run, iha]
    congr 1; funext v st
    rw [T.onT_run]
    congr 1; funext vs st
    exact T.rOp_run _ _ _ _
  | me m o as iho iha =>
    intro env st
    simp only [tE, evalE, T.bind_run, iho, iha]
    congr 1; funext v st
    rw [T.kdR_run, gate_bind]
    congr 1
    congr 1; funext w st
    rw [T.onT_run]
    congr 1; funext vs st
    exact T.askM_run _
  | chain o p a b c iha ihb ihc =>
    intro env st
    simp only [tE, evalE, T.bind_run, iha, ihb, chainR_eq, T.askM_run]
    congr 1; funext x st; congr 1; funext y st; congr 1; funext v st
    rw [T.onB_run]
    simp only [T.bind_run, ihc, T.askM_run]
    rfl
  | and a b iha ihb =>
    intro env st
    simp only [tE, evalE, T.bind_run, iha]
    congr 1; funext v st
    rw [T.onB_run]
    simp only [ihb]; rfl
  | or a b iha ihb =>
    intro env st
    simp only [tE, evalE, T.bind_run, iha]
    congr 1; funext v st
    rw [T.onB_run]
    simp only [ihb]; rfl
  | not a iha =>
    intro env st
    simp only [tE, evalE, T.bind_run, iha]
    congr 1; funext v st
    exact T.notR_run _ _
  | ite c a b ihc iha ihb =>
    intro env st
    simp only [tE, evalE, T.bind_run, ihc]
    congr 1; funext v st
    rw [T.onB_run]
    simp only [iha, ihb]
  | call f as iha =>
    intro env st
    simp only [tE, evalE, T.bind_run, iha]
    congr 1; funext v st
    rw [T.onT_run]
    congr 1; funext vs st
    exact T.askM_run _
  | callv i fs as iha =>
    intro env st
    simp only [tE, evalE]
    cases env[i]? with
    | none => rfl
    | some o =>
      cases o with
      | none => rfl
      | some v =>
        cases v <;> first | rfl | skip
        simp only [T.heldR, heldR]
        split
        · simp only [T.bind_run, iha]
          congr 1; funext v st
          rw [T.onT_run]
          congr 1; funext vs st
          exact T.askM_run _
        · rfl
  | make c as iha =>
    intro env st
    simp only [tE, evalE, T.bind_run, iha]
    congr 1; funext v st
    rw [T.onT_run]
    congr 1; funext vs st
    exact T.askM_run _
  | meth c m o as iho iha =>
    intro env st
    simp only [tE, evalE, T.bind_run, iho, iha]
    congr 1; funext v st
    rw [T.askM_run, gate_bind]
    congr 1
    congr 1; funext w st
    rw [T.onT_run]
    congr 1; funext vs st
    exact T.askM_run _
  | fld c o f iho =>
    intro env st
    simp only [tE, evalE, T.bind_run, iho, T.askM_run]
  | lc p own tg k it cond elt ihi ihc ihe => intro env st; exact T.askM_run _
def T.seqK (k : Env → Store → T Out) : Out → Store → T Out
  | .nx env, st => k env st
  | o, st => .ret o st
theorem T.seqK_run (k : Env → Store → T Out) (o : Out) (st : Store) : (T.seqK k o st).run = Mi.seqK (fun env st => (k env st).run) o st := by
  cases o <;> rfl
def tS (F : Fn) : S → Env → Store → T Out
  | .skip, env, st => .ret (.nx env) st
  | .seq a b, env, st => (tS F a env st).bind (T.seqK (tS F b))
  | .exp e, env, st => (tE F e env st).bind fun _ st => .ret (.nx env) st
  | .asg tg e, env, st => (tE F e env st).bind fun v st => .ofR (stEnv (bindT st tg v env) st)
  | .setI o i e, env, st => (tE F e env st).bind fun v st => (tE F o env st).bind fun o st => (tE F i env st).bind fun i st => .askO (stSt env (setIx o i v st))
  | .setF c o f e, env, st => (tE F e env st).bind fun v st => (tE F o env st).bind fun o st => .askO (stSt env (setFl c o f v st))
  | .ite c a b, env, st => (tE F c env st).bind (T.onB (tS F a env) (tS F b env))
  | .for_ tg k it body, env, st => .askO (execS F (.for_ tg k it body) env st)
  | .while_ c body, env, st => .askO (execS F (.while_ c body) env st)
  | .ret e, env, st => (tE F e env st).bind fun v st => .ret (.rt v) st
  | .retN, _, st => .ret (.rt .non) st
  | .brk, env, st => .ret (.bk env) st
  | .raise c, _, st => .exc c st
  | .tryN b, env, st => .askO (execS F (.tryN b) env st)
  | .tryX b i h, env, st => .askO (execS F (.tryX b i h) env st)
theorem tS_run (F : Fn) : ∀ (s : S) (env : Env) (st : Store), (tS F s env st).run = execS F s env st := by
  intro s
  induction s with
  | skip => intro env st; rfl
  | seq a b iha ihb =>
    intro env st
    simp only [tS, execS, T.bind_run, iha]
    congr 1; funext o st
    rw [T.seqK_run]
    simp only [ihb]
  | exp e => intro env st; simp only [tS, execS, T.bind_run, tE_run]; rfl
  | asg tg e =>
    intro env st
    simp only [tS, execS, T.bind_run, tE_run, T.ofR_run]
  | setI o i e => intro env st; simp only [tS, execS, T.bind_run, tE_run, T.askO_run]
  | setF c o f e => intro env st; simp only [tS, execS, T.bind_run, tE_run, T.askO_run]
  | ite c a b iha ihb =>
    intro env st
    simp only [tS, execS, T.bind_run, tE_run]
    congr 1; funext v st
    rw [T.onB_run]
    simp only [iha, ihb]
  | for_ tg k it body ih => intro env st; exact T.askO_run _
  | while_ c body ih => intro env st; exact T.askO_run _
  | ret e => intro env st; simp only [tS, execS, T.bind_run, tE_run]; rfl
  | retN => intro env st; rfl
  | brk => intro env st; rfl
  | raise c => intro env st; rfl
  | tryN b ih => intro env st; exact T.askO_run _
  | tryX b i h ihb ihh => intro env st; exact T.askO_run _
/-! ### steps -/
def T.hM {α : Type} : T α → Option (Res MV)
  | .nM r _ => some r
  | _ => none
def T.hO {α : Type} : T α → Option (Res Out)
  | .nO r _ => some r
  | _ => none
def T.xM {α : Type} : T α → MV → Store → T α
  | .nM _ k, v, st => k v st
  | t, _, _ => t
def T.xO {α : Type} : T α → Out → Store → T α
  | .nO _ k, v, st => k v st
  | t, _, _ => t
section
variable {α : Type} {t : T α} {R : Res α} {v : MV} {o : Out} {st : Store}
theorem sM {r : Res MV} (h : r = .ok v st) (hh : t.hM = some r) (hn : (t.xM v st).run = R) : t.run = R := by
  cases t with
  | nM r' k =>
    cases hh
    show r.bind _ = R
    rw [h]
    exact hn
  | _ => cases hh
theorem sO {r : Res Out} (h : r = .ok o st) (hh : t.hO = some r) (hn : (t.xO o st).run = R) : t.run = R := by
  cases t with
  | nO r' k =>
    cases hh
    show r.bind _ = R
    rw [h]
    exact hn
  | _ => cases hh
theorem sN {r : Res MV} (h : r = .ok v st) (hh : t.hM = some (noX r)) (hn : (t.xM v st).run = R) : t.run = R := sM (by rw [h]; rfl) hh hn
theorem sI {n : Nat} {r : Res MV} (h : r = .ok .non st) (hh : t.hM = some (madeR n r)) (hn : (t.xM (.loc n) st).run = R) : t.run = R := sM (by rw [h]; rfl) hh hn
theorem sC {r : Res MV} (h : r = .ok v st) (hh : t.hM = some (noR r)) (hn : (t.xM v st).run = R) : t.run = R := sM (by rw [h]; rfl) hh hn
theorem sG {b : Bool} (h : b = true) (hh : t.hM = some (gate b st)) (hn : (t.xM .non st).run = R) : t.run = R := sM (gate_t h) hh hn
theorem sX {c : Str} {r : Res MV} (h : r = .exc c st) (hh : t.hM = some r) : t.run = .exc c st := by
  cases t with
  | nM r' k =>
    cases hh
    show r.bind _ = _
    rw [h]
    rfl
  | _ => cases hh
end
/-- what reckons by itself -/
def T.fc {α : Type} : Nat → T α → T α
  | 0, t => t
  | n + 1, .nM (.ok v st) k => T.fc n (k v st)
  | n + 1, .nO (.ok v st) k => T.fc n (k v st)
  | _ + 1, t => t
theorem T.fc_run {α : Type} : ∀ (n : Nat) (t : T α), (t.fc n).run = t.run
  | 0, _ => rfl
  | n + 1, .nM (.ok v st) k => T.fc_run n (k v st)
  | n + 1, .nO (.ok v st) k => T.fc_run n (k v st)
  | _ + 1, .nM (.exc _ _) _ => rfl
  | _ + 1, .nM .err _ => rfl
  | _ + 1, .nO (.exc _ _) _ => rfl
  | _ + 1, .nO .err _ => rfl
  | _ + 1, .ret _ _ => rfl
  | _ + 1, .exc _ _ => rfl
  | _ + 1, .err => rfl
theorem sF {α : Type} {t : T α} {R : Res α} (n : Nat) (h : (t.fc n).run = R) : t.run = R := by rw [← T.fc_run n]; exact h
/-- into a def's body -/
theorem inF {G : Tab} {f : FK} {m : MDef} {d : Nat} {vs : List MV} {st : Store} {R : Res MV} (h : G f = some m) (hn : vs.length = m.np) (hr : retR (tS (callF G d) m.body (startE m.ns vs) st).run = R) : callF G (d + 1) f vs st = R := by
  rw [tS_run] at hr
  simp only [callF, h, runDef, hn, if_true, hr]
theorem inF_rt {G : Tab} {f : FK} {m : MDef} {d : Nat} {vs : List MV} {st st' : Store} {v : MV} (h : G f = some m) (hn : vs.length = m.np) (hr : (tS (callF G d) m.body (startE m.ns vs) st).run = .ok (.rt v) st') : callF G (d + 1) f vs st = .ok v st' := inF h hn (by rw [hr]; rfl)
theorem inF_nx {G : Tab} {f : FK} {m : MDef} {d : Nat} {vs : List MV} {st st' : Store} {env : Env} (h : G f = some m) (hn : vs.length = m.np) (hr : (tS (callF G d) m.body (startE m.ns vs) st).run = .ok (.nx env) st') : callF G (d + 1) f vs st = .ok .non st' := inF h hn (by rw [hr]; rfl)
theorem inF_exc {G : Tab} {f : FK} {m : MDef} {d : Nat} {vs : List MV} {st st' : Store} {c : Str} (h : G f = some m) (hn : vs.length = m.np) (hr : (tS (callF G d) m.body (startE m.ns vs) st).run = .exc c st') : callF G (d + 1) f vs st = .exc c st' := inF h hn (by rw [hr]; rfl)
theorem inE {F : Fn} {e : E} {env : Env} {st : Store} {R : Res MV} (h : (tE F e env st).run = R) : evalE F e env st = R := by rw [← tE_run]; exact h
theorem inS {F : Fn} {s : S} {env : Env} {st : Store} {R : Res Out} (h : (tS F s env st).run = R) : execS F s env st = R := by rw [← tS_run]; exact h
/-- an expression that is one question -/
theorem eC {F : Fn} {e : E} {env : Env} {st st' : Store} {r : Res MV} {v : MV} (h : r = .ok v st') (hh : (tE F e env st).hM = some r) (hk : (tE F e env st).xM v st' = .ret v st') : evalE F e env st = .ok v st' := inE (sM h hh (by rw [hk]; rfl))
end Mi
set_option Elab.async false
set_option linter.all false
set_option maxRecDepth 100000
set_option maxHeartbeats 1000000
/-! PlTy: what the program's functions answer, typed. -/
namespace Mi
open PySem
/-- keys of a table of True -/
def kput (ks : List Str) (x : Str) : List Str := if x ∈ ks then ks else ks ++ [x]
def kd (ks : List Str) : List (Str × MV) := ks.map fun k => (k, .bl true)
/-- names with kinds; true: of a thing -/
def Row.kinds : Row → List (Str × Bool)
  | .num x _ => [(x, false)]
  | .copy x y => [(x, false), (y, false)]
  | .add x y z => [(x, false), (y, false), (z, false)]
  | .make t x y => [(t, true), (x, false), (y, false)]
  | .get x t _ => [(x, false), (t, true)]
  | .put t _ x => [(t, true), (x, false)]
  | .lett t u => [(t, true), (u, true)]
  | .same x t u => [(x, false), (t, true), (u, true)]
  | .say x => [(x, false)]
  | .give t => [(t, true)]
  | .stir => []
  | .ifr x _ _ => [(x, false)]
  | .loop x _ => [(x, false)]
def kname (b : Bool) : Str := if b then "t" else "n"
def Row.sets : Row → Option Str
  | .num x _ => some x
  | .copy x _ => some x
  | .add x _ _ => some x
  | .make t _ _ => some t
  | .get x _ _ => some x
  | .lett t _ => some t
  | .same x _ _ => some x
  | _ => none
def Row.reads : Row → List Str
  | .num _ _ => []
  | .copy _ y => [y]
  | .add _ y z => [y, z]
  | .make _ x y => [x, y]
  | .get _ t _ => [t]
  | .put t _ x => [t, x]
  | .lett _ u => [u]
  | .same _ t u => [t, u]
  | .say x => [x]
  | .give t => [t]
  | .stir => []
  | .ifr x _ _ => [x]
  | .loop x _ => [x]
/-- a name with its kind comes to those known -/
def kAdd : List (Str × Bool) → List (Str × Bool) → Bool × List (Str × Bool)
  | [], kn => (true, kn)
  | (x, k) :: l, kn => match dget kn x with
    | none => kAdd l (kn ++ [(x, k)])
    | some k' => if k' = k then kAdd l kn else (false, kn)
mutual
def Row.kindsIn : Row → List (Str × Bool) → Bool × List (Str × Bool)
  | .ifr _ p q, kn => ((p.kindsIn kn).1 && (q.kindsIn (p.kindsIn kn).2).1, (q.kindsIn (p.kindsIn kn).2).2)
  | .loop _ p, kn => p.kindsIn kn
  | _, kn => (true, kn)
def Blk.kindsIn : Blk → List (Str × Bool) → Bool × List (Str × Bool)
  | .nil, kn => (true, kn)
  | .cons r b, kn => if (kAdd r.kinds kn).1 then (if (r.kindsIn (kAdd r.kinds kn).2).1 then b.kindsIn (r.kindsIn (kAdd r.kinds kn).2).2 else (false, (r.kindsIn (kAdd r.kinds kn).2).2)) else (false, (kAdd r.kinds kn).2)
end
/-- names of the first that are of the second too -/
def both (k1 k2 ks : List Str) : List Str := k1.foldl (fun ks x => if x ∈ k2 then kput ks x else ks) ks
mutual
/-- the names surely set behind a row, what it reads aside -/
def Row.surely : Row → List Str → Option (List Str)
  | .ifr _ p q, ks => match p.surely ks, q.surely ks with
    | some k1, some k2 => some (both k1 k2 ks)
    | _, _ => none
  | .loop _ p, ks => (p.surely ks).map fun _ => ks
  | r, ks => some (match r.sets with
    | some x => kput ks x
    | none => ks)
def Blk.surely : Blk → List Str → Option (List Str)
  | .nil, ks => some ks
  | .cons r b, ks => if r.reads.all (fun x => decide (x ∈ ks)) then (r.surely ks).bind b.surely else none
end
def Blk.length : Blk → Nat
  | .nil => 0
  | .cons _ b => b.length + 1
/-- a word -/
def IsWord (x : Str) : Prop := 1 ≤ x.cps.toList.length ∧ x.cps.toList.length ≤ 6 ∧ ∀ c ∈ x.cps.toList, 97 ≤ c ∧ c ≤ 122
mutual
/-- built as a row, in so many others -/
def Row.built : Row → Nat → Prop
  | .num x i, _ => IsWord x ∧ 0 ≤ i ∧ i ≤ 999
  | .copy x y, _ => IsWord x ∧ IsWord y
  | .add x y z, _ => IsWord x ∧ IsWord y ∧ IsWord z
  | .make t x y, _ => IsWord t ∧ IsWord x ∧ IsWord y
  | .get x t f, _ => IsWord x ∧ IsWord t ∧ 0 ≤ f ∧ f ≤ 1
  | .put t f x, _ => IsWord t ∧ (0 ≤ f ∧ f ≤ 1) ∧ IsWord x
  | .lett t u, _ => IsWord t ∧ IsWord u
  | .same x t u, _ => IsWord x ∧ IsWord t ∧ IsWord u
  | .say x, _ => IsWord x
  | .give t, _ => IsWord t
  | .stir, _ => True
  | .ifr x p q, d => IsWord x ∧ (d + 1 ≤ 6 ∧ p.length ≤ 400 ∧ p.built (d + 1)) ∧ d + 1 ≤ 6 ∧ q.length ≤ 400 ∧ q.built (d + 1)
  | .loop x p, d => IsWord x ∧ d + 1 ≤ 6 ∧ p.length ≤ 400 ∧ p.built (d + 1)
def Blk.built : Blk → Nat → Prop
  | .nil, _ => True
  | .cons r b, d => r.built d ∧ b.built d
end
mutual
def Row.deep : Row → Nat
  | .ifr _ a b => 1 + max a.deep b.deep
  | .loop _ a => 1 + a.deep
  | _ => 0
def Blk.deep : Blk → Nat
  | .nil => 0
  | .cons r b => max r.deep b.deep
end
/-! ### runs -/
inductive Note where
  | say (a : Int)
  | give (k : Nat) (a b : Int)
def Note.mv : Note → MV
  | .say a => .tup [.str "say", .int a]
  | .give k a b => .tup [.str "give", .int k, .int a, .int b]
structure RS where
  worth : Str → Int
  things : List (Int × Int)
  given : List Nat
  noted : List Note
  sites : List (List Nat)
def upd (w : Str → Int) (x : Str) (v : Int) : Str → Int := fun y => if y = x then v else w y
def RS.at (s : RS) (t : Str) : Int × Int := s.things.getD (s.worth t).toNat (0, 0)
def fld (p : Int × Int) (f : Int) : Int := if f = 0 then p.1 else p.2
def fldPut (p : Int × Int) (f v : Int) : Int × Int := if f = 0 then (v, p.2) else (p.1, v)
def RS.put (s : RS) (x : Str) (v : Int) : RS := { s with worth := upd s.worth x v }
def stirred (gs : List Nat) (ts : List (Int × Int)) : List (Int × Int) := gs.foldl (fun ts g => ts.set g (((ts.getD g (0, 0)).1 + 1) % 1000, (ts.getD g (0, 0)).2)) ts
def RS.give (s : RS) (g : Nat) : RS :=
  let gs := if g ∈ s.given then s.given else s.given ++ [g]
  { s with given := gs, noted := s.noted ++ [.give (gs.idxOf g) (s.things.getD g (0, 0)).1 (s.things.getD g (0, 0)).2] }
def loopN (c : RS → Bool) (f : RS → RS) : Nat → RS → RS
  | 0, s => s
  | n + 1, s => if c s then loopN c f n (f s) else s
mutual
def Row.exec : Row → List Nat → RS → RS
  | .num x i, _, s => s.put x i
  | .copy x y, _, s => s.put x (s.worth y)
  | .add x y z, _, s => s.put x ((s.worth y + s.worth z) % 1000)
  | .make t x y, pl, s => { s with worth := upd s.worth t s.things.length, things := s.things ++ [(s.worth x, s.worth y)], sites := s.sites ++ [pl] }
  | .get x t f, _, s => s.put x (fld (s.at t) f)
  | .put t f x, _, s => { s with things := s.things.set (s.worth t).toNat (fldPut (s.at t) f (s.worth x)) }
  | .lett t u, _, s => s.put t (s.worth u)
  | .same x t u, _, s => s.put x (if s.worth t = s.worth u then 1 else 0)
  | .say x, _, s => { s with noted := s.noted ++ [.say (s.worth x)] }
  | .give t, _, s => s.give (s.worth t).toNat
  | .stir, _, s => { s with things := stirred s.given s.things }
  | .ifr x p q, pl, s => if s.worth x = 0 then q.exec (pl ++ [1]) 0 s else p.exec (pl ++ [0]) 0 s
  | .loop x p, pl, s => loopN (fun s => decide (s.worth x ≠ 0)) (p.exec (pl ++ [0]) 0) 9 s
def Blk.exec : Blk → List Nat → Nat → RS → RS
  | .nil, _, _, s => s
  | .cons r b, pl, n, s => b.exec pl (n + 1) (r.exec (pl ++ [n]) s)
end
mutual
/-- steps at the most -/
def Row.steps : Row → Nat
  | .ifr _ a b => 1 + (a.steps + b.steps)
  | .loop _ a => 1 + 9 * a.steps
  | _ => 1
def Blk.steps : Blk → Nat
  | .nil => 0
  | .cons r b => r.steps + b.steps
end
mutual
/-- names used by their kinds -/
def Row.wk (κ : Str → Bool) : Row → Prop
  | .ifr x p q => κ x = false ∧ p.wk κ ∧ q.wk κ
  | .loop x p => κ x = false ∧ p.wk κ
  | r => ∀ p ∈ r.kinds, κ p.1 = p.2
def Blk.wk (κ : Str → Bool) : Blk → Prop
  | .nil => True
  | .cons r b => r.wk κ ∧ b.wk κ
end
end Mi
set_option Elab.async false
set_option linter.all false
set_option maxRecDepth 100000
set_option maxHeartbeats 1000000
/-! PlOp: operations, as equations. -/
namespace Mi
open PySem
section
variable {st : Store} {a b : Int} {v w : MV} {x y : Str} {kvs : List (Str × MV)} {n : Nat} {xs ys : List MV}
theorem lt_t (h : a < b) : runOp .lt [.int a, .int b] st = .ok (.bl true) st := by rw [lt_int, decide_eq_true h]
theorem lt_f (h : ¬ a < b) : runOp .lt [.int a, .int b] st = .ok (.bl false) st := by rw [lt_int, decide_eq_false h]
theorem le_t (h : a ≤ b) : runOp .le [.int a, .int b] st = .ok (.bl true) st := by rw [le_int, decide_eq_true h]
theorem le_f (h : ¬ a ≤ b) : runOp .le [.int a, .int b] st = .ok (.bl false) st := by rw [le_int, decide_eq_false h]
theorem gt_t (h : b < a) : runOp .gt [.int a, .int b] st = .ok (.bl true) st := by rw [gt_int, decide_eq_true h]
theorem gt_f (h : ¬ b < a) : runOp .gt [.int a, .int b] st = .ok (.bl false) st := by rw [gt_int, decide_eq_false h]
theorem eqi_t (h : a = b) : runOp .eq [.int a, .int b] st = .ok (.bl true) st := by subst h; rw [eq_int, beq_self_eq_true]
theorem eqi_f (h : a ≠ b) : runOp .eq [.int a, .int b] st = .ok (.bl false) st := by rw [eq_int, beq_false_of_ne h]
theorem nei_t (h : a ≠ b) : runOp .ne [.int a, .int b] st = .ok (.bl true) st := by rw [ne_int, beq_false_of_ne h]; rfl
theorem nei_f (h : a = b) : runOp .ne [.int a, .int b] st = .ok (.bl false) st := by subst h; rw [ne_int, beq_self_eq_true]; rfl
theorem dicOf_loc (h : st[n]? = some (.dic kvs)) : dicOf st (.loc n) = some kvs := by simp only [dicOf, h]
theorem dicL_loc (h : st[n]? = some (.dic kvs)) : dicL st (.loc n) = some kvs := by simp only [dicL, h]
theorem dicL_floc (h : st[n]? = some (.fdic kvs)) : dicL st (.loc n) = some kvs := by simp only [dicL, h]
theorem dicOf_L (h : dicL st v = some kvs) : dicOf st v = some kvs := by
  cases v <;> first | exact h | cases h
theorem lstOf_loc (h : st[n]? = some (.lst xs)) : lstOf st (.loc n) = some xs := by simp only [lstOf, h]
theorem lstS_loc (h : st[n]? = some (.lst xs)) : lstS st (.loc n) = some xs := by simp only [lstS, h]
theorem seqOf_loc (h : st[n]? = some (.lst xs)) : seqOf st (.loc n) = some xs := by simp only [seqOf, h]
theorem ix_dic (h : dicOf st v = some kvs) (hk : dget kvs x = some w) : runOp .ix [v, .str x] st = .ok w st := by
  show ixDic v x st = _
  simp only [ixDic, h, hk]
theorem inn_dic (h : dicOf st v = some kvs) (hs : ∀ s, v ≠ .str s) : runOp .inn [.str x, v] st = .ok (.bl (dget kvs x).isSome) st := by
  show ofB (inOp (.str x) v st) st = _
  have : inOp (.str x) v st = some (dget kvs x).isSome := by
    cases v <;> first | (exact absurd rfl (hs _)) | (simp only [inOp, inObj, h, inDic])
  rw [this]; rfl
theorem notin_dic (h : dicOf st v = some kvs) (hs : ∀ s, v ≠ .str s) : runOp .notin [.str x, v] st = .ok (.bl (!(dget kvs x).isSome)) st := by
  show ofB ((inOp (.str x) v st).map _) st = _
  have : inOp (.str x) v st = some (dget kvs x).isSome := by
    cases v <;> first | (exact absurd rfl (hs _)) | (simp only [inOp, inObj, h, inDic])
  rw [this]; rfl
theorem inn_dicl (h : st[n]? = some (.dic kvs)) : runOp .inn [.str x, .loc n] st = .ok (.bl (dget kvs x).isSome) st := inn_dic (dicOf_loc h) (fun _ e => by cases e)
theorem notin_dicl (h : st[n]? = some (.dic kvs)) : runOp .notin [.str x, .loc n] st = .ok (.bl (!(dget kvs x).isSome)) st := notin_dic (dicOf_loc h) (fun _ e => by cases e)
theorem dict1_dic {p : Bool} (h : dicL st v = some kvs) : runOp (.dict1 p) [v] st = .ok (.loc st.length) (st ++ [.dic kvs]) := by
  show (match dicL st v with | some kvs => new (.dic kvs) st | none => _) = _
  rw [h]; rfl
theorem dict1_lst {p : Bool} (h : pairsOf xs = some kvs) : runOp (.dict1 p) [.lst xs] st = .ok (.loc st.length) (st ++ [.dic (dmerge [] kvs)]) := by
  show (match (lstOf st (.lst xs)).bind pairsOf with | some kvs => new (.dic (dmerge [] kvs)) st | none => _) = _
  show (match pairsOf xs with | some kvs => new (.dic (dmerge [] kvs)) st | none => _) = _
  rw [h]; rfl
theorem all_op {bs : List Bool} (h : lstOf st v = some (bs.map MV.bl)) : runOp .all [v] st = .ok (.bl (bs.all id)) st := by
  show ofB (((lstOf st v).bind bools).map (·.all id)) st = _
  have e : bools (bs.map MV.bl) = some bs := by
    clear h
    unfold bools
    induction bs with
    | nil => rfl
    | cons b bs ih => rw [List.map_cons, List.mapM_cons, ih]; rfl
  rw [h, Option.bind_some, e]; rfl
theorem any_op {bs : List Bool} (h : lstOf st v = some (bs.map MV.bl)) : runOp .any [v] st = .ok (.bl (bs.any id)) st := by
  show ofB (((lstOf st v).bind bools).map (·.any id)) st = _
  have e : bools (bs.map MV.bl) = some bs := by
    clear h
    unfold bools
    induction bs with
    | nil => rfl
    | cons b bs ih => rw [List.map_cons, List.mapM_cons, ih]; rfl
  rw [h, Option.bind_some, e]; rfl
theorem sum_op {is : List Int} (h : lstOf st v = some (is.map MV.int)) : runOp .sum [v] st = .ok (.int is.sum) st := by
  show (match (lstOf st v).bind intsOf with | some ns => Res.ok (MV.int ns.sum) st | none => .err) = _
  have e : intsOf (is.map MV.int) = some is := by
    clear h
    unfold intsOf
    induction is with
    | nil => rfl
    | cons b bs ih => rw [List.map_cons, List.mapM_cons, ih]; rfl
  rw [h, Option.bind_some, e]
theorem append_me (h : st[n]? = some (.lst xs)) (hl : xs.length < lim) : runMe .append (.loc n) [v] st = .ok .non (st.set n (.lst (xs ++ [v]))) := by
  simp only [runMe, h]
  rw [if_pos hl]; rfl
theorem gate_l (h : st[n]? = some (.lst xs)) : kdOk .l (.loc n) st = true := by simp only [kdOk, lstOf, h, Option.isSome]
theorem gate_d (h : st[n]? = some (.dic kvs)) : kdOk .d (.loc n) st = true := by simp only [kdOk, h]
theorem setI_dic {env : Env} (h : st[n]? = some (.dic kvs)) (hl : kvs.length < lim) : stSt env (setIx (.loc n) (.str x) v st) = .ok (.nx env) (st.set n (.dic (dput kvs x v))) := by
  simp only [setIx, h]
  rw [if_pos hl]; rfl
theorem len_loc (h : st[n]? = some (.lst xs)) : runOp .len [.loc n] st = .ok (.int xs.length) st := by
  show lenObj (.loc n) st = _
  simp only [lenObj, seqOf_loc h]
theorem tuple1_loc (h : st[n]? = some (.lst xs)) : runOp .tuple1 [.loc n] st = .ok (.tup xs) st := by
  show (match tupSeq st (.loc n) with | some xs => Res.ok (MV.tup xs) st | none => .err) = _
  simp only [tupSeq, lstOf_loc h]
end
/-! ### tables -/
theorem dget_kd (ks : List Str) (x : Str) : dget (kd ks) x = if x ∈ ks then some (.bl true) else none := by
  induction ks with
  | nil => rfl
  | cons k ks ih =>
    unfold dget kd at *
    rw [List.map_cons, List.find?_cons]
    by_cases e : k = x
    · subst e; simp
    · rw [show decide (((k, MV.bl true) : Str × MV).1 = x) = false from decide_eq_false e]
      simp only [ih, List.mem_cons]
      by_cases hx : x ∈ ks
      · rw [if_pos hx, if_pos (.inr hx)]
      · rw [if_neg hx, if_neg (fun h => h.elim (fun h => e h.symm) hx)]
theorem dget_kd_some (ks : List Str) (x : Str) : (dget (kd ks) x).isSome = decide (x ∈ ks) := by
  rw [dget_kd]; split <;> simp_all
theorem dput_kd (ks : List Str) (x : Str) : dput (kd ks) x (.bl true) = kd (kput ks x) := by
  unfold dput kput
  have e : (((kd ks).any fun kv => decide (kv.1 = x)) = true) ↔ x ∈ ks := by
    simp [kd]
  by_cases hx : x ∈ ks
  · rw [if_pos (e.mpr hx), if_pos hx]
    unfold kd
    rw [List.map_map]
    apply List.map_congr_left
    intro k _
    simp only [Function.comp]
    split <;> rfl
  · rw [if_neg (fun h => hx (e.mp h)), if_neg hx]
    unfold kd
    rw [List.map_append]; rfl
theorem kd_length (ks : List Str) : (kd ks).length = ks.length := by simp [kd]
theorem mem_kput (ks : List Str) (x y : Str) : y ∈ kput ks x ↔ y ∈ ks ∨ y = x := by
  unfold kput
  split
  · constructor
    · exact .inl
    · intro h
      rcases h with h | rfl
      · exact h
      · assumption
  · simp
theorem kput_length (ks : List Str) (x : Str) : (kput ks x).length ≤ ks.length + 1 := by
  unfold kput; split <;> simp
theorem kput_le (ks : List Str) (x : Str) : ks.length ≤ (kput ks x).length := by
  unfold kput; split <;> simp
end Mi
set_option Elab.async false
set_option linter.all false
set_option maxRecDepth 100000
set_option maxHeartbeats 1000000
/-! PlSpec1: small functions. -/
namespace Mi.Sh
open PySem Mi
variable {G : Tab}
def optS : Option Str → MV
  | none => .non
  | some x => .str x
def kmv (p : Str × Bool) : MV := .tup [.str p.1, .str (kname p.2)]
theorem blocks_of_spec (H : HasP G) (r : Row) (d : Nat) (st : Store) : callF G (d + 1) (.fn "blocks_of") [r.mv] st = .ok (.lst (r.blks.map Blk.mv)) st := by
  refine inF_rt H.blocks_of rfl ?_
  cases r <;> kernel_rfl
theorem sets_spec (H : HasP G) (r : Row) (d : Nat) (st : Store) : callF G (d + 1) (.fn "sets") [r.mv] st = .ok (optS r.sets) st := by
  refine inF_rt H.sets rfl ?_
  cases r <;> kernel_rfl
theorem kinds_of_spec (H : HasP G) (r : Row) (d : Nat) (st : Store) : callF G (d + 1) (.fn "kinds_of") [r.mv] st = .ok (.lst (r.kinds.map kmv)) st := by
  refine inF_rt H.kinds_of rfl ?_
  cases r <;> kernel_rfl
theorem kinds_len (r : Row) : r.kinds.length ≤ 3 := by cases r <;> simp [Row.kinds]
theorem reads_len (r : Row) : r.reads.length ≤ 3 := by cases r <;> simp [Row.reads]
theorem reads_spec (H : HasP G) (r : Row) (d : Nat) (st : Store) : callF G (d + 2) (.fn "reads") [r.mv] st = .ok (.lst (r.reads.map MV.str)) st := by
  refine inF_rt H.reads rfl ?_
  refine sM (r := evalE (callF G (d + 1)) d_reads_lc1 [some r.mv, none, none, none] st) (v := .lst (r.kinds.map fun p => .str p.1)) (st := st) ?_ ?_ ?_
  · exact ev_lc r.kinds kmv (fun p => .str p.1) (vs := [.lst (r.kinds.map kmv)]) (inE (sM (kinds_of_spec H r d st) (by kernel_rfl) (by kernel_rfl))) (by kernel_rfl) (Nat.le_trans (kinds_len r) (by decide)) fun p hp => ⟨_, rfl, rfl, by kernel_rfl⟩
  · kernel_rfl
  · cases r <;> kernel_rfl
/-! ### words, parts -/
def letters : Str := "abcdefghijklmnopqrstuvwxyz"
theorem letters_has {c : Nat} (h : 97 ≤ c ∧ c ≤ 122) : letters.cps.contains c = true := by
  have : ∀ c : Nat, c < 123 → 97 ≤ c → letters.cps.contains c = true := by decide +kernel
  exact this c (by omega) h.1
theorem strip_word {x : Str} (h : IsWord x) : Txt.stripChars x letters = ("" : Str) := by
  obtain ⟨_, _, h⟩ := h
  unfold Txt.stripChars
  rw [PyProof.Rows.stripBy_eq]
  have e : x.cps.toList.takeWhile letters.cps.contains = x.cps.toList := by
    have key : ∀ l : List Nat, (∀ c ∈ l, 97 ≤ c ∧ c ≤ 122) → l.takeWhile letters.cps.contains = l := by
      intro l
      induction l with
      | nil => intro _; rfl
      | cons c l ih =>
        intro h
        rw [List.takeWhile_cons, letters_has (h c (List.mem_cons_self ..)), ih fun c hc => h c (List.mem_cons_of_mem _ hc)]
        rfl
    exact key _ h
  have e1 : stripLo letters.cps.contains true x = x.length := by
    show (x.cps.toList.takeWhile letters.cps.contains).length = _
    rw [e]; rfl
  rw [e1]
  have e2 : stripHi letters.cps.contains true x x.length = x.length := by
    show x.length - ((x.cps.toList.drop x.length).reverse.takeWhile letters.cps.contains).length = _
    have : x.cps.toList.drop x.length = [] := List.drop_eq_nil_of_le (Nat.le_refl _)
    rw [this]
    rfl
  rw [e2]
  have : (Builtin.Str.strSub x x.length x.length).cps = #[] := by
    unfold Builtin.Str.strSub
    simp
    exact Nat.min_le_left _ _
  have e3 : ("" : Str) = ⟨#[]⟩ := by decide +kernel
  rw [e3, ← this]
theorem word_len {x : Str} (h : IsWord x) : 1 ≤ x.length ∧ x.length ≤ 6 := ⟨h.1, h.2.1⟩
theorem is_word_spec (H : HasP G) {x : Str} (h : IsWord x) (d : Nat) (st : Store) : callF G (d + 1) (.fn "is_word") [.str x] st = .ok (.bl true) st := by
  have hl := word_len h
  refine inF_rt H.is_word rfl ?_
  refine sM (r := runOp .len [.str x] st) (v := .int x.length) (st := st) ?_ (by kernel_rfl) ?_
  · show (if x.length ≤ lim then _ else _) = _
    rw [if_pos (Nat.le_trans hl.2 (by decide))]
  refine sC (le_t (a := 1) (b := x.length) (st := st) (by omega)) (by kernel_rfl) ?_
  refine sM (le_t (a := x.length) (b := 6) (st := st) (by omega)) (by kernel_rfl) ?_
  refine sM (r := runMe .strip (.str x) [.str letters] st) (v := .str "") (st := st) ?_ (by kernel_rfl) (by kernel_rfl)
  show (if x.length ≤ lim then Res.ok (MV.str (Txt.stripChars x letters)) st else _) = _
  rw [if_pos (Nat.le_trans hl.2 (by decide)), strip_word h]
theorem is_whole_spec (H : HasP G) {i lo hi : Int} (h1 : lo ≤ i) (h2 : i ≤ hi) (d : Nat) (st : Store) : callF G (d + 1) (.fn "is_whole") [.int i, .int lo, .int hi] st = .ok (.bl true) st := by
  refine inF_rt H.is_whole rfl ?_
  refine sC (le_t (a := lo) (b := i) (st := st) h1) (by kernel_rfl) ?_
  exact sM (le_t (a := i) (b := hi) (st := st) h2) (by kernel_rfl) (by kernel_rfl)
inductive PartOk : Str → MV → Prop where
  | n {x : Str} (h : IsWord x) : PartOk "n" (.str x)
  | t {x : Str} (h : IsWord x) : PartOk "t" (.str x)
  | h {i : Int} (h1 : 0 ≤ i) (h2 : i ≤ 999) : PartOk "#" (.int i)
  | f {i : Int} (h1 : 0 ≤ i) (h2 : i ≤ 1) : PartOk "f" (.int i)
theorem is_part_spec (H : HasP G) {s : Str} {v : MV} (h : PartOk s v) (d : Nat) (st : Store) : callF G (d + 2) (.fn "is_part") [.str s, v] st = .ok (.bl true) st := by
  refine inF_rt H.is_part rfl ?_
  cases h with
  | n h => exact sM (is_word_spec H h d st) (by kernel_rfl) (by kernel_rfl)
  | t h => exact sM (is_word_spec H h d st) (by kernel_rfl) (by kernel_rfl)
  | h h1 h2 => exact sM (is_whole_spec H h1 h2 d st) (by kernel_rfl) (by kernel_rfl)
  | f h1 h2 => exact sM (is_whole_spec H h1 h2 d st) (by kernel_rfl) (by kernel_rfl)
/-! ### rows and blocks are such -/
def _root_.Mi.Row.parts : Row → List (Str × MV)
  | .num x i => [("n", .str x), ("#", .int i)]
  | .copy x y => [("n", .str x), ("n", .str y)]
  | .add x y z => [("n", .str x), ("n", .str y), ("n", .str z)]
  | .make t x y => [("t", .str t), ("n", .str x), ("n", .str y)]
  | .get x t f => [("n", .str x), ("t", .str t), ("f", .int f)]
  | .put t f x => [("t", .str t), ("f", .int f), ("n", .str x)]
  | .lett t u => [("t", .str t), ("t", .str u)]
  | .same x t u => [("n", .str x), ("t", .str t), ("t", .str u)]
  | .say x => [("n", .str x)]
  | .give t => [("t", .str t)]
  | .stir => []
  | .ifr _ _ _ => []
  | .loop _ _ => []
def encP (p : Str × MV) : MV := .tup [.str p.1, p.2]
theorem parts_ok {r : Row} {d : Nat} (h : r.built d) : ∀ p ∈ Row.parts r, PartOk p.1 p.2 := by
  intro p hp
  cases r <;> simp only [Row.parts, List.mem_cons, List.not_mem_nil, or_false] at hp <;> simp only [Row.built] at h
  case num => rcases hp with rfl | rfl; exact .n h.1; exact .h h.2.1 h.2.2
  case copy => rcases hp with rfl | rfl; exact .n h.1; exact .n h.2
  case add => rcases hp with rfl | rfl | rfl; exact .n h.1; exact .n h.2.1; exact .n h.2.2
  case make => rcases hp with rfl | rfl | rfl; exact .t h.1; exact .n h.2.1; exact .n h.2.2
  case get => rcases hp with rfl | rfl | rfl; exact .n h.1; exact .t h.2.1; exact .f h.2.2.1 h.2.2.2
  case put => rcases hp with rfl | rfl | rfl; exact .t h.1; exact .f h.2.1.1 h.2.1.2; exact .n h.2.2
  case lett => rcases hp with rfl | rfl; exact .t h.1; exact .t h.2
  case same => rcases hp with rfl | rfl | rfl; exact .n h.1; exact .t h.2.1; exact .t h.2.2
  case say => rcases hp with rfl; exact .n h
  case give => rcases hp with rfl; exact .t h
theorem parts_len (r : Row) : (Row.parts r).length ≤ 3 := by cases r <;> simp [Row.parts]
def _root_.Mi.Row.shapes : Row → Str
  | .num .. => "n#"
  | .copy .. => "nn"
  | .add .. => "nnn"
  | .make .. => "tnn"
  | .get .. => "ntf"
  | .put .. => "tfn"
  | .lett .. => "tt"
  | .same .. => "ntt"
  | .say .. => "n"
  | .give .. => "t"
  | _ => ""
/-- the parts' comprehension -/
theorem partsLc (H : HasP G) (d : Nat) (st : Store) (l : List (Str × MV)) (hp : ∀ p ∈ l, PartOk p.1 p.2) (hl : l.length ≤ 3) (e0 e2 : MV) (e1 e3 e4 : Option MV) (vs : List MV)
    (hi : (tE (callF G (d + 2)) (.cons (.var 2) (.cons (.op .slL (.cons (.var 0) (.cons (.lit (.int 1)) .nil))) .nil)) [some e0, e1, some e2, e3, e4] st).run = .ok (.tup vs) st) (hx : items .zip vs st = some (l.map encP, none)) :
    evalE (callF G (d + 2)) d_is_row_lc2 [some e0, e1, some e2, e3, e4] st = .ok (.lst (l.map fun _ => .bl true)) st :=
  ev_lc l encP (fun _ => .bl true) (inE hi) hx (Nat.le_trans hl (by decide)) fun p h => ⟨[some e0, e1, some e2, some (.str p.1), some p.2], rfl, rfl, inE (sM (is_part_spec H (hp p h) d st) (by kernel_rfl) (by kernel_rfl))⟩
theorem is_row_simple (H : HasP G) (r : Row) (hs : r.blks = []) {dd : Nat} (hb : r.built dd) (d : Nat) (st : Store) : callF G (d + 3) (.fn "is_row") [r.mv, .int dd] st = .ok (.bl true) st := by
  refine inF_rt H.is_row rfl ?_
  refine sF 3 ?_
  refine sM (partsLc H d st (Row.parts r) (parts_ok hb) (parts_len r) r.mv (.str (Row.shapes r)) (some (.int dd)) none none [.str (Row.shapes r), .tup ((Row.parts r).map (·.2))] ?_ ?_) ?_ (sF 1 ?_)
  all_goals
    cases r
    case ifr => cases hs
    case loop => cases hs
    all_goals kernel_rfl
def _root_.Mi.Blk.rows : Blk → List Row
  | .nil => []
  | .cons r b => r :: b.rows
theorem mvs_rows : ∀ b : Blk, b.mvs = (Blk.rows b).map Row.mv
  | .nil => rfl
  | .cons r b => by show r.mv :: b.mvs = r.mv :: _; rw [mvs_rows b]
theorem rows_len : ∀ b : Blk, (Blk.rows b).length = b.length
  | .nil => rfl
  | .cons r b => by show (Blk.rows b).length + 1 = b.length + 1; rw [rows_len b]
theorem built_rows {d : Nat} : ∀ {b : Blk}, b.built d → ∀ r ∈ Blk.rows b, r.built d
  | .nil, _, r, h => by cases h
  | .cons r' b, hb, r, h => by
    rcases List.mem_cons.mp h with rfl | h
    · exact hb.1
    · exact built_rows hb.2 r h
theorem deep_rows : ∀ {b : Blk}, ∀ r ∈ Blk.rows b, r.deep ≤ b.deep
  | .nil, r, h => by cases h
  | .cons r' b, r, h => by
    show r.deep ≤ max r'.deep b.deep
    rcases List.mem_cons.mp h with rfl | h
    · omega
    · have := deep_rows (b := b) r h; omega
theorem all_true {α : Type} (l : List α) (st : Store) : runOp .all [.lst (l.map fun _ => .bl true)] st = .ok (.bl true) st := by
  have := all_op (st := st) (v := .lst (l.map fun _ => .bl true)) (bs := l.map fun _ => true) (by rw [List.map_map]; rfl)
  rw [this]
  simp
/-- is_block, from is_row -/
theorem is_block_of (H : HasP G) (b : Blk) {dd : Nat} (hd : dd ≤ 6) (hl : b.length ≤ 400) (d : Nat) (st : Store) (hr : ∀ r ∈ Blk.rows b, callF G d (.fn "is_row") [r.mv, .int dd] st = .ok (.bl true) st) :
    callF G (d + 1) (.fn "is_block") [b.mv, .int dd] st = .ok (.bl true) st := by
  obtain ⟨nm, hG⟩ := H.is_block
  refine inF_rt hG rfl ?_
  refine sM (gt_f (a := dd) (b := 6) (st := st) (by omega)) (by kernel_rfl) ?_
  refine sM (gt_f (a := (b.mvs.length : Int)) (b := 400) (st := st) (by rw [mvs_rows, List.length_map, rows_len]; omega)) (by kernel_rfl) ?_
  refine sM (r := evalE (callF G d) d_is_block_lc1 [some b.mv, some (.int dd), none] st) (v := .lst ((Blk.rows b).map fun _ => .bl true)) (st := st) ?_ (by kernel_rfl) ?_
  · refine ev_lc (Blk.rows b) Row.mv (fun _ => .bl true) (vs := [b.mv]) (by kernel_rfl) ?_ (by rw [rows_len]; exact Nat.le_trans hl (by decide)) fun r h => ⟨[some b.mv, some (.int dd), some r.mv], rfl, rfl, inE (sM (hr r h) (by kernel_rfl) (by kernel_rfl))⟩
    rw [← mvs_rows]; rfl
  · exact sM (all_true (Blk.rows b) st) (by kernel_rfl) (by kernel_rfl)
theorem row_cases (r : Row) : r.blks = [] ∨ (∃ x p q, r = .ifr x p q) ∨ ∃ x p, r = .loop x p := by
  cases r <;> first | exact .inl rfl | exact .inr (.inl ⟨_, _, _, rfl⟩) | exact .inr (.inr ⟨_, _, rfl⟩)
theorem blks_size {r : Row} {a : Blk} (h : a ∈ r.blks) : a.size + 1 ≤ r.size := by
  cases r <;> simp only [Row.blks, List.mem_cons, List.not_mem_nil, or_false] at h
  case ifr x p q =>
    show a.size + 1 ≤ 1 + (p.size + q.size)
    rcases h with rfl | rfl <;> omega
  case loop x p =>
    show a.size + 1 ≤ 1 + p.size
    subst h; omega
theorem rows_size : ∀ {b : Blk} {r : Row}, r ∈ b.rows → r.size ≤ b.size
  | .nil, r, h => by cases h
  | .cons r' b, r, h => by
    show r.size ≤ r'.size + b.size
    rcases List.mem_cons.mp h with rfl | h
    · omega
    · have := rows_size h; omega
theorem blks_deep {r : Row} {a : Blk} (h : a ∈ r.blks) : a.deep + 1 ≤ r.deep := by
  cases r <;> simp only [Row.blks, List.mem_cons, List.not_mem_nil, or_false] at h
  case ifr x p q =>
    show a.deep + 1 ≤ 1 + max p.deep q.deep
    rcases h with rfl | rfl <;> omega
  case loop x p =>
    show a.deep + 1 ≤ 1 + p.deep
    subst h; omega
theorem blk_ind {P : Blk → Prop} (h : ∀ b, (∀ r ∈ b.rows, ∀ a ∈ r.blks, P a) → P b) : ∀ b, P b := by
  have : ∀ n b, b.size < n → P b := by
    intro n
    induction n with
    | zero => intro b hb; omega
    | succ n ih =>
      intro b hb
      refine h b fun r hr a ha => ih a ?_
      have h1 := blks_size ha
      have h2 := rows_size hr
      omega
  exact fun b => this _ b (Nat.lt_succ_self _)
theorem is_block_spec (H : HasP G) : ∀ (b : Blk) {dd : Nat} (hd6 : dd ≤ 6) (hl : b.length ≤ 400) (hb : b.built dd) (d : Nat) (st : Store), 4 + 2 * b.deep ≤ d → callF G d (.fn "is_block") [b.mv, .int dd] st = .ok (.bl true) st := by
  intro b
  induction b using blk_ind with
  | h b ih =>
    intro dd hd6 hl hb d st hd
    obtain ⟨d, rfl⟩ : ∃ e, d = e + 4 := ⟨d - 4, by omega⟩
    refine is_block_of H b hd6 hl (d + 3) st fun r hr => ?_
    have hbr := built_rows hb r hr
    have hdr := deep_rows r hr
    have ih := ih r hr
    by_cases hs : r.blks = []
    · exact is_row_simple H r hs hbr d st
    cases r <;> first | exact absurd rfl hs | skip
    case ifr x p q =>
      obtain ⟨hx, ⟨h1, h2, h3⟩, h4, h5, h6⟩ := hbr
      have hd : 1 + max p.deep q.deep ≤ b.deep := hdr
      have e1 := ih p (by simp [Row.blks]) h1 h2 h3 (d + 2) st (by omega)
      have e2 := ih q (by simp [Row.blks]) h4 h5 h6 (d + 2) st (by omega)
      refine inF_rt H.is_row rfl ?_
      refine sF 2 (sM (is_word_spec H hx (d + 1) st) (by kernel_rfl) ?_)
      refine sM (r := evalE (callF G (d + 2)) d_is_row_lc1 [some (Row.ifr x p q).mv, some (.int dd), none, none, none] st) (v := .lst [.bl true, .bl true]) (st := st) ?_ (by kernel_rfl) (sF 1 (by kernel_rfl))
      refine ev_lc [p, q] Blk.mv (fun _ => .bl true) (vs := [.tup [p.mv, q.mv]]) (by kernel_rfl) rfl (by show 2 ≤ lim; decide) fun b h => ⟨[some (Row.ifr x p q).mv, some (.int dd), none, none, some b.mv], rfl, rfl, ?_⟩
      simp only [List.mem_cons, List.not_mem_nil, or_false] at h
      rcases h with rfl | rfl
      · exact inE (sM e1 (by kernel_rfl) (by kernel_rfl))
      · exact inE (sM e2 (by kernel_rfl) (by kernel_rfl))
    case loop x p =>
      obtain ⟨hx, h1, h2, h3⟩ := hbr
      have hd : 1 + p.deep ≤ b.deep := hdr
      have e1 := ih p (by simp [Row.blks]) h1 h2 h3 (d + 2) st (by omega)
      refine inF_rt H.is_row rfl ?_
      exact sF 2 (sM (is_word_spec H hx (d + 1) st) (by kernel_rfl) (sM e1 (by kernel_rfl) (by kernel_rfl)))
end Mi.Sh
set_option Elab.async false
set_option linter.all false
set_option maxRecDepth 100000
set_option maxHeartbeats 1000000
/-! PlLoop: walks, the store. -/
namespace Mi
open PySem
/-! ### the store -/
section
variable {st : Store} {n m : Nat} {o o' : MO} {j : List MO}
theorem lt_of_get (h : st[n]? = some o) : n < st.length := by
  rcases Nat.lt_or_ge n st.length with h' | h'
  · exact h'
  · rw [List.getElem?_eq_none h'] at h; cases h
theorem get_set (h : n < st.length) : (st.set n o)[n]? = some o := by rw [List.getElem?_set_self h]
theorem get_set_ne (h : n ≠ m) : (st.set n o)[m]? = st[m]? := List.getElem?_set_ne h
theorem set_same (h : st[n]? = some o) : st.set n o = st := by
  apply List.ext_getElem?
  intro i
  by_cases e : n = i
  · subst e; rw [get_set (lt_of_get h), h]
  · rw [get_set_ne e]
theorem get_app (h : n < st.length) : (st ++ j)[n]? = st[n]? := List.getElem?_append_left h
theorem get_app' (h : st[n]? = some o) : (st ++ j)[n]? = some o := by rw [get_app (lt_of_get h), h]
theorem get_new : (st ++ o :: j)[st.length]? = some o := by rw [List.getElem?_append_right (Nat.le_refl _), Nat.sub_self]; rfl
theorem set_new : (st ++ o :: j).set st.length o' = st ++ o' :: j := by rw [List.set_append_right _ _ (Nat.le_refl _), Nat.sub_self]; rfl
theorem set_app (h : n < st.length) : (st ++ j).set n o = st.set n o ++ j := by rw [List.set_append_left _ _ h]
end
theorem items_dic {st : Store} {n : Nat} {kvs : List (Str × MV)} (h : st[n]? = some (.dic kvs)) : items .seq [.loc n] st = some (kvs.map fun kv => .str kv.1, some (n, .dic kvs)) := by
  simp only [items, h]
theorem items_lst {st : Store} {n : Nat} {xs : List MV} (h : st[n]? = some (.lst xs)) : items .seq [.loc n] st = some (xs, some (n, .lst xs)) := by
  simp only [items, h]
/-! ### comprehensions of few items, the store changing -/
section
variable {F : Fn} {env : Env} {st st1 st2 st3 : Store} {own : List Nat} {tg : Tg} {k : ItK} {it cond elt : E} {vs : List MV} {x y u1 u2 : MV} {e1 e2 : Env}
theorem ev_lc0 (hi : evalE F it env st = .ok (.tup vs) st1) (hx : items k vs st1 = some ([], none)) : evalE F (.lc true own tg k it cond elt) env st = .ok (.lst []) st1 := by
  simp only [evalE, hi, itR, hx]; rfl
theorem ev_lc1 (hi : evalE F it env st = .ok (.tup vs) st1) (hx : items k vs st1 = some ([x], none)) (b1 : bindT st1 tg x (wipeE env own) = some e1) (c1 : evalE F cond e1 st1 = .ok (.bl true) st1) (v1 : evalE F elt e1 st1 = .ok u1 st2) :
    evalE F (.lc true own tg k it cond elt) env st = .ok (.lst [u1]) st2 := by
  simp only [evalE, hi, itR, hx, lock, lcGo, b1, lcStep, c1, onB_true, v1]; rfl
theorem ev_lc2 (hi : evalE F it env st = .ok (.tup vs) st1) (hx : items k vs st1 = some ([x, y], none)) (b1 : bindT st1 tg x (wipeE env own) = some e1) (c1 : evalE F cond e1 st1 = .ok (.bl true) st1) (v1 : evalE F elt e1 st1 = .ok u1 st2)
    (b2 : bindT st2 tg y (wipeE env own) = some e2) (c2 : evalE F cond e2 st2 = .ok (.bl true) st2) (v2 : evalE F elt e2 st2 = .ok u2 st3) :
    evalE F (.lc true own tg k it cond elt) env st = .ok (.lst [u1, u2]) st3 := by
  have l1 : ([] : List MV).length < lim := by decide
  have l2 : ([] ++ [u1] : List MV).length < lim := by show 1 < lim; decide
  simp only [evalE, hi, itR, hx, lock, lcGo, b1, lcStep, c1, onB_true, v1]
  rw [if_pos l1]
  simp only [b2, c2, onB_true, v2]
  rw [if_pos l2]
  rfl
end
/-- [elt for target in it if cond], the store standing but for the lock -/
theorem ev_lcF {α : Type} {F : Fn} {env : Env} {st st1 : Store} {own : List Nat} {tg : Tg} {k : ItK} {it cond elt : E} {vs : List MV} {lk : Option (Nat × MO)} (l : List α) (enc : α → MV) (ok : α → Bool) (res : α → MV) (hi : evalE F it env st = .ok (.tup vs) st1) (hx : items k vs st1 = some (l.map enc, lk)) (hl : l.length ≤ lim) (hk : unlock lk (lock lk st1) = st1)
    (hs : ∀ x ∈ l, ∃ env1, bindT (lock lk st1) tg (enc x) (wipeE env own) = some env1 ∧ evalE F cond env1 (lock lk st1) = .ok (.bl (ok x)) (lock lk st1) ∧ (ok x = true → evalE F elt env1 (lock lk st1) = .ok (res x) (lock lk st1))) :
    evalE F (.lc true own tg k it cond elt) env st = .ok (.lst ((l.filter ok).map res)) st1 := by
  have key : ∀ (l : List α) (acc : List MV), (∀ x ∈ l, ∃ env1, bindT (lock lk st1) tg (enc x) (wipeE env own) = some env1 ∧ evalE F cond env1 (lock lk st1) = .ok (.bl (ok x)) (lock lk st1) ∧ (ok x = true → evalE F elt env1 (lock lk st1) = .ok (res x) (lock lk st1))) → acc.length + l.length ≤ lim →
      lcGo (fun x st => lcStep (evalE F cond) (evalE F elt) (bindT st tg x (wipeE env own)) st) (l.map enc) acc (lock lk st1) = .ok (acc ++ (l.filter ok).map res) (lock lk st1) := by
    intro l
    induction l with
    | nil => intro acc _ _; simp [lcGo]
    | cons x l ih =>
      intro acc h hl
      obtain ⟨env1, h1, h2, h3⟩ := h x (List.mem_cons_self ..)
      rw [List.length_cons] at hl
      cases hok : ok x with
      | true =>
        rw [hok] at h2
        have e : lcStep (evalE F cond) (evalE F elt) (bindT (lock lk st1) tg (enc x) (wipeE env own)) (lock lk st1) = .ok (some (res x)) (lock lk st1) := by
          rw [h1]
          simp only [lcStep, h2, onB_true, h3 hok]
        have ih' := ih (acc ++ [res x]) (fun y hy => h y (List.mem_cons_of_mem _ hy)) (by rw [List.length_append, List.length_singleton]; omega)
        rw [List.map_cons]
        simp only [lcGo, e]
        rw [if_pos (by omega), ih', List.append_assoc, List.filter_cons_of_pos hok]
        rfl
      | false =>
        rw [hok] at h2
        have e : lcStep (evalE F cond) (evalE F elt) (bindT (lock lk st1) tg (enc x) (wipeE env own)) (lock lk st1) = .ok none (lock lk st1) := by
          rw [h1]
          simp only [lcStep, h2, onB_false]
        have ih' := ih acc (fun y hy => h y (List.mem_cons_of_mem _ hy)) (by omega)
        rw [List.map_cons]
        simp only [lcGo, e]
        rw [ih', List.filter_cons_of_neg (by rw [hok]; simp)]
  simp only [evalE, hi, itR, hx]
  have := key l [] hs (by simpa using hl)
  show lcEnd true lk (lcGo _ (l.map enc) [] (lock lk st1)) = _
  rw [this]
  show Res.ok (MV.lst _) (unlock lk (lock lk st1)) = _
  rw [hk]; rfl
theorem unlock_lock {st : Store} {n : Nat} {o : MO} (h : st[n]? = some o) : unlock (some (n, o)) (lock (some (n, o)) st) = st := by
  show (st.set n _).set n o = st
  rw [List.set_set, set_same h]
/-! ### for -/
theorem for_fold {α σ : Type} {step : MV → Env → Store → Res Out} {l : Option (Nat × MO)} {enc : α → MV} (f : σ → α → σ) (R : σ → Env → Store → Prop) : ∀ (as : List α) (s : σ) (env : Env) (st : Store),
    (∀ a ∈ as, ∀ s env st, R s env st → ∃ env' st', step (enc a) env st = .ok (.nx env') st' ∧ R (f s a) env' st') → R s env st →
    ∃ env' st', forGo step l (as.map enc) env st = .ok (.nx env') (unlock l st') ∧ R (as.foldl f s) env' st'
  | [], s, env, st, _, h => ⟨env, st, rfl, h⟩
  | a :: as, s, env, st, hs, h => by
    obtain ⟨env1, st1, e1, h1⟩ := hs a (List.mem_cons_self ..) s env st h
    obtain ⟨env2, st2, e2, h2⟩ := for_fold f R as (f s a) env1 st1 (fun b hb => hs b (List.mem_cons_of_mem _ hb)) h1
    exact ⟨env2, st2, by rw [List.map_cons, for_cons e1, e2], h2⟩
section
variable {α : Type} {t : T α} {R : Res α} {st : Store} {n : Nat} {kvs : List (Str × MV)} {xs : List MV}
theorem sGd (h : st[n]? = some (.dic kvs)) (hh : t.hM = some (gate (kdOk .d (.loc n) st) st)) (hn : (t.xM .non st).run = R) : t.run = R := sG (gate_d h) hh hn
theorem sGl (h : st[n]? = some (.lst xs)) (hh : t.hM = some (gate (kdOk .l (.loc n) st) st)) (hn : (t.xM .non st).run = R) : t.run = R := sG (gate_l h) hh hn
end
end Mi
set_option Elab.async false
set_option linter.all false
set_option maxRecDepth 100000
set_option maxHeartbeats 1000000
/-! PlSpec2: count_of, kinds_in. -/
namespace Mi.Sh
open PySem Mi
variable {G : Tab}
theorem blocks_of_nil (H : HasP G) {r : Row} (h : r.blks = []) (d : Nat) (st : Store) : callF G (d + 1) (.fn "blocks_of") [r.mv] st = .ok (.lst []) st := by
  have := blocks_of_spec H r d st
  rwa [h] at this
/-! ### count_of -/
theorem row_size (r : Row) : (r.size : Int) = 1 + (r.blks.map fun a => (a.size : Int)).sum := by
  cases r <;> simp [Row.size, Row.blks]
theorem blk_size : ∀ b : Blk, (b.size : Int) = (b.rows.map fun r => (r.size : Int)).sum
  | .nil => rfl
  | .cons r b => by
    have := blk_size b
    show ((r.size + b.size : Nat) : Int) = _
    simp only [Blk.rows, List.map_cons, List.sum_cons]
    omega
theorem count_of_spec (H : HasP G) : ∀ (b : Blk) (hs : b.size ≤ lim) (d : Nat) (st : Store), 2 + b.deep ≤ d → callF G d (.fn "count_of") [b.mv] st = .ok (.int b.size) st := by
  intro b
  induction b using blk_ind with
  | h b ih =>
    intro hs d st hd
    obtain ⟨d, rfl⟩ : ∃ e, d = e + 2 := ⟨d - 2, by omega⟩
    refine inF_rt H.count_of rfl ?_
    have hlen : b.length ≤ b.size := by
      clear ih hd hs
      have key : ∀ b : Blk, b.length ≤ b.size := by
        intro b
        induction b using Blk.rec (motive_1 := fun _ => True) with
        | nil => exact Nat.le_refl _
        | cons r b _ ih =>
          show b.length + 1 ≤ r.size + b.size
          have : 1 ≤ r.size := by cases r <;> simp [Row.size]
          omega
        | _ => trivial
      exact key b
    refine sM (r := evalE (callF G (d + 1)) d_count_of_lc2 [some b.mv, none, none] st) (v := .lst (b.rows.map fun r => .int r.size)) (st := st) ?_ (by kernel_rfl) ?_
    · refine ev_lc b.rows Row.mv (fun r => .int r.size) (vs := [b.mv]) (by kernel_rfl) (by rw [← mvs_rows]; rfl) (by rw [rows_len]; omega) fun r hr => ⟨[some b.mv, some r.mv, none], rfl, rfl, inE ?_⟩
      have h2 := rows_size hr
      have h3 := deep_rows r hr
      refine sM (r := evalE (callF G (d + 1)) d_count_of_lc1 [some b.mv, some r.mv, none] st) (v := .lst (r.blks.map fun a => .int a.size)) (st := st) ?_ (by kernel_rfl) ?_
      · refine ev_lc r.blks Blk.mv (fun a => .int a.size) (vs := [.lst (r.blks.map Blk.mv)]) (inE (sM (blocks_of_spec H r d st) (by kernel_rfl) (by kernel_rfl))) rfl (by cases r <;> simp [Row.blks] <;> decide) fun a ha => ⟨[some b.mv, some r.mv, some a.mv], rfl, rfl, inE ?_⟩
        have h1 := blks_size ha
        have h4 := blks_deep ha
        exact sM (ih r hr a ha (by omega) (d + 1) st (by omega)) (by kernel_rfl) (by kernel_rfl)
      · refine sM (sum_op (st := st) (v := .lst (r.blks.map fun a => .int a.size)) (is := r.blks.map fun a => (a.size : Int)) (by simp [lstOf])) (by kernel_rfl) ?_
        rw [row_size]; kernel_rfl
    · refine sM (sum_op (st := st) (v := .lst (b.rows.map fun a => .int a.size)) (is := b.rows.map fun a => (a.size : Int)) (by simp [lstOf])) (by kernel_rfl) ?_
      rw [blk_size]; kernel_rfl
/-! ### kinds_in -/
def kk (kn : List (Str × Bool)) : List (Str × MV) := kn.map fun p => (p.1, .str (kname p.2))
theorem dget_kk (kn : List (Str × Bool)) (x : Str) : dget (kk kn) x = (dget kn x).map fun k => .str (kname k) := by
  induction kn with
  | nil => rfl
  | cons p kn ih =>
    unfold dget kk at *
    rw [List.map_cons, List.find?_cons, List.find?_cons]
    by_cases e : p.1 = x
    · simp [e]
    · simp only [e, decide_false]
      exact ih
theorem kk_len (kn : List (Str × Bool)) : (kk kn).length = kn.length := by simp [kk]
theorem dput_new {α : Type} {kn : List (Str × α)} {x : Str} {v : α} (h : dget kn x = none) : dput kn x v = kn ++ [(x, v)] := by
  unfold dput
  rw [if_neg]
  intro e
  unfold dget at h
  rw [Option.map_eq_none_iff, List.find?_eq_none] at h
  rw [List.any_eq_true] at e
  obtain ⟨p, hp, e⟩ := e
  exact h p hp e
theorem kAdd_len : ∀ (l kn : List (Str × Bool)), (kAdd l kn).2.length ≤ kn.length + l.length
  | [], kn => Nat.le_refl _
  | (x, k) :: l, kn => by
    unfold kAdd
    split
    · have := kAdd_len l (kn ++ [(x, k)])
      simp only [List.length_append, List.length_cons, List.length_nil] at *
      omega
    · split
      · have := kAdd_len l kn
        simp only [List.length_cons]; omega
      · simp only [List.length_cons]; omega
theorem setdefault_some {st : Store} {n : Nat} {kvs : List (Str × MV)} {x : Str} {v w : MV} (h : st[n]? = some (.dic kvs)) (hl : kvs.length < lim) (hk : dget kvs x = some w) : runMe .setdefault (.loc n) [.str x, v] st = .ok w st := by
  simp only [runMe, h, hk]
  rw [if_pos hl]
theorem setdefault_none {st : Store} {n : Nat} {kvs : List (Str × MV)} {x : Str} {v : MV} (h : st[n]? = some (.dic kvs)) (hl : kvs.length < lim) (hk : dget kvs x = none) : runMe .setdefault (.loc n) [.str x, v] st = .ok v (st.set n (.dic (dput kvs x v))) := by
  simp only [runMe, h, hk]
  rw [if_pos hl]; rfl
/-- the names of a row -/
theorem kinds_go (F : Fn) (st : Store) (n : Nat) (hn : n < st.length) (e0 e2 e5 : Option MV) : ∀ (l kn : List (Str × Bool)) (e3 e4 : Option MV), kn.length + l.length < lim →
    ∃ e3' e4', forGo (fun x env st => forStep (execS F d_kinds_in_fb1) (bindT st (.tup (.cons (.name 3) (.cons (.name 4) .nil))) x env) st) none (l.map kmv) [e0, some (.loc n), e2, e3, e4, e5] (st.set n (.dic (kk kn))) =
      .ok (if (kAdd l kn).1 then .nx [e0, some (.loc n), e2, e3', e4', e5] else .rt (.bl false)) (st.set n (.dic (kk (kAdd l kn).2)))
  | [], kn, e3, e4, _ => ⟨e3, e4, rfl⟩
  | (x, k) :: l, kn, e3, e4, hl => by
    rw [List.length_cons] at hl
    have hg : (st.set n (.dic (kk kn)))[n]? = some (.dic (kk kn)) := get_set hn
    have hln : (kk kn).length < lim := by rw [kk_len]; omega
    cases hx : dget kn x with
    | none =>
      have hd : dget (kk kn) x = none := by rw [dget_kk, hx]; rfl
      have hp : dput (kk kn) x (.str (kname k)) = kk (kn ++ [(x, k)]) := by
        rw [dput_new hd]; unfold kk; rw [List.map_append]; rfl
      obtain ⟨e3', e4', ih⟩ := kinds_go F st n hn e0 e2 e5 l (kn ++ [(x, k)]) (some (.str x)) (some (.str (kname k))) (by simp; omega)
      refine ⟨e3', e4', ?_⟩
      have e : kAdd ((x, k) :: l) kn = kAdd l (kn ++ [(x, k)]) := by simp only [kAdd, hx]
      rw [e, ← ih, List.map_cons]
      refine for_cons (step_some (env1 := [e0, some (.loc n), e2, some (.str x), some (.str (kname k)), e5]) rfl (inS ?_))
      refine sGd hg (by kernel_rfl) ?_
      have := setdefault_none (v := .str (kname k)) hg hln hd
      rw [hp, List.set_set] at this
      refine sM this (by kernel_rfl) (sF 1 ?_)
      cases k <;> kernel_rfl
    | some k' =>
      have hd : dget (kk kn) x = some (.str (kname k')) := by rw [dget_kk, hx]; rfl
      by_cases hk : k' = k
      · obtain ⟨e3', e4', ih⟩ := kinds_go F st n hn e0 e2 e5 l kn (some (.str x)) (some (.str (kname k))) (by omega)
        refine ⟨e3', e4', ?_⟩
        have e : kAdd ((x, k) :: l) kn = kAdd l kn := by simp only [kAdd, hx]; rw [if_pos hk]
        rw [e, ← ih, List.map_cons]
        refine for_cons (step_some (env1 := [e0, some (.loc n), e2, some (.str x), some (.str (kname k)), e5]) rfl (inS ?_))
        refine sGd hg (by kernel_rfl) ?_
        refine sM (setdefault_some (v := .str (kname k)) hg hln hd) (by kernel_rfl) (sF 1 ?_)
        subst hk
        cases k' <;> kernel_rfl
      · refine ⟨none, none, ?_⟩
        have e : kAdd ((x, k) :: l) kn = (false, kn) := by simp only [kAdd, hx]; rw [if_neg hk]
        rw [e, List.map_cons]
        refine for_ret (step_some (env1 := [e0, some (.loc n), e2, some (.str x), some (.str (kname k)), e5]) rfl (inS ?_))
        refine sGd hg (by kernel_rfl) ?_
        refine sM (setdefault_some (v := .str (kname k)) hg hln hd) (by kernel_rfl) (sF 1 ?_)
        cases k <;> cases k' <;> first | exact absurd rfl hk | kernel_rfl
mutual
theorem _root_.Mi.Row.kindsIn_len : ∀ (r : Row) (kn : List (Str × Bool)), (r.kindsIn kn).2.length + 3 ≤ kn.length + 3 * r.size
  | .ifr x p q, kn => by
    have h1 := p.kindsIn_len kn
    have h2 := q.kindsIn_len (p.kindsIn kn).2
    show (q.kindsIn (p.kindsIn kn).2).2.length + 3 ≤ kn.length + 3 * (1 + (p.size + q.size))
    omega
  | .loop x p, kn => by
    have h1 := p.kindsIn_len kn
    show (p.kindsIn kn).2.length + 3 ≤ kn.length + 3 * (1 + p.size)
    omega
  | .num .., kn => by show kn.length + 3 ≤ kn.length + 3 * 1; omega
  | .copy .., kn => by show kn.length + 3 ≤ kn.length + 3 * 1; omega
  | .add .., kn => by show kn.length + 3 ≤ kn.length + 3 * 1; omega
  | .make .., kn => by show kn.length + 3 ≤ kn.length + 3 * 1; omega
  | .get .., kn => by show kn.length + 3 ≤ kn.length + 3 * 1; omega
  | .put .., kn => by show kn.length + 3 ≤ kn.length + 3 * 1; omega
  | .lett .., kn => by show kn.length + 3 ≤ kn.length + 3 * 1; omega
  | .same .., kn => by show kn.length + 3 ≤ kn.length + 3 * 1; omega
  | .say .., kn => by show kn.length + 3 ≤ kn.length + 3 * 1; omega
  | .give .., kn => by show kn.length + 3 ≤ kn.length + 3 * 1; omega
  | .stir, kn => by show kn.length + 3 ≤ kn.length + 3 * 1; omega
theorem _root_.Mi.Blk.kindsIn_len : ∀ (b : Blk) (kn : List (Str × Bool)), (b.kindsIn kn).2.length ≤ kn.length + 3 * b.size
  | .nil, kn => Nat.le_refl _
  | .cons r b, kn => by
    have h0 := kAdd_len r.kinds kn
    have h00 := kinds_len r
    have h1 := r.kindsIn_len (kAdd r.kinds kn).2
    have h2 := b.kindsIn_len (r.kindsIn (kAdd r.kinds kn).2).2
    have h3 : 1 ≤ r.size := by cases r <;> simp [Row.size]
    show (if (kAdd r.kinds kn).1 then (if (r.kindsIn (kAdd r.kinds kn).2).1 then b.kindsIn (r.kindsIn (kAdd r.kinds kn).2).2 else (false, (r.kindsIn (kAdd r.kinds kn).2).2)) else (false, (kAdd r.kinds kn).2)).2.length ≤ kn.length + 3 * (r.size + b.size)
    split
    · split
      · omega
      · show (r.kindsIn (kAdd r.kinds kn).2).2.length ≤ _
        omega
    · show (kAdd r.kinds kn).2.length ≤ _
      omega
end
theorem kindsIn_simple {r : Row} (h : r.blks = []) (kn : List (Str × Bool)) : r.kindsIn kn = (true, kn) := by
  cases r <;> first | rfl | cases h
theorem all_lst {bs : List Bool} {st : Store} : runOp .all [.lst (bs.map MV.bl)] st = .ok (.bl (bs.all id)) st := all_op rfl
theorem kinds_in_spec (H : HasP G) (st : Store) (n : Nat) (hn : n < st.length) : ∀ (b : Blk) (kn : List (Str × Bool)) (d : Nat), kn.length + 3 * b.size < lim → 2 + b.deep ≤ d →
    callF G d (.fn "kinds_in") [b.mv, .loc n] (st.set n (.dic (kk kn))) = .ok (.bl (b.kindsIn kn).1) (st.set n (.dic (kk (b.kindsIn kn).2))) := by
  intro b
  induction b using blk_ind with
  | h b ih =>
    intro kn d hl hd
    obtain ⟨d, rfl⟩ : ∃ e, d = e + 2 := ⟨d - 2, by omega⟩
    -- the rows
    have key : ∀ (c : Blk), (∀ r ∈ c.rows, r ∈ b.rows) → ∀ (kn : List (Str × Bool)), kn.length + 3 * c.size < lim → ∀ e2 e3 e4 e5 : Option MV, ∃ e2' e3' e4' e5',
        forGo (fun x env st => forStep (execS (callF G (d + 1)) d_kinds_in_fb2) (bindT st (.name 2) x env) st) none c.mvs [some b.mv, some (.loc n), e2, e3, e4, e5] (st.set n (.dic (kk kn))) =
          .ok (if (c.kindsIn kn).1 then .nx [some b.mv, some (.loc n), e2', e3', e4', e5'] else .rt (.bl false)) (st.set n (.dic (kk (c.kindsIn kn).2))) := by
      intro c
      induction c using Blk.rec (motive_1 := fun _ => True) with
      | nil => intro _ kn _ e2 e3 e4 e5; exact ⟨e2, e3, e4, e5, rfl⟩
      | cons r c _ ihc =>
        intro hsub kn hl e2 e3 e4 e5
        have hr : r ∈ b.rows := hsub r (List.mem_cons_self ..)
        have hl : kn.length + 3 * (r.size + c.size) < lim := hl
        have hkl := kinds_len r
        have hka := kAdd_len r.kinds kn
        have hrs : 1 ≤ r.size := by cases r <;> simp [Row.size]
        obtain ⟨e3', e4', hf⟩ := kinds_go (callF G (d + 1)) st n hn (some b.mv) (some r.mv) e5 r.kinds kn e3 e4 (by omega)
        have hf : execS (callF G (d + 1)) d_kinds_in_for1 [some b.mv, some (.loc n), some r.mv, e3, e4, e5] (st.set n (.dic (kk kn))) = _ :=
          ex_for (vs := [.lst (r.kinds.map kmv)]) (inE (sM (kinds_of_spec H r d (st.set n (.dic (kk kn)))) (by kernel_rfl) (by kernel_rfl))) rfl hf
        cases h1 : (kAdd r.kinds kn).1 with
        | false =>
          refine ⟨none, none, none, none, ?_⟩
          have e : (Blk.cons r c).kindsIn kn = (false, (kAdd r.kinds kn).2) := by simp only [Blk.kindsIn, h1]; rfl
          rw [e]
          rw [h1] at hf
          exact for_ret (step_some (env1 := [some b.mv, some (.loc n), some r.mv, e3, e4, e5]) rfl (inS (sO hf (by kernel_rfl) (by kernel_rfl))))
        | true =>
          rw [h1] at hf
          -- the blocks
          have hlc : evalE (callF G (d + 1)) d_kinds_in_lc1 [some b.mv, some (.loc n), some r.mv, e3', e4', e5] (st.set n (.dic (kk (kAdd r.kinds kn).2))) = .ok (.lst ((match r with
              | .ifr _ p q => [(p.kindsIn (kAdd r.kinds kn).2).1, (q.kindsIn (p.kindsIn (kAdd r.kinds kn).2).2).1]
              | .loop _ p => [(p.kindsIn (kAdd r.kinds kn).2).1]
              | _ => []).map MV.bl)) (st.set n (.dic (kk (r.kindsIn (kAdd r.kinds kn).2).2))) := by
            have hdr := deep_rows r hr
            have ih := ih r hr
            rcases row_cases r with hs | ⟨x, p, q, rfl⟩ | ⟨x, p, rfl⟩
            · rw [kindsIn_simple hs]
              have := ev_lc0 (F := callF G (d + 1)) (st := st.set n (.dic (kk (kAdd r.kinds kn).2))) (st1 := st.set n (.dic (kk (kAdd r.kinds kn).2))) (own := [5]) (tg := .name 5) (k := .seq) (it := .cons (.call "blocks_of" (.cons (.var 2) .nil)) .nil) (cond := .lit (.bl true)) (elt := d_kinds_in_e1) (env := [some b.mv, some (.loc n), some r.mv, e3', e4', e5]) (vs := [.lst []]) (inE (sM (blocks_of_nil H hs d (st.set n (.dic (kk (kAdd r.kinds kn).2)))) (by kernel_rfl) (by kernel_rfl))) rfl
              cases r <;> first | exact this | cases hs
            · · have hl : kn.length + 3 * ((1 + (p.size + q.size)) + c.size) < lim := hl
                have hkl : (kAdd (Row.ifr x p q).kinds kn).2.length ≤ kn.length + 1 := hka
                have hdr : 1 + max p.deep q.deep ≤ b.deep := hdr
                have hp := p.kindsIn_len (kAdd (Row.ifr x p q).kinds kn).2
                exact ev_lc2 (vs := [.lst [p.mv, q.mv]]) (st1 := st.set n (.dic (kk (kAdd (Row.ifr x p q).kinds kn).2))) (inE (sM (blocks_of_spec H (.ifr x p q) d (st.set n (.dic (kk (kAdd (Row.ifr x p q).kinds kn).2)))) (by kernel_rfl) (by kernel_rfl))) rfl (e1 := [some b.mv, some (.loc n), some (Row.ifr x p q).mv, e3', e4', some p.mv]) rfl rfl ((eC (ih p (by simp [Row.blks]) (kAdd (Row.ifr x p q).kinds kn).2 (d + 1) (by omega) (by omega)) (by kernel_rfl) (by kernel_rfl)))
                  (e2 := [some b.mv, some (.loc n), some (Row.ifr x p q).mv, e3', e4', some q.mv]) rfl rfl ((eC (ih q (by simp [Row.blks]) (p.kindsIn (kAdd (Row.ifr x p q).kinds kn).2).2 (d + 1) (by omega) (by omega)) (by kernel_rfl) (by kernel_rfl)))
            · · have hl : kn.length + 3 * ((1 + p.size) + c.size) < lim := hl
                have hkl : (kAdd (Row.loop x p).kinds kn).2.length ≤ kn.length + 1 := hka
                have hdr : 1 + p.deep ≤ b.deep := hdr
                exact ev_lc1 (vs := [.lst [p.mv]]) (st1 := st.set n (.dic (kk (kAdd (Row.loop x p).kinds kn).2))) (inE (sM (blocks_of_spec H (.loop x p) d (st.set n (.dic (kk (kAdd (Row.loop x p).kinds kn).2)))) (by kernel_rfl) (by kernel_rfl))) rfl (e1 := [some b.mv, some (.loc n), some (Row.loop x p).mv, e3', e4', some p.mv]) rfl rfl ((eC (ih p (by simp [Row.blks]) (kAdd (Row.loop x p).kinds kn).2 (d + 1) (by omega) (by omega)) (by kernel_rfl) (by kernel_rfl)))
          have hall : (match r with
              | .ifr _ p q => [(p.kindsIn (kAdd r.kinds kn).2).1, (q.kindsIn (p.kindsIn (kAdd r.kinds kn).2).2).1]
              | .loop _ p => [(p.kindsIn (kAdd r.kinds kn).2).1]
              | _ => []).all id = (r.kindsIn (kAdd r.kinds kn).2).1 := by
            cases r <;> simp [Row.kindsIn]
          have hrl := r.kindsIn_len (kAdd r.kinds kn).2
          cases h2 : (r.kindsIn (kAdd r.kinds kn).2).1 with
          | false =>
            refine ⟨none, none, none, none, ?_⟩
            have e : (Blk.cons r c).kindsIn kn = (false, (r.kindsIn (kAdd r.kinds kn).2).2) := by simp only [Blk.kindsIn, h1, h2]; rfl
            rw [e]
            refine for_ret (step_some (env1 := [some b.mv, some (.loc n), some r.mv, e3, e4, e5]) rfl (inS (sO hf (by kernel_rfl) (sM hlc (by kernel_rfl) ?_))))
            refine sM (v := .bl false) (st := st.set n (.dic (kk (r.kindsIn (kAdd r.kinds kn).2).2))) (all_lst.trans (by rw [hall, h2])) (by kernel_rfl) (by kernel_rfl)
          | true =>
            obtain ⟨f2, f3, f4, f5, ih2⟩ := ihc (fun r' h => hsub r' (List.mem_cons_of_mem _ h)) (r.kindsIn (kAdd r.kinds kn).2).2 (by omega) (some r.mv) e3' e4' e5
            refine ⟨f2, f3, f4, f5, ?_⟩
            have e : (Blk.cons r c).kindsIn kn = c.kindsIn (r.kindsIn (kAdd r.kinds kn).2).2 := by simp only [Blk.kindsIn, h1, h2]; rfl
            rw [e, ← ih2]
            refine for_cons (step_some (env1 := [some b.mv, some (.loc n), some r.mv, e3, e4, e5]) rfl (inS (sO hf (by kernel_rfl) (sM hlc (by kernel_rfl) ?_))))
            refine sM (v := .bl true) (st := st.set n (.dic (kk (r.kindsIn (kAdd r.kinds kn).2).2))) (all_lst.trans (by rw [hall, h2])) (by kernel_rfl) (by kernel_rfl)
      | _ => trivial
    obtain ⟨e2, e3, e4, e5, h⟩ := key b (fun _ h => h) kn hl none none none none
    refine inF_rt H.kinds_in rfl ?_
    have hf : execS (callF G (d + 1)) d_kinds_in_for2 [some b.mv, some (.loc n), none, none, none, none] (st.set n (.dic (kk kn))) = _ := ex_for (vs := [b.mv]) (by kernel_rfl) rfl h
    cases hb : (b.kindsIn kn).1 with
    | false => rw [hb] at hf; exact sO hf (by kernel_rfl) (by kernel_rfl)
    | true => rw [hb] at hf; exact sO hf (by kernel_rfl) (by kernel_rfl)
end Mi.Sh
set_option Elab.async false
set_option linter.all false
set_option maxRecDepth 100000
set_option maxHeartbeats 1000000
/-! PlSpec3: surely, is_program. -/
namespace Mi.Sh
open PySem Mi
variable {G : Tab}
theorem both_nil (k1 k2 ks : List Str) (h : ∀ x ∈ k1, x ∈ ks) : both k1 k2 ks = ks := by
  unfold both
  induction k1 with
  | nil => rfl
  | cons a k1 ih =>
    rw [List.foldl_cons]
    have : (if a ∈ k2 then kput ks a else ks) = ks := by
      split
      · unfold kput; rw [if_pos (h a (List.mem_cons_self ..))]
      · rfl
    rw [this]
    exact ih fun x hx => h x (List.mem_cons_of_mem _ hx)
theorem kput_ext (ks : List Str) (x : Str) : ∃ e, kput ks x = ks ++ e ∧ e.length ≤ 1 := by
  unfold kput
  split
  · exact ⟨[], by simp, by simp⟩
  · exact ⟨[x], rfl, by simp⟩
theorem both_ext (k1 k2 : List Str) : ∀ ks : List Str, ∃ e, both k1 k2 ks = ks ++ e ∧ e.length ≤ k1.length := by
  unfold both
  induction k1 with
  | nil => intro ks; exact ⟨[], by simp, by simp⟩
  | cons a k1 ih =>
    intro ks
    rw [List.foldl_cons]
    obtain ⟨e1, h1, l1⟩ : ∃ e, (if a ∈ k2 then kput ks a else ks) = ks ++ e ∧ e.length ≤ 1 := by
      split
      · exact kput_ext ks a
      · exact ⟨[], by simp, by simp⟩
    obtain ⟨e2, h2, l2⟩ := ih (ks ++ e1)
    refine ⟨e1 ++ e2, by rw [h1, h2, List.append_assoc], ?_⟩
    rw [List.length_append, List.length_cons]; omega
theorem both_app (ks e k2 : List Str) : both (ks ++ e) k2 ks = both e k2 ks := by
  have h := both_nil ks k2 ks (fun _ h => h)
  unfold both at *
  rw [List.foldl_append, h]
/-- surely only adds, at most one name a row -/
theorem surely_ext : ∀ (b : Blk) (ks ks' : List Str), b.surely ks = some ks' → ∃ e, ks' = ks ++ e ∧ e.length ≤ b.size := by
  intro b
  induction b using blk_ind with
  | h b ih =>
    have key : ∀ c : Blk, (∀ r ∈ c.rows, r ∈ b.rows) → ∀ ks ks', c.surely ks = some ks' → ∃ e, ks' = ks ++ e ∧ e.length ≤ c.size := by
      intro c
      induction c using Blk.rec (motive_1 := fun _ => True) with
      | nil => intro _ ks ks' h; cases h; exact ⟨[], by simp, by simp⟩
      | cons r c _ ihc =>
        intro hsub ks ks' h
        have hr : r ∈ b.rows := hsub r (List.mem_cons_self ..)
        simp only [Blk.surely] at h
        split at h
        · obtain ⟨k1, h1, h2⟩ := Option.bind_eq_some_iff.mp h
          obtain ⟨e2, rfl, l2⟩ := ihc (fun r' h => hsub r' (List.mem_cons_of_mem _ h)) k1 ks' h2
          have hrow : ∃ e, k1 = ks ++ e ∧ e.length ≤ r.size := by
            rcases row_cases r with hs | ⟨x, p, q, rfl⟩ | ⟨x, p, rfl⟩
            · have : r.surely ks = some (match r.sets with | some x => kput ks x | none => ks) := by
                cases r <;> first | rfl | cases hs
              rw [this] at h1
              cases h1
              have h3 : 1 ≤ r.size := by cases r <;> simp [Row.size]
              cases r.sets with
              | none => exact ⟨[], by simp, by simp⟩
              | some x =>
                obtain ⟨e, he, hl⟩ := kput_ext ks x
                exact ⟨e, he, by omega⟩
            · simp only [Row.surely] at h1
              split at h1
              · rename_i kp kq hp hq
                cases h1
                obtain ⟨e, rfl, hl⟩ := ih _ hr p (by simp [Row.blks]) ks kp hp
                rw [both_app]
                obtain ⟨e', he, hl'⟩ := both_ext e kq ks
                exact ⟨e', he, by show _ ≤ 1 + (p.size + q.size); omega⟩
              · cases h1
            · simp only [Row.surely] at h1
              obtain ⟨_, _, rfl⟩ := Option.map_eq_some_iff.mp h1
              exact ⟨[], by simp, by simp⟩
          obtain ⟨e1, rfl, l1⟩ := hrow
          exact ⟨e1 ++ e2, by rw [List.append_assoc], by rw [List.length_append]; show _ ≤ r.size + c.size; omega⟩
        · cases h
      | _ => trivial
    exact key b fun _ h => h
/-- the names of both blocks of an if -/
theorem both_go (F : Fn) (S : Store) (h m1 m2 : Nat) (k2 : List Str) (hh : h < S.length) (h2 : S[m2]? = some (.dic (kd k2))) (hne : h ≠ m2) (e0 e2 e5 : Option MV) (l : Option (Nat × MO)) : ∀ (k1 ks : List Str) (e4 : Option MV), ks.length + k1.length < lim →
    ∃ e4', forGo (fun x env st => forStep (execS F d_surely_fb1) (bindT st (.name 4) x env) st) l (k1.map MV.str) [e0, some (.loc h), e2, some (.lst [.loc m1, .loc m2]), e4, e5] (S.set h (.dic (kd ks))) =
      .ok (.nx [e0, some (.loc h), e2, some (.lst [.loc m1, .loc m2]), e4', e5]) (unlock l (S.set h (.dic (kd (both k1 k2 ks)))))
  | [], ks, e4, _ => ⟨e4, rfl⟩
  | x :: k1, ks, e4, hl => by
    rw [List.length_cons] at hl
    have hg : (S.set h (.dic (kd ks)))[h]? = some (.dic (kd ks)) := get_set hh
    have hg2 : (S.set h (.dic (kd ks)))[m2]? = some (.dic (kd k2)) := by rw [get_set_ne hne, h2]
    have hin := inn_dicl (x := x) hg2
    rw [dget_kd_some] at hin
    have hix : runOp .ix [.lst [.loc m1, .loc m2], .int 1] (S.set h (.dic (kd ks))) = .ok (.loc m2) (S.set h (.dic (kd ks))) := by kernel_rfl
    rw [List.map_cons]
    by_cases hx : x ∈ k2
    · rw [decide_eq_true hx] at hin
      obtain ⟨e4', ih⟩ := both_go F S h m1 m2 k2 hh h2 hne e0 e2 e5 l k1 (kput ks x) (some (.str x)) (by have := kput_length ks x; omega)
      refine ⟨e4', ?_⟩
      have e : both (x :: k1) k2 ks = both k1 k2 (kput ks x) := by unfold both; rw [List.foldl_cons, if_pos hx]
      rw [e, ← ih]
      refine for_cons (step_some (env1 := [e0, some (.loc h), e2, some (.lst [.loc m1, .loc m2]), some (.str x), e5]) rfl (inS ?_))
      refine sM hix (by kernel_rfl) (sM hin (by kernel_rfl) ?_)
      have hs := setI_dic (env := [e0, some (.loc h), e2, some (.lst [.loc m1, .loc m2]), some (.str x), e5]) (x := x) (v := .bl true) hg (by rw [kd_length]; omega)
      rw [dput_kd, List.set_set] at hs
      exact sO hs (by kernel_rfl) (by kernel_rfl)
    · rw [decide_eq_false hx] at hin
      obtain ⟨e4', ih⟩ := both_go F S h m1 m2 k2 hh h2 hne e0 e2 e5 l k1 ks (some (.str x)) (by omega)
      refine ⟨e4', ?_⟩
      have e : both (x :: k1) k2 ks = both k1 k2 ks := by unfold both; rw [List.foldl_cons, if_neg hx]
      rw [e, ← ih]
      refine for_cons (step_some (env1 := [e0, some (.loc h), e2, some (.lst [.loc m1, .loc m2]), some (.str x), e5]) rfl (inS ?_))
      exact sM hix (by kernel_rfl) (sM hin (by kernel_rfl) (by kernel_rfl))
theorem both_for (F : Fn) (S : Store) (h m1 m2 : Nat) (k1 k2 ks : List Str) (hg : S[h]? = some (.dic (kd ks))) (h1 : S[m1]? = some (.dic (kd k1))) (h2 : S[m2]? = some (.dic (kd k2))) (hn1 : h ≠ m1) (hn2 : h ≠ m2) (hn : m1 ≠ m2) (e0 e2 e4 e5 : Option MV) (hl : ks.length + k1.length < lim) :
    ∃ e4', execS F d_surely_for1 [e0, some (.loc h), e2, some (.lst [.loc m1, .loc m2]), e4, e5] S = .ok (.nx [e0, some (.loc h), e2, some (.lst [.loc m1, .loc m2]), e4', e5]) (S.set h (.dic (kd (both k1 k2 ks)))) := by
  have hh := lt_of_get hg
  obtain ⟨e4', hf⟩ := both_go F (S.set m1 (.fdic (kd k1))) h m1 m2 k2 (by rw [List.length_set]; exact hh) (by rw [get_set_ne hn, h2]) hn2 e0 e2 e5 (some (m1, .dic (kd k1))) k1 ks e4 hl
  refine ⟨e4', ?_⟩
  have e1 : (S.set m1 (.fdic (kd k1))).set h (.dic (kd ks)) = S.set m1 (.fdic (kd k1)) := set_same (by rw [get_set_ne (Ne.symm hn1), hg])
  rw [e1] at hf
  have e2' : unlock (some (m1, .dic (kd k1))) ((S.set m1 (.fdic (kd k1))).set h (.dic (kd (both k1 k2 ks)))) = S.set h (.dic (kd (both k1 k2 ks))) := by
    show ((S.set m1 (.fdic (kd k1))).set h (.dic (kd (both k1 k2 ks)))).set m1 (.dic (kd k1)) = _
    rw [List.set_comm _ _ hn1, List.set_set, set_same h1]
  rw [e2'] at hf
  refine ex_for (vs := [.loc m1]) (st1 := S) (xs := k1.map MV.str) (l := some (m1, .dic (kd k1))) ?_ ?_ hf
  · exact inE (sF 1 (by kernel_rfl))
  · rw [items_dic h1]
    simp [kd]
/-- what surely answers -/
def SurelyIs (G : Tab) (d : Nat) (b : Blk) (hv : MV) (st : Store) : Option (List Str) → Prop
  | none => ∃ j, callF G d (.fn "surely") [b.mv, hv] st = .ok .non (st ++ j)
  | some ks => ∃ m j, callF G d (.fn "surely") [b.mv, hv] st = .ok (.loc m) (st ++ j) ∧ st.length ≤ m ∧ (st ++ j)[m]? = some (.dic (kd ks))
theorem non_in {st : Store} {vs : List MV} (h : ∀ v ∈ vs, v = .non ∨ ∃ m kvs, v = .loc m ∧ st[m]? = some (.dic kvs)) (hf : vs ≠ [] → ∃ v ∈ vs, ¬ flat v = true ∨ v = .non) : runOp .inn [.non, .lst vs] st = .ok (.bl (vs.any isNon)) st := by
  show ofB (inSeq .non vs st) st = _
  have h1 : (vs.all (flatD st)) = true := by
    rw [List.all_eq_true]
    intro v hv
    rcases h v hv with rfl | ⟨m, kvs, rfl, hm⟩
    · rfl
    · simp [flatD, isNon, dicOf, hm]
  unfold inSeq
  split
  · rename_i hc
    have e : (fun y => eqF y MV.non) = isNon := by
      funext y; cases y <;> rfl
    rw [e]; rfl
  · rw [if_pos (by simp only [isNon, h1, Bool.and_self])]; rfl
theorem surely_spec (H : HasP G) : ∀ (b : Blk) (hv : MV) (ks : List Str) (d : Nat) (st : Store), dicL st hv = some (kd ks) → 2 * (ks.length + 2 * b.size) < lim → 3 + b.deep ≤ d → SurelyIs G d b hv st (b.surely ks) := by
  intro b
  induction b using blk_ind with
  | h b ih =>
    intro hv ks d st hd hl hdd
    obtain ⟨d, rfl⟩ : ∃ e, d = e + 3 := ⟨d - 3, by omega⟩
    let h := st.length
    have key : ∀ (c : Blk), (∀ r ∈ c.rows, r ∈ b.rows) → c.size ≤ b.size → ∀ (ks : List Str), 2 * (ks.length + 2 * c.size) < lim → ∀ (j : List MO) (e2 e3 e4 e5 : Option MV), ∃ j' e2' e3' e4' e5',
        forGo (fun x env st => forStep (execS (callF G (d + 2)) d_surely_fb2) (bindT st (.name 2) x env) st) none c.mvs [some b.mv, some (.loc h), e2, e3, e4, e5] (st ++ .dic (kd ks) :: j) =
          match c.surely ks with
          | some ks' => .ok (.nx [some b.mv, some (.loc h), e2', e3', e4', e5']) (st ++ .dic (kd ks') :: j')
          | none => .ok (.rt .non) (st ++ j') := by
      intro c
      induction c using Blk.rec (motive_1 := fun _ => True) with
      | nil => intro _ _ ks _ j e2 e3 e4 e5; exact ⟨j, e2, e3, e4, e5, rfl⟩
      | cons r c _ ihc =>
        intro hsub hsz ks hl j e2 e3 e4 e5
        have hr : r ∈ b.rows := hsub r (List.mem_cons_self ..)
        have hl : 2 * (ks.length + 2 * (r.size + c.size)) < lim := hl
        have hsz : r.size + c.size ≤ b.size := hsz
        have ihc := ihc (fun r' h => hsub r' (List.mem_cons_of_mem _ h)) (by omega)
        have hdr := deep_rows r hr
        have ih := ih r hr
        have hg : (st ++ .dic (kd ks) :: j)[h]? = some (.dic (kd ks)) := get_new
        have hdl : dicL (st ++ .dic (kd ks) :: j) (.loc h) = some (kd ks) := dicL_loc hg
        -- what is read
        have hlc2 : evalE (callF G (d + 2)) d_surely_lc2 [some b.mv, some (.loc h), some r.mv, e3, e4, e5] (st ++ .dic (kd ks) :: j) = .ok (.lst (r.reads.map fun x => .bl (decide (x ∈ ks)))) (st ++ .dic (kd ks) :: j) := by
          refine ev_lc r.reads MV.str (fun x => .bl (decide (x ∈ ks))) (vs := [.lst (r.reads.map MV.str)]) (inE (sM (reads_spec H r d (st ++ .dic (kd ks) :: j)) (by kernel_rfl) (by kernel_rfl))) rfl (Nat.le_trans (reads_len r) (by decide)) fun x hx => ⟨[some b.mv, some (.loc h), some r.mv, e3, some (.str x), e5], rfl, rfl, ?_⟩
          have := inn_dicl (x := x) hg
          rw [dget_kd_some] at this
          exact eC this (by kernel_rfl) (by kernel_rfl)
        have hall : runOp .all [.lst (r.reads.map fun x => .bl (decide (x ∈ ks)))] (st ++ .dic (kd ks) :: j) = .ok (.bl (r.reads.all fun x => decide (x ∈ ks))) (st ++ .dic (kd ks) :: j) := by
          have := all_lst (bs := r.reads.map fun x => decide (x ∈ ks)) (st := st ++ .dic (kd ks) :: j)
          rw [List.map_map, List.all_map] at this
          exact this
        cases hrd : r.reads.all fun x => decide (x ∈ ks) with
        | false =>
          refine ⟨.dic (kd ks) :: j, none, none, none, none, ?_⟩
          have e : (Blk.cons r c).surely ks = none := by simp only [Blk.surely, hrd]; rfl
          rw [e]
          rw [hrd] at hall
          exact for_ret (step_some (env1 := [some b.mv, some (.loc h), some r.mv, e3, e4, e5]) rfl (inS (sM hlc2 (by kernel_rfl) (sM hall (by kernel_rfl) (by kernel_rfl)))))
        | true =>
          rw [hrd] at hall
          have e : (Blk.cons r c).surely ks = (r.surely ks).bind c.surely := by simp only [Blk.surely, hrd, if_true]
          rw [e]
          rcases row_cases r with hs | ⟨x, p, q, rfl⟩ | ⟨x, p, rfl⟩
          · -- a simple row
            have hrs : r.surely ks = some (match r.sets with | some x => kput ks x | none => ks) := by
              cases r <;> first | rfl | cases hs
            have h1s : 1 ≤ r.size := by cases r <;> simp [Row.size]
            have hlc1 : evalE (callF G (d + 2)) d_surely_lc1 [some b.mv, some (.loc h), some r.mv, e3, e4, e5] (st ++ .dic (kd ks) :: j) = .ok (.lst []) (st ++ .dic (kd ks) :: j) :=
              ev_lc0 (vs := [.lst []]) (st1 := st ++ .dic (kd ks) :: j) (inE (sM (blocks_of_nil H hs (d + 1) (st ++ .dic (kd ks) :: j)) (by kernel_rfl) (by kernel_rfl))) rfl
            have hset := sets_spec H r (d + 1) (st ++ .dic (kd ks) :: j)
            rw [hrs]
            simp only [Option.bind_some]
            cases hx : r.sets with
            | none =>
              rw [hx] at hset
              obtain ⟨j', f2, f3, f4, f5, ih2⟩ := ihc ks (by omega) j (some r.mv) (some (.lst [])) e4 e5
              refine ⟨j', f2, f3, f4, f5, ?_⟩
              simp only
              rw [← ih2]
              refine for_cons (step_some (env1 := [some b.mv, some (.loc h), some r.mv, e3, e4, e5]) rfl (inS (sM hlc2 (by kernel_rfl) (sM hall (by kernel_rfl) (sM hlc1 (by kernel_rfl) (sF 1 (sM hset ?_ ?_)))))))
              all_goals (cases r <;> first | (cases hs; done) | (cases hx; done) | kernel_rfl)
            | some x =>
              rw [hx] at hset
              obtain ⟨j', f2, f3, f4, f5, ih2⟩ := ihc (kput ks x) (by have := kput_length ks x; omega) j (some r.mv) (some (.lst [])) e4 e5
              refine ⟨j', f2, f3, f4, f5, ?_⟩
              simp only
              rw [← ih2]
              have hsi := setI_dic (env := [some b.mv, some (.loc h), some r.mv, some (.lst []), e4, e5]) (x := x) (v := .bl true) hg (by rw [kd_length]; omega)
              rw [dput_kd] at hsi
              have : (st ++ .dic (kd ks) :: j).set h (.dic (kd (kput ks x))) = st ++ .dic (kd (kput ks x)) :: j := set_new
              rw [this] at hsi
              refine for_cons (step_some (env1 := [some b.mv, some (.loc h), some r.mv, e3, e4, e5]) rfl (inS (sM hlc2 (by kernel_rfl) (sM hall (by kernel_rfl) (sM hlc1 (by kernel_rfl) (sF 1 (sM hset ?_ (sM hset ?_ (sO hsi ?_ ?_)))))))))
              all_goals (cases r <;> first | (cases hs; done) | (cases hx; done) | kernel_rfl)
          · -- if
            have hdr : 1 + max p.deep q.deep ≤ b.deep := hdr
            have hl : 2 * (ks.length + 2 * ((1 + (p.size + q.size)) + c.size)) < lim := hl
            have hbo := blocks_of_spec H (.ifr x p q) (d + 1) (st ++ .dic (kd ks) :: j)
            have i1 := ih p (by simp [Row.blks]) (.loc h) ks (d + 2) (st ++ .dic (kd ks) :: j) hdl (by omega) (by omega)
            cases hp : p.surely ks with
            | none =>
              rw [hp] at i1
              obtain ⟨j1, c1⟩ := i1
              have hg1 : (st ++ .dic (kd ks) :: j ++ j1)[h]? = some (.dic (kd ks)) := get_app' hg
              have i2 := ih q (by simp [Row.blks]) (.loc h) ks (d + 2) (st ++ .dic (kd ks) :: j ++ j1) (dicL_loc hg1) (by omega) (by omega)
              have hrs : (Row.ifr x p q).surely ks = none := by simp only [Row.surely, hp]
              rw [hrs]
              have : ∃ u2 j2, callF G (d + 2) (.fn "surely") [q.mv, .loc h] (st ++ .dic (kd ks) :: j ++ j1) = .ok u2 (st ++ .dic (kd ks) :: j ++ j1 ++ j2) ∧ (u2 = .non ∨ ∃ m kvs, u2 = .loc m ∧ (st ++ .dic (kd ks) :: j ++ j1 ++ j2)[m]? = some (.dic kvs)) := by
                cases hq : q.surely ks with
                | none => rw [hq] at i2; obtain ⟨j2, c2⟩ := i2; exact ⟨_, j2, c2, .inl rfl⟩
                | some k2 => rw [hq] at i2; obtain ⟨m, j2, c2, _, hm⟩ := i2; exact ⟨_, j2, c2, .inr ⟨m, _, rfl, hm⟩⟩
              obtain ⟨u2, j2, c2, hu⟩ := this
              have hlc1 : evalE (callF G (d + 2)) d_surely_lc1 [some b.mv, some (.loc h), some (Row.ifr x p q).mv, e3, e4, e5] (st ++ .dic (kd ks) :: j) = .ok (.lst [.non, u2]) (st ++ .dic (kd ks) :: j ++ j1 ++ j2) :=
                ev_lc2 (vs := [.lst [p.mv, q.mv]]) (st1 := st ++ .dic (kd ks) :: j) (inE (sM hbo (by kernel_rfl) (by kernel_rfl))) rfl (e1 := [some b.mv, some (.loc h), some (Row.ifr x p q).mv, e3, e4, some p.mv]) rfl rfl (eC c1 (by kernel_rfl) (by kernel_rfl))
                  (e2 := [some b.mv, some (.loc h), some (Row.ifr x p q).mv, e3, e4, some q.mv]) rfl rfl (eC c2 (by kernel_rfl) (by kernel_rfl))
              have hin := non_in (st := st ++ .dic (kd ks) :: j ++ j1 ++ j2) (vs := [.non, u2]) (by
                intro v hv
                simp only [List.mem_cons, List.not_mem_nil, or_false] at hv
                rcases hv with rfl | rfl
                · exact .inl rfl
                · exact hu) (fun _ => ⟨.non, List.mem_cons_self .., .inr rfl⟩)
              refine ⟨.dic (kd ks) :: j ++ j1 ++ j2, none, none, none, none, ?_⟩
              have ea : st ++ (.dic (kd ks) :: j ++ j1 ++ j2) = st ++ .dic (kd ks) :: j ++ j1 ++ j2 := by simp [List.append_assoc]
              rw [ea]
              exact for_ret (step_some (env1 := [some b.mv, some (.loc h), some (Row.ifr x p q).mv, e3, e4, e5]) rfl (inS (sM hlc2 (by kernel_rfl) (sM hall (by kernel_rfl) (sM hlc1 (by kernel_rfl) (sM hin (by kernel_rfl) (by kernel_rfl)))))))
            | some k1 =>
              rw [hp] at i1
              obtain ⟨m1, j1, c1, hm1, hg1m⟩ := i1
              have hg1 : (st ++ .dic (kd ks) :: j ++ j1)[h]? = some (.dic (kd ks)) := get_app' hg
              have i2 := ih q (by simp [Row.blks]) (.loc h) ks (d + 2) (st ++ .dic (kd ks) :: j ++ j1) (dicL_loc hg1) (by omega) (by omega)
              cases hq : q.surely ks with
              | none =>
                rw [hq] at i2
                obtain ⟨j2, c2⟩ := i2
                have hrs : (Row.ifr x p q).surely ks = none := by simp only [Row.surely, hp, hq]
                rw [hrs]
                have hlc1 : evalE (callF G (d + 2)) d_surely_lc1 [some b.mv, some (.loc h), some (Row.ifr x p q).mv, e3, e4, e5] (st ++ .dic (kd ks) :: j) = .ok (.lst [.loc m1, .non]) (st ++ .dic (kd ks) :: j ++ j1 ++ j2) :=
                  ev_lc2 (vs := [.lst [p.mv, q.mv]]) (st1 := st ++ .dic (kd ks) :: j) (inE (sM hbo (by kernel_rfl) (by kernel_rfl))) rfl (e1 := [some b.mv, some (.loc h), some (Row.ifr x p q).mv, e3, e4, some p.mv]) rfl rfl (eC c1 (by kernel_rfl) (by kernel_rfl))
                    (e2 := [some b.mv, some (.loc h), some (Row.ifr x p q).mv, e3, e4, some q.mv]) rfl rfl (eC c2 (by kernel_rfl) (by kernel_rfl))
                have hin := non_in (st := st ++ .dic (kd ks) :: j ++ j1 ++ j2) (vs := [.loc m1, .non]) (by
                  intro v hv
                  simp only [List.mem_cons, List.not_mem_nil, or_false] at hv
                  rcases hv with rfl | rfl
                  · exact .inr ⟨m1, _, rfl, get_app' hg1m⟩
                  · exact .inl rfl) (fun _ => ⟨.non, List.mem_cons_of_mem _ (List.mem_cons_self ..), .inr rfl⟩)
                refine ⟨.dic (kd ks) :: j ++ j1 ++ j2, none, none, none, none, ?_⟩
                have ea : st ++ (.dic (kd ks) :: j ++ j1 ++ j2) = st ++ .dic (kd ks) :: j ++ j1 ++ j2 := by simp [List.append_assoc]
                rw [ea]
                exact for_ret (step_some (env1 := [some b.mv, some (.loc h), some (Row.ifr x p q).mv, e3, e4, e5]) rfl (inS (sM hlc2 (by kernel_rfl) (sM hall (by kernel_rfl) (sM hlc1 (by kernel_rfl) (sM hin (by kernel_rfl) (by kernel_rfl)))))))
              | some k2 =>
                rw [hq] at i2
                obtain ⟨m2, j2, c2, hm2, hg2m⟩ := i2
                have hrs : (Row.ifr x p q).surely ks = some (both k1 k2 ks) := by simp only [Row.surely, hp, hq]
                rw [hrs]
                have hlc1 : evalE (callF G (d + 2)) d_surely_lc1 [some b.mv, some (.loc h), some (Row.ifr x p q).mv, e3, e4, e5] (st ++ .dic (kd ks) :: j) = .ok (.lst [.loc m1, .loc m2]) (st ++ .dic (kd ks) :: j ++ j1 ++ j2) :=
                  ev_lc2 (vs := [.lst [p.mv, q.mv]]) (st1 := st ++ .dic (kd ks) :: j) (inE (sM hbo (by kernel_rfl) (by kernel_rfl))) rfl (e1 := [some b.mv, some (.loc h), some (Row.ifr x p q).mv, e3, e4, some p.mv]) rfl rfl (eC c1 (by kernel_rfl) (by kernel_rfl))
                    (e2 := [some b.mv, some (.loc h), some (Row.ifr x p q).mv, e3, e4, some q.mv]) rfl rfl (eC c2 (by kernel_rfl) (by kernel_rfl))
                have hgm1 : (st ++ .dic (kd ks) :: j ++ j1 ++ j2)[m1]? = some (.dic (kd k1)) := get_app' hg1m
                have hin := non_in (st := st ++ .dic (kd ks) :: j ++ j1 ++ j2) (vs := [.loc m1, .loc m2]) (by
                  intro v hv
                  simp only [List.mem_cons, List.not_mem_nil, or_false] at hv
                  rcases hv with rfl | rfl
                  · exact .inr ⟨m1, _, rfl, hgm1⟩
                  · exact .inr ⟨m2, _, rfl, hg2m⟩) (fun _ => ⟨.loc m1, List.mem_cons_self .., .inl (by simp [flat])⟩)
                have hlen : h < (st ++ .dic (kd ks) :: j).length := by simp [h]
                have hlt1 := lt_of_get hg1m
                obtain ⟨x1, hx1, lx1⟩ := surely_ext p ks k1 hp
                obtain ⟨x2, hx2, lx2⟩ := both_ext x1 k2 ks
                have hbl : (both k1 k2 ks).length ≤ ks.length + p.size := by
                  rw [hx1, both_app, hx2, List.length_append]; omega
                have hk1l : k1.length ≤ ks.length + p.size := by rw [hx1, List.length_append]; omega
                obtain ⟨e4', hfor⟩ := both_for (callF G (d + 2)) (st ++ .dic (kd ks) :: j ++ j1 ++ j2) h m1 m2 k1 k2 ks (get_app' hg1) hgm1 hg2m (by omega) (by omega) (by omega) (some b.mv) (some (Row.ifr x p q).mv) e4 e5 (by omega)
                have hset : (st ++ .dic (kd ks) :: j ++ j1 ++ j2).set h (.dic (kd (both k1 k2 ks))) = st ++ .dic (kd (both k1 k2 ks)) :: (j ++ j1 ++ j2) := by
                  have : st ++ .dic (kd ks) :: j ++ j1 ++ j2 = st ++ .dic (kd ks) :: (j ++ j1 ++ j2) := by simp [List.append_assoc]
                  rw [this]
                  exact set_new
                rw [hset] at hfor
                obtain ⟨j', f2, f3, f4, f5, ih2⟩ := ihc (both k1 k2 ks) (by omega) (j ++ j1 ++ j2) (some (Row.ifr x p q).mv) (some (.lst [.loc m1, .loc m2])) e4' e5
                refine ⟨j', f2, f3, f4, f5, ?_⟩
                show _ = match c.surely (both k1 k2 ks) with | some ks' => _ | none => _
                rw [← ih2]
                have hset := sets_spec H (.ifr x p q) (d + 1) (st ++ .dic (kd (both k1 k2 ks)) :: (j ++ j1 ++ j2))
                exact for_cons (step_some (env1 := [some b.mv, some (.loc h), some (Row.ifr x p q).mv, e3, e4, e5]) rfl (inS (sM hlc2 (by kernel_rfl) (sM hall (by kernel_rfl) (sM hlc1 (by kernel_rfl) (sM hin (by kernel_rfl) (sO hfor (by kernel_rfl) (sM hset (by kernel_rfl) (by kernel_rfl)))))))))
          · -- loop
            have hdr : 1 + p.deep ≤ b.deep := hdr
            have hl : 2 * (ks.length + 2 * ((1 + p.size) + c.size)) < lim := hl
            have hbo := blocks_of_spec H (.loop x p) (d + 1) (st ++ .dic (kd ks) :: j)
            have i1 := ih p (by simp [Row.blks]) (.loc h) ks (d + 2) (st ++ .dic (kd ks) :: j) hdl (by omega) (by omega)
            have this : ∃ u j1, callF G (d + 2) (.fn "surely") [p.mv, .loc h] (st ++ .dic (kd ks) :: j) = .ok u (st ++ .dic (kd ks) :: j ++ j1) ∧ ((p.surely ks = none ∧ u = .non) ∨ (p.surely ks).isSome ∧ ∃ m kvs, u = .loc m ∧ (st ++ .dic (kd ks) :: j ++ j1)[m]? = some (.dic kvs)) := by
              cases hp : p.surely ks with
              | none => rw [hp] at i1; obtain ⟨j2, c2⟩ := i1; exact ⟨_, j2, c2, .inl ⟨rfl, rfl⟩⟩
              | some k2 => rw [hp] at i1; obtain ⟨m, j2, c2, _, hm⟩ := i1; exact ⟨_, j2, c2, .inr ⟨rfl, m, _, rfl, hm⟩⟩
            obtain ⟨u, j1, c1, hu⟩ := this
            have hlc1 : evalE (callF G (d + 2)) d_surely_lc1 [some b.mv, some (.loc h), some (Row.loop x p).mv, e3, e4, e5] (st ++ .dic (kd ks) :: j) = .ok (.lst [u]) (st ++ .dic (kd ks) :: j ++ j1) :=
              ev_lc1 (vs := [.lst [p.mv]]) (st1 := st ++ .dic (kd ks) :: j) (inE (sM hbo (by kernel_rfl) (by kernel_rfl))) rfl (e1 := [some b.mv, some (.loc h), some (Row.loop x p).mv, e3, e4, some p.mv]) rfl rfl (eC c1 (by kernel_rfl) (by kernel_rfl))
            have ea : st ++ .dic (kd ks) :: (j ++ j1) = st ++ .dic (kd ks) :: j ++ j1 := by simp [List.append_assoc]
            rcases hu with ⟨hp, rfl⟩ | ⟨hp, m, kvs, rfl, hm⟩
            · have hrs : (Row.loop x p).surely ks = none := by simp only [Row.surely, hp]; rfl
              rw [hrs]
              have hin := non_in (st := st ++ .dic (kd ks) :: j ++ j1) (vs := [.non]) (by
                intro v hv
                simp only [List.mem_cons, List.not_mem_nil, or_false] at hv
                exact .inl hv) (fun _ => ⟨.non, List.mem_cons_self .., .inr rfl⟩)
              refine ⟨.dic (kd ks) :: (j ++ j1), none, none, none, none, ?_⟩
              rw [ea]
              exact for_ret (step_some (env1 := [some b.mv, some (.loc h), some (Row.loop x p).mv, e3, e4, e5]) rfl (inS (sM hlc2 (by kernel_rfl) (sM hall (by kernel_rfl) (sM hlc1 (by kernel_rfl) (sM hin (by kernel_rfl) (by kernel_rfl)))))))
            · obtain ⟨k1, hp⟩ := Option.isSome_iff_exists.mp hp
              have hrs : (Row.loop x p).surely ks = some ks := by simp only [Row.surely, hp]; rfl
              rw [hrs]
              have hin := non_in (st := st ++ .dic (kd ks) :: j ++ j1) (vs := [.loc m]) (by
                intro v hv
                simp only [List.mem_cons, List.not_mem_nil, or_false] at hv
                exact .inr ⟨m, kvs, hv, hm⟩) (fun _ => ⟨.loc m, List.mem_cons_self .., .inl (by simp [flat])⟩)
              obtain ⟨j', f2, f3, f4, f5, ih2⟩ := ihc ks (by omega) (j ++ j1) (some (Row.loop x p).mv) (some (.lst [.loc m])) e4 e5
              refine ⟨j', f2, f3, f4, f5, ?_⟩
              show _ = match c.surely ks with | some ks' => _ | none => _
              rw [← ih2, ea]
              have hset := sets_spec H (.loop x p) (d + 1) (st ++ .dic (kd ks) :: j ++ j1)
              exact for_cons (step_some (env1 := [some b.mv, some (.loc h), some (Row.loop x p).mv, e3, e4, e5]) rfl (inS (sM hlc2 (by kernel_rfl) (sM hall (by kernel_rfl) (sM hlc1 (by kernel_rfl) (sM hin (by kernel_rfl) (sM hset (by kernel_rfl) (by kernel_rfl))))))))
      | _ => trivial
    obtain ⟨j', e2, e3, e4, e5, hf⟩ := key b (fun _ h => h) (Nat.le_refl _) ks hl [] none none none none
    have hd1 := dict1_dic (p := false) hd
    have hf : execS (callF G (d + 2)) d_surely_for2 [some b.mv, some (.loc h), none, none, none, none] (st ++ [.dic (kd ks)]) = _ := ex_for (vs := [b.mv]) (by kernel_rfl) rfl hf
    cases hb : b.surely ks with
    | none =>
      rw [hb] at hf
      exact ⟨j', inF_rt H.surely rfl (sM hd1 (by kernel_rfl) (sO hf (by kernel_rfl) (by kernel_rfl)))⟩
    | some ks' =>
      rw [hb] at hf
      exact ⟨h, .dic (kd ks') :: j', inF_rt H.surely rfl (sM hd1 (by kernel_rfl) (sO hf (by kernel_rfl) (by kernel_rfl))), Nat.le_refl _, get_new⟩
end Mi.Sh
set_option Elab.async false
set_option linter.all false
set_option maxRecDepth 100000
set_option maxHeartbeats 1000000
/-! PlSpec4: is_program, need_program, need_inputs. -/
namespace Mi.Sh
open PySem Mi
variable {G : Tab}
/-- built as a program -/
structure _root_.Mi.Prg.Built (p : Prg) : Prop where
  few : p.params.length ≤ 3
  words : ∀ x ∈ p.params, IsWord x
  nodup : p.params.Nodup
  len : p.body.length ≤ 400
  body : p.body.built 0
  size : p.body.size ≤ 400
/-- is a program, what is built as one -/
def _root_.Mi.Prg.fit (p : Prg) : Bool := (p.body.kindsIn (p.params.map fun x => (x, false))).1 && (p.body.surely p.params).isSome
structure _root_.Mi.Prg.Ok (p : Prg) : Prop where
  built : p.Built
  fit : p.fit = true
theorem built_deep : ∀ (b : Blk) (d : Nat), b.built d → d ≤ 6 → b.deep + d ≤ 6 := by
  intro b
  induction b using blk_ind with
  | h b ih =>
    have key : ∀ c : Blk, (∀ r ∈ c.rows, r ∈ b.rows) → ∀ d, c.built d → d ≤ 6 → c.deep + d ≤ 6 := by
      intro c
      induction c using Blk.rec (motive_1 := fun _ => True) with
      | nil => intro _ d _ h; show 0 + d ≤ 6; omega
      | cons r c _ ihc =>
        intro hsub d hb hd
        have h1 := ihc (fun r' h => hsub r' (List.mem_cons_of_mem _ h)) d hb.2 hd
        have hr := hsub r (List.mem_cons_self ..)
        have h2 : r.deep + d ≤ 6 := by
          have hb := hb.1
          rcases row_cases r with hs | ⟨x, p, q, rfl⟩ | ⟨x, p, rfl⟩
          · have : r.deep = 0 := by cases r <;> first | rfl | cases hs
            omega
          · obtain ⟨_, ⟨a1, _, a3⟩, b1, _, b3⟩ := hb
            have e1 := ih _ hr p (by simp [Row.blks]) (d + 1) a3 a1
            have e2 := ih _ hr q (by simp [Row.blks]) (d + 1) b3 b1
            show 1 + max p.deep q.deep + d ≤ 6
            omega
          · obtain ⟨_, a1, _, a3⟩ := hb
            have e1 := ih _ hr p (by simp [Row.blks]) (d + 1) a3 a1
            show 1 + p.deep + d ≤ 6
            omega
        show max r.deep c.deep + d ≤ 6
        omega
      | _ => trivial
    exact key b fun _ h => h
theorem dget_none_of {α : Type} {kvs : List (Str × α)} {x : Str} (h : ∀ kv ∈ kvs, kv.1 ≠ x) : dget kvs x = none := by
  unfold dget
  rw [Option.map_eq_none_iff, List.find?_eq_none]
  intro kv hkv e
  exact h kv hkv (of_decide_eq_true e)
theorem dmerge_nodup {α : Type} : ∀ (l kvs : List (Str × α)), (l.map (·.1)).Nodup → (∀ kv ∈ kvs, kv.1 ∉ l.map (·.1)) → dmerge kvs l = kvs ++ l
  | [], kvs, _, _ => by unfold dmerge; simp
  | (x, v) :: l, kvs, hn, hd => by
    unfold dmerge
    rw [List.foldl_cons]
    rw [List.map_cons, List.nodup_cons] at hn
    have e : dput kvs x v = kvs ++ [(x, v)] := dput_new (dget_none_of fun kv hkv e => hd kv hkv (by rw [e]; simp))
    show dmerge (dput kvs x v) l = _
    rw [e, dmerge_nodup l _ hn.2]
    · simp
    · intro kv hkv
      rw [List.mem_append] at hkv
      rcases hkv with h | h
      · intro hc; exact hd kv h (by simp [hc])
      · simp only [List.mem_cons, List.not_mem_nil, or_false] at h
        subst h; exact hn.1
theorem pairsOf_map (l : List Str) (v : MV) : pairsOf (l.map fun x => .tup [.str x, v]) = some (l.map fun x => (x, v)) := by
  unfold pairsOf
  induction l with
  | nil => rfl
  | cons a l ih => rw [List.map_cons, List.mapM_cons, ih]; rfl
theorem strsOf_map (l : List Str) : strsOf (l.map MV.str) = some l := by
  unfold strsOf
  induction l with
  | nil => rfl
  | cons a l ih => rw [List.map_cons, List.mapM_cons, ih]; rfl
theorem eraseDups_nodup : ∀ {l : List Str}, l.Nodup → l.eraseDups = l
  | [], _ => rfl
  | a :: l, h => by
    rw [List.nodup_cons] at h
    rw [List.eraseDups_cons]
    have e : l.filter (fun b => !b == a) = l := by
      rw [List.filter_eq_self]
      intro b hb
      have : b ≠ a := fun e => h.1 (e ▸ hb)
      simp [this]
    rw [e, eraseDups_nodup h.2]
theorem is_program_spec (H : HasP G) (p : Prg) (hp : p.Built) (d : Nat) (st : Store) : ∃ j, callF G (d + 20) (.fn "is_program") [p.mv] st = .ok (.bl p.fit) (st ++ j) := by
  obtain ⟨nm, hG⟩ := H.is_program
  have hdeep := built_deep p.body 0 hp.body (by omega)
  have hlim : p.params.length ≤ lim := Nat.le_trans hp.few (by decide)
  have hmap : (p.params.map MV.str).length = p.params.length := List.length_map ..
  -- the first tests
  have g1 : runOp .gt [.int ((p.params.map MV.str).length : Nat), .int 3] st = .ok (.bl false) st := gt_f (by have := hp.few; rw [hmap]; omega)
  have l3 : evalE (callF G (d + 19)) d_is_program_lc3 [some p.mv, none, none] st = .ok (.lst (p.params.map fun _ => .bl true)) st :=
    ev_lc p.params MV.str (fun _ => .bl true) (vs := [.tup (p.params.map MV.str)]) (by kernel_rfl) rfl hlim fun x hx => ⟨[some p.mv, none, some (.str x)], rfl, rfl, eC (is_word_spec H (hp.words x hx) (d + 18) st) (by kernel_rfl) (by kernel_rfl)⟩
  have ls : runOp .lenset [.tup (p.params.map MV.str)] st = .ok (.int p.params.length) st := by
    show (match strsOf (p.params.map MV.str) with | some xs => if xs.length ≤ 1000 then Res.ok (MV.int xs.eraseDups.length) st else .err | none => .err) = _
    rw [strsOf_map]
    simp only
    rw [if_pos (by have := hp.few; omega), eraseDups_nodup hp.nodup]
  have ne1 : runOp .ne [.int p.params.length, .int ((p.params.map MV.str).length : Nat)] st = .ok (.bl false) st := nei_f (by rw [hmap])
  have ib := is_block_spec H p.body (dd := 0) (by omega) hp.len hp.body (d + 19) st (by omega)
  have ct := count_of_spec H p.body (Nat.le_trans hp.size (by decide)) (d + 19) st (by omega)
  have g2 : runOp .gt [.int (p.body.size : Nat), .int 400] st = .ok (.bl false) st := gt_f (by have := hp.size; omega)
  have l2 : evalE (callF G (d + 19)) d_is_program_lc2 [some p.mv, none, none] st = .ok (.lst (p.params.map fun x => .tup [.str x, .str "n"])) st :=
    ev_lc p.params MV.str (fun x => .tup [.str x, .str "n"]) (vs := [.tup (p.params.map MV.str)]) (by kernel_rfl) rfl hlim fun x hx => ⟨[some p.mv, none, some (.str x)], rfl, rfl, by kernel_rfl⟩
  have keys : ∀ v : MV, (p.params.map fun x => (x, v)).map (·.1) = p.params := fun v => by rw [List.map_map]; exact List.map_id _
  have d2 : runOp (.dict1 false) [.lst (p.params.map fun x => .tup [.str x, .str "n"])] st = .ok (.loc st.length) (st ++ [.dic (kk (p.params.map fun x => (x, false)))]) := by
    rw [dict1_lst (pairsOf_map p.params (.str "n")), dmerge_nodup _ _ (by rw [keys]; exact hp.nodup) (by intro kv h; cases h)]
    unfold kk
    rw [List.map_map]; rfl
  have ki := kinds_in_spec H (st ++ [.dic []]) st.length (by simp) p.body (p.params.map fun x => (x, false)) (d + 19) (by
    have h1 := hp.few; have h2 := hp.size
    rw [List.length_map]
    have : lim = 16777216 := rfl
    omega) (by omega)
  rw [set_new, set_new] at ki
  let S := st ++ [.dic (kk (p.body.kindsIn (p.params.map fun x => (x, false))).2)]
  have hS : S = st ++ [.dic (kk (p.body.kindsIn (p.params.map fun x => (x, false))).2)] := rfl
  cases hk : (p.body.kindsIn (p.params.map fun x => (x, false))).1 with
  | false =>
    rw [hk] at ki
    refine ⟨[.dic (kk (p.body.kindsIn (p.params.map fun x => (x, false))).2)], ?_⟩
    have e : p.fit = false := by unfold Prg.fit; rw [hk]; rfl
    rw [e]
    refine inF_rt hG rfl ?_
    exact sF 1 (sM g1 (by kernel_rfl) (sM l3 (by kernel_rfl) (sM (all_true p.params st) (by kernel_rfl) (sM ls (by kernel_rfl) (sM ne1 (by kernel_rfl) (sM ib (by kernel_rfl) (sM ct (by kernel_rfl) (sM g2 (by kernel_rfl) (sM l2 (by kernel_rfl) (sM d2 (by kernel_rfl) (sM ki (by kernel_rfl) (by kernel_rfl))))))))))))
  | true =>
    rw [hk] at ki
    have l1 : evalE (callF G (d + 19)) d_is_program_lc1 [some p.mv, some (.loc st.length), none] S = .ok (.lst (p.params.map fun x => .tup [.str x, .bl true])) S :=
      ev_lc p.params MV.str (fun x => .tup [.str x, .bl true]) (vs := [.tup (p.params.map MV.str)]) (by kernel_rfl) rfl hlim fun x hx => ⟨[some p.mv, some (.loc st.length), some (.str x)], rfl, rfl, by kernel_rfl⟩
    have d1 : runOp (.dict1 false) [.lst (p.params.map fun x => .tup [.str x, .bl true])] S = .ok (.loc S.length) (S ++ [.dic (kd p.params)]) := by
      rw [dict1_lst (pairsOf_map p.params (.bl true)), dmerge_nodup _ _ (by rw [keys]; exact hp.nodup) (by intro kv h; cases h)]
      rfl
    have su := surely_spec H p.body (.loc S.length) p.params (d + 19) (S ++ [.dic (kd p.params)]) (dicL_loc get_new) (by
      have h1 := hp.few; have h2 := hp.size
      have : lim = 16777216 := rfl
      omega) (by omega)
    have e : p.fit = (p.body.surely p.params).isSome := by unfold Prg.fit; rw [hk]; rfl
    rw [e]
    have : ∃ u j, callF G (d + 19) (.fn "surely") [p.body.mv, .loc S.length] (S ++ [.dic (kd p.params)]) = .ok u (S ++ [.dic (kd p.params)] ++ j) ∧ (match u with | .non => false | _ => true) = (p.body.surely p.params).isSome := by
      cases hs : p.body.surely p.params with
      | none => rw [hs] at su; obtain ⟨j, c⟩ := su; exact ⟨_, j, c, rfl⟩
      | some k => rw [hs] at su; obtain ⟨m, j, c, _⟩ := su; exact ⟨_, j, c, rfl⟩
    obtain ⟨u, j, su, hu⟩ := this
    refine ⟨[.dic (kk (p.body.kindsIn (p.params.map fun x => (x, false))).2)] ++ [.dic (kd p.params)] ++ j, ?_⟩
    have ea : st ++ ([.dic (kk (p.body.kindsIn (p.params.map fun x => (x, false))).2)] ++ [.dic (kd p.params)] ++ j) = S ++ [.dic (kd p.params)] ++ j := by rw [hS]; simp [List.append_assoc]
    rw [ea, ← hu]
    refine inF_rt hG rfl ?_
    refine sF 1 (sM g1 (by kernel_rfl) (sM l3 (by kernel_rfl) (sM (all_true p.params st) (by kernel_rfl) (sM ls (by kernel_rfl) (sM ne1 (by kernel_rfl) (sM ib (by kernel_rfl) (sM ct (by kernel_rfl) (sM g2 (by kernel_rfl) (sM l2 (by kernel_rfl) (sM d2 (by kernel_rfl) (sM ki (by kernel_rfl) (sM l1 (by kernel_rfl) (sM d1 (by kernel_rfl) (sM su (by kernel_rfl) ?_))))))))))))))
    cases u <;> kernel_rfl
theorem need_program_ok (H : HasP G) (p : Prg) (hp : p.Ok) (d : Nat) (st : Store) : ∃ j, callF G (d + 21) (.fn "need_program") [p.mv] st = .ok .non (st ++ j) := by
  obtain ⟨j, h⟩ := is_program_spec H p hp.built d st
  rw [hp.fit] at h
  exact ⟨j, inF_nx (env := [some p.mv]) H.need_program rfl (sM h (by kernel_rfl) (by kernel_rfl))⟩
theorem need_program_no (H : HasP G) (p : Prg) (hp : p.Built) (hf : p.fit = false) (d : Nat) (st : Store) : ∃ j, callF G (d + 21) (.fn "need_program") [p.mv] st = .exc "NoProgram" (st ++ j) := by
  obtain ⟨j, h⟩ := is_program_spec H p hp d st
  rw [hf] at h
  exact ⟨j, inF_exc H.need_program rfl (sM h (by kernel_rfl) (by kernel_rfl))⟩
def insMV (is : List Int) : MV := .tup (is.map MV.int)
/-- inputs of a program -/
structure Ins (p : Prg) (is : List Int) : Prop where
  len : is.length = p.params.length
  ok : ∀ i ∈ is, 0 ≤ i ∧ i ≤ 999
theorem need_inputs_ok (H : HasR G) (p : Prg) (hp : p.Ok) (is : List Int) (hi : Ins p is) (d : Nat) (st : Store) : ∃ j, callF G (d + 22) (.fn "need_inputs") [p.mv, insMV is] st = .ok .non (st ++ j) := by
  obtain ⟨j, h⟩ := need_program_ok H.toHasP p hp d st
  have few := hp.built.few
  have len := hi.len
  refine ⟨j, inF_nx (env := [some p.mv, some (insMV is), none]) H.need_inputs rfl (sM h (by kernel_rfl) ?_)⟩
  refine sM (nei_f (a := ((is.map MV.int).length : Nat)) (b := ((p.params.map MV.str).length : Nat)) (st := st ++ j) (by rw [List.length_map, List.length_map, hi.len])) (by kernel_rfl) ?_
  refine sM (r := evalE (callF G (d + 21)) d_need_inputs_lc1 [some p.mv, some (insMV is), none] (st ++ j)) (v := .lst (is.map fun _ => .bl true)) (st := st ++ j) ?_ (by kernel_rfl) (sM (all_true is (st ++ j)) (by kernel_rfl) (by kernel_rfl))
  exact ev_lc is MV.int (fun _ => .bl true) (vs := [insMV is]) (by kernel_rfl) rfl (Nat.le_trans (by omega : is.length ≤ 3) (by decide)) fun x hx => ⟨[some p.mv, some (insMV is), some (.int x)], rfl, rfl, eC (is_whole_spec H.toHasP (hi.ok x hx).1 (hi.ok x hx).2 (d + 20) (st ++ j)) (by kernel_rfl) (by kernel_rfl)⟩
end Mi.Sh
set_option Elab.async false
set_option linter.all false
set_option maxRecDepth 100000
set_option maxHeartbeats 1000000
/-! PlRun1: runs, typed: sizes, things that names hold. -/
namespace Mi
open PySem
theorem blk_ind {P : Blk → Prop} (h : ∀ b, (∀ r ∈ b.rows, ∀ a ∈ r.blks, P a) → P b) : ∀ b, P b := Sh.blk_ind h
/-- induction over blocks, rows within -/
theorem blk_ind2 {P : Blk → Prop} {Q : Row → Prop} (hn : P .nil) (hc : ∀ r b, Q r → P b → P (.cons r b)) (hs : ∀ r : Row, r.blks = [] → Q r) (hi : ∀ x p q, P p → P q → Q (.ifr x p q)) (hl : ∀ x p, P p → Q (.loop x p)) : (∀ b, P b) ∧ ∀ r, Q r := by
  have h1 : ∀ b, P b := by
    intro b
    induction b using blk_ind with
    | h b ih =>
      have key : ∀ c : Blk, (∀ r ∈ c.rows, r ∈ b.rows) → P c := by
        intro c
        induction c using Blk.rec (motive_1 := fun _ => True) with
        | nil => intro _; exact hn
        | cons r c _ ihc =>
          intro hsub
          refine hc r c ?_ (ihc fun r' h => hsub r' (List.mem_cons_of_mem _ h))
          have ih := ih r (hsub r (List.mem_cons_self ..))
          rcases Sh.row_cases r with h | ⟨x, p, q, rfl⟩ | ⟨x, p, rfl⟩
          · exact hs r h
          · exact hi x p q (ih p (by simp [Row.blks])) (ih q (by simp [Row.blks]))
          · exact hl x p (ih p (by simp [Row.blks]))
        | _ => trivial
      exact key b fun _ h => h
  refine ⟨h1, fun r => ?_⟩
  rcases Sh.row_cases r with h | ⟨x, p, q, rfl⟩ | ⟨x, p, rfl⟩
  · exact hs r h
  · exact hi x p q (h1 p) (h1 q)
  · exact hl x p (h1 p)
theorem stirred_len (gs : List Nat) : ∀ ts : List (Int × Int), (stirred gs ts).length = ts.length := by
  induction gs with
  | nil => intro ts; rfl
  | cons g gs ih => intro ts; show (stirred gs (ts.set g _)).length = _; rw [ih, List.length_set]
/-- a measure that grows by at most so much a turn -/
theorem loopN_le {c : RS → Bool} {f : RS → RS} (m : RS → Nat) (k : Nat) (h : ∀ s, m (f s) ≤ m s + k) : ∀ n s, m (loopN c f n s) ≤ m s + n * k
  | 0, s => by simp [loopN]
  | n + 1, s => by
    simp only [loopN]
    split
    · have h1 := loopN_le (c := c) m k h n (f s)
      have h2 := h s
      rw [Nat.add_mul]; omega
    · omega
theorem loopN_ge {c : RS → Bool} {f : RS → RS} (m : RS → Nat) (h : ∀ s, m s ≤ m (f s)) : ∀ n s, m s ≤ m (loopN c f n s)
  | 0, s => by simp [loopN]
  | n + 1, s => by
    simp only [loopN]
    split
    · exact Nat.le_trans (h s) (loopN_ge m h n (f s))
    · exact Nat.le_refl _
theorem loopN_inv {c : RS → Bool} {f : RS → RS} {P : RS → Prop} (h : ∀ s, P s → P (f s)) : ∀ n s, P s → P (loopN c f n s)
  | 0, s, hs => hs
  | n + 1, s, hs => by
    simp only [loopN]
    split
    · exact loopN_inv h n (f s) (h s hs)
    · exact hs
theorem exec_things : (∀ (b : Blk) pl n s, s.things.length ≤ (b.exec pl n s).things.length ∧ (b.exec pl n s).things.length ≤ s.things.length + b.most) ∧ ∀ (r : Row) pl s, s.things.length ≤ (r.exec pl s).things.length ∧ (r.exec pl s).things.length ≤ s.things.length + r.most := by
  apply blk_ind2
  · intro pl n s; exact ⟨Nat.le_refl _, Nat.le_refl _⟩
  · intro r b hr hb pl n s
    have h1 := hr (pl ++ [n]) s
    have h2 := hb pl (n + 1) (r.exec (pl ++ [n]) s)
    show s.things.length ≤ (b.exec pl (n + 1) (r.exec (pl ++ [n]) s)).things.length ∧ (b.exec pl (n + 1) (r.exec (pl ++ [n]) s)).things.length ≤ s.things.length + (r.most + b.most)
    omega
  · intro r hs pl s
    cases r <;> first | (cases hs; done) | simp [Row.exec, RS.put, Row.most, RS.give, stirred_len]
  · intro x p q hp hq pl s
    have h1 := hp (pl ++ [0]) 0 s
    have h2 := hq (pl ++ [1]) 0 s
    simp only [Row.exec, Row.most]
    split <;> omega
  · intro x p hp pl s
    simp only [Row.exec, Row.most]
    refine ⟨loopN_ge (fun s => s.things.length) (fun s => (hp _ _ s).1) 9 s, loopN_le (fun s => s.things.length) p.most (fun s => (hp _ _ s).2) 9 s⟩
theorem exec_notes : (∀ (b : Blk) pl n s, (b.exec pl n s).noted.length ≤ s.noted.length + b.steps) ∧ ∀ (r : Row) pl s, (r.exec pl s).noted.length ≤ s.noted.length + r.steps := by
  apply blk_ind2
  · intro pl n s; exact Nat.le_refl _
  · intro r b hr hb pl n s
    have h1 := hr (pl ++ [n]) s
    have h2 := hb pl (n + 1) (r.exec (pl ++ [n]) s)
    show (b.exec pl (n + 1) (r.exec (pl ++ [n]) s)).noted.length ≤ s.noted.length + (r.steps + b.steps)
    omega
  · intro r hs pl s
    cases r <;> first | (cases hs; done) | simp [Row.exec, RS.put, Row.steps, RS.give]
  · intro x p q hp hq pl s
    have h1 := hp (pl ++ [0]) 0 s
    have h2 := hq (pl ++ [1]) 0 s
    simp only [Row.exec, Row.steps]
    split <;> omega
  · intro x p hp pl s
    simp only [Row.exec, Row.steps]
    have := loopN_le (c := fun s => decide (s.worth x ≠ 0)) (f := p.exec (pl ++ [0]) 0) (fun s => s.noted.length) p.steps (fun s => hp (pl ++ [0]) 0 s) 9 s
    omega
theorem most_steps : (∀ (b : Blk), b.most ≤ b.steps) ∧ ∀ (r : Row), r.most ≤ r.steps := by
  apply blk_ind2
  · exact Nat.le_refl _
  · intro r b hr hb
    show r.most + b.most ≤ r.steps + b.steps
    omega
  · intro r hs
    cases r <;> first | (cases hs; done) | simp [Row.most, Row.steps]
  · intro x p q hp hq
    simp only [Row.most, Row.steps]; omega
  · intro x p hp
    simp only [Row.most, Row.steps]; omega
/-! ### what names hold -/
def Safe (κ : Str → Bool) (ks : List Str) (s : RS) : Prop := ∀ x ∈ ks, κ x = true → 0 ≤ s.worth x ∧ s.worth x < s.things.length
theorem mem_both {k1 k2 : List Str} {x : Str} : ∀ {ks : List Str}, x ∈ both k1 k2 ks ↔ x ∈ ks ∨ (x ∈ k1 ∧ x ∈ k2) := by
  unfold both
  induction k1 with
  | nil => intro ks; simp
  | cons a k1 ih =>
    intro ks
    rw [List.foldl_cons, ih]
    by_cases h : a ∈ k2
    · rw [if_pos h, mem_kput, List.mem_cons]
      constructor
      · rintro ((h1 | rfl) | h1)
        · exact .inl h1
        · exact .inr ⟨.inl rfl, h⟩
        · exact .inr ⟨.inr h1.1, h1.2⟩
      · rintro (h1 | ⟨rfl | h1, h2⟩)
        · exact .inl (.inl h1)
        · exact .inl (.inr rfl)
        · exact .inr ⟨h1, h2⟩
    · rw [if_neg h, List.mem_cons]
      constructor
      · rintro (h1 | h1)
        · exact .inl h1
        · exact .inr ⟨.inr h1.1, h1.2⟩
      · rintro (h1 | ⟨rfl | h1, h2⟩)
        · exact .inl h1
        · exact absurd h2 h
        · exact .inr ⟨h1, h2⟩
theorem surely_sub {b : Blk} {ks ks' : List Str} (h : b.surely ks = some ks') : ∀ x ∈ ks, x ∈ ks' := by
  obtain ⟨e, rfl, _⟩ := Sh.surely_ext b ks ks' h
  intro x hx; exact List.mem_append_left _ hx
theorem Safe.put {κ : Str → Bool} {ks : List Str} {s : RS} {x : Str} {v : Int} (h : Safe κ ks s) (hv : κ x = true → 0 ≤ v ∧ v < s.things.length) : Safe κ (kput ks x) (s.put x v) := by
  intro y hy hk
  show 0 ≤ upd s.worth x v y ∧ upd s.worth x v y < s.things.length
  unfold upd
  split
  · rename_i e; subst e; exact hv hk
  · rename_i e
    rcases (mem_kput ks x y).mp hy with hy | rfl
    · exact h y hy hk
    · exact absurd rfl e
/-- the names that a row reads are set -/
def Row.has (r : Row) (ks : List Str) : Prop := ∀ x ∈ r.reads, x ∈ ks
theorem surely_cons {r : Row} {b : Blk} {ks ks' : List Str} (h : (Blk.cons r b).surely ks = some ks') : r.has ks ∧ ∃ k1, r.surely ks = some k1 ∧ b.surely k1 = some ks' := by
  simp only [Blk.surely] at h
  split at h
  · rename_i hr
    refine ⟨fun x hx => ?_, Option.bind_eq_some_iff.mp h⟩
    exact of_decide_eq_true (List.all_eq_true.mp hr x hx)
  · cases h
theorem surely_cons_of {r : Row} {b : Blk} {ks k1 ks' : List Str} (h : r.has ks) (h1 : r.surely ks = some k1) (h2 : b.surely k1 = some ks') : (Blk.cons r b).surely ks = some ks' := by
  simp only [Blk.surely]
  rw [if_pos (List.all_eq_true.mpr fun x hx => decide_eq_true (h x hx)), h1]
  exact h2
theorem exec_safe (κ : Str → Bool) : (∀ (b : Blk), b.wk κ → ∀ ks ks' pl n s, b.surely ks = some ks' → Safe κ ks s → Safe κ ks' (b.exec pl n s)) ∧
    ∀ (r : Row), r.wk κ → ∀ ks ks' pl s, r.has ks → r.surely ks = some ks' → Safe κ ks s → Safe κ ks' (r.exec pl s) := by
  apply blk_ind2
  · intro _ ks ks' pl n s h hs; cases h; exact hs
  · intro r b hr hb hw ks ks' pl n s h hs
    obtain ⟨h1, k1, h2, h3⟩ := surely_cons h
    exact hb hw.2 k1 ks' pl (n + 1) _ h3 (hr hw.1 ks k1 (pl ++ [n]) s h1 h2 hs)
  · intro r hb hw ks ks' pl s hh h hs
    cases r <;> first | (cases hb; done) | skip
    case num x i => cases h; exact hs.put fun hk => by rw [show κ x = false from hw (x, false) (by simp [Row.kinds])] at hk; cases hk
    case copy x y => cases h; exact hs.put fun hk => by rw [show κ x = false from hw (x, false) (by simp [Row.kinds])] at hk; cases hk
    case add x y z => cases h; exact hs.put fun hk => by rw [show κ x = false from hw (x, false) (by simp [Row.kinds])] at hk; cases hk
    case get x t f => cases h; exact hs.put fun hk => by rw [show κ x = false from hw (x, false) (by simp [Row.kinds])] at hk; cases hk
    case same x t u => cases h; exact hs.put fun hk => by rw [show κ x = false from hw (x, false) (by simp [Row.kinds])] at hk; cases hk
    case lett t u => cases h; exact hs.put fun hk => hs u (hh u (by simp [Row.reads])) (hw (u, true) (by simp [Row.kinds]))
    case make t x y =>
      cases h
      intro z hz hk
      show 0 ≤ upd s.worth t s.things.length z ∧ upd s.worth t s.things.length z < ((s.things ++ [(s.worth x, s.worth y)]).length : Nat)
      rw [List.length_append, List.length_singleton]
      unfold upd
      split
      · omega
      · rename_i e
        rcases (mem_kput ks t z).mp hz with hz | rfl
        · have := hs z hz hk; omega
        · exact absurd rfl e
    case put t f x =>
      cases h
      intro z hz hk
      show 0 ≤ s.worth z ∧ s.worth z < ((s.things.set _ _).length : Nat)
      rw [List.length_set]
      exact hs z hz hk
    case say => cases h; exact hs
    case give => cases h; exact hs
    case stir =>
      cases h
      intro z hz hk
      show 0 ≤ s.worth z ∧ s.worth z < ((stirred s.given s.things).length : Nat)
      rw [stirred_len]
      exact hs z hz hk
  · intro x p q hp hq hw ks ks' pl s hh h hs
    simp only [Row.surely] at h
    split at h
    · rename_i k1 k2 h1 h2
      cases h
      simp only [Row.exec]
      split
      · have := hq hw.2.2 ks k2 (pl ++ [1]) 0 s h2 hs
        intro z hz
        rcases mem_both.mp hz with hz | hz
        · exact this z (surely_sub h2 z hz)
        · exact this z hz.2
      · have := hp hw.2.1 ks k1 (pl ++ [0]) 0 s h1 hs
        intro z hz
        rcases mem_both.mp hz with hz | hz
        · exact this z (surely_sub h1 z hz)
        · exact this z hz.1
    · cases h
  · intro x p hp hw ks ks' pl s hh h hs
    simp only [Row.surely] at h
    obtain ⟨k1, h1, rfl⟩ := Option.map_eq_some_iff.mp h
    simp only [Row.exec]
    refine loopN_inv (P := Safe κ ks) (fun s hs => ?_) 9 s hs
    have := hp hw.2 ks k1 (pl ++ [0]) 0 s h1 hs
    exact fun z hz => this z (surely_sub h1 z hz)
end Mi
set_option Elab.async false
set_option linter.all false
set_option maxRecDepth 100000
set_option maxHeartbeats 1000000
/-! PlRun2: the Runner in the store. -/
namespace Mi
open PySem
theorem dget_dput {α : Type} (kvs : List (Str × α)) (x y : Str) (v : α) : dget (dput kvs x v) y = if y = x then some v else dget kvs y := by
  unfold dput
  split
  · rename_i h
    have key : ∀ l : List (Str × α), dget (l.map fun kv => if kv.1 = x then (kv.1, v) else kv) y = if y = x ∧ (l.any fun kv => decide (kv.1 = x)) = true then some v else dget l y := by
      intro l
      induction l with
      | nil => simp [dget]
      | cons a l ih =>
        unfold dget at *
        rw [List.map_cons, List.find?_cons, List.find?_cons]
        by_cases e : a.1 = x
        · rw [if_pos e]
          by_cases ey : a.1 = y
          · subst ey; simp [e]
          · have e' : ¬ y = x := fun h => ey (e.trans h.symm)
            simp only [ey, decide_false, e', false_and, if_false] at *
            exact ih
        · rw [if_neg e]
          by_cases ey : a.1 = y
          · have : ¬ y = x := fun h => e (ey.trans h)
            simp [ey, this]
          · simp only [ey, decide_false, List.any_cons, e, Bool.false_or]
            exact ih
    rw [key kvs]
    simp only [h, and_true]
  · rename_i h
    unfold dget
    rw [List.find?_append]
    by_cases e : y = x
    · subst e
      have : kvs.find? (fun kv => decide (kv.1 = y)) = none := by
        rw [List.find?_eq_none]
        intro kv hkv e
        exact h (List.any_eq_true.mpr ⟨kv, hkv, e⟩)
      rw [this]; simp
    · have e' : ¬ x = y := fun h => e h.symm
      simp [e, e']
theorem dput_len {α : Type} (kvs : List (Str × α)) (x : Str) (v : α) : (dput kvs x v).length ≤ kvs.length + 1 := by
  unfold dput
  split
  · rw [List.length_map]; omega
  · rw [List.length_append, List.length_singleton]; omega
def placeMV (pl : List Nat) : MV := .tup (pl.map fun (n : Nat) => .int n)
def gMV (g : Nat) : MV := .int g
def runFs (o : Nat) : List (Str × MV) := [("worth", .loc (o + 1)), ("things", .loc (o + 2)), ("given", .loc (o + 3)), ("noted", .loc (o + 4)), ("sites", .loc (o + 5))]
/-- the Runner at o, its things at ls, its table of names -/
structure RR (o : Nat) (ls : List Nat) (kvs : List (Str × MV)) (s : RS) (st : Store) : Prop where
  ins : st[o]? = some (.ins "Runner" (runFs o))
  worth : st[o + 1]? = some (.dic kvs)
  things : st[o + 2]? = some (.lst (ls.map MV.loc))
  given : st[o + 3]? = some (.lst (s.given.map gMV))
  noted : st[o + 4]? = some (.lst (s.noted.map Note.mv))
  sites : st[o + 5]? = some (.lst (s.sites.map placeMV))
  lens : ls.length = s.things.length
  thing : ∀ (i : Nat) (l : Nat), ls[i]? = some l → st[l]? = some (.lst [.int (s.things.getD i (0, 0)).1, .int (s.things.getD i (0, 0)).2])
  far : ∀ l ∈ ls, o + 5 < l
  nodup : ls.Nodup
  dict : ∀ x v, dget kvs x = some v → v = .int (s.worth x)
  givenLt : ∀ g ∈ s.given, g < s.things.length
  givenLen : s.given.length ≤ s.noted.length
  sitesLen : s.sites.length = s.things.length
def Dom (ks : List Str) (kvs : List (Str × MV)) : Prop := ∀ x ∈ ks, (dget kvs x).isSome = true
section
variable {o : Nat} {ls : List Nat} {kvs : List (Str × MV)} {s : RS} {st : Store} {ks : List Str}
theorem getF_ok {c f : Str} {fs : List (Str × MV)} {v : MV} (h : st[o]? = some (.ins c fs)) (hf : dget fs f = some v) : getF c f (.loc o) st = .ok v st := by
  simp only [getF, h, hf, if_true]
theorem hasM_ok {c m : Str} {fs : List (Str × MV)} (h : st[o]? = some (.ins c fs)) (hf : dget fs m = none) : hasM c m (.loc o) st = true := by
  simp only [hasM, h, hf, decide_true, Option.isNone, Bool.and_self]
theorem RR.fW (h : RR o ls kvs s st) : getF "Runner" "worth" (.loc o) st = .ok (.loc (o + 1)) st := getF_ok h.ins (by kernel_rfl)
theorem RR.fT (h : RR o ls kvs s st) : getF "Runner" "things" (.loc o) st = .ok (.loc (o + 2)) st := getF_ok h.ins (by kernel_rfl)
theorem RR.fG (h : RR o ls kvs s st) : getF "Runner" "given" (.loc o) st = .ok (.loc (o + 3)) st := getF_ok h.ins (by kernel_rfl)
theorem RR.fN (h : RR o ls kvs s st) : getF "Runner" "noted" (.loc o) st = .ok (.loc (o + 4)) st := getF_ok h.ins (by kernel_rfl)
theorem RR.fS (h : RR o ls kvs s st) : getF "Runner" "sites" (.loc o) st = .ok (.loc (o + 5)) st := getF_ok h.ins (by kernel_rfl)
theorem RR.mB (h : RR o ls kvs s st) : hasM "Runner" "block" (.loc o) st = true := hasM_ok h.ins (by kernel_rfl)
theorem RR.mR (h : RR o ls kvs s st) : hasM "Runner" "row" (.loc o) st = true := hasM_ok h.ins (by kernel_rfl)
theorem RR.mV (h : RR o ls kvs s st) : hasM "Runner" "value" (.loc o) st = true := hasM_ok h.ins (by kernel_rfl)
theorem RR.mT (h : RR o ls kvs s st) : hasM "Runner" "tell" (.loc o) st = true := hasM_ok h.ins (by kernel_rfl)
theorem RR.wx (h : RR o ls kvs s st) (hd : Dom ks kvs) {x : Str} (hx : x ∈ ks) : runOp .ix [.loc (o + 1), .str x] st = .ok (.int (s.worth x)) st := by
  obtain ⟨v, hv⟩ := Option.isSome_iff_exists.mp (hd x hx)
  rw [ix_dic (dicOf_loc h.worth) hv, h.dict x v hv]
theorem atI_nat {α : Type} {xs : List α} {i : Nat} {v : α} (h : xs[i]? = some v) : L2.atI xs (i : Int) = some v := by
  have hl : i < xs.length := by
    rcases Nat.lt_or_ge i xs.length with h' | h'
    · exact h'
    · rw [List.getElem?_eq_none h'] at h; cases h
  unfold L2.atI L2.ixN
  rw [if_pos (by omega), if_pos (by omega)]
  simpa using h
theorem ix_lst {n : Nat} {xs : List MV} {i : Nat} {v : MV} (h : st[n]? = some (.lst xs)) (hi : xs[i]? = some v) : runOp .ix [.loc n, .int i] st = .ok v st := by
  show ixSeq (.loc n) i st = _
  simp only [ixSeq, seqOf_loc h, atI_nat hi]
theorem ixi_lst {n : Nat} {xs : List MV} {i : Int} {v : MV} (h : st[n]? = some (.lst xs)) (h0 : 0 ≤ i) (hi : xs[i.toNat]? = some v) : runOp .ix [.loc n, .int i] st = .ok v st := by
  have := ix_lst (i := i.toNat) h hi
  rwa [Int.toNat_of_nonneg h0] at this
/-- a thing's place -/
theorem RR.tx (h : RR o ls kvs s st) {i : Int} (h0 : 0 ≤ i) (h1 : i < s.things.length) : ∃ l, ls[i.toNat]? = some l ∧ runOp .ix [.loc (o + 2), .int i] st = .ok (.loc l) st ∧ st[l]? = some (.lst [.int (s.things.getD i.toNat (0, 0)).1, .int (s.things.getD i.toNat (0, 0)).2]) := by
  have hl : i.toNat < ls.length := by rw [h.lens]; omega
  have e : ls[i.toNat]? = some ls[i.toNat] := List.getElem?_eq_getElem hl
  exact ⟨ls[i.toNat], e, ixi_lst h.things h0 (by rw [List.getElem?_map, e]; rfl), h.thing _ _ e⟩
theorem fx {l : Nat} {a b : Int} {f : Int} (h : st[l]? = some (.lst [.int a, .int b])) (hf : 0 ≤ f ∧ f ≤ 1) : runOp .ix [.loc l, .int f] st = .ok (.int (fld (a, b) f)) st := by
  have : f = 0 ∨ f = 1 := by omega
  rcases this with rfl | rfl
  · exact ix_lst (i := 0) h rfl
  · exact ix_lst (i := 1) h rfl
theorem RR.setW (h : RR o ls kvs s st) (x : Str) (v : Int) : RR o ls (dput kvs x (.int v)) (s.put x v) (st.set (o + 1) (.dic (dput kvs x (.int v)))) where
  ins := by rw [get_set_ne (by omega)]; exact h.ins
  worth := get_set (lt_of_get h.worth)
  things := by rw [get_set_ne (by omega)]; exact h.things
  given := by rw [get_set_ne (by omega)]; exact h.given
  noted := by rw [get_set_ne (by omega)]; exact h.noted
  sites := by rw [get_set_ne (by omega)]; exact h.sites
  lens := h.lens
  thing i l hl := by
    have := h.far l (List.mem_of_getElem? hl)
    rw [get_set_ne (by omega)]; exact h.thing i l hl
  far := h.far
  nodup := h.nodup
  dict y w hw := by
    rw [dget_dput] at hw
    show w = .int (upd s.worth x v y)
    unfold upd
    split
    · rename_i e; rw [if_pos e] at hw; cases hw; rfl
    · rename_i e; rw [if_neg e] at hw; exact h.dict y w hw
  givenLt := h.givenLt
  givenLen := h.givenLen
  sitesLen := h.sitesLen
theorem Dom.put (h : Dom ks kvs) (x : Str) (v : MV) : Dom (kput ks x) (dput kvs x v) := by
  intro y hy
  rw [dget_dput]
  split
  · rfl
  · rename_i e
    rcases (mem_kput ks x y).mp hy with hy | hy
    · exact h y hy
    · exact absurd hy e
theorem Dom.mono {kvs' : List (Str × MV)} (h : Dom ks kvs) (hm : ∀ x, (dget kvs x).isSome = true → (dget kvs' x).isSome = true) : Dom ks kvs' := fun x hx => hm x (h x hx)
theorem RR.note (h : RR o ls kvs s st) (n : Note) : RR o ls kvs { s with noted := s.noted ++ [n] } (st.set (o + 4) (.lst (s.noted.map Note.mv ++ [n.mv]))) where
  ins := by rw [get_set_ne (by omega)]; exact h.ins
  worth := by rw [get_set_ne (by omega)]; exact h.worth
  things := by rw [get_set_ne (by omega)]; exact h.things
  given := by rw [get_set_ne (by omega)]; exact h.given
  noted := by rw [get_set (lt_of_get h.noted)]; simp
  sites := by rw [get_set_ne (by omega)]; exact h.sites
  lens := h.lens
  thing i l hl := by
    have := h.far l (List.mem_of_getElem? hl)
    rw [get_set_ne (by omega)]; exact h.thing i l hl
  far := h.far
  nodup := h.nodup
  dict := h.dict
  givenLt := h.givenLt
  givenLen := by have := h.givenLen; simp; omega
  sitesLen := h.sitesLen
/-- a thing's fields set -/
theorem RR.setT (h : RR o ls kvs s st) {i l : Nat} (hi : ls[i]? = some l) (a b : Int) : RR o ls kvs { s with things := s.things.set i (a, b) } (st.set l (.lst [.int a, .int b])) := by
  have hf := h.far l (List.mem_of_getElem? hi)
  have hil : i < ls.length := by
    rcases Nat.lt_or_ge i ls.length with h' | h'
    · exact h'
    · rw [List.getElem?_eq_none h'] at hi; cases hi
  refine ⟨?_, ?_, ?_, ?_, ?_, ?_, ?_, ?_, h.far, h.nodup, h.dict, ?_, h.givenLen, ?_⟩
  · rw [get_set_ne (by omega)]; exact h.ins
  · rw [get_set_ne (by omega)]; exact h.worth
  · rw [get_set_ne (by omega)]; exact h.things
  · rw [get_set_ne (by omega)]; exact h.given
  · rw [get_set_ne (by omega)]; exact h.noted
  · rw [get_set_ne (by omega)]; exact h.sites
  · show ls.length = (s.things.set i (a, b)).length; rw [List.length_set]; exact h.lens
  · intro k m hk
    show _ = some (MO.lst [.int ((s.things.set i (a, b)).getD k (0, 0)).1, .int ((s.things.set i (a, b)).getD k (0, 0)).2])
    by_cases e : i = k
    · subst e
      rw [hi] at hk; cases hk
      have hl := lt_of_get (h.thing i l hi)
      rw [get_set hl, List.getD_eq_getElem?_getD, List.getElem?_set_self (by rw [← h.lens]; exact hil)]
      rfl
    · have hne : l ≠ m := by
        intro e2; subst e2
        have h1 : k < ls.length := by
          rcases Nat.lt_or_ge k ls.length with h' | h'
          · exact h'
          · rw [List.getElem?_eq_none h'] at hk; cases hk
        rw [List.getElem?_eq_getElem hil] at hi
        rw [List.getElem?_eq_getElem h1] at hk
        have := (List.getElem_inj h.nodup (h₀ := hil) (h₁ := h1)).mp ((Option.some.inj hi).trans (Option.some.inj hk).symm)
        exact e this
      rw [get_set_ne hne, h.thing k m hk, List.getD_eq_getElem?_getD, List.getD_eq_getElem?_getD, List.getElem?_set_ne e]
  · intro g hg
    show g < (s.things.set i (a, b)).length
    rw [List.length_set]; exact h.givenLt g hg
  · show s.sites.length = (s.things.set i (a, b)).length; rw [List.length_set]; exact h.sitesLen
/-- a thing more outside -/
theorem RR.addG (h : RR o ls kvs s st) (g : Nat) (n : Note) (hg : g < s.things.length) : RR o ls kvs { s with given := s.given ++ [g], noted := s.noted ++ [n] } ((st.set (o + 3) (.lst (s.given.map gMV ++ [gMV g]))).set (o + 4) (.lst (s.noted.map Note.mv ++ [n.mv]))) where
  ins := by rw [get_set_ne (by omega), get_set_ne (by omega)]; exact h.ins
  worth := by rw [get_set_ne (by omega), get_set_ne (by omega)]; exact h.worth
  things := by rw [get_set_ne (by omega), get_set_ne (by omega)]; exact h.things
  given := by rw [get_set_ne (by omega), get_set (lt_of_get h.given)]; simp
  noted := by rw [get_set (by rw [List.length_set]; exact lt_of_get h.noted)]; simp
  sites := by rw [get_set_ne (by omega), get_set_ne (by omega)]; exact h.sites
  lens := h.lens
  thing i l hl := by
    have := h.far l (List.mem_of_getElem? hl)
    rw [get_set_ne (by omega), get_set_ne (by omega)]; exact h.thing i l hl
  far := h.far
  nodup := h.nodup
  dict := h.dict
  givenLt := by
    intro k hk
    rcases List.mem_append.mp hk with hk | hk
    · exact h.givenLt k hk
    · rw [List.mem_singleton.mp hk]; exact hg
  givenLen := by have := h.givenLen; simp; omega
  sitesLen := h.sitesLen
/-- a thing made: its list, the list of things, of sites, the name -/
theorem RR.made (h : RR o ls kvs s st) (t x y : Str) (pl : List Nat) (a b : Int) (ha : a = s.worth x) (hb : b = s.worth y) (v : Int) (hv : v = s.things.length) :
    RR o (ls ++ [st.length]) (dput kvs t (.int v)) ((Row.make t x y).exec pl s)
      ((((st ++ [MO.lst [.int a, .int b]]).set (o + 2) (MO.lst (ls.map MV.loc ++ [MV.loc st.length]))).set (o + 5) (MO.lst (s.sites.map placeMV ++ [placeMV pl]))).set (o + 1) (MO.dic (dput kvs t (.int v)))) := by
  subst ha hb hv
  have h5 := lt_of_get h.sites
  have l0 : o < st.length := by omega
  refine ⟨?_, ?_, ?_, ?_, ?_, ?_, ?_, ?_, ?_, ?_, ?_, ?_, ?_, ?_⟩
  · rw [get_set_ne (by omega), get_set_ne (by omega), get_set_ne (by omega), get_app (by omega)]; exact h.ins
  · exact get_set (by simp; omega)
  · rw [get_set_ne (by omega), get_set_ne (by omega), get_set (by simp; omega)]; simp
  · rw [get_set_ne (by omega), get_set_ne (by omega), get_set_ne (by omega), get_app (by omega)]; exact h.given
  · rw [get_set_ne (by omega), get_set_ne (by omega), get_set_ne (by omega), get_app (by omega)]; exact h.noted
  · rw [get_set_ne (by omega), get_set (by simp; omega)]
    show _ = some (MO.lst ((s.sites ++ [pl]).map placeMV))
    simp
  · show (ls ++ [st.length]).length = (s.things ++ [_]).length
    rw [List.length_append, List.length_append, h.lens]; rfl
  · intro i l hl
    show _ = some (MO.lst [.int ((s.things ++ [(s.worth x, s.worth y)]).getD i (0, 0)).1, .int ((s.things ++ [(s.worth x, s.worth y)]).getD i (0, 0)).2])
    by_cases hi : i < ls.length
    · rw [List.getElem?_append_left hi] at hl
      have hf := h.far l (List.mem_of_getElem? hl)
      have ht := h.thing i l hl
      have hlt := lt_of_get ht
      rw [get_set_ne (by omega), get_set_ne (by omega), get_set_ne (by omega), get_app hlt, ht, List.getD_eq_getElem?_getD, List.getD_eq_getElem?_getD, List.getElem?_append_left (by rw [← h.lens]; exact hi)]
    · have e : i = ls.length := by
        have : i < (ls ++ [st.length]).length := by
          rcases Nat.lt_or_ge i (ls ++ [st.length]).length with h' | h'
          · exact h'
          · rw [List.getElem?_eq_none h'] at hl; cases hl
        simp at this; omega
      subst e
      rw [List.getElem?_append_right (Nat.le_refl _), Nat.sub_self] at hl
      cases hl
      rw [get_set_ne (by omega), get_set_ne (by omega), get_set_ne (by omega)]
      have : (s.things ++ [(s.worth x, s.worth y)]).getD ls.length (0, 0) = (s.worth x, s.worth y) := by
        rw [List.getD_eq_getElem?_getD, h.lens, List.getElem?_append_right (Nat.le_refl _), Nat.sub_self]; rfl
      rw [this]
      exact get_new
  · intro l hl
    rcases List.mem_append.mp hl with hl | hl
    · exact h.far l hl
    · rw [List.mem_singleton.mp hl]; omega
  · rw [List.nodup_append]
    refine ⟨h.nodup, by simp, ?_⟩
    intro a ha b hb
    rw [List.mem_singleton.mp hb]
    intro e
    obtain ⟨i, hi⟩ := List.getElem?_of_mem ha
    have := lt_of_get (h.thing i a hi)
    omega
  · intro y' w hw
    rw [dget_dput] at hw
    show w = .int (upd s.worth t s.things.length y')
    unfold upd
    split
    · rename_i e; rw [if_pos e] at hw; cases hw; rfl
    · rename_i e; rw [if_neg e] at hw; exact h.dict y' w hw
  · intro g hg
    show g < (s.things ++ [_]).length
    have := h.givenLt g hg
    rw [List.length_append]; omega
  · exact h.givenLen
  · show (s.sites ++ [pl]).length = (s.things ++ [_]).length
    rw [List.length_append, List.length_append, h.sitesLen]; rfl
end
end Mi
set_option Elab.async false
set_option linter.all false
set_option maxRecDepth 100000
set_option maxHeartbeats 1000000
/-! PlRun3: the Runner's rows. -/
namespace Mi.Sh
open PySem Mi
variable {G : Tab} {o : Nat} {ls : List Nat} {kvs : List (Str × MV)} {s : RS} {st : Store} {ks : List Str} {κ : Str → Bool}
/-- what a row sets its name to -/
def _root_.Mi.Row.val (r : Row) (s : RS) : Int := match r with
  | .num _ i => i
  | .copy _ y => s.worth y
  | .add _ y z => (s.worth y + s.worth z) % 1000
  | .get _ t f => fld (s.at t) f
  | .lett _ u => s.worth u
  | .same _ t u => if s.worth t = s.worth u then 1 else 0
  | _ => 0
/-- the name that is set by a value -/
def _root_.Mi.Row.goal : Row → Option Str
  | .num x _ => some x
  | .copy x _ => some x
  | .add x _ _ => some x
  | .get x _ _ => some x
  | .lett t _ => some t
  | .same x _ _ => some x
  | _ => none
theorem value_spec (H : HasR G) (h : RR o ls kvs s st) (hd : Dom ks kvs) (hs : Safe κ ks s) (r : Row) {x : Str} (hg : r.goal = some x) (hw : r.wk κ) (hh : r.has ks) {dd : Nat} (hb : r.built dd) (d : Nat) :
    callF G (d + 1) (.me "Runner" "value") [.loc o, r.mv] st = .ok (.int (r.val s)) st := by
  refine inF_rt H.Runner_value rfl ?_
  cases r <;> first | (cases hg; done) | skip
  case num x i => kernel_rfl
  case copy x y => exact sM h.fW (by kernel_rfl) (sM (h.wx hd (x := y) (hh y (by simp [Row.reads]))) (by kernel_rfl) (by kernel_rfl))
  case add x y z => exact sM h.fW (by kernel_rfl) (sM (h.wx hd (x := y) (hh y (by simp [Row.reads]))) (by kernel_rfl) (sM h.fW (by kernel_rfl) (sM (h.wx hd (x := z) (hh z (by simp [Row.reads]))) (by kernel_rfl) (by kernel_rfl))))
  case get x t f =>
    have ht := hh t (by simp [Row.reads])
    obtain ⟨h0, h1⟩ := hs t ht (hw (t, true) (by simp [Row.kinds]))
    obtain ⟨l, _, e, hl⟩ := h.tx h0 h1
    exact sM h.fT (by kernel_rfl) (sM h.fW (by kernel_rfl) (sM (h.wx hd ht) (by kernel_rfl) (sM e (by kernel_rfl) (sM (fx hl hb.2.2) (by kernel_rfl) (by kernel_rfl)))))
  case lett t u => exact sM h.fW (by kernel_rfl) (sM (h.wx hd (x := u) (hh u (by simp [Row.reads]))) (by kernel_rfl) (by kernel_rfl))
  case same x t u =>
    refine sM h.fW (by kernel_rfl) (sM (h.wx hd (x := t) (hh t (by simp [Row.reads]))) (by kernel_rfl) (sM h.fW (by kernel_rfl) (sM (h.wx hd (x := u) (hh u (by simp [Row.reads]))) (by kernel_rfl) ?_)))
    by_cases e : s.worth t = s.worth u
    · have : (Row.same x t u).val s = 1 := if_pos e
      rw [this]
      exact sM (eqi_t (st := st) e) (by kernel_rfl) (by kernel_rfl)
    · have : (Row.same x t u).val s = 0 := if_neg e
      rw [this]
      exact sM (eqi_f (st := st) e) (by kernel_rfl) (by kernel_rfl)
/-- below o nothing changes -/
def Fr (o : Nat) (st st' : Store) : Prop := st.length ≤ st'.length ∧ ∀ i, i < o → st'[i]? = st[i]?
theorem Fr.refl (o : Nat) (st : Store) : Fr o st st := ⟨Nat.le_refl _, fun _ _ => rfl⟩
theorem Fr.trans {o : Nat} {a b c : Store} (h1 : Fr o a b) (h2 : Fr o b c) : Fr o a c := ⟨Nat.le_trans h1.1 h2.1, fun i hi => (h2.2 i hi).trans (h1.2 i hi)⟩
theorem Fr.set {o n : Nat} {st : Store} {x : MO} (h : o ≤ n) : Fr o st (st.set n x) := ⟨by rw [List.length_set]; exact Nat.le_refl _, fun i hi => get_set_ne (by omega)⟩
theorem Fr.app {o : Nat} {st j : Store} (h : o ≤ st.length) : Fr o st (st ++ j) := ⟨by rw [List.length_append]; omega, fun i hi => get_app (by omega)⟩
/-- a row done: as typed -/
def RowDone (G : Tab) (o : Nat) (ks' : List Str) (kvs : List (Str × MV)) (k : Nat) (s' : RS) (st : Store) (r : Res MV) : Prop :=
  ∃ ls' kvs' st', r = .ok .non st' ∧ RR o ls' kvs' s' st' ∧ Dom ks' kvs' ∧ (∀ x, (dget kvs x).isSome = true → (dget kvs' x).isSome = true) ∧ kvs'.length ≤ kvs.length + k ∧ Fr o st st'
theorem dput_some {kvs : List (Str × MV)} {x : Str} {v : MV} : ∀ y, (dget kvs y).isSome = true → (dget (dput kvs x v) y).isSome = true := by
  intro y hy
  rw [dget_dput]
  split
  · rfl
  · exact hy
theorem goal_exec {r : Row} {x : Str} (hg : r.goal = some x) (pl : List Nat) (s : RS) : r.exec pl s = s.put x (r.val s) ∧ (∀ ks, r.surely ks = some (kput ks x)) := by
  cases r <;> first | (cases hg; done) | (cases hg; exact ⟨rfl, fun _ => rfl⟩)
theorem row_goal (H : HasR G) (h : RR o ls kvs s st) (hd : Dom ks kvs) (hs : Safe κ ks s) (r : Row) {x : Str} (hg : r.goal = some x) (hw : r.wk κ) (hh : r.has ks) {dd : Nat} (hb : r.built dd) (hl : kvs.length < lim) (pl : List Nat) (d : Nat) :
    RowDone G o (kput ks x) kvs 1 (r.exec pl s) st (callF G (d + 2) (.me "Runner" "row") [.loc o, r.mv, placeMV pl] st) := by
  have hv := value_spec H h hd hs r hg hw hh hb d
  have hx := setI_dic (env := [some (.loc o), some r.mv, some (placeMV pl), none, none]) (x := x) (v := .int (r.val s)) h.worth hl
  rw [(goal_exec hg pl s).1]
  refine ⟨ls, dput kvs x (.int (r.val s)), _, ?_, h.setW x (r.val s), hd.put x _, dput_some, dput_len _ _ _, Fr.set (by omega)⟩
  refine inF_nx (env := [some (.loc o), some r.mv, some (placeMV pl), none, none]) H.Runner_row rfl ?_
  refine sG (st := st) h.mV ?_ (sN hv ?_ (sM h.fW ?_ (sO hx ?_ ?_)))
  all_goals (cases r <;> first | (cases hg; done) | (cases hg; kernel_rfl))
theorem row_put (H : HasR G) (h : RR o ls kvs s st) (hd : Dom ks kvs) (hs : Safe κ ks s) (t x : Str) (f : Int) (hw : (Row.put t f x).wk κ) (hh : (Row.put t f x).has ks) {dd : Nat} (hb : (Row.put t f x).built dd) (pl : List Nat) (d : Nat) :
    RowDone G o ks kvs 1 ((Row.put t f x).exec pl s) st (callF G (d + 1) (.me "Runner" "row") [.loc o, (Row.put t f x).mv, placeMV pl] st) := by
  have ht := hh t (by simp [Row.reads])
  have hx := hh x (by simp [Row.reads])
  obtain ⟨h0, h1⟩ := hs t ht (hw (t, true) (by simp [Row.kinds]))
  obtain ⟨l, hi, e, hl⟩ := h.tx h0 h1
  have hf := hb.2.1
  have hset : stSt [some (.loc o), some (Row.put t f x).mv, some (placeMV pl), none, none] (setIx (.loc l) (.int f) (.int (s.worth x)) st) = .ok (.nx [some (.loc o), some (Row.put t f x).mv, some (placeMV pl), none, none]) (st.set l (.lst [.int (fldPut (s.at t) f (s.worth x)).1, .int (fldPut (s.at t) f (s.worth x)).2])) := by
    have : f = 0 ∨ f = 1 := by omega
    rcases this with rfl | rfl
    · simp only [setIx, hl]; rfl
    · simp only [setIx, hl]; rfl
  refine ⟨ls, kvs, _, ?_, h.setT hi (fldPut (s.at t) f (s.worth x)).1 (fldPut (s.at t) f (s.worth x)).2, hd, fun _ hy => hy, by omega, Fr.set (by have := h.far l (List.mem_of_getElem? hi); omega)⟩
  refine inF_nx (env := [some (.loc o), some (Row.put t f x).mv, some (placeMV pl), none, none]) H.Runner_row rfl ?_
  exact sM h.fW (by kernel_rfl) (sM (h.wx hd hx) (by kernel_rfl) (sM h.fT (by kernel_rfl) (sM h.fW (by kernel_rfl) (sM (h.wx hd ht) (by kernel_rfl) (sM e (by kernel_rfl) (sO hset (by kernel_rfl) (by kernel_rfl)))))))
theorem row_make (H : HasR G) (h : RR o ls kvs s st) (hd : Dom ks kvs) (t x y : Str) (hh : (Row.make t x y).has ks) (hl : kvs.length < lim) (hl2 : s.things.length < lim) (pl : List Nat) (d : Nat) :
    RowDone G o (kput ks t) kvs 1 ((Row.make t x y).exec pl s) st (callF G (d + 1) (.me "Runner" "row") [.loc o, (Row.make t x y).mv, placeMV pl] st) := by
  have hx := hh x (by simp [Row.reads])
  have hy := hh y (by simp [Row.reads])
  have h5 := lt_of_get h.sites
  let env : Env := [some (.loc o), some (Row.make t x y).mv, some (placeMV pl), none, none]
  let st1 : Store := st ++ [.lst [.int (s.worth x), .int (s.worth y)]]
  let st2 : Store := st1.set (o + 2) (.lst (ls.map MV.loc ++ [.loc st.length]))
  let st3 : Store := st2.set (o + 5) (.lst (s.sites.map placeMV ++ [placeMV pl]))
  have a1 : runMe .append (.loc (o + 2)) [.loc st.length] st1 = .ok .non st2 := append_me (get_app' h.things) (by rw [List.length_map, h.lens]; exact hl2)
  have l2 : st2.length = st.length + 1 := by simp [st2, st1]
  have i2 : st2[o]? = some (.ins "Runner" (runFs o)) := by
    show (st1.set (o + 2) _)[o]? = _
    rw [get_set_ne (by omega)]; exact get_app' h.ins
  have s2 : st2[o + 5]? = some (.lst (s.sites.map placeMV)) := by
    show (st1.set (o + 2) _)[o + 5]? = _
    rw [get_set_ne (by omega)]; exact get_app' h.sites
  have a2 : runMe .append (.loc (o + 5)) [placeMV pl] st2 = .ok .non st3 := append_me s2 (by rw [List.length_map, h.sitesLen]; exact hl2)
  have i3 : st3[o]? = some (.ins "Runner" (runFs o)) := by
    show (st2.set (o + 5) _)[o]? = _
    rw [get_set_ne (by omega)]; exact i2
  have t3 : st3[o + 2]? = some (.lst (ls.map MV.loc ++ [.loc st.length])) := by
    show (st2.set (o + 5) _)[o + 2]? = _
    rw [get_set_ne (by omega)]; exact get_set (by simp [st1]; omega)
  have w3 : st3[o + 1]? = some (.dic kvs) := by
    show (st2.set (o + 5) _)[o + 1]? = _
    rw [get_set_ne (by omega)]
    show (st1.set (o + 2) _)[o + 1]? = _
    rw [get_set_ne (by omega)]; exact get_app' h.worth
  have hx3 := setI_dic (env := env) (x := t) (v := .int (((ls.map MV.loc ++ [MV.loc st.length]).length : Nat) - 1 : Int)) w3 hl
  have hv : (((ls.map MV.loc ++ [MV.loc st.length]).length : Nat) - 1 : Int) = s.things.length := by
    rw [List.length_append, List.length_map, h.lens]; simp
  have rr := h.made t x y pl (s.worth x) (s.worth y) rfl rfl _ hv
  refine ⟨_, _, _, ?_, rr, hd.put t _, dput_some, dput_len _ _ _, ?_⟩
  · refine inF_nx (env := env) H.Runner_row rfl ?_
    refine sM h.fT (by kernel_rfl) (sGl h.things (by kernel_rfl) (sM h.fW (by kernel_rfl) (sM (h.wx hd hx) (by kernel_rfl) (sM h.fW (by kernel_rfl) (sM (h.wx hd hy) (by kernel_rfl) (sM a1 (by kernel_rfl) ?_))))))
    refine sM (getF_ok (c := "Runner") (f := "sites") (v := .loc (o + 5)) i2 (by kernel_rfl)) (by kernel_rfl) (sGl s2 (by kernel_rfl) (sM a2 (by kernel_rfl) ?_))
    refine sM (getF_ok (c := "Runner") (f := "things") (v := .loc (o + 2)) i3 (by kernel_rfl)) (by kernel_rfl) (sM (len_loc t3) (by kernel_rfl) ?_)
    refine sM (getF_ok (c := "Runner") (f := "worth") (v := .loc (o + 1)) i3 (by kernel_rfl)) (by kernel_rfl) (sO hx3 (by kernel_rfl) (by kernel_rfl))
  · exact (Fr.app (by omega)).trans ((Fr.set (by omega)).trans ((Fr.set (by omega)).trans (Fr.set (by omega))))
theorem row_say (H : HasR G) (h : RR o ls kvs s st) (hd : Dom ks kvs) (x : Str) (hh : (Row.say x).has ks) (hl : s.noted.length < lim) (pl : List Nat) (d : Nat) :
    RowDone G o ks kvs 1 ((Row.say x).exec pl s) st (callF G (d + 2) (.me "Runner" "row") [.loc o, (Row.say x).mv, placeMV pl] st) := by
  have hx := hh x (by simp [Row.reads])
  have a1 := append_me (v := (Note.say (s.worth x)).mv) h.noted (by rw [List.length_map]; exact hl)
  have ht : callF G (d + 1) (.me "Runner" "tell") [.loc o, (Row.say x).mv] st = .ok .non (st.set (o + 4) (.lst (s.noted.map Note.mv ++ [(Note.say (s.worth x)).mv]))) := inF_nx (env := [some (.loc o), some (Row.say x).mv, none, none]) H.Runner_tell rfl (sM h.fN (by kernel_rfl) (sGl h.noted (by kernel_rfl) (sM h.fW (by kernel_rfl) (sM (h.wx hd hx) (by kernel_rfl) (sM a1 (by kernel_rfl) (by kernel_rfl))))))
  refine ⟨ls, kvs, _, ?_, h.note (.say (s.worth x)), hd, fun _ hy => hy, by omega, Fr.set (by omega)⟩
  exact inF_nx (env := [some (.loc o), some (Row.say x).mv, some (placeMV pl), none, none]) H.Runner_row rfl (sG (st := st) h.mT (by kernel_rfl) (sN ht (by kernel_rfl) (by kernel_rfl)))

theorem gMV_in (g : Nat) (gs : List Nat) : (gs.map gMV).any (fun y => eqF y (.int g)) = decide (g ∈ gs) := by
  induction gs with
  | nil => rfl
  | cons a gs ih =>
    rw [List.map_cons, List.any_cons, ih]
    show ((a : Int) == (g : Int) || decide (g ∈ gs)) = decide (g ∈ a :: gs)
    by_cases e : a = g
    · subst e; simp
    · have h1 : ((a : Int) == (g : Int)) = false := by
        rw [beq_eq_false_iff_ne]; omega
      have h2 : ¬ g = a := fun h => e h.symm
      rw [h1, Bool.false_or]
      simp [h2]
theorem gMV_flat (gs : List Nat) : (gs.map gMV).all flat = true := by
  rw [List.all_eq_true]
  intro v hv
  obtain ⟨g, _, rfl⟩ := List.mem_map.mp hv
  rfl
theorem gMV_idx (g : Nat) (gs : List Nat) (h : g ∈ gs) : (gs.map gMV).findIdx? (fun y => eqF y (.int g)) = some (gs.idxOf g) := by
  induction gs with
  | nil => cases h
  | cons a gs ih =>
    rw [List.map_cons, List.findIdx?_cons, List.idxOf_cons]
    show (if ((a : Int) == (g : Int)) = true then some 0 else _) = _
    by_cases e : a = g
    · subst e; simp
    · have h1 : ((a : Int) == (g : Int)) = false := by
        rw [beq_eq_false_iff_ne]; omega
      have h2 : (a == g) = false := by rw [beq_eq_false_iff_ne]; exact e
      have h3 : g ∈ gs := by
        rcases List.mem_cons.mp h with h | h
        · exact absurd h.symm e
        · exact h
      rw [h1, h2, ih h3]
      rfl
theorem row_give (H : HasR G) (h : RR o ls kvs s st) (hd : Dom ks kvs) (hs : Safe κ ks s) (t : Str) (hw : (Row.give t).wk κ) (hh : (Row.give t).has ks) (hl : s.noted.length < lim) (pl : List Nat) (d : Nat) :
    RowDone G o ks kvs 1 ((Row.give t).exec pl s) st (callF G (d + 2) (.me "Runner" "row") [.loc o, (Row.give t).mv, placeMV pl] st) := by
  have ht := hh t (by simp [Row.reads])
  obtain ⟨h0, h1⟩ := hs t ht (hw (t, true) (by simp [Row.kinds]))
  obtain ⟨l, hi, e, hlv⟩ := h.tx h0 h1
  have hwt : s.worth t = ((s.worth t).toNat : Int) := by omega
  have hgl := h.givenLen
  let g := (s.worth t).toNat
  have hni : runOp .notin [.int (s.worth t), .loc (o + 3)] st = .ok (.bl (!decide (g ∈ s.given))) st := by
    show ofB ((inOp (.int (s.worth t)) (.loc (o + 3)) st).map _) st = _
    have : inOp (.int (s.worth t)) (.loc (o + 3)) st = some (decide (g ∈ s.given)) := by
      show inObj _ _ _ = _
      have e1 : dicOf st (.loc (o + 3)) = none := by simp only [dicOf, h.given]
      simp only [inObj, e1, seqOf_loc h.given]
      unfold inSeq
      rw [if_pos (by rw [gMV_flat]; rfl), hwt, gMV_in]
    rw [this]; rfl
  by_cases hg : g ∈ s.given
  · -- given before
    rw [decide_eq_true hg] at hni
    have hidx : runMe .index (.loc (o + 3)) [.int (s.worth t)] st = .ok (.int (s.given.idxOf g)) st := by
      simp only [runMe, lstOf_loc h.given]
      rw [if_pos (by rw [gMV_flat]; rfl), hwt, gMV_idx _ _ hg]
    let nt : Note := .give (s.given.idxOf g) (s.things.getD g (0, 0)).1 (s.things.getD g (0, 0)).2
    have a1 := append_me (v := nt.mv) h.noted (by rw [List.length_map]; exact hl)
    have htl : callF G (d + 1) (.me "Runner" "tell") [.loc o, (Row.give t).mv] st = .ok .non (st.set (o + 4) (.lst (s.noted.map Note.mv ++ [nt.mv]))) := by
      refine inF_nx (env := [some (.loc o), some (Row.give t).mv, some (.int (s.worth t)), some (.loc l)]) H.Runner_tell rfl ?_
      refine sM h.fW (by kernel_rfl) (sM (h.wx hd ht) (by kernel_rfl) (sM h.fG (by kernel_rfl) (sM hni (by kernel_rfl) ?_)))
      refine sM h.fT (by kernel_rfl) (sM e (by kernel_rfl) (sM h.fN (by kernel_rfl) (sGl h.noted (by kernel_rfl) (sM h.fG (by kernel_rfl) (sGl h.given (by kernel_rfl) (sM hidx (by kernel_rfl) ?_))))))
      exact sM (fx (f := 0) hlv (by omega)) (by kernel_rfl) (sM (fx (f := 1) hlv (by omega)) (by kernel_rfl) (sM a1 (by kernel_rfl) (by kernel_rfl)))
    have hex : (Row.give t).exec pl s = { s with noted := s.noted ++ [nt] } := by
      simp only [Row.exec, RS.give]
      rw [if_pos hg]
    rw [hex]
    refine ⟨ls, kvs, _, ?_, h.note nt, hd, fun _ hy => hy, by omega, Fr.set (by omega)⟩
    exact inF_nx (env := [some (.loc o), some (Row.give t).mv, some (placeMV pl), none, none]) H.Runner_row rfl (sG (st := st) h.mT (by kernel_rfl) (sN htl (by kernel_rfl) (by kernel_rfl)))
  · -- given first
    rw [decide_eq_false hg] at hni
    have hgl2 : g < s.things.length := by show (s.worth t).toNat < _; omega
    let st1 : Store := st.set (o + 3) (.lst (s.given.map gMV ++ [gMV g]))
    have a0 : runMe .append (.loc (o + 3)) [.int (s.worth t)] st = .ok .non st1 := by
      have := append_me (v := .int (s.worth t)) h.given (by rw [List.length_map]; omega)
      rw [this]
      show Res.ok MV.non (st.set (o + 3) (.lst (s.given.map gMV ++ [.int (s.worth t)]))) = Res.ok MV.non (st.set (o + 3) (.lst (s.given.map gMV ++ [.int (g : Int)])))
      rw [← hwt]
    have hg1 : st1[o + 3]? = some (.lst ((s.given ++ [g]).map gMV)) := by rw [List.map_append]; exact get_set (lt_of_get h.given)
    have i1 : st1[o]? = some (.ins "Runner" (runFs o)) := by
      show (st.set (o + 3) _)[o]? = _
      rw [get_set_ne (by omega)]; exact h.ins
    have n1 : st1[o + 4]? = some (.lst (s.noted.map Note.mv)) := by
      show (st.set (o + 3) _)[o + 4]? = _
      rw [get_set_ne (by omega)]; exact h.noted
    have t1 : st1[o + 2]? = some (.lst (ls.map MV.loc)) := by
      show (st.set (o + 3) _)[o + 2]? = _
      rw [get_set_ne (by omega)]; exact h.things
    have hfar := h.far l (List.mem_of_getElem? hi)
    have lv1 : st1[l]? = some (.lst [.int (s.things.getD g (0, 0)).1, .int (s.things.getD g (0, 0)).2]) := by
      show (st.set (o + 3) _)[l]? = _
      rw [get_set_ne (by omega)]; exact hlv
    have e1 : runOp .ix [.loc (o + 2), .int (s.worth t)] st1 = .ok (.loc l) st1 := ixi_lst t1 h0 (by rw [List.getElem?_map, hi]; rfl)
    have hidx : runMe .index (.loc (o + 3)) [.int (s.worth t)] st1 = .ok (.int ((s.given ++ [g]).idxOf g)) st1 := by
      simp only [runMe, lstOf_loc hg1]
      rw [if_pos (by rw [gMV_flat]; rfl), hwt, gMV_idx _ _ (by simp [g])]
    let nt : Note := .give ((s.given ++ [g]).idxOf g) (s.things.getD g (0, 0)).1 (s.things.getD g (0, 0)).2
    have a1 := append_me (v := nt.mv) n1 (by rw [List.length_map]; exact hl)
    have htl : callF G (d + 1) (.me "Runner" "tell") [.loc o, (Row.give t).mv] st = .ok .non (st1.set (o + 4) (.lst (s.noted.map Note.mv ++ [nt.mv]))) := by
      refine inF_nx (env := [some (.loc o), some (Row.give t).mv, some (.int (s.worth t)), some (.loc l)]) H.Runner_tell rfl ?_
      refine sM h.fW (by kernel_rfl) (sM (h.wx hd ht) (by kernel_rfl) (sM h.fG (by kernel_rfl) (sM hni (by kernel_rfl) (sM h.fG (by kernel_rfl) (sGl h.given (by kernel_rfl) (sM a0 (by kernel_rfl) ?_))))))
      refine sM (getF_ok (c := "Runner") (f := "things") (v := .loc (o + 2)) i1 (by kernel_rfl)) (by kernel_rfl) (sM e1 (by kernel_rfl) ?_)
      refine sM (getF_ok (c := "Runner") (f := "noted") (v := .loc (o + 4)) i1 (by kernel_rfl)) (by kernel_rfl) (sGl n1 (by kernel_rfl) ?_)
      refine sM (getF_ok (c := "Runner") (f := "given") (v := .loc (o + 3)) i1 (by kernel_rfl)) (by kernel_rfl) (sGl hg1 (by kernel_rfl) (sM hidx (by kernel_rfl) ?_))
      exact sM (fx (f := 0) lv1 (by omega)) (by kernel_rfl) (sM (fx (f := 1) lv1 (by omega)) (by kernel_rfl) (sM a1 (by kernel_rfl) (by kernel_rfl)))
    have hex : (Row.give t).exec pl s = { s with given := s.given ++ [g], noted := s.noted ++ [nt] } := by
      simp only [Row.exec, RS.give]
      rw [if_neg hg]
    rw [hex]
    refine ⟨ls, kvs, _, ?_, h.addG g nt hgl2, hd, fun _ hy => hy, by omega, (Fr.set (by omega)).trans (Fr.set (by omega))⟩
    exact inF_nx (env := [some (.loc o), some (Row.give t).mv, some (placeMV pl), none, none]) H.Runner_row rfl (sG (st := st) h.mT (by kernel_rfl) (sN htl (by kernel_rfl) (by kernel_rfl)))

theorem row_stir (H : HasR G) (h : RR o ls kvs s st) (hd : Dom ks kvs) (pl : List Nat) (d : Nat) :
    RowDone G o ks kvs 1 (Row.stir.exec pl s) st (callF G (d + 2) (.me "Runner" "row") [.loc o, Row.stir.mv, placeMV pl] st) := by
  let gl : List MV := s.given.map gMV
  let R : List (Int × Int) → Env → Store → Prop := fun ts env S => (∃ e2 e3, env = [some (.loc o), some Row.stir.mv, e2, e3]) ∧ RR o ls kvs { s with things := ts } (S.set (o + 3) (.lst gl)) ∧ S[o + 3]? = some (.flst gl) ∧ Fr o st S
  have key := for_fold (step := fun x env st => forStep (execS (callF G d) d_Runner_tell_fb1) (bindT st (.name 2) x env) st) (l := some (o + 3, .lst gl)) (enc := gMV)
    (fun ts g => ts.set g (((ts.getD g (0, 0)).1 + 1) % 1000, (ts.getD g (0, 0)).2)) R s.given s.things [some (.loc o), some Row.stir.mv, none, none] (st.set (o + 3) (.flst gl)) ?_ ?_
  · obtain ⟨env', S, hf, ⟨e2, e3, rfl⟩, hr, _, hfr⟩ := key
    have hex : Row.stir.exec pl s = { s with things := stirred s.given s.things } := rfl
    rw [hex]
    have hfor : execS (callF G d) d_Runner_tell_for1 [some (.loc o), some Row.stir.mv, none, none] st = _ := ex_for (vs := [.loc (o + 3)]) (st1 := st) (inE (sM h.fG (by kernel_rfl) (by kernel_rfl))) (items_lst h.given) hf
    have htl : callF G (d + 1) (.me "Runner" "tell") [.loc o, Row.stir.mv] st = .ok .non (S.set (o + 3) (.lst gl)) := inF_nx (env := [some (.loc o), some Row.stir.mv, e2, e3]) H.Runner_tell rfl (sO hfor (by kernel_rfl) (by kernel_rfl))
    refine ⟨ls, kvs, _, ?_, hr, hd, fun _ hy => hy, by omega, hfr.trans (Fr.set (by omega))⟩
    exact inF_nx (env := [some (.loc o), some Row.stir.mv, some (placeMV pl), none, none]) H.Runner_row rfl (sG (st := st) h.mT (by kernel_rfl) (sN htl (by kernel_rfl) (by kernel_rfl)))
  · intro g hg ts env S ⟨⟨e2, e3, henv⟩, hr, hfl, hfr⟩
    subst henv
    have back : ∀ i, i ≠ o + 3 → S[i]? = (S.set (o + 3) (.lst gl))[i]? := fun i hi => by rw [get_set_ne (Ne.symm hi)]
    have i1 : S[o]? = some (.ins "Runner" (runFs o)) := by rw [back _ (by omega)]; exact hr.ins
    have t1 : S[o + 2]? = some (.lst (ls.map MV.loc)) := by rw [back _ (by omega)]; exact hr.things
    have hgl : g < ls.length := by rw [hr.lens]; exact hr.givenLt g hg
    have hi : ls[g]? = some ls[g] := List.getElem?_eq_getElem hgl
    have hfar := hr.far ls[g] (List.mem_of_getElem? hi)
    have lv : S[ls[g]]? = some (.lst [.int (ts.getD g (0, 0)).1, .int (ts.getD g (0, 0)).2]) := by rw [back _ (by omega)]; exact hr.thing g ls[g] hi
    have fT := getF_ok (c := "Runner") (f := "things") (v := .loc (o + 2)) i1 (by kernel_rfl)
    have e1 : runOp .ix [.loc (o + 2), gMV g] S = .ok (.loc ls[g]) S := ix_lst t1 (by rw [List.getElem?_map, hi]; rfl)
    refine ⟨[some (.loc o), some Row.stir.mv, some (gMV g), e3], S.set ls[g] (.lst [.int (((ts.getD g (0, 0)).1 + 1) % 1000), .int (ts.getD g (0, 0)).2]), ?_, ⟨_, _, rfl⟩, ?_, ?_, ?_⟩
    · refine step_some (env1 := [some (.loc o), some Row.stir.mv, some (gMV g), e3]) rfl (inS ?_)
      have hset : stSt [some (.loc o), some Row.stir.mv, some (gMV g), e3] (setIx (.loc ls[g]) (.int 0) (.int (((ts.getD g (0, 0)).1 + 1) % 1000)) S) = .ok (.nx [some (.loc o), some Row.stir.mv, some (gMV g), e3]) (S.set ls[g] (.lst [.int (((ts.getD g (0, 0)).1 + 1) % 1000), .int (ts.getD g (0, 0)).2])) := by
        simp only [setIx, lv]; rfl
      exact sM fT (by kernel_rfl) (sM e1 (by kernel_rfl) (sM (fx (f := 0) lv (by omega)) (by kernel_rfl) (sM fT (by kernel_rfl) (sM e1 (by kernel_rfl) (sO hset (by kernel_rfl) (by kernel_rfl))))))
    · have := hr.setT hi (((ts.getD g (0, 0)).1 + 1) % 1000) (ts.getD g (0, 0)).2
      rw [List.set_comm _ _ (by omega)] at this
      exact this
    · rw [get_set_ne (by omega)]; exact hfl
    · exact hfr.trans (Fr.set (by omega))
  · refine ⟨⟨_, _, rfl⟩, ?_, get_set (lt_of_get h.given), Fr.set (by omega)⟩
    rw [List.set_set, set_same h.given]
    exact h
end Mi.Sh
set_option Elab.async false
set_option linter.all false
set_option maxRecDepth 100000
set_option maxHeartbeats 1000000
/-! PlRun4: the Runner's blocks; run. -/
namespace Mi.Sh
open PySem Mi
variable {G : Tab} {κ : Str → Bool}
theorem place_add (pl : List Nat) (n : Nat) (st : Store) (h : pl.length + 1 ≤ lim) : runOp .add [placeMV pl, .tup [.int n]] st = .ok (placeMV (pl ++ [n])) st := by
  show (if (pl.map fun (n : Nat) => MV.int n).length + [MV.int n].length ≤ lim then Res.ok (MV.tup (_ ++ [MV.int n])) st else .err) = _
  rw [if_pos (by rw [List.length_map]; exact h)]
  show _ = Res.ok (MV.tup ((pl ++ [n]).map fun (n : Nat) => MV.int n)) st
  rw [List.map_append]; rfl
/-- room for so many steps -/
structure Room (k : Nat) (kvs : List (Str × MV)) (s : RS) : Prop where
  a : kvs.length + k < lim
  b : s.things.length + k < lim
  c : s.noted.length + k < lim
theorem Room.le {k k' : Nat} {kvs : List (Str × MV)} {s : RS} (h : Room k kvs s) (hk : k' ≤ k) : Room k' kvs s := ⟨by have := h.a; omega, by have := h.b; omega, by have := h.c; omega⟩
theorem RowDone.le {o : Nat} {ks' : List Str} {kvs : List (Str × MV)} {k k' : Nat} {s' : RS} {st : Store} {r : Res MV} (h : RowDone G o ks' kvs k s' st r) (hk : k ≤ k') : RowDone G o ks' kvs k' s' st r := by
  obtain ⟨ls', kvs', st', h1, h2, h3, h4, h5, h6⟩ := h
  exact ⟨ls', kvs', st', h1, h2, h3, h4, by omega, h6⟩
theorem RowDone.sub {o : Nat} {ks' ks'' : List Str} {kvs : List (Str × MV)} {k : Nat} {s' : RS} {st : Store} {r : Res MV} (h : RowDone G o ks' kvs k s' st r) (hk : ∀ x ∈ ks'', x ∈ ks') : RowDone G o ks'' kvs k s' st r := by
  obtain ⟨ls', kvs', st', h1, h2, h3, h4, h5, h6⟩ := h
  exact ⟨ls', kvs', st', h1, h2, fun x hx => h3 x (hk x hx), h4, h5, h6⟩
/-- what is to be shown of a block -/
def BlockOk (G : Tab) (κ : Str → Bool) (b : Blk) : Prop := b.wk κ → ∀ dd, b.built dd → ∀ ks ks' pl, b.surely ks = some ks' → ∀ d o ls kvs s st, RR o ls kvs s st → Dom ks kvs → Safe κ ks s → Room b.steps kvs s → pl.length + 2 * b.deep + 2 ≤ lim → 4 + 2 * b.deep ≤ d →
  RowDone G o ks' kvs b.steps (b.exec pl 0 s) st (callF G d (.me "Runner" "block") [.loc o, b.mv, placeMV pl] st)
def RowOk (G : Tab) (κ : Str → Bool) (r : Row) : Prop := r.wk κ → ∀ dd, r.built dd → ∀ ks ks' pl, r.has ks → r.surely ks = some ks' → ∀ d o ls kvs s st, RR o ls kvs s st → Dom ks kvs → Safe κ ks s → Room r.steps kvs s → pl.length + 2 * r.deep + 1 ≤ lim → 3 + 2 * r.deep ≤ d →
  RowDone G o ks' kvs r.steps (r.exec pl s) st (callF G d (.me "Runner" "row") [.loc o, r.mv, placeMV pl] st)
theorem block_of_rows (H : HasR G) (b : Blk) (hr : ∀ r ∈ b.rows, RowOk G κ r) : BlockOk G κ b := by
  intro hw dd hb ks ks' pl hsu d o ls kvs s st rr hd hs room hpl hdd
  obtain ⟨d, rfl⟩ : ∃ e, d = e + 1 := ⟨d - 1, by omega⟩
  have key : ∀ c : Blk, (∀ r ∈ c.rows, r ∈ b.rows) → c.wk κ → c.built dd → c.deep ≤ b.deep → ∀ n ks ks' ls kvs s st, c.surely ks = some ks' → RR o ls kvs s st → Dom ks kvs → Safe κ ks s → Room c.steps kvs s → ∀ e3 e4 : Option MV,
      ∃ e3' e4' ls' kvs' st', forGo (fun x env st => forStep (execS (callF G d) d_Runner_block_fb1) (bindT st (.tup (.cons (.name 3) (.cons (.name 4) .nil))) x env) st) none ((c.mvs.zipIdx n).map fun p => .tup [.int p.2, p.1]) [some (.loc o), some b.mv, some (placeMV pl), e3, e4] st = .ok (.nx [some (.loc o), some b.mv, some (placeMV pl), e3', e4']) st' ∧
        RR o ls' kvs' (c.exec pl n s) st' ∧ Dom ks' kvs' ∧ (∀ x, (dget kvs x).isSome = true → (dget kvs' x).isSome = true) ∧ kvs'.length ≤ kvs.length + c.steps ∧ Fr o st st' := by
    intro c
    induction c using Blk.rec (motive_1 := fun _ => True) with
    | nil =>
      intro _ _ _ _ n ks ks' ls kvs s st hsu rr hd hs room e3 e4
      cases hsu
      exact ⟨e3, e4, ls, kvs, st, rfl, rr, hd, fun _ h => h, by omega, Fr.refl _ _⟩
    | cons r c _ ihc =>
      intro hsub hw hb hdc n ks ks' ls kvs s st hsu rr hd hs room e3 e4
      obtain ⟨hh, k1, h1, h2⟩ := surely_cons hsu
      have hdc : max r.deep c.deep ≤ b.deep := hdc
      have room' : Room (r.steps + c.steps) kvs s := room
      obtain ⟨ls1, kvs1, st1, c1, rr1, hd1, mono1, len1, fr1⟩ := hr r (hsub r (List.mem_cons_self ..)) hw.1 dd hb.1 ks k1 (pl ++ [n]) hh h1 d o ls kvs s st rr hd hs (room'.le (by omega)) (by rw [List.length_append, List.length_singleton]; omega) (by omega)
      have hs1 := (exec_safe κ).2 r hw.1 ks k1 (pl ++ [n]) s hh h1 hs
      have t1 := ((exec_things).2 r (pl ++ [n]) s).2
      have m1 := (most_steps).2 r
      have n1 := (exec_notes).2 r (pl ++ [n]) s
      obtain ⟨e3', e4', ls2, kvs2, st2, c2, rr2, hd2, mono2, len2, fr2⟩ := ihc (fun r' h => hsub r' (List.mem_cons_of_mem _ h)) hw.2 hb.2 (by omega) (n + 1) k1 ks' ls1 kvs1 _ st1 h2 rr1 hd1 hs1 ⟨by have := room'.a; omega, by have := room'.b; omega, by have := room'.c; omega⟩ (some (.int n)) (some r.mv)
      refine ⟨e3', e4', ls2, kvs2, st2, ?_, rr2, hd2, fun x hx => mono2 x (mono1 x hx), by show _ ≤ _ + (r.steps + c.steps); omega, fr1.trans fr2⟩
      rw [← c2]
      refine for_cons (step_some (env1 := [some (.loc o), some b.mv, some (placeMV pl), some (.int n), some r.mv]) rfl (inS ?_))
      exact sG (st := st) rr.mR (by kernel_rfl) (sM (place_add pl n st (by omega)) (by kernel_rfl) (sN c1 (by kernel_rfl) (by kernel_rfl)))
    | _ => trivial
  obtain ⟨e3, e4, ls', kvs', st', c, rr', hd', mono, len, fr⟩ := key b (fun _ h => h) hw hb (Nat.le_refl _) 0 ks ks' ls kvs s st hsu rr hd hs room none none
  refine ⟨ls', kvs', st', ?_, rr', hd', mono, len, fr⟩
  refine inF_nx (env := [some (.loc o), some b.mv, some (placeMV pl), e3, e4]) H.Runner_block rfl (sO (ex_for (st := st) (vs := [b.mv]) (st1 := st) (xs := enumL b.mvs) (l := none) (k := .enum) (it := .cons (.var 1) .nil) (env := [some (.loc o), some b.mv, some (placeMV pl), none, none]) (by kernel_rfl) rfl c) (by kernel_rfl) (by kernel_rfl))
theorem row_simple (H : HasR G) (r : Row) (hs : r.blks = []) : RowOk G κ r := by
  intro hw dd hb ks ks' pl hh hsu d o ls kvs s st rr hd hsf room hpl hdd
  obtain ⟨d, rfl⟩ : ∃ e, d = e + 3 := ⟨d - 3, by omega⟩
  have h1 : r.steps = 1 := by cases r <;> first | rfl | (cases hs; done)
  rw [h1] at room ⊢
  have ra := room.a
  have rb := room.b
  have rc := room.c
  cases hg : r.goal with
  | some x =>
    rw [(goal_exec hg pl s).2 ks] at hsu
    cases hsu
    exact row_goal H rr hd hsf r hg hw hh hb (by omega) pl (d + 1)
  | none =>
    cases r <;> first | (cases hs; done) | (cases hg; done) | skip
    case make t x y => cases hsu; exact row_make H rr hd t x y hh (by omega) (by omega) pl (d + 2)
    case put t f x => cases hsu; exact row_put H rr hd hsf t x f hw hh hb pl (d + 2)
    case say x => cases hsu; exact row_say H rr hd x hh (by omega) pl (d + 1)
    case give t => cases hsu; exact row_give H rr hd hsf t hw hh (by omega) pl (d + 1)
    case stir => cases hsu; exact row_stir H rr hd pl (d + 1)
theorem row_if (H : HasR G) (x : Str) (p q : Blk) (hp : BlockOk G κ p) (hq : BlockOk G κ q) : RowOk G κ (.ifr x p q) := by
  intro hw dd hb ks ks' pl hh hsu d o ls kvs s st rr hd hsf room hpl hdd
  have hdd : 3 + 2 * (1 + max p.deep q.deep) ≤ d := hdd
  have hpl : pl.length + 2 * (1 + max p.deep q.deep) + 1 ≤ lim := hpl
  have room : Room (1 + (p.steps + q.steps)) kvs s := room
  obtain ⟨d, rfl⟩ : ∃ e, d = e + 1 := ⟨d - 1, by omega⟩
  obtain ⟨_, ⟨_, _, hbp⟩, _, _, hbq⟩ := hb
  have hx := hh x (by simp [Row.reads])
  simp only [Row.surely] at hsu
  split at hsu
  · rename_i k1 k2 h1 h2
    cases hsu
    by_cases hz : s.worth x = 0
    · have hex : (Row.ifr x p q).exec pl s = q.exec (pl ++ [1]) 0 s := by simp only [Row.exec]; rw [if_pos hz]
      rw [hex]
      have hc := hq hw.2.2 (dd + 1) hbq ks k2 (pl ++ [1]) h2 d o ls kvs s st rr hd hsf (room.le (by omega)) (by rw [List.length_append, List.length_singleton]; omega) (by omega)
      have hsub : ∀ y ∈ both k1 k2 ks, y ∈ k2 := by
        intro y hy
        rcases mem_both.mp hy with hy | hy
        · exact surely_sub h2 y hy
        · exact hy.2
      obtain ⟨ls', kvs', st', c1, rr', hd', mono, len, fr⟩ := hc.sub hsub
      refine ⟨ls', kvs', st', ?_, rr', hd', mono, by show _ ≤ _ + (1 + (p.steps + q.steps)); omega, fr⟩
      refine inF_nx (env := [some (.loc o), some (Row.ifr x p q).mv, some (placeMV pl), some (.int 1), none]) H.Runner_row rfl ?_
      refine sM rr.fW (by kernel_rfl) (sM (rr.wx hd hx) (by kernel_rfl) (sM (eqi_t (st := st) hz) (by kernel_rfl) (sG (st := st) rr.mB (by kernel_rfl) (sF 1 (sM (place_add pl 1 st (by omega)) (by kernel_rfl) (sN c1 (by kernel_rfl) (by kernel_rfl)))))))
    · have hex : (Row.ifr x p q).exec pl s = p.exec (pl ++ [0]) 0 s := by simp only [Row.exec]; rw [if_neg hz]
      rw [hex]
      have hc := hp hw.2.1 (dd + 1) hbp ks k1 (pl ++ [0]) h1 d o ls kvs s st rr hd hsf (room.le (by omega)) (by rw [List.length_append, List.length_singleton]; omega) (by omega)
      have hsub : ∀ y ∈ both k1 k2 ks, y ∈ k1 := by
        intro y hy
        rcases mem_both.mp hy with hy | hy
        · exact surely_sub h1 y hy
        · exact hy.1
      obtain ⟨ls', kvs', st', c1, rr', hd', mono, len, fr⟩ := hc.sub hsub
      refine ⟨ls', kvs', st', ?_, rr', hd', mono, by show _ ≤ _ + (1 + (p.steps + q.steps)); omega, fr⟩
      refine inF_nx (env := [some (.loc o), some (Row.ifr x p q).mv, some (placeMV pl), some (.int 0), none]) H.Runner_row rfl ?_
      refine sM rr.fW (by kernel_rfl) (sM (rr.wx hd hx) (by kernel_rfl) (sM (eqi_f (st := st) hz) (by kernel_rfl) (sG (st := st) rr.mB (by kernel_rfl) (sF 1 (sM (place_add pl 0 st (by omega)) (by kernel_rfl) (sN c1 (by kernel_rfl) (by kernel_rfl)))))))
  · cases hsu
theorem row_loop (H : HasR G) (x : Str) (p : Blk) (hp : BlockOk G κ p) : RowOk G κ (.loop x p) := by
  intro hw dd hb ks ks' pl hh hsu d o ls kvs s st rr hd hsf room hpl hdd
  have hdd : 3 + 2 * (1 + p.deep) ≤ d := hdd
  have hpl : pl.length + 2 * (1 + p.deep) + 1 ≤ lim := hpl
  have room : Room (1 + 9 * p.steps) kvs s := room
  obtain ⟨d, rfl⟩ : ∃ e, d = e + 1 := ⟨d - 1, by omega⟩
  obtain ⟨_, _, _, hbp⟩ := hb
  have hx := hh x (by simp [Row.reads])
  simp only [Row.surely] at hsu
  obtain ⟨k1, h1, rfl⟩ := Option.map_eq_some_iff.mp hsu
  let env (k : Nat) : Env := [some (.loc o), some (Row.loop x p).mv, some (placeMV pl), none, some (.int k)]
  have key : ∀ n k fuel, k + n = 9 → n + 1 ≤ fuel → ∀ ls kvs s st, RR o ls kvs s st → Dom ks kvs → Safe κ ks s → Room (n * p.steps) kvs s →
      ∃ k' ls' kvs' st', whileGo (evalE (callF G d) d_Runner_row_wc1) (execS (callF G d) d_Runner_row_wb1) fuel (env k) st = .ok (.nx (env k')) st' ∧
        RR o ls' kvs' (loopN (fun s => decide (s.worth x ≠ 0)) (p.exec (pl ++ [0]) 0) n s) st' ∧ Dom ks kvs' ∧ (∀ x, (dget kvs x).isSome = true → (dget kvs' x).isSome = true) ∧ kvs'.length ≤ kvs.length + n * p.steps ∧ Fr o st st' := by
    intro n
    induction n with
    | zero =>
      intro k fuel hk hf ls kvs s st rr hd hsf room
      obtain ⟨f, rfl⟩ : ∃ e, fuel = e + 1 := ⟨fuel - 1, by omega⟩
      refine ⟨k, ls, kvs, st, ?_, rr, hd, fun _ h => h, by omega, Fr.refl _ _⟩
      have hc : evalE (callF G d) d_Runner_row_wc1 (env k) st = .ok (.bl false) st := inE (sM (lt_f (a := k) (b := 9) (st := st) (by omega)) (by kernel_rfl) (by kernel_rfl))
      simp only [whileGo, hc, onB_false]
    | succ n ih =>
      intro k fuel hk hf ls kvs s st rr hd hsf room
      obtain ⟨f, rfl⟩ : ∃ e, fuel = e + 1 := ⟨fuel - 1, by omega⟩
      by_cases hz : s.worth x = 0
      · refine ⟨k, ls, kvs, st, ?_, ?_, hd, fun _ h => h, by omega, Fr.refl _ _⟩
        · have hc : evalE (callF G d) d_Runner_row_wc1 (env k) st = .ok (.bl false) st := inE (sM (lt_t (a := k) (b := 9) (st := st) (by omega)) (by kernel_rfl) (sM rr.fW (by kernel_rfl) (sM (rr.wx hd hx) (by kernel_rfl) (sM (nei_f (st := st) hz) (by kernel_rfl) (by kernel_rfl)))))
          simp only [whileGo, hc, onB_false]
        · simp only [loopN, hz, ne_eq, not_true_eq_false, decide_false]; exact rr
      · have hc : evalE (callF G d) d_Runner_row_wc1 (env k) st = .ok (.bl true) st := inE (sM (lt_t (a := k) (b := 9) (st := st) (by omega)) (by kernel_rfl) (sM rr.fW (by kernel_rfl) (sM (rr.wx hd hx) (by kernel_rfl) (sM (nei_t (st := st) hz) (by kernel_rfl) (by kernel_rfl)))))
        have hm : (n + 1) * p.steps = n * p.steps + p.steps := Nat.succ_mul _ _
        rw [hm] at room
        obtain ⟨ls1, kvs1, st1, c1, rr1, hd1, mono1, len1, fr1⟩ := hp hw.2 (dd + 1) hbp ks k1 (pl ++ [0]) h1 d o ls kvs s st rr hd hsf (room.le (by omega)) (by rw [List.length_append, List.length_singleton]; omega) (by omega)
        have hs1 := (exec_safe κ).1 p hw.2 ks k1 (pl ++ [0]) 0 s h1 hsf
        have t1 := ((exec_things).1 p (pl ++ [0]) 0 s).2
        have m1 := (most_steps).1 p
        have n1 := (exec_notes).1 p (pl ++ [0]) 0 s
        obtain ⟨k', ls2, kvs2, st2, c2, rr2, hd2, mono2, len2, fr2⟩ := ih (k + 1) f (by omega) (by omega) ls1 kvs1 _ st1 rr1 (fun y hy => hd1 y (surely_sub h1 y hy)) (fun y hy => hs1 y (surely_sub h1 y hy)) ⟨by have := room.a; omega, by have := room.b; omega, by have := room.c; omega⟩
        refine ⟨k', ls2, kvs2, st2, ?_, ?_, hd2, fun y hy => mono2 y (mono1 y hy), by omega, fr1.trans fr2⟩
        · have hb : execS (callF G d) d_Runner_row_wb1 (env k) st = .ok (.nx (env (k + 1))) st1 := inS (sG (st := st) rr.mB (by kernel_rfl) (sM (place_add pl 0 st (by omega)) (by kernel_rfl) (sN c1 (by kernel_rfl) (by kernel_rfl))))
          simp only [whileGo, hc, onB_true, hb, whileK, c2]
        · simp only [loopN, hz, ne_eq, not_false_eq_true, decide_true, if_true]; exact rr2
  obtain ⟨k', ls', kvs', st', c, rr', hd', mono, len, fr⟩ := key 9 0 turns (by omega) (by decide) ls kvs s st rr hd hsf (room.le (by omega))
  refine ⟨ls', kvs', st', ?_, rr', hd', mono, by show _ ≤ _ + (1 + 9 * p.steps); omega, fr⟩
  have hwh : execS (callF G d) d_Runner_row_wh1 (env 0) st = .ok (.nx (env k')) st' := c
  exact inF_nx (env := env k') H.Runner_row rfl (sO hwh (by kernel_rfl) (by kernel_rfl))
theorem block_spec (H : HasR G) (κ : Str → Bool) : ∀ b, BlockOk G κ b := by
  intro b
  induction b using blk_ind with
  | h b ih =>
    refine block_of_rows H b fun r hr => ?_
    have ih := ih r hr
    rcases row_cases r with h | ⟨x, p, q, rfl⟩ | ⟨x, p, rfl⟩
    · exact row_simple H r h
    · exact row_if H x p q (ih p (by simp [Row.blks])) (ih q (by simp [Row.blks]))
    · exact row_loop H x p (ih p (by simp [Row.blks]))
end Mi.Sh
set_option Elab.async false
set_option linter.all false
set_option maxRecDepth 100000
set_option maxHeartbeats 1000000
/-! PlRun5: run. -/
namespace Mi.Sh
open PySem Mi
variable {G : Tab} {κ : Str → Bool}
/-! ### kinds -/
theorem kAdd_ok : ∀ (l kn : List (Str × Bool)), (kAdd l kn).1 = true → (∀ p ∈ l, dget (kAdd l kn).2 p.1 = some p.2) ∧ ∀ y k, dget kn y = some k → dget (kAdd l kn).2 y = some k
  | [], kn, _ => ⟨fun p hp => (by cases hp), fun y k h => h⟩
  | (x, k) :: l, kn, h => by
    cases hx : dget kn x with
    | none =>
      have e : kAdd ((x, k) :: l) kn = kAdd l (kn ++ [(x, k)]) := by simp only [kAdd, hx]
      rw [e] at h ⊢
      obtain ⟨h1, h2⟩ := kAdd_ok l (kn ++ [(x, k)]) h
      have hn : dget (kn ++ [(x, k)]) x = some k := by
        rw [← dput_new hx, dget_dput, if_pos rfl]
      refine ⟨fun p hp => ?_, fun y k' hy => ?_⟩
      · rcases List.mem_cons.mp hp with rfl | hp
        · exact h2 _ _ hn
        · exact h1 p hp
      · apply h2
        rw [← dput_new hx, dget_dput]
        split
        · rename_i e; subst e; rw [hx] at hy; cases hy
        · exact hy
    | some k' =>
      by_cases e : k' = k
      · have e1 : kAdd ((x, k) :: l) kn = kAdd l kn := by simp only [kAdd, hx]; rw [if_pos e]
        rw [e1] at h ⊢
        subst e
        obtain ⟨h1, h2⟩ := kAdd_ok l kn h
        refine ⟨fun p hp => ?_, h2⟩
        rcases List.mem_cons.mp hp with rfl | hp
        · exact h2 _ _ hx
        · exact h1 p hp
      · have e1 : kAdd ((x, k) :: l) kn = (false, kn) := by simp only [kAdd, hx]; rw [if_neg e]
        rw [e1] at h
        cases h
theorem kindsIn_ok : (∀ (b : Blk) kn, (b.kindsIn kn).1 = true → (∀ y k, dget kn y = some k → dget (b.kindsIn kn).2 y = some k) ∧ ∀ κ : Str → Bool, (∀ y k, dget (b.kindsIn kn).2 y = some k → κ y = k) → b.wk κ) ∧
    ∀ (r : Row) kn, (r.kindsIn kn).1 = true → (∀ y k, dget kn y = some k → dget (r.kindsIn kn).2 y = some k) ∧ ∀ κ : Str → Bool, (∀ y k, dget (r.kindsIn kn).2 y = some k → κ y = k) → (∀ p ∈ r.kinds, κ p.1 = p.2) → r.wk κ := by
  apply blk_ind2
  · intro kn _; exact ⟨fun _ _ h => h, fun _ _ => trivial⟩
  · intro r b hr hb kn h
    simp only [Blk.kindsIn] at h
    split at h
    · rename_i h1
      split at h
      · rename_i h2
        have e : (Blk.cons r b).kindsIn kn = b.kindsIn (r.kindsIn (kAdd r.kinds kn).2).2 := by simp only [Blk.kindsIn, h1, h2, if_true]
        rw [e]
        obtain ⟨a1, a2⟩ := kAdd_ok r.kinds kn h1
        obtain ⟨b1, b2⟩ := hr _ h2
        obtain ⟨c1, c2⟩ := hb _ h
        refine ⟨fun y k hy => c1 _ _ (b1 _ _ (a2 _ _ hy)), fun κ hκ => ⟨b2 κ (fun y k hy => hκ y k (c1 _ _ hy)) fun p hp => hκ _ _ (c1 _ _ (b1 _ _ (a1 p hp))), c2 κ hκ⟩⟩
      · cases h
    · cases h
  · intro r hs kn _
    rw [kindsIn_simple hs]
    refine ⟨fun _ _ h => h, fun κ _ hk => ?_⟩
    cases r <;> first | (cases hs; done) | exact hk
  · intro x p q hp hq kn h
    simp only [Row.kindsIn, Bool.and_eq_true] at h
    obtain ⟨a1, a2⟩ := hp kn h.1
    obtain ⟨b1, b2⟩ := hq _ h.2
    exact ⟨fun y k hy => b1 _ _ (a1 _ _ hy), fun κ hκ hk => ⟨hk (x, false) (by simp [Row.kinds]), a2 κ fun y k hy => hκ _ _ (b1 _ _ hy), b2 κ hκ⟩⟩
  · intro x p hp kn h
    obtain ⟨a1, a2⟩ := hp kn h
    exact ⟨a1, fun κ hκ hk => ⟨hk (x, false) (by simp [Row.kinds]), a2 κ hκ⟩⟩
theorem Ok_kinds {p : Prg} (h : p.Ok) : ∃ κ : Str → Bool, p.body.wk κ ∧ ∀ x ∈ p.params, κ x = false := by
  have hf := h.fit
  unfold Prg.fit at hf
  rw [Bool.and_eq_true] at hf
  obtain ⟨h1, h2⟩ := (kindsIn_ok).1 p.body _ hf.1
  let kn := (p.body.kindsIn (p.params.map fun x => (x, false))).2
  refine ⟨fun x => (dget kn x).getD false, h2 _ fun y k hy => ?_, fun x hx => ?_⟩
  · show (dget kn y).getD false = k
    rw [hy]; rfl
  · have : dget (p.params.map fun x => (x, false)) x = some false := by
      have key : ∀ l : List Str, x ∈ l → dget (l.map fun x => (x, false)) x = some false := by
        intro l
        induction l with
        | nil => intro h; cases h
        | cons a l ih =>
          intro h
          unfold dget at *
          rw [List.map_cons, List.find?_cons]
          by_cases e : a = x
          · simp [e]
          · simp only [e, decide_false]
            rcases List.mem_cons.mp h with h | h
            · exact absurd h.symm e
            · exact ih h
      exact key _ hx
    show (dget kn x).getD false = false
    rw [h1 _ _ this]; rfl
theorem Ok_surely {p : Prg} (h : p.Ok) : ∃ ks, p.body.surely p.params = some ks := by
  have hf := h.fit
  unfold Prg.fit at hf
  rw [Bool.and_eq_true] at hf
  exact Option.isSome_iff_exists.mp hf.2
/-! ### the start -/
def _root_.Mi.Prg.start (p : Prg) (is : List Int) : RS := ⟨fun x => (dget (p.params.zip is) x).getD 0, [], [], [], []⟩
def _root_.Mi.Prg.fin (p : Prg) (is : List Int) : RS := p.body.exec [] 0 (p.start is)
def pairMV (q : Int × Int) : MV := .tup [.int q.1, .int q.2]
def _root_.Mi.RS.outs (s : RS) : List (Int × Int) := s.given.map fun g => s.things.getD g (0, 0)
theorem fput_len {α : Type} (f : Str) (v : α) : ∀ fs : List (Str × α), (fput f v fs).length ≤ fs.length + 1
  | [] => Nat.le_refl _
  | (g, x) :: r => by
    unfold fput
    split
    · simp
    · have := fput_len f v r
      simp only [List.length_cons]; omega
theorem setF_at {c : Str} {fs : List (Str × MV)} {f : Str} {v : MV} {st j : Store} {env : Env} (hl : fs.length < 1000) : stSt env (setFl c (.loc st.length) f v (st ++ .ins c fs :: j)) = .ok (.nx env) (st ++ .ins c (fput f v fs) :: j) := by
  have : setFl c (.loc st.length) f v (st ++ .ins c fs :: j) = some (st ++ .ins c (fput f v fs) :: j) := by
    unfold setFl
    simp only
    rw [get_new]
    show (if c = c ∧ fs.length < 1000 then some ((st ++ .ins c fs :: j).set st.length (.ins c (fput f v fs))) else none) = _
    rw [if_pos (by exact ⟨rfl, hl⟩), set_new]
  rw [this]; rfl
theorem init_spec (H : HasR G) (p : Prg) (hp : p.Ok) (is : List Int) (hi : Ins p is) (d : Nat) (st : Store) :
    callF G (d + 1) (.me "Runner" "__init__") [.loc st.length, p.mv, insMV is] (st ++ [.ins "Runner" []]) = .ok .non (st ++ [.ins "Runner" (runFs st.length), .dic (p.params.zip (is.map MV.int)), .lst [], .lst [], .lst [], .lst []]) := by
  let kvs := p.params.zip (is.map MV.int)
  have hz : runOp .dictzip [.tup (p.params.map MV.str), insMV is] (st ++ [.ins "Runner" []]) = .ok (.loc (st ++ [MO.ins "Runner" []]).length) (st ++ .ins "Runner" [] :: [.dic kvs]) := by
    show (match strsOf (p.params.map MV.str) with | some ks => new (MO.dic (dmerge [] (ks.zip (is.map MV.int)))) (st ++ [MO.ins "Runner" []]) | none => Res.err) = _
    rw [strsOf_map]
    show Res.ok (MV.loc (st ++ [MO.ins "Runner" []]).length) ((st ++ [MO.ins "Runner" []]) ++ [MO.dic (dmerge [] (p.params.zip (is.map MV.int)))]) = _
    rw [dmerge_nodup _ _ (by
      rw [List.map_fst_zip (by rw [List.length_map, hi.len]; exact Nat.le_refl _)]
      exact hp.built.nodup) (by intro kv h; cases h)]
    simp [kvs]
  let env : Env := [some (.loc st.length), some p.mv, some (insMV is)]
  let l1 := (st ++ [MO.ins "Runner" []]).length
  let f1 : List (Str × MV) := fput "worth" (.loc l1) []
  let j1 : Store := [.dic kvs]
  have k1 := fput_len "worth" (MV.loc l1) []
  have s1 := setF_at (c := "Runner") (fs := []) (f := "worth") (v := .loc l1) (st := st) (j := j1) (env := env) (by decide)
  let S1 : Store := st ++ .ins "Runner" f1 :: j1
  let f2 : List (Str × MV) := fput "things" (.loc S1.length) f1
  have k2 := fput_len "things" (MV.loc S1.length) f1
  have s2 := setF_at (c := "Runner") (fs := f1) (f := "things") (v := .loc S1.length) (st := st) (j := j1 ++ [.lst []]) (env := env) (Nat.lt_of_le_of_lt k1 (by decide))
  let S2 : Store := st ++ .ins "Runner" f2 :: (j1 ++ [.lst []])
  let f3 : List (Str × MV) := fput "given" (.loc S2.length) f2
  have k3 := fput_len "given" (MV.loc S2.length) f2
  have s3 := setF_at (c := "Runner") (fs := f2) (f := "given") (v := .loc S2.length) (st := st) (j := j1 ++ [.lst []] ++ [.lst []]) (env := env) (Nat.lt_of_le_of_lt k2 (by show 2 < 1000; decide))
  let S3 : Store := st ++ .ins "Runner" f3 :: (j1 ++ [.lst []] ++ [.lst []])
  let f4 : List (Str × MV) := fput "noted" (.loc S3.length) f3
  have k4 := fput_len "noted" (MV.loc S3.length) f3
  have s4 := setF_at (c := "Runner") (fs := f3) (f := "noted") (v := .loc S3.length) (st := st) (j := j1 ++ [.lst []] ++ [.lst []] ++ [.lst []]) (env := env) (Nat.lt_of_le_of_lt k3 (Nat.lt_of_le_of_lt (Nat.succ_le_succ k2) (by show 3 < 1000; decide)))
  let S4 : Store := st ++ .ins "Runner" f4 :: (j1 ++ [.lst []] ++ [.lst []] ++ [.lst []])
  have s5 := setF_at (c := "Runner") (fs := f4) (f := "sites") (v := .loc S4.length) (st := st) (j := j1 ++ [.lst []] ++ [.lst []] ++ [.lst []] ++ [.lst []]) (env := env) (Nat.lt_of_le_of_lt k4 (Nat.lt_of_le_of_lt (Nat.succ_le_succ (Nat.le_trans k3 (Nat.succ_le_succ k2))) (by show 4 < 1000; decide)))
  have a1 : ∀ (f : List (Str × MV)) (j : Store) (x : MO), (st ++ MO.ins "Runner" f :: j) ++ [x] = st ++ MO.ins "Runner" f :: (j ++ [x]) := fun f j x => by simp
  have e : fput "sites" (MV.loc S4.length) f4 = runFs st.length := by
    have e1 : l1 = st.length + 1 := by simp [l1]
    have e2 : S1.length = st.length + 2 := by simp [S1, j1]
    have e3 : S2.length = st.length + 3 := by simp [S2, j1]
    have e4 : S3.length = st.length + 4 := by simp [S3, j1]
    have e5 : S4.length = st.length + 5 := by simp [S4, j1]
    have : fput "sites" (MV.loc S4.length) f4 = fput "sites" (MV.loc (st.length + 5)) (fput "noted" (MV.loc (st.length + 4)) (fput "given" (MV.loc (st.length + 3)) (fput "things" (MV.loc (st.length + 2)) (fput "worth" (MV.loc (st.length + 1)) [])))) := by
      rw [e5]
      show fput _ _ (fput _ (MV.loc S3.length) (fput _ (MV.loc S2.length) (fput _ (MV.loc S1.length) (fput _ (MV.loc l1) [])))) = _
      rw [e1, e2, e3, e4]
    rw [this]
    kernel_rfl
  rw [e] at s5
  refine inF_nx (env := env) H.Runner___init__ rfl (sM hz (by kernel_rfl) (sO s1 (by kernel_rfl) ?_))
  rw [← a1 f1 j1] at s2
  rw [← a1 f2 (j1 ++ [MO.lst []])] at s3
  rw [← a1 f3 (j1 ++ [MO.lst []] ++ [MO.lst []])] at s4
  rw [← a1 f4 (j1 ++ [MO.lst []] ++ [MO.lst []] ++ [MO.lst []])] at s5
  exact sO s2 (by kernel_rfl) (sO s3 (by kernel_rfl) (sO s4 (by kernel_rfl) (sO s5 (by kernel_rfl) (by kernel_rfl))))
theorem zip_get (ps : List Str) : ∀ (is : List Int) (x : Str) (v : MV), dget (ps.zip (is.map MV.int)) x = some v → v = .int ((dget (ps.zip is) x).getD 0) := by
  induction ps with
  | nil => intro is x v h; simp [dget] at h
  | cons a ps ih =>
    intro is x v h
    cases is with
    | nil => simp [dget] at h
    | cons i is =>
      have ih := ih is x v
      unfold dget at *
      rw [List.map_cons, List.zip_cons_cons, List.find?_cons] at h
      rw [List.zip_cons_cons, List.find?_cons]
      by_cases e : a = x
      · simp only [e, decide_true] at h ⊢
        cases h; rfl
      · simp only [e, decide_false] at h ⊢
        exact ih h
theorem zip_some (ps : List Str) : ∀ (is : List Int), is.length = ps.length → ∀ x ∈ ps, (dget (ps.zip (is.map MV.int)) x).isSome = true := by
  induction ps with
  | nil => intro is _ x h; cases h
  | cons a ps ih =>
    intro is hl x h
    cases is with
    | nil => cases hl
    | cons i is =>
      have ih := ih is (Nat.succ.inj hl) x
      unfold dget at *
      rw [List.map_cons, List.zip_cons_cons, List.find?_cons]
      by_cases e : a = x
      · simp [e]
      · simp only [e, decide_false]
        rcases List.mem_cons.mp h with h | h
        · exact absurd h.symm e
        · exact ih h
theorem start_RR (p : Prg) (hp : p.Ok) (is : List Int) (hi : Ins p is) (st : Store) :
    RR st.length [] (p.params.zip (is.map MV.int)) (p.start is) (st ++ [.ins "Runner" (runFs st.length), .dic (p.params.zip (is.map MV.int)), .lst [], .lst [], .lst [], .lst []]) := by
  have g : ∀ k : Nat, (st ++ [MO.ins "Runner" (runFs st.length), .dic (p.params.zip (is.map MV.int)), .lst [], .lst [], .lst [], .lst []])[st.length + k]? = [MO.ins "Runner" (runFs st.length), .dic (p.params.zip (is.map MV.int)), .lst [], .lst [], .lst [], .lst []][k]? := by
    intro k
    rw [List.getElem?_append_right (by omega)]
    congr 1
    omega
  refine ⟨g 0, g 1, g 2, g 3, g 4, g 5, rfl, ?_, ?_, by simp, ?_, ?_, Nat.le_refl _, rfl⟩
  · intro i l h; cases h
  · intro l h; cases h
  · exact fun x v h => zip_get _ _ _ _ h
  · intro g h; cases h
/-- run, typed -/
theorem run_spec (H : HasR G) (p : Prg) (hp : p.Ok) (is : List Int) (hi : Ins p is) (hst : p.body.steps + 10 < lim) (d : Nat) (st : Store) :
    ∃ o st', callF G (d + 23) (.fn "run") [p.mv, insMV is] st = .ok (.tup [.loc (o + 4), .lst ((p.fin is).outs.map pairMV), .int (p.fin is).things.length]) st' ∧ st'[o + 4]? = some (.lst ((p.fin is).noted.map Note.mv)) ∧ st.length ≤ o ∧ Fr st.length st st' ∧ (p.fin is).given.length ≤ (p.fin is).noted.length ∧ (p.fin is).noted.length ≤ p.body.steps := by
  obtain ⟨j, hn⟩ := need_inputs_ok H p hp is hi d st
  obtain ⟨κ, hw, hκ⟩ := Ok_kinds hp
  obtain ⟨ks, hks⟩ := Ok_surely hp
  have hdeep := built_deep p.body 0 hp.built.body (by omega)
  let S := st ++ j
  let o := S.length
  have hin := init_spec H p hp is hi (d + 20) S
  have hrr := start_RR p hp is hi S
  have few := hp.built.few
  have hzl : (p.params.zip (is.map MV.int)).length ≤ 3 := by rw [List.length_zip]; omega
  have hlim : lim = 16777216 := rfl
  obtain ⟨ls, kvs, st', hb, rr, _, _, _, fr⟩ := block_spec H κ p.body hw 0 hp.built.body p.params ks [] hks (d + 21) o [] _ (p.start is) _ hrr (zip_some _ _ hi.len) (by
      intro x hx hk
      rw [hκ x hx] at hk; cases hk) ⟨by omega, by show 0 + _ < _; omega, by show 0 + _ < _; omega⟩ (by rw [List.length_nil]; omega) (by omega)
  have hfr : Fr st.length st st' := by
    refine (Fr.app (j := j) (Nat.le_refl _)).trans ⟨?_, fun i hi => ?_⟩
    · have := fr.1
      rw [List.length_append] at this
      show S.length ≤ _
      omega
    · have : i < S.length := by show i < (st ++ j).length; rw [List.length_append]; omega
      rw [fr.2 i this, get_app this]
  have hro : callF G (d + 22) (.fn "runner_of") [p.mv, insMV is] S = .ok (.loc o) st' := by
    refine inF_rt H.runner_of rfl (sI (n := o) hin (by kernel_rfl) (sG (st := S ++ [.ins "Runner" (runFs S.length), .dic (p.params.zip (is.map MV.int)), .lst [], .lst [], .lst [], .lst []]) hrr.mB (by kernel_rfl) (sN hb (by kernel_rfl) (by kernel_rfl))))
  have hlc : evalE (callF G (d + 22)) d_run_lc1 [some p.mv, some (insMV is), some (.loc o), none, none] st' = .ok (.lst ((p.fin is).outs.map pairMV)) st' := by
    let s' := p.fin is
    have hlen : s'.given.length ≤ lim := by
      have h1 := rr.givenLen
      have h2 := (exec_notes).1 p.body [] 0 (p.start is)
      have e : (p.start is).noted.length = 0 := rfl
      show (p.body.exec [] 0 (p.start is)).given.length ≤ lim
      omega
    have hf := ev_lcF (F := callF G (d + 22)) (env := [some p.mv, some (insMV is), some (.loc o), none, none]) (st := st') (st1 := st') (own := [4]) (tg := .name 4) (k := .seq) (it := .cons (.fld "Runner" (.var 2) "given") .nil) (cond := .lit (.bl true)) (elt := d_run_e1) (vs := [.loc (o + 3)]) (lk := some (o + 3, .lst (s'.given.map gMV)))
      s'.given gMV (fun _ => true) (fun g => pairMV (s'.things.getD g (0, 0))) (inE (sM rr.fG (by kernel_rfl) (by kernel_rfl))) (items_lst rr.given) hlen (unlock_lock rr.given) ?_
    · have e : (s'.given.filter fun _ => true).map (fun g => pairMV (s'.things.getD g (0, 0))) = s'.outs.map pairMV := by
        rw [List.filter_eq_self.mpr (fun _ _ => rfl)]
        unfold RS.outs
        rw [List.map_map]; rfl
      rw [e] at hf
      exact hf
    · intro g hg
      have hgl : g < ls.length := by rw [rr.lens]; exact rr.givenLt g hg
      have hi' : ls[g]? = some ls[g] := List.getElem?_eq_getElem hgl
      have hfar := rr.far ls[g] (List.mem_of_getElem? hi')
      let L : Store := st'.set (o + 3) (.flst (s'.given.map gMV))
      have i1 : L[o]? = some (.ins "Runner" (runFs o)) := by show (st'.set _ _)[o]? = _; rw [get_set_ne (by omega)]; exact rr.ins
      have t1 : L[o + 2]? = some (.lst (ls.map MV.loc)) := by show (st'.set _ _)[o + 2]? = _; rw [get_set_ne (by omega)]; exact rr.things
      have lv : L[ls[g]]? = some (.lst [.int (s'.things.getD g (0, 0)).1, .int (s'.things.getD g (0, 0)).2]) := by show (st'.set _ _)[ls[g]]? = _; rw [get_set_ne (by omega)]; exact rr.thing g ls[g] hi'
      have e1 : runOp .ix [.loc (o + 2), gMV g] L = .ok (.loc ls[g]) L := ix_lst t1 (by rw [List.getElem?_map, hi']; rfl)
      refine ⟨[some p.mv, some (insMV is), some (.loc o), none, some (gMV g)], rfl, rfl, fun _ => inE ?_⟩
      exact sM (getF_ok (c := "Runner") (f := "things") (v := .loc (o + 2)) i1 (by kernel_rfl)) (by kernel_rfl) (sM e1 (by kernel_rfl) (sM (tuple1_loc lv) (by kernel_rfl) (by kernel_rfl)))
  refine ⟨o, st', ?_, rr.noted, by show _ ≤ (st ++ j).length; rw [List.length_append]; omega, hfr, rr.givenLen, ?_⟩
  · refine inF_rt H.run rfl (sM hn (by kernel_rfl) (sM hro (by kernel_rfl) (sM hlc (by kernel_rfl) (sM rr.fN (by kernel_rfl) (sM rr.fT (by kernel_rfl) (sM (len_loc rr.things) (by kernel_rfl) ?_))))))
    have : ((ls.map MV.loc).length : Nat) = (p.fin is).things.length := by rw [List.length_map]; exact rr.lens
    rw [← this]
    kernel_rfl
  · have := (exec_notes).1 p.body [] 0 (p.start is)
    have e : (p.start is).noted.length = 0 := rfl
    show (p.body.exec [] 0 (p.start is)).noted.length ≤ _
    omega
end Mi.Sh
set_option Elab.async false
set_option linter.all false
set_option maxRecDepth 100000
set_option maxHeartbeats 1000000
/-! PlGen1: draws. -/
namespace Mi.Sh
open PySem Mi
variable {G : Tab}
def scr (ns : List Int) : MV := .slst (ns.map MV.int)
def zs (n : Nat) : List MV := List.replicate n (.int 0)
/-- the store with the town's list -/
def tw (st : Store) (t n : Nat) : Store := st.set t (.lst (zs n))
theorem tw_at {st : Store} {t n : Nat} (h : t < st.length) : (tw st t n)[t]? = some (.lst (zs n)) := get_set h
theorem tw_ne {st : Store} {t n i : Nat} (h : i ≠ t) : (tw st t n)[i]? = st[i]? := get_set_ne (Ne.symm h)
theorem tw_len (st : Store) (t n : Nat) : (tw st t n).length = st.length := List.length_set
theorem tw_app {st j : Store} {t n : Nat} (h : t < st.length) : tw st t n ++ j = tw (st ++ j) t n := (set_app h).symm
theorem tw_set {st : Store} {t n i : Nat} {o : MO} (h : i ≠ t) : (tw st t n).set i o = tw (st.set i o) t n := List.set_comm _ _ (Ne.symm h)
theorem tw_tw {st : Store} {t n m : Nat} : (tw st t n).set t (.lst (zs m)) = tw st t m := List.set_set ..
theorem zs_succ (n : Nat) : zs n ++ [.int 0] = zs (n + 1) := (List.replicate_succ' ..).symm
def cellAt (ns : List Int) (k : Nat) : Int := if k < ns.length then ns.getD k 0 else if ns = [] then 0 else ns.getD (k % ns.length) 0 * 31 + k
def drawn (ns : List Int) (k : Nat) : Int := (cellAt ns k + 7919 * k + 1) * 48271 % 2147483647
def mixed (ns : List Int) (k : Nat) (many : Int) : Int := (drawn ns k * drawn ns k + 7 * drawn ns k + k) % 2147483629 % many
theorem mixed_ge (ns : List Int) (k : Nat) {many : Int} (h : 0 < many) : 0 ≤ mixed ns k many := Int.emod_nonneg _ (by omega)
theorem mixed_lt (ns : List Int) (k : Nat) {many : Int} (h : 0 < many) : mixed ns k many < many := Int.emod_lt_of_pos _ h
theorem scr_get (ns : List Int) {k : Nat} (h : k < ns.length) : (ns.map MV.int)[k]? = some (.int (ns.getD k 0)) := by
  rw [List.getElem?_map, List.getElem?_eq_getElem h, List.getD_eq_getElem?_getD, List.getElem?_eq_getElem h]; rfl
theorem canLay_ints (ns : List Int) : PyData.canLayAll0 (ns.map PyData.int) = true := by
  induction ns with
  | nil => simp [PyData.canLayAll0]
  | cons a ns ih => simp only [List.map_cons, PyData.canLayAll0, ih, PyData.canLay0, Bool.and_self]
theorem depth_ints (ns : List Int) : PyData.depthAll (ns.map PyData.int) = 0 := by
  induction ns with
  | nil => simp [PyData.depthAll]
  | cons a ns ih => simp only [List.map_cons, PyData.depthAll, ih, PyData.depth, Nat.max_self]
theorem data_ints (st : Store) (d : Nat) (ns : List Int) : (ns.map MV.int).mapM (dataOf st (d + 1)) = some (ns.map PyData.int) := by
  induction ns with
  | nil => rfl
  | cons a ns ih => rw [List.map_cons, List.mapM_cons, ih]; rfl
theorem eq_nil_scr (ns : List Int) (st : Store) : runOp .eq [scr ns, .lst []] st = .ok (.bl (decide (ns = []))) st := by
  show ofB (eqMV st (scr ns) (.lst [])) st = _
  have h1 : dataOf st 65 (scr ns) = some (.list (ns.map PyData.int)) := by
    show ((ns.map MV.int).mapM (dataOf st 64)).map PyData.list = _
    rw [data_ints]; rfl
  rw [eqMV_flat (x := .list (ns.map PyData.int)) (y := .list []) rfl h1 rfl (by simp only [PyData.canLay0]; exact canLay_ints ns) (by simp [PyData.canLay0, PyData.canLayAll0]) (by simp only [PyData.depth, depth_ints]; omega) (by simp [PyData.depth, PyData.depthAll])]
  cases ns with
  | nil => rfl
  | cons a ns => simp only [PyData.eqv, List.map_cons, PyData.eqvAll, ofB]; rfl
theorem ix_scr (ns : List Int) {k : Nat} (st : Store) (h : k < ns.length) : runOp .ix [scr ns, .int k] st = .ok (.int (ns.getD k 0)) st := by
  show ixSeq (scr ns) k st = _
  have : seqOf st (scr ns) = some (ns.map MV.int) := rfl
  simp only [ixSeq, this, atI_nat (scr_get ns h)]
theorem mul_r {a b : Int} {st : Store} (h1 : -(2 ^ 64) < b) (h2 : b < 2 ^ 64) : runOp .mul [.int a, .int b] st = .ok (.int (a * b)) st := by
  show (if (-(2 ^ 64) < a ∧ a < 2 ^ 64) ∨ (-(2 ^ 64) < b ∧ b < 2 ^ 64) then Res.ok (MV.int (a * b)) st else .err) = _
  rw [if_pos (.inr ⟨h1, h2⟩)]
theorem mul_l {a b : Int} {st : Store} (h1 : -(2 ^ 64) < a) (h2 : a < 2 ^ 64) : runOp .mul [.int a, .int b] st = .ok (.int (a * b)) st := by
  show (if (-(2 ^ 64) < a ∧ a < 2 ^ 64) ∨ (-(2 ^ 64) < b ∧ b < 2 ^ 64) then Res.ok (MV.int (a * b)) st else .err) = _
  rw [if_pos (.inl ⟨h1, h2⟩)]
theorem cell_at_spec (H : HasG G) (ns : List Int) (k d : Nat) (st : Store) : callF G (d + 1) (.fn "_law_cell_at") [scr ns, .int k] st = .ok (.int (cellAt ns k)) st := by
  refine inF_rt H._law_cell_at rfl ?_
  have hlen : (ns.map MV.int).length = ns.length := List.length_map ..
  by_cases h : k < ns.length
  · refine sM (lt_t (a := k) (b := ((ns.map MV.int).length : Nat)) (st := st) (by rw [hlen]; omega)) (by kernel_rfl) (sM (ix_scr ns st h) (by kernel_rfl) ?_)
    unfold cellAt
    rw [if_pos h]; kernel_rfl
  · refine sM (lt_f (a := k) (b := ((ns.map MV.int).length : Nat)) (st := st) (by rw [hlen]; omega)) (by kernel_rfl) ?_
    by_cases hn : ns = []
    · have e := eq_nil_scr ns st
      rw [decide_eq_true hn] at e
      refine sM e (by kernel_rfl) ?_
      unfold cellAt
      rw [if_neg h, if_pos hn]; kernel_rfl
    · have e := eq_nil_scr ns st
      rw [decide_eq_false hn] at e
      have hpos : 0 < ns.length := List.length_pos_iff.mpr hn
      have hm : runOp .mod [.int k, .int ((ns.map MV.int).length : Nat)] st = .ok (.int ((k % ns.length : Nat) : Int)) st := by
        rw [mod_int (by rw [hlen]; omega), hlen]; rfl
      refine sM e (by kernel_rfl) (sM hm (by kernel_rfl) (sM (ix_scr ns (k := k % ns.length) st (Nat.mod_lt k hpos)) (by kernel_rfl) (sM (mul_r (a := ns.getD (k % ns.length) 0) (b := 31) (st := st) (by decide) (by decide)) (by kernel_rfl) ?_)))
      unfold cellAt
      rw [if_neg h, if_neg hn]; kernel_rfl
theorem mixed_spec (H : HasG G) (ns : List Int) (k : Nat) (many : Int) (hm : 0 < many) (hk : k < 2 ^ 60) (d : Nat) (st : Store) : callF G (d + 2) (.fn "_law_mixed") [scr ns, .int k, .int many] st = .ok (.int (mixed ns k many)) st := by
  have hd0 : 0 ≤ drawn ns k := Int.emod_nonneg _ (by decide)
  have hd1 : drawn ns k < 2147483647 := Int.emod_lt_of_pos _ (by decide)
  refine inF_rt H._law_mixed rfl ?_
  refine sM (cell_at_spec H ns k d st) (by kernel_rfl) (sM (mul_l (a := 7919) (b := k) (st := st) (by decide) (by decide)) (by kernel_rfl) (sM (mul_r (a := cellAt ns k + 7919 * k + 1) (b := 48271) (st := st) (by decide) (by decide)) (by kernel_rfl) ?_))
  refine sM (mul_l (a := drawn ns k) (b := drawn ns k) (st := st) (by omega) (by omega)) (by kernel_rfl) (sM (mul_l (a := 7) (b := drawn ns k) (st := st) (by decide) (by decide)) (by kernel_rfl) ?_)
  exact sM (mod_int (a := (drawn ns k * drawn ns k + 7 * drawn ns k + k) % 2147483629) (b := many) (st := st) hm) (by kernel_rfl) (by kernel_rfl)
theorem draw_spec (H : HasG G) (ns : List Int) {t n : Nat} {st : Store} (ht : t < st.length) (hn : n < 1000000) (many : Int) (hm : 0 < many) (d : Nat) :
    callF G (d + 3) (.fn "_law_draw") [scr ns, .loc t, .int many] (tw st t n) = .ok (.int (mixed ns (n + 1) many)) (tw st t (n + 1)) := by
  have hg : (tw st t n)[t]? = some (.lst (zs n)) := tw_at ht
  have hzl : ∀ n, (zs n).length = n := fun n => List.length_replicate
  have a1 := append_me (v := .int 0) hg (by rw [hzl]; exact Nat.lt_of_lt_of_le hn (by decide))
  rw [zs_succ, tw_tw] at a1
  have hl : runOp .len [.loc t] (tw st t (n + 1)) = .ok (.int ((n + 1 : Nat) : Int)) (tw st t (n + 1)) := by
    rw [len_loc (tw_at ht), hzl]
  refine inF_rt H._law_draw rfl (sGl hg (by kernel_rfl) (sM a1 (by kernel_rfl) (sM hl (by kernel_rfl) (sM (mixed_spec H ns (n + 1) many hm (by omega) d (tw st t (n + 1))) (by kernel_rfl) (by kernel_rfl)))))
theorem pick_spec (H : HasG G) (ns : List Int) {t n : Nat} {st : Store} (ht : t < st.length) (hn : n < 1000000) (xs : List MV) (hx : xs ≠ []) (d : Nat) :
    ∃ v ∈ xs, callF G (d + 4) (.fn "_law_pick") [scr ns, .loc t, .lst xs] (tw st t n) = .ok v (tw st t (n + 1)) := by
  have hpos : 0 < xs.length := List.length_pos_iff.mpr hx
  have h0 := mixed_ge ns (n + 1) (many := xs.length) (by omega)
  have h1 := mixed_lt ns (n + 1) (many := xs.length) (by omega)
  have hi : (mixed ns (n + 1) xs.length).toNat < xs.length := by omega
  refine ⟨xs[(mixed ns (n + 1) xs.length).toNat], List.getElem_mem hi, ?_⟩
  have hix : runOp .ix [.lst xs, .int (mixed ns (n + 1) xs.length)] (tw st t (n + 1)) = .ok xs[(mixed ns (n + 1) xs.length).toNat] (tw st t (n + 1)) := by
    show ixSeq (.lst xs) _ _ = _
    have e : seqOf (tw st t (n + 1)) (.lst xs) = some xs := rfl
    have := atI_nat (xs := xs) (List.getElem?_eq_getElem hi)
    rw [Int.toNat_of_nonneg h0] at this
    simp only [ixSeq, e, this]
  exact inF_rt H._law_pick rfl (sM (draw_spec H ns ht hn xs.length (by omega) d) (by kernel_rfl) (sM hix (by kernel_rfl) (by kernel_rfl)))
end Mi.Sh
set_option Elab.async false
set_option linter.all false
set_option maxRecDepth 100000
set_option maxHeartbeats 1000000
/-! PlGen2: a drawn row. -/
namespace Mi
open PySem
mutual
/-- names of numbers from N, of things from T -/
def Row.frm (N T : List Str) : Row → Prop
  | .num x i => x ∈ N ∧ 0 ≤ i ∧ i ≤ 999
  | .copy x y => x ∈ N ∧ y ∈ N
  | .add x y z => x ∈ N ∧ y ∈ N ∧ z ∈ N
  | .make t x y => t ∈ T ∧ x ∈ N ∧ y ∈ N
  | .get x t f => x ∈ N ∧ t ∈ T ∧ 0 ≤ f ∧ f ≤ 1
  | .put t f x => t ∈ T ∧ (0 ≤ f ∧ f ≤ 1) ∧ x ∈ N
  | .lett t u => t ∈ T ∧ u ∈ T
  | .same x t u => x ∈ N ∧ t ∈ T ∧ u ∈ T
  | .say x => x ∈ N
  | .give t => t ∈ T
  | .stir => True
  | .ifr x p q => x ∈ N ∧ p.frm N T ∧ q.frm N T
  | .loop x p => x ∈ N ∧ p.frm N T
def Blk.frm (N T : List Str) : Blk → Prop
  | .nil => True
  | .cons r b => r.frm N T ∧ b.frm N T
end
end Mi
namespace Mi.Sh
open PySem Mi
variable {G : Tab}
/-- the names of a law: unlike words -/
structure Nms (N T : List Str) : Prop where
  wN : ∀ x ∈ N, IsWord x
  wT : ∀ x ∈ T, IsWord x
  nN : N ≠ []
  nT : T ≠ []
  lN : N.length ≤ 4
  lT : T.length ≤ 3
  off : ∀ x ∈ N, x ∉ T
  nd : N.Nodup
def nmv (N T : List Str) : MV := .tup [.lst (N.map MV.str), .lst (T.map MV.str)]
theorem strOk_word {x : Str} (h : IsWord x) : PyData.canLay0 (.str x) = true := by
  simp only [PyData.canLay0]
  unfold PyData.strOk
  rw [Array.all_eq_true_iff_forall_mem]
  intro c hc
  have := h.2.2 c (by simpa using hc)
  exact decide_eq_true (by omega)
theorem canLay_strs {l : List Str} (h : ∀ x ∈ l, IsWord x) : PyData.canLayAll0 (l.map PyData.str) = true := by
  induction l with
  | nil => simp [PyData.canLayAll0]
  | cons a l ih => simp only [List.map_cons, PyData.canLayAll0, ih fun x hx => h x (List.mem_cons_of_mem _ hx), strOk_word (h a (List.mem_cons_self ..)), Bool.and_self]
theorem depth_strs (l : List Str) : PyData.depthAll (l.map PyData.str) = 0 := by
  induction l with
  | nil => simp [PyData.depthAll]
  | cons a l ih => simp only [List.map_cons, PyData.depthAll, ih, PyData.depth, Nat.max_self]
theorem data_strs (st : Store) (d : Nat) (l : List Str) : (l.map MV.str).mapM (dataOf st (d + 1)) = some (l.map PyData.str) := by
  induction l with
  | nil => rfl
  | cons a l ih => rw [List.map_cons, List.mapM_cons, ih]; rfl
theorem eqv_nil_strs {l : List Str} (h : ∀ x ∈ l, IsWord x) (st : Store) : eqMV st (.lst (l.map MV.str)) (.lst []) = some (decide (l = [])) := by
  have h1 : dataOf st 65 (.lst (l.map MV.str)) = some (.list (l.map PyData.str)) := by
    show ((l.map MV.str).mapM (dataOf st 64)).map PyData.list = _
    rw [data_strs]; rfl
  rw [eqMV_flat (x := .list (l.map PyData.str)) (y := .list []) rfl h1 rfl (by simp only [PyData.canLay0]; exact canLay_strs h) (by simp [PyData.canLay0, PyData.canLayAll0]) (by simp only [PyData.depth, depth_strs]; omega) (by simp [PyData.depth, PyData.depthAll])]
  cases l with
  | nil => simp [PyData.eqv, PyData.eqvAll]
  | cons a ns => simp [PyData.eqv, PyData.eqvAll]
theorem eq_nil_t {l : List Str} (h : l = []) (st : Store) : runOp .eq [.lst (l.map MV.str), .lst []] st = .ok (.bl true) st := by
  subst h
  show ofB (eqMV st (.lst (List.map MV.str [])) (.lst [])) st = _
  rw [eqv_nil_strs (by intro x hx; cases hx)]; rfl
theorem eq_nil_f {l : List Str} (hw : ∀ x ∈ l, IsWord x) (h : l ≠ []) (st : Store) : runOp .eq [.lst (l.map MV.str), .lst []] st = .ok (.bl false) st := by
  show ofB (eqMV st (.lst (l.map MV.str)) (.lst [])) st = _
  rw [eqv_nil_strs hw, decide_eq_false h]; rfl
theorem ne_nil_f {l : List Str} (h : l = []) (st : Store) : runOp .ne [.lst (l.map MV.str), .lst []] st = .ok (.bl false) st := by
  subst h
  show ofB ((eqMV st (.lst (List.map MV.str [])) (.lst [])).map _) st = _
  rw [eqv_nil_strs (by intro x hx; cases hx)]; rfl
theorem ne_nil_t {l : List Str} (hw : ∀ x ∈ l, IsWord x) (h : l ≠ []) (st : Store) : runOp .ne [.lst (l.map MV.str), .lst []] st = .ok (.bl true) st := by
  show ofB ((eqMV st (.lst (l.map MV.str)) (.lst [])).map _) st = _
  rw [eqv_nil_strs hw, decide_eq_false h]; rfl
/-- a name picked -/
theorem pick_str (H : HasG G) (ns : List Int) {t n : Nat} {st : Store} (ht : t < st.length) (hn : n < 1000000) (xs : List Str) (hx : xs ≠ []) (d : Nat) :
    ∃ v ∈ xs, callF G (d + 4) (.fn "_law_pick") [scr ns, .loc t, .lst (xs.map MV.str)] (tw st t n) = .ok (.str v) (tw st t (n + 1)) := by
  obtain ⟨v, hv, h⟩ := pick_spec H ns ht hn (xs.map MV.str) (by simpa using hx) d
  obtain ⟨x, hx, rfl⟩ := List.mem_map.mp hv
  exact ⟨x, hx, h⟩
/-- a number drawn for a row num, or an input -/
theorem pick_num (H : HasG G) (ns : List Int) {t n : Nat} {st : Store} (ht : t < st.length) (hn : n < 1000000) (k : Int) (hk : 0 ≤ k ∧ k ≤ 999) (d : Nat) :
    ∃ i, 0 ≤ i ∧ i ≤ 999 ∧ callF G (d + 4) (.fn "_law_pick") [scr ns, .loc t, .lst [.int 0, .int 1, .int 2, .int 999, .int k]] (tw st t n) = .ok (.int i) (tw st t (n + 1)) := by
  obtain ⟨v, hv, h⟩ := pick_spec H ns ht hn [.int 0, .int 1, .int 2, .int 999, .int k] (by simp) d
  simp only [List.mem_cons, List.not_mem_nil, or_false] at hv
  rcases hv with rfl | rfl | rfl | rfl | rfl
  · exact ⟨0, by omega, by omega, h⟩
  · exact ⟨1, by omega, by omega, h⟩
  · exact ⟨2, by omega, by omega, h⟩
  · exact ⟨999, by omega, by omega, h⟩
  · exact ⟨k, hk.1, hk.2, h⟩
/-- names that are set -/
theorem have_lc (F : Fn) (N ks : List Str) (hl : N.length ≤ 4) (st : Store) (h : Nat) (hh : st[h]? = some (.dic (kd ks))) (own : Nat) (env : Env) (it cond : E) (hi : evalE F it env st = .ok (.tup [.lst (N.map MV.str)]) st)
    (hc : ∀ x : Str, ∃ env1, bindT st (.name own) (.str x) (wipeE env [own]) = some env1 ∧ (tE F cond env1 st).hM = some (runOp .inn [.str x, .loc h] st) ∧ (∀ b, (tE F cond env1 st).xM b st = .ret b st) ∧ evalE F (.var own) env1 st = .ok (.str x) st) :
    evalE F (.lc true [own] (.name own) .seq it cond (.var own)) env st = .ok (.lst ((N.filter fun x => decide (x ∈ ks)).map MV.str)) st := by
  refine ev_lcF (lk := none) (st1 := st) N MV.str (fun x => decide (x ∈ ks)) MV.str hi rfl (Nat.le_trans hl (by decide)) rfl fun x hx => ?_
  obtain ⟨env1, h1, h2, h3, h4⟩ := hc x
  have := inn_dicl (x := x) hh
  rw [dget_kd_some] at this
  exact ⟨env1, h1, eC this h2 (h3 _), fun _ => h4⟩
theorem simple_spec (H : HasG G) (ns : List Int) {N T : List Str} (hN : Nms N T) {t n h : Nat} {st : Store} (ht : t < st.length) (hn : n < 999980) (hth : h ≠ t) {ks : List Str} (hh : st[h]? = some (.dic (kd ks))) (d : Nat) :
    ∃ (r : Row) (n' : Nat), callF G (d + 5) (.fn "_law_simple") [scr ns, .loc t, nmv N T, .loc h] (tw st t n) = .ok r.mv (tw st t n') ∧ n ≤ n' ∧ n' ≤ n + 9 ∧ r.blks = [] ∧ r.frm N T ∧ r.has ks := by
  let A := N.filter fun x => decide (x ∈ ks)
  let B := T.filter fun x => decide (x ∈ ks)
  have hA : ∀ x ∈ A, x ∈ N ∧ x ∈ ks := fun x hx => by
    have := List.mem_filter.mp hx
    exact ⟨this.1, of_decide_eq_true this.2⟩
  have hB : ∀ x ∈ B, x ∈ T ∧ x ∈ ks := fun x hx => by
    have := List.mem_filter.mp hx
    exact ⟨this.1, of_decide_eq_true this.2⟩
  have hg : ∀ m, (tw st t m)[h]? = some (.dic (kd ks)) := fun m => by rw [tw_ne hth]; exact hh
  let F := callF G (d + 4)
  let z : Option MV := none
  have l2 : evalE F d__law_simple_lc2 [some (scr ns), some (.loc t), some (nmv N T), some (.loc h), z, z, z, z, z, z, z, z, z, z] (tw st t n) = .ok (.lst (A.map MV.str)) (tw st t n) :=
    have_lc F N ks hN.lN (tw st t n) h (hg n) 13 _ _ _ (by kernel_rfl) fun x => ⟨[some (scr ns), some (.loc t), some (nmv N T), some (.loc h), z, z, z, z, z, z, z, z, z, some (.str x)], rfl, by kernel_rfl, fun b => by kernel_rfl, by kernel_rfl⟩
  have l1 : evalE F d__law_simple_lc1 [some (scr ns), some (.loc t), some (nmv N T), some (.loc h), some (.lst (A.map MV.str)), z, z, z, z, z, z, z, z, z] (tw st t n) = .ok (.lst (B.map MV.str)) (tw st t n) :=
    have_lc F T ks (by have := hN.lT; omega) (tw st t n) h (hg n) 13 _ _ _ (by kernel_rfl) fun x => ⟨[some (scr ns), some (.loc t), some (nmv N T), some (.loc h), some (.lst (A.map MV.str)), z, z, z, z, z, z, z, z, some (.str x)], rfl, by kernel_rfl, fun b => by kernel_rfl, by kernel_rfl⟩
  let kind := mixed ns (n + 1) 28
  have k0 : 0 ≤ kind := mixed_ge ns (n + 1) (by decide)
  have k1 : kind < 28 := mixed_lt ns (n + 1) (by decide)
  have dr := draw_spec H ns ht (n := n) (by omega) 28 (by decide) (d + 1)
  obtain ⟨goal, hgoal, pg⟩ := pick_str H ns ht (n := n + 1) (by omega) N hN.nN d
  have wA : ∀ x ∈ A, IsWord x := fun x hx => hN.wN x (hA x hx).1
  have wB : ∀ x ∈ B, IsWord x := fun x hx => hN.wT x (hB x hx).1
  have start : ∀ R : Res Out, ((((((tS F d__law_simple.body (startE 14 [scr ns, .loc t, nmv N T, .loc h]) (tw st t n)).xM (.lst (A.map MV.str)) (tw st t n)).xM (.lst (B.map MV.str)) (tw st t n)).xM (.int kind) (tw st t (n + 1))).xM (.str goal) (tw st t (n + 2)))).run = R → (tS F d__law_simple.body (startE 14 [scr ns, .loc t, nmv N T, .loc h]) (tw st t n)).run = R := fun R hR =>
    sM l2 (by kernel_rfl) (sM l1 (by kernel_rfl) (sM dr (by kernel_rfl) (sM pg (by kernel_rfl) hR)))
  by_cases hA0 : A = []
  · -- nothing to read
    have d1000 := draw_spec H ns ht (n := n + 2) (by omega) 1000 (by decide) (d + 1)
    obtain ⟨i, i0, i1, pn⟩ := pick_num H ns ht (n := n + 3) (by omega) (mixed ns (n + 3) 1000) ⟨mixed_ge _ _ (by decide), by have := mixed_lt ns (n + 3) (many := 1000) (by decide); omega⟩ d
    refine ⟨.num goal i, n + 4, inF_rt H._law_simple rfl (start _ ?_), by omega, by omega, rfl, ⟨hgoal, i0, i1⟩, by intro x hx; cases hx⟩
    exact sM (eq_nil_t hA0 (tw st t (n + 2))) (by kernel_rfl) (sM d1000 (by kernel_rfl) (sM pn (by kernel_rfl) (by kernel_rfl)))
  · have eA := eq_nil_f wA hA0 (tw st t (n + 2))
    by_cases kk2 : kind < 2
    · have d1000 := draw_spec H ns ht (n := n + 2) (by omega) 1000 (by decide) (d + 1)
      obtain ⟨i, i0, i1, pn⟩ := pick_num H ns ht (n := n + 3) (by omega) (mixed ns (n + 3) 1000) ⟨mixed_ge _ _ (by decide), by have := mixed_lt ns (n + 3) (many := 1000) (by decide); omega⟩ d
      refine ⟨.num goal i, n + 4, inF_rt H._law_simple rfl (start _ ?_), by omega, by omega, rfl, ⟨hgoal, i0, i1⟩, by intro x hx; cases hx⟩
      exact sM eA (by kernel_rfl) (sM (lt_t (st := tw st t (n + 2)) kk2) (by kernel_rfl) (sM d1000 (by kernel_rfl) (sM pn (by kernel_rfl) (by kernel_rfl))))
    obtain ⟨one, hone, p1⟩ := pick_str H ns ht (n := n + 2) (by omega) A hA0 d
    obtain ⟨two, htwo, p2⟩ := pick_str H ns ht (n := n + 3) (by omega) A hA0 d
    have oN := (hA one hone).1
    have tN := (hA two htwo).1
    have oK := (hA one hone).2
    have tK := (hA two htwo).2
    by_cases kk6 : kind < 6
    · obtain ⟨v, hv, pr⟩ := pick_spec H ns ht (n := n + 4) (by omega) [(Row.copy goal one).mv, (Row.copy goal two).mv, (Row.add goal one two).mv] (by simp) d
      have fin : callF G (d + 5) (.fn "_law_simple") [scr ns, .loc t, nmv N T, .loc h] (tw st t n) = .ok v (tw st t (n + 5)) := inF_rt H._law_simple rfl (start _ (sM eA (by kernel_rfl) (sM (lt_f (st := tw st t (n + 2)) kk2) (by kernel_rfl) (sM p1 (by kernel_rfl) (sM p2 (by kernel_rfl) (sM (lt_t (st := tw st t (n + 4)) kk6) (by kernel_rfl) (sM pr (by kernel_rfl) (by kernel_rfl))))))))
      simp only [List.mem_cons, List.not_mem_nil, or_false] at hv
      rcases hv with rfl | rfl | rfl
      · exact ⟨.copy goal one, n + 5, fin, by omega, by omega, rfl, ⟨hgoal, oN⟩, by intro x hx; simp only [Row.reads, List.mem_cons, List.not_mem_nil, or_false] at hx; subst hx; exact oK⟩
      · exact ⟨.copy goal two, n + 5, fin, by omega, by omega, rfl, ⟨hgoal, tN⟩, by intro x hx; simp only [Row.reads, List.mem_cons, List.not_mem_nil, or_false] at hx; subst hx; exact tK⟩
      · exact ⟨.add goal one two, n + 5, fin, by omega, by omega, rfl, ⟨hgoal, oN, tN⟩, by intro x hx; simp only [Row.reads, List.mem_cons, List.not_mem_nil, or_false] at hx; rcases hx with rfl | rfl; exact oK; exact tK⟩
    obtain ⟨thing, hthing, p3⟩ := pick_str H ns ht (n := n + 4) (by omega) T hN.nT d
    have start2 : ∀ R : Res Out, ((((((((((((tS F d__law_simple.body (startE 14 [scr ns, .loc t, nmv N T, .loc h]) (tw st t n)).xM (.lst (A.map MV.str)) (tw st t n)).xM (.lst (B.map MV.str)) (tw st t n)).xM (.int kind) (tw st t (n + 1))).xM (.str goal) (tw st t (n + 2))).xM (.bl false) (tw st t (n + 2))).xM (.bl false) (tw st t (n + 2))).xM (.str one) (tw st t (n + 3))).xM (.str two) (tw st t (n + 4))).xM (.bl false) (tw st t (n + 4))).xM (.str thing) (tw st t (n + 5)))).run = R → (tS F d__law_simple.body (startE 14 [scr ns, .loc t, nmv N T, .loc h]) (tw st t n)).run = R := fun R hR =>
      start _ (sM eA (by kernel_rfl) (sM (lt_f (st := tw st t (n + 2)) kk2) (by kernel_rfl) (sM p1 (by kernel_rfl) (sM p2 (by kernel_rfl) (sM (lt_f (st := tw st t (n + 4)) kk6) (by kernel_rfl) (sM p3 (by kernel_rfl) hR))))))
    have rone : ∀ x : Str, x = one ∨ x = two → x ∈ ks := by rintro x (rfl | rfl); exact oK; exact tK
    by_cases hB0 : B = []
    · refine ⟨.make thing one two, n + 5, inF_rt H._law_simple rfl (start2 _ ?_), by omega, by omega, rfl, ⟨hthing, oN, tN⟩, by intro x hx; simp only [Row.reads, List.mem_cons, List.not_mem_nil, or_false] at hx; exact rone x hx⟩
      exact sM (eq_nil_t hB0 (tw st t (n + 5))) (by kernel_rfl) (by kernel_rfl)
    have eB := eq_nil_f wB hB0 (tw st t (n + 5))
    by_cases kk10 : kind < 10
    · refine ⟨.make thing one two, n + 5, inF_rt H._law_simple rfl (start2 _ ?_), by omega, by omega, rfl, ⟨hthing, oN, tN⟩, by intro x hx; simp only [Row.reads, List.mem_cons, List.not_mem_nil, or_false] at hx; exact rone x hx⟩
      exact sM eB (by kernel_rfl) (sM (lt_t (st := tw st t (n + 5)) kk10) (by kernel_rfl) (by kernel_rfl))
    obtain ⟨held, hheld, p4⟩ := pick_str H ns ht (n := n + 5) (by omega) B hB0 d
    have hT := (hB held hheld).1
    have hK := (hB held hheld).2
    have start3 : ∀ R : Res Out, (((((((((((((((tS F d__law_simple.body (startE 14 [scr ns, .loc t, nmv N T, .loc h]) (tw st t n)).xM (.lst (A.map MV.str)) (tw st t n)).xM (.lst (B.map MV.str)) (tw st t n)).xM (.int kind) (tw st t (n + 1))).xM (.str goal) (tw st t (n + 2))).xM (.bl false) (tw st t (n + 2))).xM (.bl false) (tw st t (n + 2))).xM (.str one) (tw st t (n + 3))).xM (.str two) (tw st t (n + 4))).xM (.bl false) (tw st t (n + 4))).xM (.str thing) (tw st t (n + 5))).xM (.bl false) (tw st t (n + 5))).xM (.bl false) (tw st t (n + 5))).xM (.str held) (tw st t (n + 6)))).run = R → (tS F d__law_simple.body (startE 14 [scr ns, .loc t, nmv N T, .loc h]) (tw st t n)).run = R := fun R hR =>
      start2 _ (sM eB (by kernel_rfl) (sM (lt_f (st := tw st t (n + 5)) kk10) (by kernel_rfl) (sM p4 (by kernel_rfl) hR)))
    have lf : ∀ k : Int, ¬ kind < k → runOp .lt [.int kind, .int k] (tw st t (n + 6)) = .ok (.bl false) (tw st t (n + 6)) := fun k hk => lt_f hk
    have lt : ∀ k : Int, kind < k → runOp .lt [.int kind, .int k] (tw st t (n + 6)) = .ok (.bl true) (tw st t (n + 6)) := fun k hk => lt_t hk
    by_cases kk13 : kind < 13
    · have d2 := draw_spec H ns ht (n := n + 6) (by omega) 2 (by decide) (d + 1)
      have m0 := mixed_ge ns (n + 7) (many := 2) (by decide)
      have m1 := mixed_lt ns (n + 7) (many := 2) (by decide)
      refine ⟨.get goal held (mixed ns (n + 7) 2), n + 7, inF_rt H._law_simple rfl (start3 _ ?_), by omega, by omega, rfl, ⟨hgoal, hT, m0, by omega⟩, by intro x hx; simp only [Row.reads, List.mem_cons, List.not_mem_nil, or_false] at hx; subst hx; exact hK⟩
      exact sM (lt 13 kk13) (by kernel_rfl) (sM d2 (by kernel_rfl) (by kernel_rfl))
    by_cases kk16 : kind < 16
    · have d2 := draw_spec H ns ht (n := n + 6) (by omega) 2 (by decide) (d + 1)
      have m0 := mixed_ge ns (n + 7) (many := 2) (by decide)
      have m1 := mixed_lt ns (n + 7) (many := 2) (by decide)
      refine ⟨.put held (mixed ns (n + 7) 2) one, n + 7, inF_rt H._law_simple rfl (start3 _ ?_), by omega, by omega, rfl, ⟨hT, ⟨m0, by omega⟩, oN⟩, by intro x hx; simp only [Row.reads, List.mem_cons, List.not_mem_nil, or_false] at hx; rcases hx with rfl | rfl; exact hK; exact oK⟩
      exact sM (lf 13 kk13) (by kernel_rfl) (sM (lt 16 kk16) (by kernel_rfl) (sM d2 (by kernel_rfl) (by kernel_rfl)))
    by_cases kk18 : kind < 18
    · refine ⟨.lett thing held, n + 6, inF_rt H._law_simple rfl (start3 _ ?_), by omega, by omega, rfl, ⟨hthing, hT⟩, by intro x hx; simp only [Row.reads, List.mem_cons, List.not_mem_nil, or_false] at hx; subst hx; exact hK⟩
      exact sM (lf 13 kk13) (by kernel_rfl) (sM (lf 16 kk16) (by kernel_rfl) (sM (lt 18 kk18) (by kernel_rfl) (by kernel_rfl)))
    by_cases kk20 : kind < 20
    · obtain ⟨other, hother, p5⟩ := pick_str H ns ht (n := n + 6) (by omega) B hB0 d
      refine ⟨.same goal held other, n + 7, inF_rt H._law_simple rfl (start3 _ ?_), by omega, by omega, rfl, ⟨hgoal, hT, (hB other hother).1⟩, by intro x hx; simp only [Row.reads, List.mem_cons, List.not_mem_nil, or_false] at hx; rcases hx with rfl | rfl; exact hK; exact (hB _ hother).2⟩
      exact sM (lf 13 kk13) (by kernel_rfl) (sM (lf 16 kk16) (by kernel_rfl) (sM (lf 18 kk18) (by kernel_rfl) (sM (lt 20 kk20) (by kernel_rfl) (sM p5 (by kernel_rfl) (by kernel_rfl)))))
    -- say, say, give, stir
    let rows : List Row := [.say one, .say two, .give held, .stir, .say one, .say two, .give held, .stir]
    have hkr : (kind - 20).toNat < rows.length := by show _ < 8; omega
    have hix : runOp .ix [.lst (rows.map Row.mv), .int (kind - 20)] (tw st t (n + 6)) = .ok (rows[(kind - 20).toNat]).mv (tw st t (n + 6)) := by
      show ixSeq (.lst (rows.map Row.mv)) _ _ = _
      have e : seqOf (tw st t (n + 6)) (.lst (rows.map Row.mv)) = some (rows.map Row.mv) := rfl
      have := atI_nat (xs := rows.map Row.mv) (i := (kind - 20).toNat) (v := (rows[(kind - 20).toNat]).mv) (by rw [List.getElem?_map, List.getElem?_eq_getElem hkr]; rfl)
      rw [Int.toNat_of_nonneg (by omega)] at this
      simp only [ixSeq, e, this]
    have hmem := List.getElem_mem hkr
    generalize hr : rows[(kind - 20).toNat] = r at hix hmem
    have fin : callF G (d + 5) (.fn "_law_simple") [scr ns, .loc t, nmv N T, .loc h] (tw st t n) = .ok r.mv (tw st t (n + 6)) := inF_rt H._law_simple rfl (start3 _ (sM (lf 13 kk13) (by kernel_rfl) (sM (lf 16 kk16) (by kernel_rfl) (sM (lf 18 kk18) (by kernel_rfl) (sM (lf 20 kk20) (by kernel_rfl) (sF 1 (sM hix (by kernel_rfl) (by kernel_rfl))))))))
    have hr3 : r = .say one ∨ r = .say two ∨ r = .give held ∨ r = .stir := by
      simp only [rows, List.mem_cons, List.not_mem_nil, or_false] at hmem
      rcases hmem with h | h | h | h | h | h | h | h <;> simp [h]
    refine ⟨r, n + 6, fin, by omega, by omega, ?_, ?_, ?_⟩
    · rcases hr3 with rfl | rfl | rfl | rfl <;> rfl
    · rcases hr3 with rfl | rfl | rfl | rfl
      · exact oN
      · exact tN
      · exact hT
      · exact trivial
    · intro x hx
      rcases hr3 with rfl | rfl | rfl | rfl <;> simp only [Row.reads, List.mem_cons, List.not_mem_nil, or_false] at hx
      · subst hx; exact oK
      · subst hx; exact tK
      · subst hx; exact hK
end Mi.Sh
set_option Elab.async false
set_option linter.all false
set_option maxRecDepth 100000
set_option maxHeartbeats 1000000
/-! PlGen3: a drawn block. -/
namespace Mi.Sh
open PySem Mi
variable {G : Tab}
def brIf : S := match d__law_block_fb2 with
  | .seq _ (.seq _ (.ite _ a _)) => a
  | _ => .skip
def brLoop : S := match d__law_block_fb2 with
  | .seq _ (.seq _ (.ite _ _ (.ite _ a _))) => a
  | _ => .skip
def brSimple : S := match d__law_block_fb2 with
  | .seq _ (.seq _ (.ite _ _ (.ite _ _ a))) => a
  | _ => .skip
def rz : Nat → Nat → Nat
  | _, 0 => 1
  | m, D + 1 => 1 + 2 * ((m / 2 + 1) * rz (m / 2 + 1) D)
def rt : Nat → Nat → Nat
  | _, 0 => 1
  | m, D + 1 => 1 + 9 * ((m / 2 + 1) * rt (m / 2 + 1) D)
def rd : Nat → Nat → Nat
  | _, 0 => 12
  | m, D + 1 => 12 + 2 * (1 + (m / 2 + 1) * rd (m / 2 + 1) D)
theorem rz_pos (m D : Nat) : 1 ≤ rz m D := by cases D <;> simp only [rz] <;> omega
theorem rt_pos (m D : Nat) : 1 ≤ rt m D := by cases D <;> simp only [rt] <;> omega
theorem rd_pos (m D : Nat) : 12 ≤ rd m D := by cases D <;> simp only [rd] <;> omega
/-- the names of both blocks of a drawn if -/
theorem gboth_go (F : Fn) (S : Store) (h m2 : Nat) (k2 : List Str) (hh : h < S.length) (h2 : S[m2]? = some (.dic (kd k2))) (hne : h ≠ m2) (e0 e1 e2 e4 e5 e6 e7 e8 e9 e10 e12 e13 e15 e16 e17 : Option MV) (l : Option (Nat × MO)) : ∀ (k1 ks : List Str) (e14 : Option MV), ks.length + k1.length < lim →
    ∃ e14', forGo (fun x env st => forStep (execS F d__law_block_fb1) (bindT st (.name 14) x env) st) l (k1.map MV.str) [e0, e1, e2, some (.loc h), e4, e5, e6, e7, e8, e9, e10, some (.loc m2), e12, e13, e14, e15, e16, e17] (S.set h (.dic (kd ks))) =
      .ok (.nx [e0, e1, e2, some (.loc h), e4, e5, e6, e7, e8, e9, e10, some (.loc m2), e12, e13, e14', e15, e16, e17]) (unlock l (S.set h (.dic (kd (both k1 k2 ks)))))
  | [], ks, e14, _ => ⟨e14, rfl⟩
  | x :: k1, ks, e14, hl => by
    rw [List.length_cons] at hl
    have hg : (S.set h (.dic (kd ks)))[h]? = some (.dic (kd ks)) := get_set hh
    have hg2 : (S.set h (.dic (kd ks)))[m2]? = some (.dic (kd k2)) := by rw [get_set_ne hne, h2]
    have hin := inn_dicl (x := x) hg2
    rw [dget_kd_some] at hin
    rw [List.map_cons]
    by_cases hx : x ∈ k2
    · rw [decide_eq_true hx] at hin
      obtain ⟨e14', ih⟩ := gboth_go F S h m2 k2 hh h2 hne e0 e1 e2 e4 e5 e6 e7 e8 e9 e10 e12 e13 e15 e16 e17 l k1 (kput ks x) (some (.str x)) (by have := kput_length ks x; omega)
      refine ⟨e14', ?_⟩
      have e : both (x :: k1) k2 ks = both k1 k2 (kput ks x) := by unfold both; rw [List.foldl_cons, if_pos hx]
      rw [e, ← ih]
      refine for_cons (step_some (env1 := [e0, e1, e2, some (.loc h), e4, e5, e6, e7, e8, e9, e10, some (.loc m2), e12, e13, some (.str x), e15, e16, e17]) rfl (inS ?_))
      have hs := setI_dic (env := [e0, e1, e2, some (.loc h), e4, e5, e6, e7, e8, e9, e10, some (.loc m2), e12, e13, some (.str x), e15, e16, e17]) (x := x) (v := .bl true) hg (by rw [kd_length]; omega)
      rw [dput_kd, List.set_set] at hs
      exact sM hin (by kernel_rfl) (sO hs (by kernel_rfl) (by kernel_rfl))
    · rw [decide_eq_false hx] at hin
      obtain ⟨e14', ih⟩ := gboth_go F S h m2 k2 hh h2 hne e0 e1 e2 e4 e5 e6 e7 e8 e9 e10 e12 e13 e15 e16 e17 l k1 ks (some (.str x)) (by omega)
      refine ⟨e14', ?_⟩
      have e : both (x :: k1) k2 ks = both k1 k2 ks := by unfold both; rw [List.foldl_cons, if_neg hx]
      rw [e, ← ih]
      refine for_cons (step_some (env1 := [e0, e1, e2, some (.loc h), e4, e5, e6, e7, e8, e9, e10, some (.loc m2), e12, e13, some (.str x), e15, e16, e17]) rfl (inS ?_))
      exact sM hin (by kernel_rfl) (by kernel_rfl)
theorem gboth_for (F : Fn) (S : Store) (h m1 m2 : Nat) (k1 k2 ks : List Str) (hg : S[h]? = some (.dic (kd ks))) (h1 : S[m1]? = some (.dic (kd k1))) (h2 : S[m2]? = some (.dic (kd k2))) (hn1 : h ≠ m1) (hn2 : h ≠ m2) (hn : m1 ≠ m2) (e0 e1 e2 e4 e5 e6 e7 e8 e9 e12 e13 e14 e15 e16 e17 : Option MV) (hl : ks.length + k1.length < lim) :
    ∃ e14', execS F d__law_block_for1 [e0, e1, e2, some (.loc h), e4, e5, e6, e7, e8, e9, some (.loc m1), some (.loc m2), e12, e13, e14, e15, e16, e17] S = .ok (.nx [e0, e1, e2, some (.loc h), e4, e5, e6, e7, e8, e9, some (.loc m1), some (.loc m2), e12, e13, e14', e15, e16, e17]) (S.set h (.dic (kd (both k1 k2 ks)))) := by
  have hh := lt_of_get hg
  obtain ⟨e14', hf⟩ := gboth_go F (S.set m1 (.fdic (kd k1))) h m2 k2 (by rw [List.length_set]; exact hh) (by rw [get_set_ne hn, h2]) hn2 e0 e1 e2 e4 e5 e6 e7 e8 e9 (some (.loc m1)) e12 e13 e15 e16 e17 (some (m1, .dic (kd k1))) k1 ks e14 hl
  refine ⟨e14', ?_⟩
  have e1' : (S.set m1 (.fdic (kd k1))).set h (.dic (kd ks)) = S.set m1 (.fdic (kd k1)) := set_same (by rw [get_set_ne (Ne.symm hn1), hg])
  rw [e1'] at hf
  have e2' : unlock (some (m1, .dic (kd k1))) ((S.set m1 (.fdic (kd k1))).set h (.dic (kd (both k1 k2 ks)))) = S.set h (.dic (kd (both k1 k2 ks))) := by
    show ((S.set m1 (.fdic (kd k1))).set h (.dic (kd (both k1 k2 ks)))).set m1 (.dic (kd k1)) = _
    rw [List.set_comm _ _ hn1, List.set_set, set_same h1]
  rw [e2'] at hf
  refine ex_for (vs := [.loc m1]) (st1 := S) (xs := k1.map MV.str) (l := some (m1, .dic (kd k1))) ?_ ?_ hf
  · kernel_rfl
  · rw [items_dic h1]
    simp [kd]
/-- a drawn block -/
def GenB (G : Tab) (ns : List Int) (N T : List Str) (D m : Nat) : Prop := ∀ deep, deep ≤ D → ∀ t h n st ks d, t < st.length → h ≠ t → st[h]? = some (.dic (kd ks)) → n + (2 + m * rd m D) < 999980 → ks.length + m * rz m D < 1000000 → m ≤ 1000 → 7 + deep ≤ d →
  ∃ (b : Blk) (n' : Nat) (st' : Store) (ks' : List Str), callF G d (.fn "_law_block") [scr ns, .loc t, nmv N T, .loc h, .int m, .int deep] (tw st t n) = .ok b.mv (tw st' t n') ∧ st'[h]? = some (.dic (kd ks')) ∧ b.surely ks = some ks' ∧ b.frm N T ∧ b.length ≤ m ∧ b.deep ≤ deep ∧ b.size ≤ m * rz m D ∧ b.steps ≤ m * rt m D ∧
    n ≤ n' ∧ n' ≤ n + (1 + m * rd m D) ∧ st.length ≤ st'.length ∧ (∀ i, i < st.length → i ≠ h → i ≠ t → st'[i]? = st[i]?)
/-- a turn -/
def TurnOk (N T : List Str) (t h q n m deep D : Nat) (acc : List MV) (ks : List Str) (st : Store) (fix : List (Option MV)) (r : Res Out) : Prop :=
  ∃ (w : Row) (n' : Nat) (st' : Store) (ks' : List Str) (e8 e9 e10 e11 e12 e13 e14 e15 e16 e17 : Option MV), r = .ok (.nx (fix ++ [e8, e9, e10, e11, e12, e13, e14, e15, e16, e17])) (tw st' t n') ∧ st'[q]? = some (.lst (acc ++ [w.mv])) ∧ st'[h]? = some (.dic (kd ks')) ∧ w.has ks ∧ w.surely ks = some ks' ∧ w.frm N T ∧ w.deep ≤ deep ∧ w.size ≤ rz m D ∧ w.steps ≤ rt m D ∧
    n ≤ n' ∧ n' ≤ n + rd m D ∧ st.length ≤ st'.length ∧ (∀ i, i < st.length → i ≠ h → i ≠ t → i ≠ q → st'[i]? = st[i]?)
section
variable (H : HasG G) (ns : List Int) {N T : List Str} (hN : Nms N T) {t n0 n h q m deep D : Nat} {st : Store} {ks : List Str} {acc : List MV} (d : Nat) (ht : t < st.length) (hth : h ≠ t) (hqt : q ≠ t) (hqh : q ≠ h) (hh : st[h]? = some (.dic (kd ks))) (hq : st[q]? = some (.lst acc)) (hal : acc.length < lim)
include H hN ht hth hqt hqh hh hq hal
theorem turn_simple (hn : n < 999980) (hn0 : n0 ≤ n ∧ n ≤ n0 + 1) (hkl : ks.length < lim) (e7 e8 e9 e10 e11 e12 e13 e14 e15 e16 e17 : Option MV) :
    TurnOk N T t h q n0 m deep D acc ks st [some (scr ns), some (.loc t), some (nmv N T), some (.loc h), some (.int m), some (.int deep), some (.loc q), e7] (tS (callF G (d + 5)) brSimple [some (scr ns), some (.loc t), some (nmv N T), some (.loc h), some (.int m), some (.int deep), some (.loc q), e7, e8, e9, e10, e11, e12, e13, e14, e15, e16, e17] (tw st t n)).run := by
  obtain ⟨r, n', c, h1, h2, hb, hf, hr⟩ := simple_spec H ns hN ht hn hth hh d
  have hq1 : (tw st t n')[q]? = some (.lst acc) := by rw [tw_ne hqt]; exact hq
  have a1 := append_me (v := r.mv) hq1 hal
  rw [tw_set hqt] at a1
  have hlq := lt_of_get hq
  have hlh := lt_of_get hh
  have p1 := rz_pos m D
  have p2 := rt_pos m D
  have p3 := rd_pos m D
  have hdeep : r.deep = 0 := by cases r <;> first | rfl | (cases hb; done)
  have hsize : r.size = 1 := by cases r <;> first | rfl | (cases hb; done)
  have hsteps : r.steps = 1 := by cases r <;> first | rfl | (cases hb; done)
  have hsu : r.surely ks = some (match r.sets with | some x => kput ks x | none => ks) := by
    cases r <;> first | rfl | (cases hb; done)
  cases hx : r.sets with
  | none =>
    rw [hx] at hsu
    refine ⟨r, n', st.set q (.lst (acc ++ [r.mv])), ks, e8, e9, e10, e11, e12, e13, e14, e15, e16, some r.mv, ?_, get_set hlq, by rw [get_set_ne hqh]; exact hh, hr, hsu, hf, by omega, by omega, by omega, by omega, by omega, by rw [List.length_set]; exact Nat.le_refl _, fun i hi h1 h2 h3 => get_set_ne (Ne.symm h3)⟩
    refine sM c ?_ (sGl hq1 ?_ (sM a1 ?_ ?_))
    all_goals (cases r <;> first | (cases hb; done) | (cases hx; done) | kernel_rfl)
  | some x =>
    rw [hx] at hsu
    have hg3 : (tw (st.set q (.lst (acc ++ [r.mv]))) t n')[h]? = some (.dic (kd ks)) := by rw [tw_ne hth, get_set_ne hqh]; exact hh
    have hs := setI_dic (env := [some (scr ns), some (.loc t), some (nmv N T), some (.loc h), some (.int m), some (.int deep), some (.loc q), e7, e8, e9, e10, e11, e12, e13, e14, e15, e16, some r.mv]) (x := x) (v := .bl true) hg3 (by rw [kd_length]; exact hkl)
    rw [dput_kd, tw_set hth] at hs
    refine ⟨r, n', (st.set q (.lst (acc ++ [r.mv]))).set h (.dic (kd (kput ks x))), kput ks x, e8, e9, e10, e11, e12, e13, e14, e15, e16, some r.mv, ?_, by rw [get_set_ne (Ne.symm hqh)]; exact get_set hlq, get_set (by rw [List.length_set]; exact hlh), hr, hsu, hf, by omega, by omega, by omega, by omega, by omega, by rw [List.length_set, List.length_set]; exact Nat.le_refl _, fun i hi h1 h2 h3 => by rw [get_set_ne (Ne.symm h1), get_set_ne (Ne.symm h3)]⟩
    refine sM c ?_ (sGl hq1 ?_ (sM a1 ?_ (sO hs ?_ ?_)))
    all_goals (cases r <;> first | (cases hb; done) | (cases hx; kernel_rfl) | (cases hx; done))

theorem turn_loop (hD : deep ≤ D + 1) (hd0 : 0 < deep) (hm : m ≤ 1000) (ih : GenB G ns N T D (m / 2 + 1)) (hn : n + rd m (D + 1) < 999980) (hn0 : n0 ≤ n ∧ n ≤ n0 + 1) (hkl : ks.length + rz m (D + 1) < 1000000) (hdd : 6 + deep ≤ d + 5) (A : List Str) (hA : A ≠ []) (hAN : ∀ x ∈ A, x ∈ N ∧ x ∈ ks) (e7 e8 e10 e11 e12 e13 e14 e15 e16 e17 : Option MV) :
    TurnOk N T t h q n0 m deep (D + 1) acc ks st [some (scr ns), some (.loc t), some (nmv N T), some (.loc h), some (.int m), some (.int deep), some (.loc q), e7] (tS (callF G (d + 5)) brLoop [some (scr ns), some (.loc t), some (nmv N T), some (.loc h), some (.int m), some (.int deep), some (.loc q), e7, e8, some (.lst (A.map MV.str)), e10, e11, e12, e13, e14, e15, e16, e17] (tw st t n)).run := by
  have hlq := lt_of_get hq
  have hlh := lt_of_get hh
  simp only [rd] at hn
  simp only [rz] at hkl
  have d4 := draw_spec H ns ht (n := n) (by omega) 4 (by decide) (d + 2)
  have m0 := mixed_ge ns (n + 1) (many := 4) (by decide)
  have m1 := mixed_lt ns (n + 1) (many := 4) (by decide)
  obtain ⟨w, hw, hix⟩ : ∃ w : Nat, w ≤ deep - 1 ∧ runOp .ix [.lst [.int (deep - 1), .int 0, .int 0, .int 0], .int (mixed ns (n + 1) 4)] (tw st t (n + 1)) = .ok (.int w) (tw st t (n + 1)) := by
    have e1 : ((deep : Int) - 1) = ((deep - 1 : Nat) : Int) := by omega
    have : mixed ns (n + 1) 4 = 0 ∨ mixed ns (n + 1) 4 = 1 ∨ mixed ns (n + 1) 4 = 2 ∨ mixed ns (n + 1) 4 = 3 := by omega
    rcases this with h | h | h | h <;> rw [h]
    · exact ⟨deep - 1, Nat.le_refl _, by rw [e1]; rfl⟩
    · exact ⟨0, by omega, rfl⟩
    · exact ⟨0, by omega, rfl⟩
    · exact ⟨0, by omega, rfl⟩
  -- the copy of what is set
  have hgh : (tw st t (n + 1))[h]? = some (.dic (kd ks)) := by rw [tw_ne hth]; exact hh
  have dc := dict1_dic (p := false) (dicL_loc hgh)
  rw [tw_app ht, tw_len] at dc
  have hb : (st ++ [MO.dic (kd ks)])[st.length]? = some (.dic (kd ks)) := get_new
  obtain ⟨b, n', st', ks', c, g1, su, fr, bl, bd, bs, bt, nl, nu, sl, keep⟩ := ih w (by omega) t st.length (n + 1) (st ++ [.dic (kd ks)]) ks (d + 5) (by rw [List.length_append]; omega) (by omega) hb (by omega) (by omega) (by omega) (by omega)
  have em : ((m / 2 + 1 : Nat) : Int) = (m : Int) / 2 + 1 := by omega
  rw [em] at c
  have lst' : st.length < st'.length := by rw [List.length_append, List.length_singleton] at sl; omega
  have keep' : ∀ i, i < st.length → i ≠ t → st'[i]? = st[i]? := fun i hi hit => by
    rw [keep i (by rw [List.length_append]; omega) (by omega) hit, get_app hi]
  have hq1 : (tw st' t n')[q]? = some (.lst acc) := by rw [tw_ne hqt, keep' q hlq hqt]; exact hq
  obtain ⟨x, hx, px⟩ := pick_str H ns (st := st') (by omega : t < st'.length) (n := n') (by omega) A hA (d + 1)
  have hq2 : (tw st' t (n' + 1))[q]? = some (.lst acc) := by rw [tw_ne hqt, keep' q hlq hqt]; exact hq
  have a1 := append_me (v := (Row.loop x b).mv) hq2 hal
  rw [tw_set hqt] at a1
  refine ⟨.loop x b, n' + 1, st'.set q (.lst (acc ++ [(Row.loop x b).mv])), ks, e8, some (.lst (A.map MV.str)), e10, e11, e12, e13, e14, some (.int w), some b.mv, e17, ?_, get_set (by omega), by rw [get_set_ne hqh, keep' h hlh hth]; exact hh, ?_, ?_, ⟨(hAN x hx).1, fr⟩, by show 1 + b.deep ≤ deep; omega, by show 1 + b.size ≤ rz m (D + 1); simp only [rz]; omega, by show 1 + 9 * b.steps ≤ rt m (D + 1); simp only [rt]; omega, by omega, by simp only [rd]; omega, by rw [List.length_set]; omega, fun i hi h1 h2 h3 => by rw [get_set_ne (Ne.symm h3), keep' i hi h2]⟩
  · exact sM d4 (by kernel_rfl) (sM hix (by kernel_rfl) (sM dc (by kernel_rfl) (sM c (by kernel_rfl) (sGl hq1 (by kernel_rfl) (sM px (by kernel_rfl) (sM a1 (by kernel_rfl) (by kernel_rfl)))))))
  · intro y hy
    simp only [Row.reads, List.mem_cons, List.not_mem_nil, or_false] at hy
    subst hy; exact (hAN _ hx).2
  · simp only [Row.surely, su]; rfl
theorem turn_if (hD : deep ≤ D + 1) (hd0 : 0 < deep) (hm : m ≤ 1000) (ih : GenB G ns N T D (m / 2 + 1)) (hn : n + rd m (D + 1) < 999980) (hn0 : n0 ≤ n ∧ n ≤ n0 + 1) (hkl : ks.length + rz m (D + 1) < 1000000) (hdd : 6 + deep ≤ d + 5) (A : List Str) (hA : A ≠ []) (hAN : ∀ x ∈ A, x ∈ N ∧ x ∈ ks) (e7 e8 e10 e11 e12 e13 e14 e15 e16 e17 : Option MV) :
    TurnOk N T t h q n0 m deep (D + 1) acc ks st [some (scr ns), some (.loc t), some (nmv N T), some (.loc h), some (.int m), some (.int deep), some (.loc q), e7] (tS (callF G (d + 5)) brIf [some (scr ns), some (.loc t), some (nmv N T), some (.loc h), some (.int m), some (.int deep), some (.loc q), e7, e8, some (.lst (A.map MV.str)), e10, e11, e12, e13, e14, e15, e16, e17] (tw st t n)).run := by
  have hlq := lt_of_get hq
  have hlh := lt_of_get hh
  simp only [rd] at hn
  simp only [rz] at hkl
  have hgh : (tw st t n)[h]? = some (.dic (kd ks)) := by rw [tw_ne hth]; exact hh
  have dc := dict1_dic (p := false) (dicL_loc hgh)
  rw [tw_app ht, tw_len] at dc
  let st1 : Store := st ++ [.dic (kd ks)]
  have l1 : st1.length = st.length + 1 := by simp [st1]
  have hh1 : st1[h]? = some (.dic (kd ks)) := get_app' hh
  have hgh1 : (tw st1 t n)[h]? = some (.dic (kd ks)) := by rw [tw_ne hth]; exact hh1
  have dc2 := dict1_dic (p := false) (dicL_loc hgh1)
  rw [tw_app (by omega), tw_len] at dc2
  let st2 : Store := st1 ++ [.dic (kd ks)]
  have l2 : st2.length = st.length + 2 := by simp [st2, l1]
  have g1 : st2[st.length]? = some (.dic (kd ks)) := get_app' (get_new (j := []))
  have g2 : st2[st1.length]? = some (.dic (kd ks)) := get_new (j := [])
  obtain ⟨p, np, sp, kp, cp, gp, sup, frp, blp, bdp, bsp, btp, nlp, nup, slp, keepp⟩ := ih (deep - 1) (by omega) t st.length n st2 ks (d + 5) (by omega) (by omega) g1 (by omega) (by omega) (by omega) (by omega)
  have em : ((m / 2 + 1 : Nat) : Int) = (m : Int) / 2 + 1 := by omega
  have ed : ((deep - 1 : Nat) : Int) = (deep : Int) - 1 := by omega
  rw [em, ed] at cp
  have g3 : sp[st1.length]? = some (.dic (kd ks)) := by rw [keepp _ (by omega) (by omega) (by omega)]; exact g2
  obtain ⟨q', nq, sq, kq, cq, gq, suq, frq, blq, bdq, bsq, btq, nlq, nuq, slq, keepq⟩ := ih (deep - 1) (by omega) t st1.length np sp ks (d + 5) (by omega) (by omega) g3 (by omega) (by omega) (by omega) (by omega)
  rw [em, ed] at cq
  have keep' : ∀ i, i < st.length → i ≠ t → sq[i]? = st[i]? := fun i hi hit => by
    rw [keepq i (by omega) (by omega) hit, keepp i (by omega) (by omega) hit]
    show (st ++ [MO.dic (kd ks)] ++ [MO.dic (kd ks)])[i]? = _
    rw [get_app (by rw [List.length_append]; omega), get_app hi]
  have gp' : sq[st.length]? = some (.dic (kd kp)) := by rw [keepq _ (by omega) (by omega) (by omega)]; exact gp
  have hq1 : (tw sq t nq)[q]? = some (.lst acc) := by rw [tw_ne hqt, keep' q hlq hqt]; exact hq
  obtain ⟨x, hx, px⟩ := pick_str H ns (st := sq) (by omega : t < sq.length) (n := nq) (by omega) A hA (d + 1)
  have hq2 : (tw sq t (nq + 1))[q]? = some (.lst acc) := by rw [tw_ne hqt, keep' q hlq hqt]; exact hq
  have a1 := append_me (v := (Row.ifr x p q').mv) hq2 hal
  rw [tw_set hqt] at a1
  let sa : Store := sq.set q (.lst (acc ++ [(Row.ifr x p q').mv]))
  have la : sa.length = sq.length := List.length_set
  have ha : (tw sa t (nq + 1))[h]? = some (.dic (kd ks)) := by rw [tw_ne hth]; show (sq.set _ _)[h]? = _; rw [get_set_ne hqh, keep' h hlh hth]; exact hh
  have ha1 : (tw sa t (nq + 1))[st.length]? = some (.dic (kd kp)) := by rw [tw_ne (by omega)]; show (sq.set _ _)[st.length]? = _; rw [get_set_ne (by omega)]; exact gp'
  have ha2 : (tw sa t (nq + 1))[st1.length]? = some (.dic (kd kq)) := by rw [tw_ne (by omega)]; show (sq.set _ _)[st1.length]? = _; rw [get_set_ne (by omega)]; exact gq
  obtain ⟨x1, hx1, lx1⟩ := surely_ext p ks kp sup
  have lkp : kp.length ≤ ks.length + p.size := by rw [hx1, List.length_append]; omega
  have hlim : lim = 16777216 := rfl
  obtain ⟨e14', hfor⟩ := gboth_for (callF G (d + 5)) (tw sa t (nq + 1)) h st.length st1.length kp kq ks ha ha1 ha2 (by omega) (by omega) (by omega) (some (scr ns)) (some (.loc t)) (some (nmv N T)) (some (.int m)) (some (.int deep)) (some (.loc q)) e7 e8 (some (.lst (A.map MV.str))) (some p.mv) (some q'.mv) e14 e15 e16 e17 (by omega)
  rw [tw_set hth] at hfor
  refine ⟨.ifr x p q', nq + 1, sa.set h (.dic (kd (both kp kq ks))), both kp kq ks, e8, some (.lst (A.map MV.str)), some (.loc st.length), some (.loc st1.length), some p.mv, some q'.mv, e14', e15, e16, e17, ?_, ?_, ?_, ?_, ?_, ⟨(hAN x hx).1, frp, frq⟩, by show 1 + max p.deep q'.deep ≤ deep; omega, by show 1 + (p.size + q'.size) ≤ rz m (D + 1); simp only [rz]; omega, by show 1 + (p.steps + q'.steps) ≤ rt m (D + 1); simp only [rt]; omega, by omega, by simp only [rd]; omega, by rw [List.length_set, la]; omega, fun i hi h1 h2 h3 => ?_⟩
  · exact sM dc (by kernel_rfl) (sM dc2 (by kernel_rfl) (sM cp (by kernel_rfl) (sM cq (by kernel_rfl) (sGl hq1 (by kernel_rfl) (sM px (by kernel_rfl) (sM a1 (by kernel_rfl) (sO hfor (by kernel_rfl) (by kernel_rfl))))))))
  · rw [get_set_ne (Ne.symm hqh)]; exact get_set (by omega)
  · exact get_set (by omega)
  · intro y hy
    simp only [Row.reads, List.mem_cons, List.not_mem_nil, or_false] at hy
    subst hy; exact (hAN _ hx).2
  · simp only [Row.surely, sup, suq]
  · rw [get_set_ne (Ne.symm h1)]
    show (sq.set _ _)[i]? = _
    rw [get_set_ne (Ne.symm h3), keep' i hi h2]
end
end Mi.Sh
set_option Elab.async false
set_option linter.all false
set_option maxRecDepth 100000
set_option maxHeartbeats 1000000
/-! PlGen4: a drawn block, all turns. -/
namespace Mi.Sh
open PySem Mi
variable {G : Tab}
theorem TurnOk.of_eq {N T : List Str} {t h q n m deep D : Nat} {acc : List MV} {ks : List Str} {st : Store} {fix : List (Option MV)} {r r' : Res Out} (h1 : TurnOk N T t h q n m deep D acc ks st fix r) (e : r' = r) : TurnOk N T t h q n m deep D acc ks st fix r' := by
  rw [e]; exact h1
theorem turn_spec (H : HasG G) (ns : List Int) {N T : List Str} (hN : Nms N T) {t n h q m deep D : Nat} {st : Store} {ks : List Str} {acc : List MV} (d : Nat) (ht : t < st.length) (hth : h ≠ t) (hqt : q ≠ t) (hqh : q ≠ h) (hh : st[h]? = some (.dic (kd ks))) (hq : st[q]? = some (.lst acc)) (hal : acc.length < lim)
    (hD : deep ≤ D) (hm : m ≤ 1000) (ih : ∀ D', D = D' + 1 → GenB G ns N T D' (m / 2 + 1)) (hn : n + 1 + rd m D < 999980) (hkl : ks.length + rz m D < 1000000) (hdd : 6 + deep ≤ d + 5) (x : MV) (e7 e8 e9 e10 e11 e12 e13 e14 e15 e16 e17 : Option MV) :
    TurnOk N T t h q n m deep D acc ks st [some (scr ns), some (.loc t), some (nmv N T), some (.loc h), some (.int m), some (.int deep), some (.loc q), some x] ((fun x env st => forStep (execS (callF G (d + 5)) d__law_block_fb2) (bindT st (.name 7) x env) st) x [some (scr ns), some (.loc t), some (nmv N T), some (.loc h), some (.int m), some (.int deep), some (.loc q), e7, e8, e9, e10, e11, e12, e13, e14, e15, e16, e17] (tw st t n)) := by
  let A := N.filter fun x => decide (x ∈ ks)
  have hA : ∀ x ∈ A, x ∈ N ∧ x ∈ ks := fun x hx => by
    have := List.mem_filter.mp hx
    exact ⟨this.1, of_decide_eq_true this.2⟩
  have wA : ∀ x ∈ A, IsWord x := fun x hx => hN.wN x (hA x hx).1
  let F := callF G (d + 5)
  let kind := mixed ns (n + 1) 9
  let env0 : Env := [some (scr ns), some (.loc t), some (nmv N T), some (.loc h), some (.int m), some (.int deep), some (.loc q), some x, e8, e9, e10, e11, e12, e13, e14, e15, e16, e17]
  let env2 : Env := [some (scr ns), some (.loc t), some (nmv N T), some (.loc h), some (.int m), some (.int deep), some (.loc q), some x, some (.int kind), some (.lst (A.map MV.str)), e10, e11, e12, e13, e14, e15, e16, e17]
  have k0 : 0 ≤ kind := mixed_ge ns (n + 1) (by decide)
  have p3 := rd_pos m D
  have p1 := rz_pos m D
  have dr := draw_spec H ns ht (n := n) (by omega) 9 (by decide) (d + 2)
  have hg : (tw st t (n + 1))[h]? = some (.dic (kd ks)) := by rw [tw_ne hth]; exact hh
  have lc : evalE F d__law_block_lc1 [some (scr ns), some (.loc t), some (nmv N T), some (.loc h), some (.int m), some (.int deep), some (.loc q), some x, some (.int kind), e9, e10, e11, e12, e13, e14, e15, e16, e17] (tw st t (n + 1)) = .ok (.lst (A.map MV.str)) (tw st t (n + 1)) :=
    have_lc F N ks hN.lN (tw st t (n + 1)) h hg 14 _ _ _ (by kernel_rfl) fun y => ⟨[some (scr ns), some (.loc t), some (nmv N T), some (.loc h), some (.int m), some (.int deep), some (.loc q), some x, some (.int kind), e9, e10, e11, e12, e13, some (.str y), e15, e16, e17], rfl, by kernel_rfl, fun b => by kernel_rfl, by kernel_rfl⟩
  let t0 := ((tS F d__law_block_fb2 env0 (tw st t n)).xM (.int kind) (tw st t (n + 1))).xM (.lst (A.map MV.str)) (tw st t (n + 1))
  have start : ∀ R, t0.run = R → (fun x env st => forStep (execS (callF G (d + 5)) d__law_block_fb2) (bindT st (.name 7) x env) st) x [some (scr ns), some (.loc t), some (nmv N T), some (.loc h), some (.int m), some (.int deep), some (.loc q), e7, e8, e9, e10, e11, e12, e13, e14, e15, e16, e17] (tw st t n) = R := fun R hR =>
    step_some (env1 := env0) rfl (inS (sM dr (by kernel_rfl) (sM lc (by kernel_rfl) hR)))
  let S := tw st t (n + 1)
  have hlim : lim = 16777216 := rfl
  have simple := turn_simple H ns hN (m := m) (deep := deep) (D := D) d ht hth hqt hqh hh hq hal (n := n + 1) (n0 := n) (by omega) ⟨by omega, by omega⟩ (by omega) (some x) (some (.int kind)) (some (.lst (A.map MV.str))) e10 e11 e12 e13 e14 e15 e16 e17
  have toS : ∀ tr : Mi.T Out, tr = tS F brSimple env2 S → tr.run = (tS F brSimple env2 S).run := fun tr h => by rw [h]
  by_cases kk2 : kind < 2
  · have c1 := lt_t (st := S) kk2
    have c5 : runOp .eq [.int kind, .int 2] S = .ok (.bl false) S := eqi_f (by omega)
    by_cases hd0 : 0 < deep
    · have c2 : runOp .gt [.int deep, .int 0] S = .ok (.bl true) S := gt_t (by omega)
      by_cases hA0 : A = []
      · have c3 := ne_nil_f hA0 S
        exact simple.of_eq (start _ (sM c1 (by kernel_rfl) (sM c2 (by kernel_rfl) (sM c3 (by kernel_rfl) (sM c5 (by kernel_rfl) (toS _ (by kernel_rfl)))))))
      · have c3 := ne_nil_t wA hA0 S
        obtain ⟨D, rfl⟩ : ∃ e, D = e + 1 := ⟨D - 1, by omega⟩
        have := turn_if H ns hN d ht hth hqt hqh hh hq hal hD hd0 hm (ih D rfl) (n := n + 1) (n0 := n) (by omega) ⟨by omega, by omega⟩ hkl hdd A hA0 hA (some x) (some (.int kind)) e10 e11 e12 e13 e14 e15 e16 e17
        refine this.of_eq (start _ (sM c1 (by kernel_rfl) (sM c2 (by kernel_rfl) (sM c3 (by kernel_rfl) ?_))))
        have e : ∀ tr : Mi.T Out, tr = tS F brIf env2 S → tr.run = (tS F brIf env2 S).run := fun tr h => by rw [h]
        exact e _ (by kernel_rfl)
    · have c2 : runOp .gt [.int deep, .int 0] S = .ok (.bl false) S := gt_f (by omega)
      exact simple.of_eq (start _ (sM c1 (by kernel_rfl) (sM c2 (by kernel_rfl) (sM c5 (by kernel_rfl) (toS _ (by kernel_rfl))))))
  · have c1 := lt_f (st := S) kk2
    by_cases k2 : kind = 2
    · have c5 : runOp .eq [.int kind, .int 2] S = .ok (.bl true) S := eqi_t k2
      by_cases hd0 : 0 < deep
      · have c2 : runOp .gt [.int deep, .int 0] S = .ok (.bl true) S := gt_t (by omega)
        by_cases hA0 : A = []
        · have c3 := ne_nil_f hA0 S
          exact simple.of_eq (start _ (sM c1 (by kernel_rfl) (sM c5 (by kernel_rfl) (sM c2 (by kernel_rfl) (sM c3 (by kernel_rfl) (toS _ (by kernel_rfl)))))))
        · have c3 := ne_nil_t wA hA0 S
          obtain ⟨D, rfl⟩ : ∃ e, D = e + 1 := ⟨D - 1, by omega⟩
          have := turn_loop H ns hN d ht hth hqt hqh hh hq hal hD hd0 hm (ih D rfl) (n := n + 1) (n0 := n) (by omega) ⟨by omega, by omega⟩ hkl hdd A hA0 hA (some x) (some (.int kind)) e10 e11 e12 e13 e14 e15 e16 e17
          refine this.of_eq (start _ (sM c1 (by kernel_rfl) (sM c5 (by kernel_rfl) (sM c2 (by kernel_rfl) (sM c3 (by kernel_rfl) ?_)))))
          have e : ∀ tr : Mi.T Out, tr = tS F brLoop env2 S → tr.run = (tS F brLoop env2 S).run := fun tr h => by rw [h]
          exact e _ (by kernel_rfl)
      · have c2 : runOp .gt [.int deep, .int 0] S = .ok (.bl false) S := gt_f (by omega)
        exact simple.of_eq (start _ (sM c1 (by kernel_rfl) (sM c5 (by kernel_rfl) (sM c2 (by kernel_rfl) (toS _ (by kernel_rfl))))))
    · have c5 : runOp .eq [.int kind, .int 2] S = .ok (.bl false) S := eqi_f k2
      exact simple.of_eq (start _ (sM c1 (by kernel_rfl) (sM c5 (by kernel_rfl) (toS _ (by kernel_rfl)))))
/-- all turns -/
theorem turns_spec (H : HasG G) (ns : List Int) {N T : List Str} (hN : Nms N T) {t h q m deep D : Nat} (d : Nat) (hth : h ≠ t) (hqt : q ≠ t) (hqh : q ≠ h)
    (hD : deep ≤ D) (hm : m ≤ 1000) (ih : ∀ D', D = D' + 1 → GenB G ns N T D' (m / 2 + 1)) (hdd : 6 + deep ≤ d + 5) : ∀ (xs : List MV) (st : Store) (ks : List Str) (acc : List MV) (n : Nat) (e7 e8 e9 e10 e11 e12 e13 e14 e15 e16 e17 : Option MV),
    t < st.length → st[h]? = some (.dic (kd ks)) → st[q]? = some (.lst acc) → acc.length + xs.length < lim → n + 1 + xs.length * rd m D < 999980 → ks.length + xs.length * rz m D < 1000000 →
    ∃ (b : Blk) (n' : Nat) (st' : Store) (ks' : List Str) (env' : Env), forGo (fun x env st => forStep (execS (callF G (d + 5)) d__law_block_fb2) (bindT st (.name 7) x env) st) none xs [some (scr ns), some (.loc t), some (nmv N T), some (.loc h), some (.int m), some (.int deep), some (.loc q), e7, e8, e9, e10, e11, e12, e13, e14, e15, e16, e17] (tw st t n) = .ok (.nx ([some (scr ns), some (.loc t), some (nmv N T), some (.loc h), some (.int m), some (.int deep), some (.loc q)] ++ env')) (tw st' t n') ∧
      st'[q]? = some (.lst (acc ++ b.mvs)) ∧ st'[h]? = some (.dic (kd ks')) ∧ b.surely ks = some ks' ∧ b.frm N T ∧ b.length ≤ xs.length ∧ b.deep ≤ deep ∧ b.size ≤ xs.length * rz m D ∧ b.steps ≤ xs.length * rt m D ∧
      n ≤ n' ∧ n' ≤ n + xs.length * rd m D ∧ st.length ≤ st'.length ∧ (∀ i, i < st.length → i ≠ h → i ≠ t → i ≠ q → st'[i]? = st[i]?)
  | [], st, ks, acc, n, e7, e8, e9, e10, e11, e12, e13, e14, e15, e16, e17, ht, hh, hq, _, _, _ =>
    ⟨.nil, n, st, ks, [e7, e8, e9, e10, e11, e12, e13, e14, e15, e16, e17], rfl, by rw [show Blk.nil.mvs = [] from rfl, List.append_nil]; exact hq, hh, rfl, trivial, Nat.le_refl _, Nat.zero_le _, Nat.zero_le _, Nat.zero_le _, Nat.le_refl _, by omega, Nat.le_refl _, fun _ _ _ _ _ => rfl⟩
  | x :: xs, st, ks, acc, n, e7, e8, e9, e10, e11, e12, e13, e14, e15, e16, e17, ht, hh, hq, hal, hn, hkl => by
    rw [List.length_cons] at hal hn hkl
    rw [Nat.add_mul, Nat.one_mul] at hn hkl
    obtain ⟨w, n1, st1, k1, f8, f9, f10, f11, f12, f13, f14, f15, f16, f17, c1, q1, h1, has, su1, fr1, dp1, sz1, sp1, nl1, nu1, sl1, keep1⟩ := turn_spec H ns hN (n := n) d ht hth hqt hqh hh hq (by omega) hD hm ih (by omega) (by omega) hdd x e7 e8 e9 e10 e11 e12 e13 e14 e15 e16 e17
    have kl : k1.length ≤ ks.length + w.size := by
      have hb : (Blk.cons w .nil).surely ks = some k1 := surely_cons_of has su1 rfl
      obtain ⟨e, he, hl⟩ := surely_ext (.cons w .nil) ks k1 hb
      have : (Blk.cons w .nil).size = w.size := by show w.size + 0 = _; omega
      rw [he, List.length_append]; omega
    obtain ⟨b, n2, st2, k2, env2, c2, q2, h2, su2, fr2, bl2, dp2, sz2, sp2, nl2, nu2, sl2, keep2⟩ := turns_spec H ns hN d hth hqt hqh hD hm ih hdd xs st1 k1 (acc ++ [w.mv]) n1 (some x) f8 f9 f10 f11 f12 f13 f14 f15 f16 f17 (by omega) h1 q1 (by rw [List.length_append, List.length_singleton]; omega) (by omega) (by omega)
    refine ⟨.cons w b, n2, st2, k2, env2, ?_, ?_, h2, surely_cons_of has su1 su2, ⟨fr1, fr2⟩, ?_, ?_, ?_, ?_, by omega, ?_, by omega, fun i hi a1 a2 a3 => ?_⟩
    · rw [← c2]; exact for_cons c1
    · rw [q2]; show _ = some (MO.lst (acc ++ w.mv :: b.mvs)); rw [List.append_assoc]; rfl
    · show b.length + 1 ≤ xs.length + 1; omega
    · show max w.deep b.deep ≤ deep; omega
    · show w.size + b.size ≤ (xs.length + 1) * rz m D; rw [Nat.add_mul, Nat.one_mul]; omega
    · show w.steps + b.steps ≤ (xs.length + 1) * rt m D; rw [Nat.add_mul, Nat.one_mul]; omega
    · show n2 ≤ n + (xs.length + 1) * rd m D; rw [Nat.add_mul, Nat.one_mul]; omega
    · rw [keep2 i (by omega) a1 a2 a3, keep1 i hi a1 a2 a3]
theorem genB (H : HasG G) (ns : List Int) {N T : List Str} (hN : Nms N T) : ∀ D m, GenB G ns N T D m := by
  intro D
  induction D with
  | zero => intro m; exact gen_step 0 m (fun D' h => by cases h)
  | succ D ih => intro m; exact gen_step (D + 1) m (fun D' h => by cases h; exact ih _)
where
  gen_step (D m : Nat) (ih : ∀ D', D = D' + 1 → GenB G ns N T D' (m / 2 + 1)) : GenB G ns N T D m := by
    intro deep hD t h n st ks d ht hth hh hn hkl hm hdd
    obtain ⟨d, rfl⟩ : ∃ e, d = e + 6 := ⟨d - 6, by omega⟩
    have hlh := lt_of_get hh
    have dr := draw_spec H ns (st := st ++ [.lst []]) (t := t) (n := n) (by rw [List.length_append]; omega) (by omega) (m + 1) (by omega) (d + 2)
    have m0 := mixed_ge ns (n + 1) (many := (m : Int) + 1) (by omega)
    have m1 := mixed_lt ns (n + 1) (many := (m : Int) + 1) (by omega)
    let k := mixed ns (n + 1) ((m : Int) + 1)
    let xs : List MV := (List.range k.toNat).map fun (i : Nat) => .int i
    have hxl : xs.length = k.toNat := by simp [xs]
    have hxm : xs.length ≤ m := by rw [hxl]; omega
    have e1 := Nat.mul_le_mul_right (rd m D) hxm
    have e2 := Nat.mul_le_mul_right (rz m D) hxm
    have e3 := Nat.mul_le_mul_right (rt m D) hxm
    have hlim : lim = 16777216 := rfl
    have hb : (st ++ [MO.lst []])[st.length]? = some (.lst []) := get_new
    obtain ⟨b, n', st', ks', env', c, q1, h1, su, fr, bl, dp, sz, sp, nl, nu, sl, keep⟩ := turns_spec H ns hN d hth (by omega : st.length ≠ t) (by omega : st.length ≠ h) hD hm ih (by omega) xs (st ++ [.lst []]) ks [] (n + 1) none none none none none none none none none none none (by rw [List.length_append]; omega) (get_app' hh) hb (by rw [List.length_nil]; omega) (by omega) (by omega)
    have hf : execS (callF G (d + 5)) d__law_block_for2 [some (scr ns), some (.loc t), some (nmv N T), some (.loc h), some (.int m), some (.int deep), some (.loc st.length), none, none, none, none, none, none, none, none, none, none, none] (tw (st ++ [.lst []]) t n) = _ :=
      ex_for (vs := [.int k]) (st1 := tw (st ++ [MO.lst []]) t (n + 1)) (xs := xs) (l := none) (inE (sM dr (by kernel_rfl) (by kernel_rfl))) (by
        show (if -(2 ^ 62) ≤ k ∧ k < 2 ^ 62 then some (xs, none) else none) = _
        rw [if_pos ⟨by omega, by omega⟩]) c
    rw [List.length_append, List.length_singleton] at sl
    have qt : (tw st' t n')[st.length]? = some (.lst b.mvs) := by rw [tw_ne (by omega)]; exact q1
    refine ⟨b, n', st', ks', ?_, h1, su, fr, by omega, dp, by omega, by omega, by omega, by omega, by omega, fun i hi a1 a2 => ?_⟩
    · refine inF_rt H._law_block rfl ?_
      have e : tw st t n ++ [MO.lst []] = tw (st ++ [MO.lst []]) t n := tw_app ht
      have el : (tw st t n).length = st.length := tw_len ..
      have hf' : ∀ z, z = st.length → execS (callF G (d + 5)) d__law_block_for2 [some (scr ns), some (.loc t), some (nmv N T), some (.loc h), some (.int m), some (.int deep), some (.loc z), none, none, none, none, none, none, none, none, none, none, none] (tw st t n ++ [MO.lst []]) = .ok (.nx ([some (scr ns), some (.loc t), some (nmv N T), some (.loc h), some (.int m), some (.int deep), some (.loc st.length)] ++ env')) (tw st' t n') := by
        intro z hz
        rw [hz, e]; exact hf
      exact sO (hf' _ el) (by kernel_rfl) (sM (tuple1_loc qt) (by kernel_rfl) (by kernel_rfl))
    · rw [keep i (by rw [List.length_append]; omega) a1 a2 (by omega), get_app hi]
end Mi.Sh
set_option Elab.async false
set_option linter.all false
set_option maxRecDepth 100000
set_option maxHeartbeats 1000000
/-! PlGen5: names, inputs; programs of drawn blocks are such. -/
namespace Mi.Sh
open PySem Mi
variable {G : Tab}
/-! ### programs of drawn blocks -/
def Cons (κ : Str → Bool) (kn : List (Str × Bool)) : Prop := ∀ x k, dget kn x = some k → κ x = k
theorem kAdd_cons {κ : Str → Bool} : ∀ (l kn : List (Str × Bool)), (∀ p ∈ l, κ p.1 = p.2) → Cons κ kn → (kAdd l kn).1 = true ∧ Cons κ (kAdd l kn).2
  | [], kn, _, h => ⟨rfl, h⟩
  | (x, k) :: l, kn, hl, h => by
    have hxk := hl (x, k) (List.mem_cons_self ..)
    cases hx : dget kn x with
    | none =>
      have e : kAdd ((x, k) :: l) kn = kAdd l (kn ++ [(x, k)]) := by simp only [kAdd, hx]
      rw [e]
      refine kAdd_cons l _ (fun p hp => hl p (List.mem_cons_of_mem _ hp)) fun y k' hy => ?_
      rw [← dput_new hx, dget_dput] at hy
      split at hy
      · rename_i e; cases hy; rw [e]; exact hxk
      · exact h y k' hy
    | some k' =>
      have e1 : k' = k := by rw [← h x k' hx]; exact hxk
      have e : kAdd ((x, k) :: l) kn = kAdd l kn := by simp only [kAdd, hx]; rw [if_pos e1]
      rw [e]
      exact kAdd_cons l kn (fun p hp => hl p (List.mem_cons_of_mem _ hp)) h
theorem kindsIn_cons (κ : Str → Bool) : (∀ b : Blk, b.wk κ → ∀ kn, Cons κ kn → (b.kindsIn kn).1 = true ∧ Cons κ (b.kindsIn kn).2) ∧ ∀ r : Row, r.wk κ → (∀ p ∈ r.kinds, κ p.1 = p.2) ∧ ∀ kn, Cons κ kn → (r.kindsIn kn).1 = true ∧ Cons κ (r.kindsIn kn).2 := by
  apply blk_ind2
  · intro _ kn h; exact ⟨rfl, h⟩
  · intro r b hr hb hw kn h
    obtain ⟨h0, h1⟩ := hr hw.1
    obtain ⟨a1, a2⟩ := kAdd_cons r.kinds kn h0 h
    obtain ⟨b1, b2⟩ := h1 _ a2
    have e : (Blk.cons r b).kindsIn kn = b.kindsIn (r.kindsIn (kAdd r.kinds kn).2).2 := by simp only [Blk.kindsIn, a1, b1, if_true]
    rw [e]
    exact hb hw.2 _ b2
  · intro r hs hw
    refine ⟨?_, fun kn h => by rw [kindsIn_simple hs]; exact ⟨rfl, h⟩⟩
    cases r <;> first | (cases hs; done) | exact hw
  · intro x p q hp hq hw
    refine ⟨fun y hy => ?_, fun kn h => ?_⟩
    · simp only [Row.kinds, List.mem_cons, List.not_mem_nil, or_false] at hy
      subst hy; exact hw.1
    · obtain ⟨a1, a2⟩ := hp hw.2.1 kn h
      obtain ⟨b1, b2⟩ := hq hw.2.2 _ a2
      simp only [Row.kindsIn, a1, b1, Bool.and_self]
      exact ⟨trivial, b2⟩
  · intro x p hp hw
    refine ⟨fun y hy => ?_, fun kn h => hp hw.2 kn h⟩
    simp only [Row.kinds, List.mem_cons, List.not_mem_nil, or_false] at hy
    subst hy; exact hw.1
/-- the kind of a name -/
def kT (T : List Str) (x : Str) : Bool := decide (x ∈ T)
theorem frm_wk {N T : List Str} (off : ∀ x ∈ N, x ∉ T) : (∀ b : Blk, b.frm N T → b.wk (kT T)) ∧ ∀ r : Row, r.frm N T → r.wk (kT T) := by
  have n : ∀ {x}, x ∈ N → kT T x = false := fun h => decide_eq_false (off _ h)
  have t : ∀ {x}, x ∈ T → kT T x = true := fun h => decide_eq_true h
  apply blk_ind2
  · intro _; trivial
  · intro r b hr hb h; exact ⟨hr h.1, hb h.2⟩
  · intro r hs h
    cases r <;> first | (cases hs; done) | skip
    all_goals
      intro p hp
      simp only [Row.kinds, List.mem_cons, List.not_mem_nil, or_false] at hp <;> simp only [Row.frm] at h
    case num => subst hp; exact n h.1
    case copy => rcases hp with rfl | rfl; exact n h.1; exact n h.2
    case add => rcases hp with rfl | rfl | rfl; exact n h.1; exact n h.2.1; exact n h.2.2
    case make => rcases hp with rfl | rfl | rfl; exact t h.1; exact n h.2.1; exact n h.2.2
    case get => rcases hp with rfl | rfl; exact n h.1; exact t h.2.1
    case put => rcases hp with rfl | rfl; exact t h.1; exact n h.2.2
    case lett => rcases hp with rfl | rfl; exact t h.1; exact t h.2
    case same => rcases hp with rfl | rfl | rfl; exact n h.1; exact t h.2.1; exact t h.2.2
    case say => subst hp; exact n h
    case give => subst hp; exact t h
  · intro x p q hp hq h; exact ⟨n h.1, hp h.2.1, hq h.2.2⟩
  · intro x p hp h; exact ⟨n h.1, hp h.2⟩
theorem blk_len_size : ∀ b : Blk, b.length ≤ b.size := by
  intro b
  induction b using Blk.rec (motive_1 := fun _ => True) with
  | nil => exact Nat.le_refl _
  | cons r b _ ih =>
    show b.length + 1 ≤ r.size + b.size
    have : 1 ≤ r.size := by cases r <;> simp [Row.size]
    omega
  | _ => trivial
theorem frm_built {N T : List Str} (wN : ∀ x ∈ N, IsWord x) (wT : ∀ x ∈ T, IsWord x) : (∀ b : Blk, b.frm N T → b.size ≤ 400 → ∀ d, b.deep + d ≤ 6 → b.built d) ∧ ∀ r : Row, r.frm N T → r.size ≤ 400 → ∀ d, r.deep + d ≤ 6 → r.built d := by
  apply blk_ind2
  · intro _ _ _ _; trivial
  · intro r b hr hb h hz d hd
    have hd : max r.deep b.deep + d ≤ 6 := hd
    have hz : r.size + b.size ≤ 400 := hz
    exact ⟨hr h.1 (by omega) d (by omega), hb h.2 (by omega) d (by omega)⟩
  · intro r hs h _ d _
    cases r <;> first | (cases hs; done) | skip
    all_goals simp only [Row.frm] at h
    case num => exact ⟨wN _ h.1, h.2⟩
    case copy => exact ⟨wN _ h.1, wN _ h.2⟩
    case add => exact ⟨wN _ h.1, wN _ h.2.1, wN _ h.2.2⟩
    case make => exact ⟨wT _ h.1, wN _ h.2.1, wN _ h.2.2⟩
    case get => exact ⟨wN _ h.1, wT _ h.2.1, h.2.2⟩
    case put => exact ⟨wT _ h.1, h.2.1, wN _ h.2.2⟩
    case lett => exact ⟨wT _ h.1, wT _ h.2⟩
    case same => exact ⟨wN _ h.1, wT _ h.2.1, wT _ h.2.2⟩
    case say => exact wN _ h
    case give => exact wT _ h
    case stir => trivial
  · intro x p q hp hq h hz d hd
    have hd : 1 + max p.deep q.deep + d ≤ 6 := hd
    have hz : 1 + (p.size + q.size) ≤ 400 := hz
    have l1 := blk_len_size p
    have l2 := blk_len_size q
    exact ⟨wN _ h.1, ⟨by omega, by omega, hp h.2.1 (by omega) _ (by omega)⟩, by omega, by omega, hq h.2.2 (by omega) _ (by omega)⟩
  · intro x p hp h hz d hd
    have hd : 1 + p.deep + d ≤ 6 := hd
    have hz : 1 + p.size ≤ 400 := hz
    have l1 := blk_len_size p
    exact ⟨wN _ h.1, by omega, by omega, hp h.2 (by omega) _ (by omega)⟩
/-- a program of drawn rows is one -/
theorem ok_of {N T : List Str} (hN : Nms N T) (p : Prg) (hp : ∀ x ∈ p.params, x ∈ N) (hl : p.params.length ≤ 3) (hd : p.params.Nodup) (hf : p.body.frm N T) (hz : p.body.size ≤ 400) (hdp : p.body.deep ≤ 6) {ks : List Str} (hs : p.body.surely p.params = some ks) : p.Ok := by
  refine ⟨⟨hl, fun x hx => hN.wN x (hp x hx), hd, by have := blk_len_size p.body; omega, (frm_built hN.wN hN.wT).1 p.body hf hz 0 (by omega), hz⟩, ?_⟩
  unfold Prg.fit
  have hw := (frm_wk hN.off).1 p.body hf
  have hc : Cons (kT T) (p.params.map fun x => (x, false)) := by
    intro x k hx
    unfold dget at hx
    obtain ⟨a, ha, rfl⟩ := Option.map_eq_some_iff.mp hx
    have h1 := List.mem_of_find?_eq_some ha
    have h2 := List.find?_some ha
    obtain ⟨y, hy, rfl⟩ := List.mem_map.mp h1
    have h3 : y = x := of_decide_eq_true h2
    subst h3
    exact decide_eq_false (hN.off _ (hp _ hy))
  rw [((kindsIn_cons (kT T)).1 p.body hw _ hc).1, hs]; rfl
/-! ### names -/
def letterAt (i : Int) : Str := ⟨#[97 + i.toNat]⟩
def nm (rest : Str) (c : Nat) : Str := (⟨#[c]⟩ : Str) ++ rest
def restGo (ns : List Int) : Nat → Nat → Str → Str
  | _, 0, acc => acc
  | n, k + 1, acc => restGo ns (n + 1) k (acc ++ letterAt (mixed ns (n + 1) 26))
def many4 (ns : List Int) (n : Nat) : Nat := (mixed ns (n + 1) 4).toNat
def restOf (ns : List Int) (n : Nat) : Str := restGo ns (n + 1) (many4 ns n) ""
def orderOf (i : Int) : List Nat := if i = 0 then [97, 98, 99, 100] else if i = 1 then [100, 99, 98, 97] else [98, 100, 97, 99]
def NN (ns : List Int) (n : Nat) : List Str := (orderOf (mixed ns (n + 2 + many4 ns n) 3)).map (nm (restOf ns n))
def TT (ns : List Int) (n : Nat) : List Str := [116, 117, 118].map (nm (restOf ns n))
theorem cps_app (a b : Str) : (a ++ b).cps.toList = a.cps.toList ++ b.cps.toList := by
  show (a.cps ++ b.cps).toList = _
  exact Array.toList_append
theorem str_len (a : Str) : a.length = a.cps.toList.length := rfl
theorem restGo_ok (ns : List Int) : ∀ (k n : Nat) (acc : Str), acc.cps.toList.length + k ≤ 3 → (∀ c ∈ acc.cps.toList, 97 ≤ c ∧ c ≤ 122) → (restGo ns n k acc).cps.toList.length ≤ 3 ∧ ∀ c ∈ (restGo ns n k acc).cps.toList, 97 ≤ c ∧ c ≤ 122
  | 0, n, acc, h, hc => ⟨by show acc.cps.toList.length ≤ 3; omega, hc⟩
  | k + 1, n, acc, h, hc => by
    refine restGo_ok ns k (n + 1) _ ?_ ?_
    · rw [cps_app, List.length_append]
      have : (letterAt (mixed ns (n + 1) 26)).cps.toList.length = 1 := rfl
      omega
    · intro c h1
      rw [cps_app] at h1
      rcases List.mem_append.mp h1 with h1 | h1
      · exact hc c h1
      · have : c = 97 + (mixed ns (n + 1) 26).toNat := by
          have h2 : c ∈ [97 + (mixed ns (n + 1) 26).toNat] := h1
          exact List.mem_singleton.mp h2
        have m0 := mixed_ge ns (n + 1) (many := 26) (by decide)
        have m1 := mixed_lt ns (n + 1) (many := 26) (by decide)
        omega
theorem rest_ok (ns : List Int) (n : Nat) : (restOf ns n).cps.toList.length ≤ 3 ∧ ∀ c ∈ (restOf ns n).cps.toList, 97 ≤ c ∧ c ≤ 122 := by
  have m0 := mixed_ge ns (n + 1) (many := 4) (by decide)
  have m1 := mixed_lt ns (n + 1) (many := 4) (by decide)
  have e : ("" : Str).cps.toList = [] := by decide +kernel
  exact restGo_ok ns _ _ _ (by rw [e]; unfold many4; simp; omega) (by rw [e]; intro c h; cases h)
theorem nm_word {rest : Str} (h : rest.cps.toList.length ≤ 3 ∧ ∀ c ∈ rest.cps.toList, 97 ≤ c ∧ c ≤ 122) {c : Nat} (hc : 97 ≤ c ∧ c ≤ 122) : IsWord (nm rest c) := by
  have e : (nm rest c).cps.toList = c :: rest.cps.toList := by unfold nm; rw [cps_app]; rfl
  unfold IsWord
  rw [e]
  refine ⟨by rw [List.length_cons]; omega, by rw [List.length_cons]; omega, fun x hx => ?_⟩
  rcases List.mem_cons.mp hx with rfl | hx
  · exact hc
  · exact h.2 x hx
theorem nm_inj {rest : Str} {a b : Nat} (h : nm rest a = nm rest b) : a = b := by
  have e : ∀ c, (nm rest c).cps.toList = c :: rest.cps.toList := fun c => by unfold nm; rw [cps_app]; rfl
  have := congrArg (fun s : Str => s.cps.toList) h
  simp only [e] at this
  exact (List.cons.inj this).1
theorem order_ok (i : Int) : (∀ c ∈ orderOf i, 97 ≤ c ∧ c ≤ 100) ∧ (orderOf i).Nodup ∧ (orderOf i).length = 4 := by
  unfold orderOf
  split
  · decide
  · split <;> decide
theorem nodup_map {α β : Type} {f : α → β} (hf : ∀ a b, f a = f b → a = b) : ∀ {l : List α}, l.Nodup → (l.map f).Nodup
  | [], _ => List.nodup_nil
  | a :: l, h => by
    rw [List.nodup_cons] at h
    rw [List.map_cons, List.nodup_cons]
    refine ⟨fun hm => ?_, nodup_map hf h.2⟩
    obtain ⟨b, hb, e⟩ := List.mem_map.mp hm
    rw [← hf _ _ e.symm] at hb
    exact h.1 hb
theorem nms (ns : List Int) (n : Nat) : Nms (NN ns n) (TT ns n) := by
  have hr := rest_ok ns n
  have ho := order_ok (mixed ns (n + 2 + many4 ns n) 3)
  refine ⟨?_, ?_, ?_, ?_, ?_, ?_, ?_, ?_⟩
  · intro x hx
    obtain ⟨c, hc, rfl⟩ := List.mem_map.mp hx
    have := ho.1 c hc
    exact nm_word hr ⟨by omega, by omega⟩
  · intro x hx
    obtain ⟨c, hc, rfl⟩ := List.mem_map.mp hx
    simp only [List.mem_cons, List.not_mem_nil, or_false] at hc
    exact nm_word hr ⟨by omega, by omega⟩
  · intro e
    have := congrArg List.length e
    unfold NN at this
    rw [List.length_map, ho.2.2] at this
    cases this
  · intro e; cases e
  · unfold NN; rw [List.length_map, ho.2.2]; exact Nat.le_refl _
  · exact Nat.le_refl _
  · intro x hx hx2
    obtain ⟨c, hc, rfl⟩ := List.mem_map.mp hx
    obtain ⟨c', hc', e⟩ := List.mem_map.mp hx2
    have e := nm_inj e
    have := ho.1 c hc
    simp only [List.mem_cons, List.not_mem_nil, or_false] at hc'
    omega
  · exact nodup_map (fun _ _ h => nm_inj h) ho.2.1
theorem pick_letter (H : HasG G) (ns : List Int) {t n : Nat} {st : Store} (ht : t < st.length) (hn : n < 1000000) (d : Nat) :
    callF G (d + 4) (.fn "_law_pick") [scr ns, .loc t, .str "abcdefghijklmnopqrstuvwxyz"] (tw st t n) = .ok (.str (letterAt (mixed ns (n + 1) 26))) (tw st t (n + 1)) := by
  have m0 := mixed_ge ns (n + 1) (many := 26) (by decide)
  have m1 := mixed_lt ns (n + 1) (many := 26) (by decide)
  have key : ∀ k : Nat, k < 26 → L2.atI (Str.cps "abcdefghijklmnopqrstuvwxyz").toList (k : Int) = some (97 + k) := by decide +kernel
  have hk := key (mixed ns (n + 1) 26).toNat (by omega)
  rw [Int.toNat_of_nonneg m0] at hk
  have hix : runOp .ix [.str "abcdefghijklmnopqrstuvwxyz", .int (mixed ns (n + 1) 26)] (tw st t (n + 1)) = .ok (.str (letterAt (mixed ns (n + 1) 26))) (tw st t (n + 1)) := by
    show ixStr "abcdefghijklmnopqrstuvwxyz" _ _ = _
    unfold ixStr
    rw [if_pos (by decide +kernel), hk]; rfl
  exact inF_rt H._law_pick rfl (sF 1 (sM (draw_spec H ns ht hn 26 (by decide) d) (by kernel_rfl) (sM hix (by kernel_rfl) (by kernel_rfl))))
theorem add_str {a b : Str} {st : Store} (h : a.length + b.length ≤ lim) : runOp .add [.str a, .str b] st = .ok (.str (a ++ b)) st := by
  show (if a.length + b.length ≤ lim then Res.ok (MV.str (a ++ b)) st else .err) = _
  rw [if_pos h]
theorem rest_for (H : HasG G) (ns : List Int) {t : Nat} {st : Store} (ht : t < st.length) (d : Nat) (e4 e5 : Option MV) : ∀ (k n : Nat) (acc : Str) (xs : List MV) (e3 : Option MV), xs.length = k → acc.length + k ≤ 100 → n + k < 1000000 →
    ∃ e3', forGo (fun x env st => forStep (execS (callF G (d + 4)) d__law_names_fb1) (bindT st (.name 3) x env) st) none xs [some (scr ns), some (.loc t), some (.str acc), e3, e4, e5] (tw st t n) = .ok (.nx [some (scr ns), some (.loc t), some (.str (restGo ns n k acc)), e3', e4, e5]) (tw st t (n + k))
  | 0, n, acc, [], e3, _, _, _ => ⟨e3, rfl⟩
  | k + 1, n, acc, x :: xs, e3, hl, ha, hn => by
    have hla : (acc ++ letterAt (mixed ns (n + 1) 26)).length = acc.length + 1 := by
      rw [str_len, cps_app, List.length_append]; rfl
    obtain ⟨e3', ih⟩ := rest_for H ns ht d e4 e5 k (n + 1) (acc ++ letterAt (mixed ns (n + 1) 26)) xs (some x) (Nat.succ.inj hl) (by omega) (by omega)
    refine ⟨e3', ?_⟩
    have e : n + (k + 1) = n + 1 + k := by omega
    rw [e]
    show _ = Res.ok (Out.nx [_, _, some (.str (restGo ns (n + 1) k (acc ++ letterAt (mixed ns (n + 1) 26)))), _, _, _]) _
    rw [← ih]
    refine for_cons (step_some (env1 := [some (scr ns), some (.loc t), some (.str acc), some x, e4, e5]) rfl (inS ?_))
    exact sM (pick_letter H ns ht (n := n) (by omega) d) (by kernel_rfl) (sM (add_str (a := acc) (b := letterAt (mixed ns (n + 1) 26)) (st := tw st t (n + 1)) (by
      have : (letterAt (mixed ns (n + 1) 26)).length = 1 := rfl
      rw [this]; have : lim = 16777216 := rfl; omega)) (by kernel_rfl) (by kernel_rfl))
def signs (x : Str) : List Str := x.cps.toList.map fun c => ⟨#[c]⟩
theorem names_lc (F : Fn) (st : Store) (order rest : Str) (ho : order.cps.toList.length ≤ 10) (hr : rest.length ≤ 10) (own : Nat) (env : Env) (it elt : E) (hi : evalE F it env st = .ok (.tup [.str order]) st)
    (hs : ∀ x : Str, ∃ env1, bindT st (.name own) (.str x) (wipeE env [own]) = some env1 ∧ (tE F elt env1 st).hM = some (runOp .add [.str x, .str rest] st) ∧ (∀ b, (tE F elt env1 st).xM b st = .ret b st)) :
    evalE F (.lc true [own] (.name own) .seq it (.lit (.bl true)) elt) env st = .ok (.lst ((order.cps.toList.map (nm rest)).map MV.str)) st := by
  have e : (order.cps.toList.map (nm rest)).map MV.str = order.cps.toList.map fun c => .str (nm rest c) := by rw [List.map_map]; rfl
  rw [e]
  refine ev_lc order.cps.toList (fun c => .str ⟨#[c]⟩) (fun c => .str (nm rest c)) hi rfl (Nat.le_trans ho (by decide)) fun c hc => ?_
  obtain ⟨env1, h1, h2, h3⟩ := hs ⟨#[c]⟩
  refine ⟨env1, h1, rfl, eC (add_str (a := ⟨#[c]⟩) (b := rest) (st := st) ?_) h2 (h3 _)⟩
  have : (⟨#[c]⟩ : Str).length = 1 := rfl
  have : lim = 16777216 := rfl
  omega
theorem names_spec (H : HasG G) (ns : List Int) {t n : Nat} {st : Store} (ht : t < st.length) (hn : n < 999990) (d : Nat) :
    callF G (d + 5) (.fn "_law_names") [scr ns, .loc t] (tw st t n) = .ok (nmv (NN ns n) (TT ns n)) (tw st t (n + 2 + many4 ns n)) := by
  have m0 := mixed_ge ns (n + 1) (many := 4) (by decide)
  have m1 := mixed_lt ns (n + 1) (many := 4) (by decide)
  have hm : many4 ns n ≤ 3 := by unfold many4; omega
  have hm' : ((many4 ns n : Nat) : Int) = mixed ns (n + 1) 4 := by unfold many4; omega
  have dr := draw_spec H ns ht (n := n) (by omega) 4 (by decide) (d + 1)
  have e0 : ("" : Str).length = 0 := by decide +kernel
  obtain ⟨e3, hf⟩ := rest_for H ns ht d none none (many4 ns n) (n + 1) "" ((List.range (mixed ns (n + 1) 4).toNat).map fun (i : Nat) => .int i) none (by simp [many4]) (by rw [e0]; omega) (by omega)
  have hfor : execS (callF G (d + 4)) d__law_names_for1 [some (scr ns), some (.loc t), some (.str ""), none, none, none] (tw st t n) = _ :=
    ex_for (vs := [.int (mixed ns (n + 1) 4)]) (st1 := tw st t (n + 1)) (xs := (List.range (mixed ns (n + 1) 4).toNat).map fun (i : Nat) => .int i) (l := none) (inE (sM dr (by kernel_rfl) (by kernel_rfl))) (by
      show (if -(2 ^ 62) ≤ mixed ns (n + 1) 4 ∧ mixed ns (n + 1) 4 < 2 ^ 62 then some ((List.range (mixed ns (n + 1) 4).toNat).map fun (i : Nat) => MV.int i, none) else none) = _
      rw [if_pos ⟨by omega, by omega⟩]) hf
  let k := mixed ns (n + 2 + many4 ns n) 3
  have k0 : 0 ≤ k := mixed_ge _ _ (by decide)
  have k1 : k < 3 := mixed_lt _ _ (by decide)
  let order : Str := if k = 0 then "abcd" else if k = 1 then "dcba" else "bdac"
  have ho : order.cps.toList = orderOf k := by
    show (if k = 0 then ("abcd" : Str) else if k = 1 then "dcba" else "bdac").cps.toList = if k = 0 then [97, 98, 99, 100] else if k = 1 then [100, 99, 98, 97] else [98, 100, 97, 99]
    split
    · decide +kernel
    · split <;> decide +kernel
  have en : n + 1 + many4 ns n + 1 = n + 2 + many4 ns n := by omega
  have pk : callF G (d + 4) (.fn "_law_pick") [scr ns, .loc t, .lst [.str "abcd", .str "dcba", .str "bdac"]] (tw st t (n + 1 + many4 ns n)) = .ok (.str order) (tw st t (n + 2 + many4 ns n)) := by
    have dr2 := draw_spec H ns ht (n := n + 1 + many4 ns n) (by omega) 3 (by decide) d
    rw [en] at dr2
    have hix : runOp .ix [.lst [.str "abcd", .str "dcba", .str "bdac"], .int k] (tw st t (n + 2 + many4 ns n)) = .ok (.str order) (tw st t (n + 2 + many4 ns n)) := by
      have : k = 0 ∨ k = 1 ∨ k = 2 := by omega
      show _ = Res.ok (MV.str (if k = 0 then ("abcd" : Str) else if k = 1 then "dcba" else "bdac")) _
      rcases this with h | h | h <;> rw [h] <;> rfl
    exact inF_rt H._law_pick rfl (sM dr2 (by kernel_rfl) (sM hix (by kernel_rfl) (by kernel_rfl)))
  have hrest : (restOf ns n).length ≤ 10 := by rw [str_len]; have := (rest_ok ns n).1; omega
  let S := tw st t (n + 2 + many4 ns n)
  let z : Option MV := none
  have l2 : evalE (callF G (d + 4)) d__law_names_lc2 [some (scr ns), some (.loc t), some (.str (restOf ns n)), e3, some (.str order), z] S = .ok (.lst ((NN ns n).map MV.str)) S := by
    have := names_lc (callF G (d + 4)) S order (restOf ns n) (by rw [ho, (order_ok k).2.2]; omega) hrest 5 [some (scr ns), some (.loc t), some (.str (restOf ns n)), e3, some (.str order), z] (.cons (.var 4) .nil) d__law_names_e2 (by kernel_rfl) fun x => ⟨[some (scr ns), some (.loc t), some (.str (restOf ns n)), e3, some (.str order), some (.str x)], rfl, by kernel_rfl, fun b => by kernel_rfl⟩
    rw [ho] at this
    exact this
  have l1 : evalE (callF G (d + 4)) d__law_names_lc1 [some (scr ns), some (.loc t), some (.str (restOf ns n)), e3, some (.str order), z] S = .ok (.lst ((TT ns n).map MV.str)) S := by
    have := names_lc (callF G (d + 4)) S "tuv" (restOf ns n) (by decide +kernel) hrest 5 [some (scr ns), some (.loc t), some (.str (restOf ns n)), e3, some (.str order), z] (.cons (.lit (.str "tuv")) .nil) d__law_names_e1 (by kernel_rfl) fun x => ⟨[some (scr ns), some (.loc t), some (.str (restOf ns n)), e3, some (.str order), some (.str x)], rfl, by kernel_rfl, fun b => by kernel_rfl⟩
    have e : (Str.cps "tuv").toList = [116, 117, 118] := by decide +kernel
    rw [e] at this
    exact this
  exact inF_rt H._law_names rfl (sO hfor (by kernel_rfl) (sM pk (by kernel_rfl) (sM l2 (by kernel_rfl) (sM l1 (by kernel_rfl) (by kernel_rfl)))))
end Mi.Sh
set_option Elab.async false
set_option linter.all false
set_option maxRecDepth 100000
set_option maxHeartbeats 1000000
/-! PlGen6: drawn programs and inputs. -/
namespace Mi.Sh
open PySem Mi
variable {G : Tab}
theorem cut_take {α : Type} (xs : List α) (k : Nat) : cut xs none (some (k : Int)) = xs.take k := by
  unfold cut
  have e1 : HT.sIx xs.length 0 none = 0 := rfl
  have e2 : HT.sIx xs.length xs.length (some (k : Int)) = min k xs.length := by
    show (if (k : Int) < 0 then ((k : Int) + (xs.length : Int)).toNat else min (k : Int).toNat xs.length) = _
    rw [if_neg (by omega), Int.toNat_natCast]
  rw [e1, e2, List.drop_zero, Nat.sub_zero]
  rcases Nat.le_total k xs.length with h | h
  · rw [Nat.min_eq_left h]
  · rw [Nat.min_eq_right h, List.take_of_length_le (Nat.le_refl _), List.take_of_length_le h]
/-- a drawn program -/
structure Drawn (N T : List Str) (m D deep : Nat) (p : Prg) : Prop where
  par : ∃ k, k ≤ 3 ∧ p.params = N.take k
  frm : p.body.frm N T
  su : ∃ ks, p.body.surely p.params = some ks
  len : p.body.length ≤ m
  dp : p.body.deep ≤ deep
  sz : p.body.size ≤ m * rz m D
  stp : p.body.steps ≤ m * rt m D
theorem Drawn.parN {N T : List Str} {m D deep : Nat} {p : Prg} (h : Drawn N T m D deep p) : ∀ x ∈ p.params, x ∈ N := by
  obtain ⟨k, _, e⟩ := h.par
  intro x hx
  rw [e] at hx
  exact List.mem_of_mem_take hx
theorem Drawn.parLen {N T : List Str} {m D deep : Nat} {p : Prg} (h : Drawn N T m D deep p) : p.params.length ≤ 3 := by
  obtain ⟨k, hk, e⟩ := h.par
  rw [e, List.length_take]; omega
theorem Drawn.parNd {N T : List Str} {m D deep : Nat} {p : Prg} (hN : N.Nodup) (h : Drawn N T m D deep p) : p.params.Nodup := by
  obtain ⟨k, hk, e⟩ := h.par
  rw [e]
  exact List.Nodup.sublist (List.take_sublist k N) hN
theorem Drawn.ok {N T : List Str} {m D deep : Nat} {p : Prg} (hN : Nms N T) (h : Drawn N T m D deep p) (hz : m * rz m D ≤ 400) (hd : deep ≤ 6) : p.Ok := by
  obtain ⟨ks, hs⟩ := h.su
  have h1 := h.sz
  have h2 := h.dp
  exact ok_of hN p h.parN h.parLen (h.parNd hN.nd) h.frm (by omega) (by omega) hs
/-- the head of _law_program: names, params, what is set -/
theorem program_head (H : HasG G) (ns : List Int) {t n : Nat} {st : Store} (ht : t < st.length) (hn : n < 999900) (d : Nat) :
    ∃ k, k ≤ 3 ∧ callF G (d + 4) (.fn "_law_draw") [scr ns, .loc t, .int 4] (tw st t (n + 2 + many4 ns n)) = .ok (.int (k : Nat)) (tw st t (n + 3 + many4 ns n)) ∧
      runOp .slU [.lst ((NN ns n).map MV.str), .int (k : Nat)] (tw st t (n + 3 + many4 ns n)) = .ok (.lst (((NN ns n).take k).map MV.str)) (tw st t (n + 3 + many4 ns n)) ∧
      runOp (.dict1 false) [.lst (((NN ns n).take k).map fun x => .tup [.str x, .bl true])] (tw st t (n + 3 + many4 ns n)) = .ok (.loc st.length) (tw (st ++ [.dic (kd ((NN ns n).take k))]) t (n + 3 + many4 ns n)) := by
  have hm : many4 ns n ≤ 3 := by
    have m0 := mixed_ge ns (n + 1) (many := 4) (by decide)
    have m1 := mixed_lt ns (n + 1) (many := 4) (by decide)
    unfold many4; omega
  have m0 := mixed_ge ns (n + 2 + many4 ns n + 1) (many := 4) (by decide)
  have m1 := mixed_lt ns (n + 2 + many4 ns n + 1) (many := 4) (by decide)
  have dr := draw_spec H ns ht (n := n + 2 + many4 ns n) (by omega) 4 (by decide) (d + 1)
  have e : n + 2 + many4 ns n + 1 = n + 3 + many4 ns n := by omega
  rw [e] at dr m0 m1
  refine ⟨(mixed ns (n + 3 + many4 ns n) 4).toNat, by omega, by rw [Int.toNat_of_nonneg m0]; exact dr, ?_, ?_⟩
  · show Res.ok (MV.lst (cut ((NN ns n).map MV.str) none (some _))) _ = _
    rw [cut_take, List.map_take]
  · rw [dict1_lst (pairsOf_map _ (.bl true)), tw_len, dmerge_nodup _ _ (by
      rw [List.map_map]
      exact List.Nodup.sublist (by
        have : ((fun (x : Str × MV) => x.1) ∘ fun (x : Str) => (x, MV.bl true)) = id := rfl
        rw [this, List.map_id]; exact List.take_sublist _ _) (nms ns n).nd) (by intro kv h; cases h), tw_app ht]
    rfl
theorem program_spec (H : HasG G) (hpr : G (.fn "_law_program") = some d__law_program) (ns : List Int) {t n m D deep : Nat} {st : Store} (ht : t < st.length) (hn : n + (10 + m * rd m D) < 999900) (hz : m * rz m D < 100000) (hm : m ≤ 1000) (hD : deep ≤ D) (d : Nat) (hdd : 7 + deep ≤ d + 5) :
    ∃ p n' st', callF G (d + 6) (.fn "_law_program") [scr ns, .loc t, .int m, .int deep] (tw st t n) = .ok p.mv (tw st' t n') ∧ Drawn (NN ns n) (TT ns n) m D deep p ∧ n ≤ n' ∧ n' ≤ n + (10 + m * rd m D) ∧ st.length ≤ st'.length ∧ (∀ i, i < st.length → i ≠ t → st'[i]? = st[i]?) := by
  have hN := nms ns n
  have hm4 : many4 ns n ≤ 3 := by
    have m0 := mixed_ge ns (n + 1) (many := 4) (by decide)
    have m1 := mixed_lt ns (n + 1) (many := 4) (by decide)
    unfold many4; omega
  obtain ⟨k, hk, dr, sl, dc⟩ := program_head H ns (n := n) ht (by omega) (d + 1)
  have nmc := names_spec H ns (n := n) ht (by omega) d
  let P := (NN ns n).take k
  let S := tw st t (n + 3 + many4 ns n)
  have hPl : P.length ≤ 3 := by show ((NN ns n).take k).length ≤ 3; rw [List.length_take]; omega
  have lc : evalE (callF G (d + 5)) d__law_program_lc1 [some (scr ns), some (.loc t), some (.int m), some (.int deep), some (nmv (NN ns n) (TT ns n)), some (.tup (P.map MV.str)), none, none] S = .ok (.lst (P.map fun x => .tup [.str x, .bl true])) S :=
    ev_lc P MV.str (fun x => .tup [.str x, .bl true]) (vs := [.tup (P.map MV.str)]) (by kernel_rfl) rfl (Nat.le_trans hPl (by decide)) fun x hx => ⟨[some (scr ns), some (.loc t), some (.int m), some (.int deep), some (nmv (NN ns n) (TT ns n)), some (.tup (P.map MV.str)), none, some (.str x)], rfl, rfl, by kernel_rfl⟩
  have hb : (st ++ [MO.dic (kd P)])[st.length]? = some (.dic (kd P)) := get_new
  obtain ⟨b, n', st', ks', c, g1, su, fr, bl, bd, bs, bt, nl, nu, sl', keep⟩ := genB H ns hN D m deep hD t st.length (n + 3 + many4 ns n) (st ++ [.dic (kd P)]) P (d + 5) (by rw [List.length_append]; omega) (by omega) hb (by omega) (by omega) hm (by omega)
  refine ⟨⟨P, b⟩, n', st', ?_, ⟨⟨k, hk, rfl⟩, fr, ⟨ks', su⟩, bl, bd, bs, bt⟩, by omega, by omega, by rw [List.length_append] at sl'; omega, fun i hi hit => ?_⟩
  · exact inF_rt hpr rfl (sM nmc (by kernel_rfl) (sM dr (by kernel_rfl) (sM sl (by kernel_rfl) (sM lc (by kernel_rfl) (sM dc (by kernel_rfl) (sM c (by kernel_rfl) (by kernel_rfl)))))))
  · rw [keep i (by rw [List.length_append]; omega) (by omega) hit, get_app hi]
/-- drawn inputs -/
theorem inputs_go (H : HasG G) (ns : List Int) {t : Nat} {st : Store} (ht : t < st.length) (pm : MV) (d : Nat) : ∀ (l : List Str) (n : Nat) (acc : List MV), n + 2 * l.length < 999900 → acc.length + l.length < lim → ∃ is : List Int, is.length = l.length ∧ (∀ i ∈ is, 0 ≤ i ∧ i ≤ 999) ∧
    lcGo (fun x st => lcStep (evalE (callF G (d + 4)) (.lit (.bl true))) (evalE (callF G (d + 4)) d__law_inputs_e1) (bindT st (.name 3) x (wipeE [some (scr ns), some (.loc t), some pm, none] [3])) st) (l.map MV.str) acc (tw st t n) = .ok (acc ++ is.map MV.int) (tw st t (n + 2 * l.length))
  | [], n, acc, _, _ => ⟨[], rfl, (fun i h => by cases h), by simp [lcGo]⟩
  | x :: l, n, acc, hn, ha => by
    rw [List.length_cons] at hn ha
    have dr := draw_spec H ns ht (n := n) (by omega) 1000 (by decide) (d + 1)
    obtain ⟨i, i0, i1, pn⟩ := pick_num H ns ht (n := n + 1) (by omega) (mixed ns (n + 1) 1000) ⟨mixed_ge _ _ (by decide), by have := mixed_lt ns (n + 1) (many := 1000) (by decide); omega⟩ d
    obtain ⟨is, h1, h2, h3⟩ := inputs_go H ns ht pm d l (n + 2) (acc ++ [.int i]) (by omega) (by rw [List.length_append, List.length_singleton]; omega)
    refine ⟨i :: is, by simp [h1], ?_, ?_⟩
    · intro k hk
      rcases List.mem_cons.mp hk with rfl | hk
      · exact ⟨i0, i1⟩
      · exact h2 k hk
    · have e : evalE (callF G (d + 4)) d__law_inputs_e1 [some (scr ns), some (.loc t), some pm, some (.str x)] (tw st t n) = .ok (.int i) (tw st t (n + 2)) := inE (sM dr (by kernel_rfl) (sM pn (by kernel_rfl) (by kernel_rfl)))
      have e1 : lcStep (evalE (callF G (d + 4)) (.lit (.bl true))) (evalE (callF G (d + 4)) d__law_inputs_e1) (bindT (tw st t n) (.name 3) (.str x) (wipeE [some (scr ns), some (.loc t), some pm, none] [3])) (tw st t n) = .ok (some (.int i)) (tw st t (n + 2)) := by
        show (match evalE (callF G (d + 4)) d__law_inputs_e1 [some (scr ns), some (.loc t), some pm, some (.str x)] (tw st t n) with | .ok v st => Res.ok (some v) st | _ => .err) = _
        rw [e]
      rw [List.map_cons]
      simp only [lcGo, e1]
      rw [if_pos (by omega), h3]
      rw [List.append_assoc, List.length_cons]
      have : n + 2 + 2 * l.length = n + 2 * (l.length + 1) := by omega
      rw [this]; rfl
theorem inputs_spec (H : HasG G) (hin : G (.fn "_law_inputs") = some d__law_inputs) (ns : List Int) {t n : Nat} {st : Store} (ht : t < st.length) (p : Prg) (hp : p.params.length ≤ 3) (hn : n + 10 < 999900) (d : Nat) :
    ∃ is n', callF G (d + 5) (.fn "_law_inputs") [scr ns, .loc t, p.mv] (tw st t n) = .ok (insMV is) (tw st t n') ∧ Ins p is ∧ n ≤ n' ∧ n' ≤ n + 6 := by
  have hlim : lim = 16777216 := rfl
  obtain ⟨is, h1, h2, h3⟩ := inputs_go H ns ht p.mv d p.params n [] (by omega) (by rw [List.length_nil]; omega)
  refine ⟨is, n + 2 * p.params.length, ?_, ⟨h1, h2⟩, by omega, by omega⟩
  have lc : evalE (callF G (d + 4)) d__law_inputs_lc1 [some (scr ns), some (.loc t), some p.mv, none] (tw st t n) = .ok (.lst (is.map MV.int)) (tw st t (n + 2 * p.params.length)) := by
    have hi : evalE (callF G (d + 4)) (.cons (.op .ix (.cons (.var 2) (.cons (.lit (.int 0)) .nil))) .nil) [some (scr ns), some (.loc t), some p.mv, none] (tw st t n) = .ok (.tup [.tup (p.params.map MV.str)]) (tw st t n) := by kernel_rfl
    have hx : items .seq [.tup (p.params.map MV.str)] (tw st t n) = some (p.params.map MV.str, none) := rfl
    unfold d__law_inputs_lc1
    simp only [evalE, hi, itR, hx]
    exact congrArg (lcEnd true none) h3
  exact inF_rt hin rfl (sM lc (by kernel_rfl) (by kernel_rfl))
end Mi.Sh
set_option Elab.async false
set_option linter.all false
set_option maxRecDepth 100000
set_option maxHeartbeats 1000000
/-! PlMost: most_of, most_makes; the store of a law. -/
namespace Mi.Sh
open PySem Mi
variable {G : Tab}
def iM (a : Blk) : MV := .int (a.most : Int)
theorem max1_two {a b : Int} {st : Store} : runOp .max1 [.lst [.int a, .int b]] st = .ok (.int (if b > a then b else a)) st := rfl
theorem most_turn (HP : HasP G) (r : Row) (m : Int) (e0 e3 e4 : Option MV) (st : Store) (d : Nat) (ha : ∀ a ∈ r.blks, callF G (d + 1) (.fn "most_of") [a.mv] st = .ok (iM a) st) :
    execS (callF G (d + 1)) d_most_of_fb1 [e0, some (.int m), some r.mv, e3, e4] st = .ok (.nx [e0, some (.int (m + (r.most : Int))), some r.mv, some (.lst (r.blks.map iM)), e4]) st := by
  have hb := blocks_of_spec HP r d st
  have h1 : ∀ m' : Int, evalE (callF G (d + 1)) d_most_of_lc1 [e0, some (.int m'), some r.mv, e3, e4] st = .ok (.lst (r.blks.map iM)) st := fun m' =>
    ev_lc r.blks Blk.mv iM (vs := [.lst (r.blks.map Blk.mv)]) (inE (sM hb (by kernel_rfl) (by kernel_rfl))) rfl (by cases r <;> simp [Row.blks] <;> decide) fun a hm => ⟨[e0, some (.int m'), some r.mv, e3, some a.mv], rfl, rfl, eC (ha a hm) (by kernel_rfl) (by kernel_rfl)⟩
  rcases row_cases r with hs | ⟨x, p, q, rfl⟩ | ⟨x, p, rfl⟩
  · cases r <;> first | (cases hs; done) | skip
    case make t x y => exact inS (sM (h1 (m + 1)) (by kernel_rfl) (by kernel_rfl))
    all_goals
      have e : ∀ r : Row, r.most = 0 → m + (r.most : Int) = m + 0 := fun r h => by rw [h]; rfl
      rw [e _ rfl]
      exact inS (sM (h1 (m + 0)) (by kernel_rfl) (by kernel_rfl))
  · have e2 : m + ((Row.ifr x p q).most : Int) = (m + 0) + (if (q.most : Int) > (p.most : Int) then (q.most : Int) else (p.most : Int)) := by
      show m + ((max p.most q.most : Nat) : Int) = _
      split <;> omega
    rw [e2]
    exact inS (sM (h1 (m + 0)) (by kernel_rfl) (sM (max1_two (a := p.most) (b := q.most) (st := st)) (by kernel_rfl) (by kernel_rfl)))
  · have e2 : m + ((Row.loop x p).most : Int) = (m + 0) + 9 * (p.most : Int) := by
      show m + ((9 * p.most : Nat) : Int) = _
      omega
    rw [e2]
    exact inS (sM (h1 (m + 0)) (by kernel_rfl) (sF 1 (sM (mul_l (a := 9) (b := p.most) (st := st) (by decide) (by decide)) (by kernel_rfl) (by kernel_rfl))))
theorem most_of_spec (HP : HasP G) (HM : HasM G) (st : Store) : ∀ (b : Blk) (d : Nat), 2 + b.deep ≤ d → callF G d (.fn "most_of") [b.mv] st = .ok (iM b) st := by
  intro b
  induction b using blk_ind with
  | h b ih =>
    intro d hd
    obtain ⟨d, rfl⟩ : ∃ e, d = e + 2 := ⟨d - 2, by omega⟩
    have key : ∀ (c : Blk), (∀ r ∈ c.rows, r ∈ b.rows) → ∀ (m : Int) (e0 e2 e3 e4 : Option MV), ∃ e2' e3', forGo (fun x env st => forStep (execS (callF G (d + 1)) d_most_of_fb1) (bindT st (.name 2) x env) st) none c.mvs [e0, some (.int m), e2, e3, e4] st = .ok (.nx [e0, some (.int (m + (c.most : Int))), e2', e3', e4]) st := by
      intro c
      induction c using Blk.rec (motive_1 := fun _ => True) with
      | nil => intro _ m e0 e2 e3 e4; exact ⟨e2, e3, by rw [show m + ((Blk.nil.most : Nat) : Int) = m from Int.add_zero m]; rfl⟩
      | cons r c _ ihc =>
        intro hsub m e0 e2 e3 e4
        have hr := hsub r (List.mem_cons_self ..)
        have hdr := deep_rows r hr
        obtain ⟨e2', e3', ih2⟩ := ihc (fun r' h => hsub r' (List.mem_cons_of_mem _ h)) (m + (r.most : Int)) e0 (some r.mv) (some (.lst (r.blks.map iM))) e4
        refine ⟨e2', e3', ?_⟩
        have e : m + ((Blk.cons r c).most : Int) = m + (r.most : Int) + (c.most : Int) := by
          show m + ((r.most + c.most : Nat) : Int) = _
          omega
        rw [e, ← ih2]
        exact for_cons (step_some (env1 := [e0, some (.int m), some r.mv, e3, e4]) rfl (most_turn HP r m e0 e3 e4 st d fun a ha => ih r hr a ha (d + 1) (by have := blks_deep ha; omega)))
      | _ => trivial
    obtain ⟨e2, e3, h⟩ := key b (fun _ h => h) 0 (some b.mv) none none none
    rw [Int.zero_add] at h
    exact inF_rt HM.most_of rfl (sO (ex_for (st := st) (vs := [b.mv]) (st1 := st) (xs := b.mvs) (l := none) (k := .seq) (it := .cons (.var 0) .nil) (env := [some b.mv, some (.int 0), none, none, none]) (by kernel_rfl) rfl h) (by kernel_rfl) (by kernel_rfl))
theorem most_makes_spec (HP : HasP G) (HM : HasM G) (p : Prg) (hp : p.Ok) (d : Nat) (st : Store) : ∃ j, callF G (d + 22) (.fn "most_makes") [p.mv] st = .ok (iM p.body) (st ++ j) := by
  obtain ⟨j, h⟩ := need_program_ok HP p hp d st
  have hdeep := built_deep p.body 0 hp.built.body (by omega)
  exact ⟨j, inF_rt HM.most_makes rfl (sM h (by kernel_rfl) (sM (most_of_spec HP HM (st ++ j) p.body (d + 21) (by omega)) (by kernel_rfl) (by kernel_rfl)))⟩
/-! ### the store of a law -/
theorem tw_fr {st st' : Store} {t n : Nat} (ht : t < st.length) (h : Fr (tw st t n).length (tw st t n) st') : st' = tw st' t n ∧ t < st'.length := by
  have h1 := h.1
  rw [tw_len] at h1
  have h2 := h.2 t (by rw [tw_len]; exact ht)
  rw [tw_at ht] at h2
  exact ⟨(set_same h2).symm, by omega⟩
end Mi.Sh
set_option Elab.async false
set_option linter.all false
set_option maxRecDepth 100000
set_option maxHeartbeats 1000000
/-! PlGen7: the second form of drawn programs: rows dropped until there are few. -/
namespace Mi
open PySem
def Blk.take : Nat → Blk → Blk
  | 0, _ => .nil
  | _ + 1, .nil => .nil
  | n + 1, .cons r b => .cons r (b.take n)
theorem take_mvs : ∀ (n : Nat) (b : Blk), (b.take n).mvs = b.mvs.take n
  | 0, b => by simp [Blk.take, Blk.mvs]
  | _ + 1, .nil => by simp [Blk.take, Blk.mvs]
  | n + 1, .cons r b => by simp [Blk.take, Blk.mvs, take_mvs n b]
theorem mvs_len : ∀ b : Blk, b.mvs.length = b.length
  | .nil => rfl
  | .cons r b => by show b.mvs.length + 1 = b.length + 1; rw [mvs_len b]
theorem take_len : ∀ (n : Nat) (b : Blk), (b.take n).length = min n b.length
  | 0, b => by simp [Blk.take, Blk.length]
  | _ + 1, .nil => by simp [Blk.take, Blk.length]
  | n + 1, .cons r b => by
    show (b.take n).length + 1 = min (n + 1) (b.length + 1)
    rw [take_len n b]; omega
theorem take_take : ∀ (m n : Nat) (b : Blk), (b.take n).take m = b.take (min m n)
  | 0, n, b => by simp [Blk.take]
  | m + 1, 0, b => by simp [Blk.take]
  | m + 1, n + 1, .nil => by
    have : min (m + 1) (n + 1) = min m n + 1 := by omega
    rw [this]; rfl
  | m + 1, n + 1, .cons r b => by
    have : min (m + 1) (n + 1) = min m n + 1 := by omega
    rw [this]
    show Blk.cons r ((b.take n).take m) = Blk.cons r (b.take (min m n))
    rw [take_take m n b]
theorem take_all : ∀ (n : Nat) (b : Blk), b.length ≤ n → b.take n = b
  | 0, .nil, _ => rfl
  | 0, .cons r b, h => by have h : b.length + 1 ≤ 0 := h; omega
  | n + 1, .nil, _ => rfl
  | n + 1, .cons r b, h => by
    have h : b.length + 1 ≤ n + 1 := h
    show Blk.cons r (b.take n) = _
    rw [take_all n b (by omega)]
theorem take_frm {N T : List Str} : ∀ (n : Nat) (b : Blk), b.frm N T → (b.take n).frm N T
  | 0, _, _ => trivial
  | _ + 1, .nil, _ => trivial
  | n + 1, .cons r b, h => ⟨h.1, take_frm n b h.2⟩
theorem take_size : ∀ (n : Nat) (b : Blk), (b.take n).size ≤ b.size
  | 0, b => Nat.zero_le _
  | _ + 1, .nil => Nat.le_refl _
  | n + 1, .cons r b => by show r.size + (b.take n).size ≤ r.size + b.size; have := take_size n b; omega
theorem take_steps : ∀ (n : Nat) (b : Blk), (b.take n).steps ≤ b.steps
  | 0, b => Nat.zero_le _
  | _ + 1, .nil => Nat.le_refl _
  | n + 1, .cons r b => by show r.steps + (b.take n).steps ≤ r.steps + b.steps; have := take_steps n b; omega
theorem take_deep : ∀ (n : Nat) (b : Blk), (b.take n).deep ≤ b.deep
  | 0, b => Nat.zero_le _
  | _ + 1, .nil => Nat.le_refl _
  | n + 1, .cons r b => by show max r.deep (b.take n).deep ≤ max r.deep b.deep; have := take_deep n b; omega
theorem take_surely : ∀ (n : Nat) (b : Blk) (ks ks' : List Str), b.surely ks = some ks' → ∃ k2, (b.take n).surely ks = some k2
  | 0, b, ks, _, _ => ⟨ks, rfl⟩
  | _ + 1, .nil, ks, _, _ => ⟨ks, rfl⟩
  | n + 1, .cons r b, ks, ks', h => by
    obtain ⟨h1, k1, h2, h3⟩ := surely_cons h
    obtain ⟨k2, h4⟩ := take_surely n b k1 ks' h3
    exact ⟨k2, surely_cons_of h1 h2 h4⟩
end Mi
namespace Mi.Sh
open PySem Mi
variable {G : Tab}
def szMV (a : Blk) : MV := .int (a.size : Int)
theorem law_size_turn (r : Row) (m : Int) (e0 e3 : Option MV) (st : Store) (F : Fn) (ha : ∀ a ∈ r.blks, F (.fn "_law_size") [a.mv] st = .ok (szMV a) st) :
    execS F d__law_size_fb1 [e0, some (.int m), some r.mv, e3] st = .ok (.nx [e0, some (.int (m + (r.size : Int))), some r.mv, e3]) st := by
  rcases row_cases r with hs | ⟨x, p, q, rfl⟩ | ⟨x, p, rfl⟩
  · have e : m + (r.size : Int) = m + 1 := by
      have : r.size = 1 := by cases r <;> first | rfl | (cases hs; done)
      rw [this]; rfl
    rw [e]
    refine inS ?_
    cases r <;> first | (cases hs; done) | kernel_rfl
  · have l1 : evalE F d__law_size_lc1 [e0, some (.int (m + 1)), some (Row.ifr x p q).mv, e3] st = .ok (.lst [szMV p, szMV q]) st :=
      ev_lc [p, q] Blk.mv szMV (vs := [.tup [p.mv, q.mv]]) (by kernel_rfl) rfl (by show 2 ≤ lim; decide) fun a h => ⟨[e0, some (.int (m + 1)), some (Row.ifr x p q).mv, some a.mv], rfl, rfl, eC (ha a h) (by kernel_rfl) (by kernel_rfl)⟩
    have e : m + ((Row.ifr x p q).size : Int) = m + 1 + [(p.size : Int), (q.size : Int)].sum := by
      show m + ((1 + (p.size + q.size) : Nat) : Int) = _
      simp; omega
    rw [e]
    exact inS (sM l1 (by kernel_rfl) (sM (sum_op (st := st) (v := .lst [szMV p, szMV q]) (is := [(p.size : Int), (q.size : Int)]) rfl) (by kernel_rfl) (by kernel_rfl)))
  · have l1 : evalE F d__law_size_lc1 [e0, some (.int (m + 1)), some (Row.loop x p).mv, e3] st = .ok (.lst [szMV p]) st :=
      ev_lc [p] Blk.mv szMV (vs := [.tup [p.mv]]) (by kernel_rfl) rfl (by show 1 ≤ lim; decide) fun a h => ⟨[e0, some (.int (m + 1)), some (Row.loop x p).mv, some a.mv], rfl, rfl, eC (ha a h) (by kernel_rfl) (by kernel_rfl)⟩
    have e : m + ((Row.loop x p).size : Int) = m + 1 + [(p.size : Int)].sum := by
      show m + ((1 + p.size : Nat) : Int) = _
      simp; omega
    rw [e]
    exact inS (sM l1 (by kernel_rfl) (sM (sum_op (st := st) (v := .lst [szMV p]) (is := [(p.size : Int)]) rfl) (by kernel_rfl) (by kernel_rfl)))
theorem law_size_spec (hsz : G (.fn "_law_size") = some d__law_size) (st : Store) : ∀ (b : Blk) (d : Nat), 1 + b.deep ≤ d → callF G d (.fn "_law_size") [b.mv] st = .ok (szMV b) st := by
  intro b
  induction b using blk_ind with
  | h b ih =>
    intro d hd
    obtain ⟨d, rfl⟩ : ∃ e, d = e + 1 := ⟨d - 1, by omega⟩
    have key : ∀ (c : Blk), (∀ r ∈ c.rows, r ∈ b.rows) → ∀ (m : Int) (e0 e2 e3 : Option MV), ∃ e2', forGo (fun x env st => forStep (execS (callF G d) d__law_size_fb1) (bindT st (.name 2) x env) st) none c.mvs [e0, some (.int m), e2, e3] st = .ok (.nx [e0, some (.int (m + (c.size : Int))), e2', e3]) st := by
      intro c
      induction c using Blk.rec (motive_1 := fun _ => True) with
      | nil => intro _ m e0 e2 e3; exact ⟨e2, by rw [show m + ((Blk.nil.size : Nat) : Int) = m from Int.add_zero m]; rfl⟩
      | cons r c _ ihc =>
        intro hsub m e0 e2 e3
        have hr := hsub r (List.mem_cons_self ..)
        have hdr := deep_rows r hr
        obtain ⟨e2', ih2⟩ := ihc (fun r' h => hsub r' (List.mem_cons_of_mem _ h)) (m + (r.size : Int)) e0 (some r.mv) e3
        refine ⟨e2', ?_⟩
        have e : m + ((Blk.cons r c).size : Int) = m + (r.size : Int) + (c.size : Int) := by
          show m + ((r.size + c.size : Nat) : Int) = _
          omega
        rw [e, ← ih2]
        exact for_cons (step_some (env1 := [e0, some (.int m), some r.mv, e3]) rfl (law_size_turn r m e0 e3 st (callF G d) fun a ha => ih r hr a ha d (by have := blks_deep ha; omega)))
      | _ => trivial
    obtain ⟨e2, h⟩ := key b (fun _ h => h) 0 (some b.mv) none none
    rw [Int.zero_add] at h
    exact inF_rt hsz rfl (sO (ex_for (st := st) (vs := [b.mv]) (st1 := st) (xs := b.mvs) (l := none) (k := .seq) (it := .cons (.var 0) .nil) (env := [some b.mv, some (.int 0), none, none]) (by kernel_rfl) rfl h) (by kernel_rfl) (by kernel_rfl))
theorem cut_init {α : Type} (xs : List α) : cut xs none (some (-1)) = xs.take (xs.length - 1) := by
  unfold cut
  have e1 : HT.sIx xs.length 0 none = 0 := rfl
  have e2 : HT.sIx xs.length xs.length (some (-1)) = xs.length - 1 := by
    show (if (-1 : Int) < 0 then ((-1 : Int) + (xs.length : Int)).toNat else min (-1 : Int).toNat xs.length) = _
    rw [if_pos (by decide)]; omega
  rw [e1, e2, List.drop_zero, Nat.sub_zero]
/-- rows dropped -/
theorem drop_while (hsz : G (.fn "_law_size") = some d__law_size) (st : Store) (d : Nat) (e0 e1 e2 e3 e4 e5 e6 e8 : Option MV) : ∀ (fuel : Nat) (b : Blk), b.length < fuel → 1 + b.deep ≤ d →
    ∃ k, whileGo (evalE (callF G d) d__law_program2_wc1) (execS (callF G d) d__law_program2_wb1) fuel [e0, e1, e2, e3, e4, e5, e6, some b.mv, e8] st = .ok (.nx [e0, e1, e2, e3, e4, e5, e6, some (b.take k).mv, e8]) st ∧ (b.take k).size ≤ 100
  | 0, b, h, _ => by omega
  | fuel + 1, b, h, hd => by
    have c := law_size_spec hsz st b d hd
    by_cases hs : b.size ≤ 100
    · have hc : evalE (callF G d) d__law_program2_wc1 [e0, e1, e2, e3, e4, e5, e6, some b.mv, e8] st = .ok (.bl false) st := inE (sM c (by kernel_rfl) (sM (gt_f (a := (b.size : Nat)) (b := 100) (st := st) (by omega)) (by kernel_rfl) (by kernel_rfl)))
      refine ⟨b.length, ?_, by rw [take_all _ _ (Nat.le_refl _)]; exact hs⟩
      rw [take_all _ _ (Nat.le_refl _)]
      simp only [whileGo, hc, onB_false]
    · have hc : evalE (callF G d) d__law_program2_wc1 [e0, e1, e2, e3, e4, e5, e6, some b.mv, e8] st = .ok (.bl true) st := inE (sM c (by kernel_rfl) (sM (gt_t (a := (b.size : Nat)) (b := 100) (st := st) (by omega)) (by kernel_rfl) (by kernel_rfl)))
      have hpos : 1 ≤ b.length := by
        cases b with
        | nil => exact absurd (Nat.zero_le 100) hs
        | cons r b => show 1 ≤ b.length + 1; omega
      have hb : execS (callF G d) d__law_program2_wb1 [e0, e1, e2, e3, e4, e5, e6, some b.mv, e8] st = .ok (.nx [e0, e1, e2, e3, e4, e5, e6, some (b.take (b.length - 1)).mv, e8]) st := by
        have e : (b.take (b.length - 1)).mv = .tup (cut b.mvs none (some (-1))) := by
          show MV.tup (b.take (b.length - 1)).mvs = _
          rw [take_mvs, cut_init, mvs_len]
        rw [e]
        exact inS (by kernel_rfl)
      obtain ⟨k, hk, hz⟩ := drop_while hsz st d e0 e1 e2 e3 e4 e5 e6 e8 fuel (b.take (b.length - 1)) (by rw [take_len]; omega) (by have := take_deep (b.length - 1) b; omega)
      rw [take_take] at hk hz
      exact ⟨_, by simp only [whileGo, hc, onB_true, hb, whileK, hk], hz⟩
theorem program2_spec (H : HasG G) (hpr : G (.fn "_law_program") = some d__law_program2) (hsz : G (.fn "_law_size") = some d__law_size) (ns : List Int) {t n m D deep : Nat} {st : Store} (ht : t < st.length) (hn : n + (10 + m * rd m D) < 999900) (hz : m * rz m D < 100000) (hm : m ≤ 1000) (hD : deep ≤ D) (d : Nat) (hdd : 7 + deep ≤ d + 5) :
    ∃ p n' st', callF G (d + 6) (.fn "_law_program") [scr ns, .loc t, .int m, .int deep] (tw st t n) = .ok p.mv (tw st' t n') ∧ Drawn (NN ns n) (TT ns n) m D deep p ∧ p.body.size ≤ 100 ∧ n ≤ n' ∧ n' ≤ n + (10 + m * rd m D) ∧ st.length ≤ st'.length ∧ (∀ i, i < st.length → i ≠ t → st'[i]? = st[i]?) := by
  have hN := nms ns n
  have hm4 : many4 ns n ≤ 3 := by
    have m0 := mixed_ge ns (n + 1) (many := 4) (by decide)
    have m1 := mixed_lt ns (n + 1) (many := 4) (by decide)
    unfold many4; omega
  obtain ⟨k, hk, dr, sl, dc⟩ := program_head H ns (n := n) ht (by omega) (d + 1)
  have nmc := names_spec H ns (n := n) ht (by omega) d
  let P := (NN ns n).take k
  let S := tw st t (n + 3 + many4 ns n)
  have hPl : P.length ≤ 3 := by show ((NN ns n).take k).length ≤ 3; rw [List.length_take]; omega
  have lc : evalE (callF G (d + 5)) d__law_program2_lc1 [some (scr ns), some (.loc t), some (.int m), some (.int deep), some (nmv (NN ns n) (TT ns n)), some (.tup (P.map MV.str)), none, none, none] S = .ok (.lst (P.map fun x => .tup [.str x, .bl true])) S :=
    ev_lc P MV.str (fun x => .tup [.str x, .bl true]) (vs := [.tup (P.map MV.str)]) (by kernel_rfl) rfl (Nat.le_trans hPl (by decide)) fun x hx => ⟨[some (scr ns), some (.loc t), some (.int m), some (.int deep), some (nmv (NN ns n) (TT ns n)), some (.tup (P.map MV.str)), none, none, some (.str x)], rfl, rfl, by kernel_rfl⟩
  have hb : (st ++ [MO.dic (kd P)])[st.length]? = some (.dic (kd P)) := get_new
  obtain ⟨b, n', st', ks', c, g1, su, fr, bl, bd, bs, bt, nl, nu, sl', keep⟩ := genB H ns hN D m deep hD t st.length (n + 3 + many4 ns n) (st ++ [.dic (kd P)]) P (d + 5) (by rw [List.length_append]; omega) (by omega) hb (by omega) (by omega) hm (by omega)
  obtain ⟨k2, hw, h100⟩ := drop_while hsz (tw st' t n') (d + 5) (some (scr ns)) (some (.loc t)) (some (.int m)) (some (.int deep)) (some (nmv (NN ns n) (TT ns n))) (some (.tup (P.map MV.str))) (some (.loc st.length)) none turns b (by have : turns = 100000 := rfl; omega) (by omega)
  obtain ⟨k3, su2⟩ := take_surely k2 b P ks' su
  have t1 := take_len k2 b
  have t2 := take_deep k2 b
  have t3 := take_size k2 b
  have t4 := take_steps k2 b
  refine ⟨⟨P, b.take k2⟩, n', st', ?_, ⟨⟨k, hk, rfl⟩, take_frm k2 b fr, ⟨k3, su2⟩, by show (b.take k2).length ≤ m; omega, by show (b.take k2).deep ≤ deep; omega, by show (b.take k2).size ≤ _; omega, by show (b.take k2).steps ≤ _; omega⟩, h100, by omega, by omega, by rw [List.length_append] at sl'; omega, fun i hi hit => ?_⟩
  · have hw' : execS (callF G (d + 5)) d__law_program2_wh1 [some (scr ns), some (.loc t), some (.int m), some (.int deep), some (nmv (NN ns n) (TT ns n)), some (.tup (P.map MV.str)), some (.loc st.length), some b.mv, none] (tw st' t n') = _ := hw
    exact inF_rt hpr rfl (sM nmc (by kernel_rfl) (sM dr (by kernel_rfl) (sM sl (by kernel_rfl) (sM lc (by kernel_rfl) (sM dc (by kernel_rfl) (sM c (by kernel_rfl) (sO hw' (by kernel_rfl) (by kernel_rfl))))))))
  · rw [keep i (by rw [List.length_append]; omega) (by omega) hit, get_app hi]
end Mi.Sh
set_option Elab.async false
set_option linter.all false
set_option maxRecDepth 100000
set_option maxHeartbeats 1000000
/-! PlApp: rows behind rows; what only grows. -/
namespace Mi
open PySem
def Blk.app : Blk → Blk → Blk
  | .nil, c => c
  | .cons r b, c => .cons r (b.app c)
theorem app_mvs : ∀ a b : Blk, (a.app b).mvs = a.mvs ++ b.mvs
  | .nil, b => rfl
  | .cons r a, b => by show r.mv :: (a.app b).mvs = r.mv :: (a.mvs ++ b.mvs); rw [app_mvs a b]
theorem app_len : ∀ a b : Blk, (a.app b).length = a.length + b.length
  | .nil, b => by show b.length = 0 + b.length; omega
  | .cons r a, b => by show (a.app b).length + 1 = a.length + 1 + b.length; rw [app_len a b]; omega
theorem app_size : ∀ a b : Blk, (a.app b).size = a.size + b.size
  | .nil, b => by show b.size = 0 + b.size; omega
  | .cons r a, b => by show r.size + (a.app b).size = r.size + a.size + b.size; rw [app_size a b]; omega
theorem app_steps : ∀ a b : Blk, (a.app b).steps = a.steps + b.steps
  | .nil, b => by show b.steps = 0 + b.steps; omega
  | .cons r a, b => by show r.steps + (a.app b).steps = r.steps + a.steps + b.steps; rw [app_steps a b]; omega
theorem app_most : ∀ a b : Blk, (a.app b).most = a.most + b.most
  | .nil, b => by show b.most = 0 + b.most; omega
  | .cons r a, b => by show r.most + (a.app b).most = r.most + a.most + b.most; rw [app_most a b]; omega
theorem app_deep : ∀ a b : Blk, (a.app b).deep = max a.deep b.deep
  | .nil, b => by show b.deep = max 0 b.deep; omega
  | .cons r a, b => by show max r.deep (a.app b).deep = max (max r.deep a.deep) b.deep; rw [app_deep a b]; omega
theorem app_frm {N T : List Str} : ∀ {a b : Blk}, a.frm N T → b.frm N T → (a.app b).frm N T
  | .nil, b, _, h => h
  | .cons r a, b, h1, h2 => ⟨h1.1, app_frm h1.2 h2⟩
theorem app_wk {κ : Str → Bool} : ∀ {a b : Blk}, a.wk κ → b.wk κ → (a.app b).wk κ
  | .nil, b, _, h => h
  | .cons r a, b, h1, h2 => ⟨h1.1, app_wk h1.2 h2⟩
theorem app_exec : ∀ (a b : Blk) pl n s, (a.app b).exec pl n s = b.exec pl (n + a.length) (a.exec pl n s)
  | .nil, b, pl, n, s => rfl
  | .cons r a, b, pl, n, s => by
    show (a.app b).exec pl (n + 1) (r.exec (pl ++ [n]) s) = b.exec pl (n + (a.length + 1)) (a.exec pl (n + 1) (r.exec (pl ++ [n]) s))
    rw [app_exec a b]
    congr 1
    omega
theorem app_surely : ∀ (a b : Blk) ks, (a.app b).surely ks = (a.surely ks).bind b.surely
  | .nil, b, ks => rfl
  | .cons r a, b, ks => by
    show (if r.reads.all (fun x => decide (x ∈ ks)) then (r.surely ks).bind (a.app b).surely else none) = (if r.reads.all (fun x => decide (x ∈ ks)) then (r.surely ks).bind a.surely else none).bind b.surely
    split
    · rw [Option.bind_assoc]
      congr 1
      funext k
      exact app_surely a b k
    · rfl
def Sub (a b : List Str) : Prop := ∀ x ∈ a, x ∈ b
theorem kput_sub {a b : List Str} (h : Sub a b) (x : Str) : Sub (kput a x) (kput b x) := by
  intro y hy
  rcases (mem_kput a x y).mp hy with hy | hy
  · exact (mem_kput b x y).mpr (.inl (h y hy))
  · exact (mem_kput b x y).mpr (.inr hy)
/-- more set ahead, more set behind -/
theorem surely_mono : (∀ (b : Blk) ks ks' ls, Sub ks ls → b.surely ks = some ks' → ∃ ls', b.surely ls = some ls' ∧ Sub ks' ls') ∧ ∀ (r : Row) ks ks' ls, Sub ks ls → r.surely ks = some ks' → ∃ ls', r.surely ls = some ls' ∧ Sub ks' ls' := by
  apply blk_ind2
  · intro ks ks' ls h e; cases e; exact ⟨ls, rfl, h⟩
  · intro r b hr hb ks ks' ls h e
    obtain ⟨h1, k1, h2, h3⟩ := surely_cons e
    obtain ⟨l1, a1, a2⟩ := hr ks k1 ls h h2
    obtain ⟨l2, b1, b2⟩ := hb k1 ks' l1 a2 h3
    exact ⟨l2, surely_cons_of (fun x hx => h x (h1 x hx)) a1 b1, b2⟩
  · intro r hs ks ks' ls h e
    have e1 : ∀ ks, r.surely ks = some (match r.sets with | some x => kput ks x | none => ks) := fun ks => by
      cases r <;> first | rfl | (cases hs; done)
    rw [e1] at e
    cases e
    refine ⟨_, e1 ls, ?_⟩
    cases r.sets with
    | none => exact h
    | some x => exact kput_sub h x
  · intro x p q hp hq ks ks' ls h e
    simp only [Row.surely] at e
    split at e
    · rename_i k1 k2 h1 h2
      cases e
      obtain ⟨l1, a1, a2⟩ := hp ks k1 ls h h1
      obtain ⟨l2, b1, b2⟩ := hq ks k2 ls h h2
      refine ⟨both l1 l2 ls, by simp only [Row.surely, a1, b1], fun y hy => ?_⟩
      rcases mem_both.mp hy with hy | hy
      · exact mem_both.mpr (.inl (h y hy))
      · exact mem_both.mpr (.inr ⟨a2 y hy.1, b2 y hy.2⟩)
    · cases e
  · intro x p hp ks ks' ls h e
    simp only [Row.surely] at e
    obtain ⟨k1, h1, rfl⟩ := Option.map_eq_some_iff.mp e
    obtain ⟨l1, a1, a2⟩ := hp ks k1 ls h h1
    exact ⟨ls, by simp only [Row.surely, a1]; rfl, h⟩
/-- notes and things outside are only added to -/
def Grow (s s' : RS) : Prop := (∃ e, s'.noted = s.noted ++ e) ∧ (∃ e, s'.given = s.given ++ e) ∧ s.things.length ≤ s'.things.length
theorem Grow.refl (s : RS) : Grow s s := ⟨⟨[], by simp⟩, ⟨[], by simp⟩, Nat.le_refl _⟩
theorem Grow.trans {a b c : RS} (h1 : Grow a b) (h2 : Grow b c) : Grow a c := by
  obtain ⟨⟨e1, h1⟩, ⟨e2, h3⟩, h5⟩ := h1
  obtain ⟨⟨e3, h2⟩, ⟨e4, h4⟩, h6⟩ := h2
  exact ⟨⟨e1 ++ e3, by rw [h2, h1, List.append_assoc]⟩, ⟨e2 ++ e4, by rw [h4, h3, List.append_assoc]⟩, by omega⟩
theorem loopN_grow {c : RS → Bool} {f : RS → RS} (h : ∀ s, Grow s (f s)) : ∀ n s, Grow s (loopN c f n s)
  | 0, s => .refl s
  | n + 1, s => by
    simp only [loopN]
    split
    · exact (h s).trans (loopN_grow h n (f s))
    · exact .refl s
theorem exec_grow : (∀ (b : Blk) pl n s, Grow s (b.exec pl n s)) ∧ ∀ (r : Row) pl s, Grow s (r.exec pl s) := by
  apply blk_ind2
  · intro pl n s; exact .refl s
  · intro r b hr hb pl n s; exact (hr (pl ++ [n]) s).trans (hb pl (n + 1) _)
  · intro r hs pl s
    cases r <;> first | (cases hs; done) | skip
    case give t =>
      refine ⟨⟨_, rfl⟩, ?_, Nat.le_refl _⟩
      show ∃ e, (if (s.worth t).toNat ∈ s.given then s.given else s.given ++ [(s.worth t).toNat]) = s.given ++ e
      split
      · exact ⟨[], by simp⟩
      · exact ⟨_, rfl⟩
    case say => exact ⟨⟨_, rfl⟩, ⟨[], by simp [Row.exec]⟩, Nat.le_refl _⟩
    case make => exact ⟨⟨[], by simp [Row.exec]⟩, ⟨[], by simp [Row.exec]⟩, by simp [Row.exec]⟩
    all_goals exact ⟨⟨[], by simp [Row.exec, RS.put]⟩, ⟨[], by simp [Row.exec, RS.put]⟩, by simp [Row.exec, RS.put, stirred_len]⟩
  · intro x p q hp hq pl s
    simp only [Row.exec]
    split
    · exact hq _ _ s
    · exact hp _ _ s
  · intro x p hp pl s
    simp only [Row.exec]
    exact loopN_grow (fun s => hp _ _ s) 9 s
end Mi
set_option Elab.async false
set_option linter.all false
set_option maxRecDepth 100000
set_option maxHeartbeats 1000000
/-! PlData: values as data, compared. -/
namespace Mi
open PySem
/-- a value that is data, of at most so many lists and tuples in one another -/
structure Dt (st : Store) (n : Nat) (v : MV) (d : PyData) : Prop where
  data : ∀ k, n < k → dataOf st k v = some d
  lay : d.canLay0 = true
  deep : d.depth ≤ n
section
variable {st : Store} {n : Nat}
theorem Dt.int (i : Int) : Dt st n (.int i) (.int i) := ⟨fun k h => by obtain ⟨k, rfl⟩ : ∃ e, k = e + 1 := ⟨k - 1, by omega⟩; rfl, by simp [PyData.canLay0], by simp [PyData.depth]⟩
theorem Dt.non : Dt st n .non .none := ⟨fun k h => by obtain ⟨k, rfl⟩ : ∃ e, k = e + 1 := ⟨k - 1, by omega⟩; rfl, by simp [PyData.canLay0], by simp [PyData.depth]⟩
theorem Dt.bl (b : Bool) : Dt st n (.bl b) (.bool b) := ⟨fun k h => by obtain ⟨k, rfl⟩ : ∃ e, k = e + 1 := ⟨k - 1, by omega⟩; rfl, by simp [PyData.canLay0], by simp [PyData.depth]⟩
theorem Dt.str {x : Str} (h : PyData.canLay0 (.str x) = true) : Dt st n (.str x) (.str x) := ⟨fun k hk => by obtain ⟨k, rfl⟩ : ∃ e, k = e + 1 := ⟨k - 1, by omega⟩; rfl, h, by simp [PyData.depth]⟩
theorem Dt.le {m : Nat} {v : MV} {d : PyData} (h : Dt st n v d) (hm : n ≤ m) : Dt st m v d := ⟨fun k hk => h.data k (by omega), h.lay, by have := h.deep; omega⟩
theorem dts_data {α : Type} {f : α → MV} {g : α → PyData} {l : List α} (h : ∀ x ∈ l, Dt st n (f x) (g x)) (k : Nat) (hk : n < k) : (l.map f).mapM (dataOf st k) = some (l.map g) := by
  induction l with
  | nil => rfl
  | cons a l ih =>
    rw [List.map_cons, List.mapM_cons, (h a (List.mem_cons_self ..)).data k hk, ih fun x hx => h x (List.mem_cons_of_mem _ hx)]; rfl
theorem dts_lay {α : Type} {f : α → MV} {g : α → PyData} {l : List α} (h : ∀ x ∈ l, Dt st n (f x) (g x)) : PyData.canLayAll0 (l.map g) = true := by
  induction l with
  | nil => simp [PyData.canLayAll0]
  | cons a l ih => simp only [List.map_cons, PyData.canLayAll0, (h a (List.mem_cons_self ..)).lay, ih fun x hx => h x (List.mem_cons_of_mem _ hx), Bool.and_self]
theorem dts_deep {α : Type} {f : α → MV} {g : α → PyData} {l : List α} (h : ∀ x ∈ l, Dt st n (f x) (g x)) : PyData.depthAll (l.map g) ≤ n := by
  induction l with
  | nil => simp [PyData.depthAll]
  | cons a l ih =>
    have h1 := (h a (List.mem_cons_self ..)).deep
    have h2 := ih fun x hx => h x (List.mem_cons_of_mem _ hx)
    simp only [List.map_cons, PyData.depthAll]; omega
theorem Dt.tup {α : Type} {f : α → MV} {g : α → PyData} {l : List α} (h : ∀ x ∈ l, Dt st n (f x) (g x)) : Dt st (n + 1) (.tup (l.map f)) (.tuple (l.map g)) where
  data k hk := by
    obtain ⟨k, rfl⟩ : ∃ e, k = e + 1 := ⟨k - 1, by omega⟩
    show ((l.map f).mapM (dataOf st k)).map PyData.tuple = _
    rw [dts_data h k (by omega)]; rfl
  lay := by simp only [PyData.canLay0]; exact dts_lay h
  deep := by simp only [PyData.depth]; have := dts_deep h; omega
theorem Dt.lst {α : Type} {f : α → MV} {g : α → PyData} {l : List α} (h : ∀ x ∈ l, Dt st n (f x) (g x)) : Dt st (n + 1) (.lst (l.map f)) (.list (l.map g)) where
  data k hk := by
    obtain ⟨k, rfl⟩ : ∃ e, k = e + 1 := ⟨k - 1, by omega⟩
    show ((l.map f).mapM (dataOf st k)).map PyData.list = _
    rw [dts_data h k (by omega)]; rfl
  lay := by simp only [PyData.canLay0]; exact dts_lay h
  deep := by simp only [PyData.depth]; have := dts_deep h; omega
theorem Dt.loc {α : Type} {f : α → MV} {g : α → PyData} {l : List α} {m : Nat} (hm : st[m]? = some (.lst (l.map f))) (h : ∀ x ∈ l, Dt st n (f x) (g x)) : Dt st (n + 1) (.loc m) (.list (l.map g)) where
  data k hk := by
    obtain ⟨k, rfl⟩ : ∃ e, k = e + 1 := ⟨k - 1, by omega⟩
    simp only [dataOf, hm]
    rw [dts_data h k (by omega)]; rfl
  lay := by simp only [PyData.canLay0]; exact dts_lay h
  deep := by simp only [PyData.depth]; have := dts_deep h; omega
theorem Dt.tup2 {a b : MV} {x y : PyData} (h1 : Dt st n a x) (h2 : Dt st n b y) : Dt st (n + 1) (.tup [a, b]) (.tuple [x, y]) := by
  have := Dt.tup (st := st) (n := n) (f := fun p : MV × PyData => p.1) (g := fun p => p.2) (l := [(a, x), (b, y)]) (by
    intro p hp
    simp only [List.mem_cons, List.not_mem_nil, or_false] at hp
    rcases hp with rfl | rfl
    · exact h1
    · exact h2)
  exact this
theorem Dt.tup3 {a b c : MV} {x y z : PyData} (h1 : Dt st n a x) (h2 : Dt st n b y) (h3 : Dt st n c z) : Dt st (n + 1) (.tup [a, b, c]) (.tuple [x, y, z]) := by
  have := Dt.tup (st := st) (n := n) (f := fun p : MV × PyData => p.1) (g := fun p => p.2) (l := [(a, x), (b, y), (c, z)]) (by
    intro p hp
    simp only [List.mem_cons, List.not_mem_nil, or_false] at hp
    rcases hp with rfl | rfl | rfl
    · exact h1
    · exact h2
    · exact h3)
  exact this
theorem Dt.tup4 {a b c e : MV} {x y z w : PyData} (h1 : Dt st n a x) (h2 : Dt st n b y) (h3 : Dt st n c z) (h4 : Dt st n e w) : Dt st (n + 1) (.tup [a, b, c, e]) (.tuple [x, y, z, w]) := by
  have := Dt.tup (st := st) (n := n) (f := fun p : MV × PyData => p.1) (g := fun p => p.2) (l := [(a, x), (b, y), (c, z), (e, w)]) (by
    intro p hp
    simp only [List.mem_cons, List.not_mem_nil, or_false] at hp
    rcases hp with rfl | rfl | rfl | rfl
    · exact h1
    · exact h2
    · exact h3
    · exact h4)
  exact this
theorem Dt.noDic {v : MV} {d : PyData} (h : Dt st n v d) : dicL st v = none := by
  have := h.data (n + 1) (by omega)
  cases v <;> first | rfl | skip
  rename_i m
  show (match st[m]? with | some (.dic kvs) => some kvs | some (.fdic kvs) => some kvs | _ => none) = none
  simp only [dataOf] at this
  split at this
  · rename_i hm; rw [hm]
  · rename_i hm; rw [hm]
  · cases this
theorem eq_dt {a b : MV} {x y : PyData} {m k : Nat} (h1 : Dt st m a x) (h2 : Dt st k b y) (hm : m ≤ 64) (hk : k ≤ 64) : eqMV st a b = some (x.eqv y) :=
  eqMV_flat h1.noDic (h1.data 65 (by omega)) (h2.data 65 (by omega)) h1.lay h2.lay (by have := h1.deep; omega) (by have := h2.deep; omega)
mutual
theorem eqv_refl : ∀ d : PyData, d.canLay0 = true → d.eqv d = true
  | .none, _ => by simp [PyData.eqv]
  | .bool b, _ => by simp [PyData.eqv]
  | .int i, _ => by simp [PyData.eqv]
  | .str x, _ => by simp [PyData.eqv]
  | .list xs, h => by simp only [PyData.eqv]; exact eqv_reflAll xs (by simpa [PyData.canLay0] using h)
  | .tuple xs, h => by simp only [PyData.eqv]; exact eqv_reflAll xs (by simpa [PyData.canLay0] using h)
  | .dict _, h => by simp [PyData.canLay0] at h
theorem eqv_reflAll : ∀ xs : List PyData, PyData.canLayAll0 xs = true → PyData.eqvAll xs xs = true
  | [], _ => by simp [PyData.eqvAll]
  | x :: xs, h => by
    have h : x.canLay0 = true ∧ PyData.canLayAll0 xs = true := by simpa [PyData.canLayAll0] using h
    simp only [PyData.eqvAll, eqv_refl x h.1, eqv_reflAll xs h.2, Bool.and_self]
end
/-- data alike are alike -/
theorem ne_same {a b : MV} {x : PyData} {m k : Nat} (h1 : Dt st m a x) (h2 : Dt st k b x) (hm : m ≤ 64) (hk : k ≤ 64) : runOp .ne [a, b] st = .ok (.bl false) st := by
  show ofB ((eqMV st a b).map (!·)) st = _
  rw [eq_dt h1 h2 hm hk, eqv_refl x h1.lay]; rfl
theorem eq_same {a b : MV} {x : PyData} {m k : Nat} (h1 : Dt st m a x) (h2 : Dt st k b x) (hm : m ≤ 64) (hk : k ≤ 64) : runOp .eq [a, b] st = .ok (.bl true) st := by
  show ofB (eqMV st a b) st = _
  rw [eq_dt h1 h2 hm hk, eqv_refl x h1.lay]; rfl
end
/-! ### notes, things outside -/
def Note.pd : Note → PyData
  | .say a => .tuple [.str "say", .int a]
  | .give k a b => .tuple [.str "give", .int k, .int a, .int b]
theorem dt_note (st : Store) (a : Note) : Dt st 1 a.mv a.pd := by
  cases a with
  | say a => exact .tup2 (.str (by decide +kernel)) (.int a)
  | give k a b => exact .tup4 (.str (by decide +kernel)) (.int k) (.int a) (.int b)
def ppd (q : Int × Int) : PyData := .tuple [.int q.1, .int q.2]
theorem dt_pair (st : Store) (q : Int × Int) : Dt st 1 (Sh.pairMV q) (ppd q) := .tup2 (.int _) (.int _)
end Mi
set_option Elab.async false
set_option linter.all false
set_option maxRecDepth 100000
set_option maxHeartbeats 1000000
/-! PlGiven: things outside: each once, made. -/
namespace Mi
open PySem
def GivenOk (s : RS) : Prop := s.given.Nodup ∧ ∀ g ∈ s.given, g < s.things.length
theorem exec_given (κ : Str → Bool) : (∀ (b : Blk), b.wk κ → ∀ ks ks' pl n s, b.surely ks = some ks' → Safe κ ks s → GivenOk s → GivenOk (b.exec pl n s)) ∧
    ∀ (r : Row), r.wk κ → ∀ ks ks' pl s, r.has ks → r.surely ks = some ks' → Safe κ ks s → GivenOk s → GivenOk (r.exec pl s) := by
  apply blk_ind2
  · intro _ ks ks' pl n s _ _ h; exact h
  · intro r b hr hb hw ks ks' pl n s h hs hg
    obtain ⟨h1, k1, h2, h3⟩ := surely_cons h
    exact hb hw.2 k1 ks' pl (n + 1) _ h3 ((exec_safe κ).2 r hw.1 ks k1 (pl ++ [n]) s h1 h2 hs) (hr hw.1 ks k1 (pl ++ [n]) s h1 h2 hs hg)
  · intro r hb hw ks ks' pl s hh h hs hg
    cases r <;> first | (cases hb; done) | skip
    case give t =>
      obtain ⟨h0, h1⟩ := hs t (hh t (by simp [Row.reads])) (hw (t, true) (by simp [Row.kinds]))
      show (if (s.worth t).toNat ∈ s.given then s.given else s.given ++ [(s.worth t).toNat]).Nodup ∧ ∀ g ∈ (if (s.worth t).toNat ∈ s.given then s.given else s.given ++ [(s.worth t).toNat]), g < s.things.length
      split
      · exact hg
      · rename_i hn
        refine ⟨?_, fun g h => ?_⟩
        · rw [List.nodup_append]
          refine ⟨hg.1, by simp, fun a ha b hb => ?_⟩
          rw [List.mem_singleton.mp hb]
          exact fun e => hn (e ▸ ha)
        · rcases List.mem_append.mp h with h | h
          · exact hg.2 g h
          · rw [List.mem_singleton.mp h]; omega
    case make t x y =>
      refine ⟨hg.1, fun g h => ?_⟩
      show g < (s.things ++ [_]).length
      have := hg.2 g h
      rw [List.length_append]; omega
    case put t f x =>
      refine ⟨hg.1, fun g h => ?_⟩
      show g < (s.things.set _ _).length
      rw [List.length_set]; exact hg.2 g h
    case stir =>
      refine ⟨hg.1, fun g h => ?_⟩
      show g < (stirred s.given s.things).length
      rw [stirred_len]; exact hg.2 g h
    all_goals exact hg
  · intro x p q hp hq hw ks ks' pl s hh h hs hg
    simp only [Row.surely] at h
    split at h
    · rename_i k1 k2 h1 h2
      simp only [Row.exec]
      split
      · exact hq hw.2.2 ks k2 (pl ++ [1]) 0 s h2 hs hg
      · exact hp hw.2.1 ks k1 (pl ++ [0]) 0 s h1 hs hg
    · cases h
  · intro x p hp hw ks ks' pl s hh h hs hg
    simp only [Row.surely] at h
    obtain ⟨k1, h1, rfl⟩ := Option.map_eq_some_iff.mp h
    simp only [Row.exec]
    have := loopN_inv (c := fun s => decide (s.worth x ≠ 0)) (f := p.exec (pl ++ [0]) 0) (P := fun s => Safe κ ks s ∧ GivenOk s) (fun s hs => ?_) 9 s ⟨hs, hg⟩
    · exact this.2
    · have h2 := (exec_safe κ).1 p hw.2 ks k1 (pl ++ [0]) 0 s h1 hs.1
      exact ⟨fun z hz => h2 z (surely_sub h1 z hz), hp hw.2 ks k1 (pl ++ [0]) 0 s h1 hs.1 hs.2⟩
theorem start_safe {κ : Str → Bool} {p : Prg} (h : ∀ x ∈ p.params, κ x = false) (is : List Int) : Safe κ p.params (p.start is) := by
  intro x hx hk
  rw [h x hx] at hk; cases hk
theorem fin_given {p : Prg} (hp : p.Ok) (is : List Int) : GivenOk (p.fin is) := by
  obtain ⟨κ, hw, hκ⟩ := Sh.Ok_kinds hp
  obtain ⟨ks, hks⟩ := Sh.Ok_surely hp
  exact (exec_given κ).1 p.body hw p.params ks [] 0 _ hks (start_safe hκ is) ⟨List.nodup_nil, fun g h => by cases h⟩
/-- what stirring does -/
theorem stirred_get : ∀ (gs : List Nat) (ts : List (Int × Int)), gs.Nodup → (∀ g ∈ gs, g < ts.length) → ∀ g, (stirred gs ts).getD g (0, 0) = if g ∈ gs then (((ts.getD g (0, 0)).1 + 1) % 1000, (ts.getD g (0, 0)).2) else ts.getD g (0, 0)
  | [], ts, _, _, g => by simp [stirred]
  | a :: gs, ts, hn, hl, g => by
    rw [List.nodup_cons] at hn
    show (stirred gs (ts.set a (((ts.getD a (0, 0)).1 + 1) % 1000, (ts.getD a (0, 0)).2))).getD g (0, 0) = _
    rw [stirred_get gs _ hn.2 (fun g hg => by rw [List.length_set]; exact hl g (List.mem_cons_of_mem _ hg))]
    have ha := hl a (List.mem_cons_self ..)
    by_cases e : a = g
    · subst e
      rw [if_neg hn.1, if_pos (List.mem_cons_self ..), List.getD_eq_getElem?_getD, List.getElem?_set_self ha]
      rfl
    · have e' : g ≠ a := fun h => e h.symm
      have e1 : (ts.set a (((ts.getD a (0, 0)).1 + 1) % 1000, (ts.getD a (0, 0)).2)).getD g (0, 0) = ts.getD g (0, 0) := by
        simp only [List.getD_eq_getElem?_getD, List.getElem?_set_ne e]
      rw [e1]
      simp [List.mem_cons, e']
def stir1 (q : Int × Int) : Int × Int := ((q.1 + 1) % 1000, q.2)
theorem stir_outs {s : RS} (h : GivenOk s) (pl : List Nat) : (Row.stir.exec pl s).outs = s.outs.map stir1 := by
  show (s.given.map fun g => (stirred s.given s.things).getD g (0, 0)) = (s.given.map fun g => s.things.getD g (0, 0)).map stir1
  rw [List.map_map]
  apply List.map_congr_left
  intro g hg
  rw [stirred_get _ _ h.1 h.2, if_pos hg]; rfl
end Mi
set_option Elab.async false
set_option linter.all false
set_option maxRecDepth 100000
set_option maxHeartbeats 1000000
/-! PlLaw: what laws' bodies share. -/
namespace Mi
open PySem
/-- alike but for sites -/
def Al (s t : RS) : Prop := s.worth = t.worth ∧ s.things = t.things ∧ s.given = t.given ∧ s.noted = t.noted
theorem Al.refl (s : RS) : Al s s := ⟨rfl, rfl, rfl, rfl⟩
theorem Al.symm {s t : RS} (h : Al s t) : Al t s := ⟨h.1.symm, h.2.1.symm, h.2.2.1.symm, h.2.2.2.symm⟩
theorem Al.trans {s t u : RS} (h : Al s t) (h2 : Al t u) : Al s u := ⟨h.1.trans h2.1, h.2.1.trans h2.2.1, h.2.2.1.trans h2.2.2.1, h.2.2.2.trans h2.2.2.2⟩
theorem Al.outs {s t : RS} (h : Al s t) : s.outs = t.outs := by unfold RS.outs; rw [h.2.2.1, h.2.1]
theorem loopN_al {c : RS → Bool} {f g : RS → RS} (hc : ∀ s t, Al s t → c s = c t) (h : ∀ s t, Al s t → Al (f s) (g t)) : ∀ n s t, Al s t → Al (loopN c f n s) (loopN c g n t)
  | 0, s, t, ha => ha
  | n + 1, s, t, ha => by
    simp only [loopN, hc s t ha]
    split
    · exact loopN_al hc h n _ _ (h s t ha)
    · exact ha
/-- where rows stand changes sites alone -/
theorem exec_al : (∀ (b : Blk) pl n pl' n' s t, Al s t → Al (b.exec pl n s) (b.exec pl' n' t)) ∧ ∀ (r : Row) pl pl' s t, Al s t → Al (r.exec pl s) (r.exec pl' t) := by
  apply blk_ind2
  · intro pl n pl' n' s t h; exact h
  · intro r b hr hb pl n pl' n' s t h; exact hb _ _ _ _ _ _ (hr _ _ _ _ h)
  · intro r hs pl pl' s t h
    obtain ⟨w, th, gi, no, si⟩ := s
    obtain ⟨w', th', gi', no', si'⟩ := t
    obtain ⟨h1, h2, h3, h4⟩ := h
    simp only at h1 h2 h3 h4
    subst h1 h2 h3 h4
    cases r <;> first | (cases hs; done) | exact ⟨rfl, rfl, rfl, rfl⟩
  · intro x p q hp hq pl pl' s t h
    simp only [Row.exec, h.1]
    split
    · exact hq _ _ _ _ _ _ h
    · exact hp _ _ _ _ _ _ h
  · intro x p hp pl pl' s t h
    simp only [Row.exec]
    exact loopN_al (fun s t h => by rw [h.1]) (fun s t h => hp _ _ _ _ _ _ h) 9 _ _ h
theorem app_al (a b : Blk) (pl : List Nat) (n : Nat) (s : RS) : Al ((a.app b).exec pl n s) (b.exec pl 0 (a.exec pl n s)) := by
  rw [app_exec]; exact (exec_al).1 b _ _ _ _ _ _ (Al.refl _)
end Mi
namespace Mi.Sh
open PySem Mi
variable {G : Tab}
/-- a program of rows with such names is one -/
theorem ok_of2 {N T : List Str} (wN : ∀ x ∈ N, IsWord x) (wT : ∀ x ∈ T, IsWord x) (off : ∀ x ∈ N, x ∉ T) (p : Prg) (hp : ∀ x ∈ p.params, x ∈ N) (hl : p.params.length ≤ 3) (hd : p.params.Nodup) (hf : p.body.frm N T) (hz : p.body.size ≤ 400) (hdp : p.body.deep ≤ 6) {ks : List Str} (hs : p.body.surely p.params = some ks) : p.Ok := by
  refine ⟨⟨hl, fun x hx => wN x (hp x hx), hd, by have := blk_len_size p.body; omega, (frm_built wN wT).1 p.body hf hz 0 (by omega), hz⟩, ?_⟩
  unfold Prg.fit
  have hw := (frm_wk off).1 p.body hf
  have hc : Cons (kT T) (p.params.map fun x => (x, false)) := by
    intro x k hx
    unfold dget at hx
    obtain ⟨a, ha, rfl⟩ := Option.map_eq_some_iff.mp hx
    have h1 := List.mem_of_find?_eq_some ha
    have h2 := List.find?_some ha
    obtain ⟨y, hy, rfl⟩ := List.mem_map.mp h1
    have h3 : y = x := of_decide_eq_true h2
    subst h3
    exact decide_eq_false (off _ (hp _ hy))
  rw [((kindsIn_cons (kT T)).1 p.body hw _ hc).1, hs]; rfl
theorem frm_mono {N T N' T' : List Str} (hN : Sub N N') (hT : Sub T T') : (∀ b : Blk, b.frm N T → b.frm N' T') ∧ ∀ r : Row, r.frm N T → r.frm N' T' := by
  apply blk_ind2
  · intro _; trivial
  · intro r b hr hb h; exact ⟨hr h.1, hb h.2⟩
  · intro r hs h
    cases r <;> first | (cases hs; done) | skip
    case num => exact ⟨hN _ h.1, h.2⟩
    case copy => exact ⟨hN _ h.1, hN _ h.2⟩
    case add => exact ⟨hN _ h.1, hN _ h.2.1, hN _ h.2.2⟩
    case make => exact ⟨hT _ h.1, hN _ h.2.1, hN _ h.2.2⟩
    case get => exact ⟨hN _ h.1, hT _ h.2.1, h.2.2⟩
    case put => exact ⟨hT _ h.1, h.2.1, hN _ h.2.2⟩
    case lett => exact ⟨hT _ h.1, hT _ h.2⟩
    case same => exact ⟨hN _ h.1, hT _ h.2.1, hT _ h.2.2⟩
    case say => exact hN _ h
    case give => exact hT _ h
    case stir => trivial
  · intro x p q hp hq h; exact ⟨hN _ h.1, hp h.2.1, hq h.2.2⟩
  · intro x p hp h; exact ⟨hN _ h.1, hp h.2⟩
/-- what a run tells -/
def toldMV (o : Nat) (s : RS) : MV := .tup [.loc (o + 4), .lst (s.outs.map pairMV), .int s.things.length]
def toldPD (s : RS) : PyData := .tuple [.list (s.noted.map Note.pd), .list (s.outs.map ppd), .int s.things.length]
theorem dt_told {st : Store} {o : Nat} {s : RS} (h : st[o + 4]? = some (.lst (s.noted.map Note.mv))) : Dt st 3 (toldMV o s) (toldPD s) := .tup3 (Dt.loc h fun a _ => dt_note _ a) (Dt.lst fun a _ => dt_pair _ a) (Dt.int _)
theorem Al.told {s t : RS} (h : Al s t) : toldPD s = toldPD t := by unfold toldPD; rw [h.2.2.2, h.outs, h.2.1]
/-- a run in the law's store -/
theorem run_tw (hR : HasR G) (d : Nat) (p : Prg) (hp : p.Ok) (is : List Int) (hi : Ins p is) (hs : p.body.steps + 10 < lim) {st : Store} {n : Nat} (ht : 0 < st.length) :
    ∃ o st1, callF G (d + 23) (.fn "run") [p.mv, insMV is] (tw st 0 n) = .ok (toldMV o (p.fin is)) (tw st1 0 n) ∧ (tw st1 0 n)[o + 4]? = some (.lst ((p.fin is).noted.map Note.mv)) ∧ o + 4 < st1.length ∧ st.length ≤ o ∧ st.length ≤ st1.length ∧ 0 < st1.length ∧ (∀ i, i < st.length → (tw st1 0 n)[i]? = (tw st 0 n)[i]?) ∧ (p.fin is).given.length ≤ (p.fin is).noted.length ∧ (p.fin is).noted.length ≤ p.body.steps := by
  obtain ⟨o, st1, c, hn, ho, fr, g1, g2⟩ := run_spec hR p hp is hi hs d (tw st 0 n)
  obtain ⟨e, hl⟩ := tw_fr ht fr
  rw [tw_len] at ho
  have l1 := fr.1
  rw [tw_len] at l1
  rw [e] at c
  have hn' : (tw st1 0 n)[o + 4]? = some (.lst ((p.fin is).noted.map Note.mv)) := by rw [← e]; exact hn
  refine ⟨o, st1, c, hn', ?_, ho, l1, hl, fun i hi => ?_, g1, g2⟩
  · have := lt_of_get hn'
    rw [tw_len] at this; exact this
  · rw [← e]
    exact fr.2 i (by rw [tw_len]; exact hi)
/-- the names anew, with a town of their own -/
theorem names_fresh (hG : HasG G) (ns : List Int) (d : Nat) {st : Store} {n : Nat} (ht : 0 < st.length) : ∃ st2, callF G (d + 5) (.fn "_law_names") [scr ns, .loc (tw st 0 n).length] (tw st 0 n ++ [MO.lst []]) = .ok (nmv (NN ns 0) (TT ns 0)) (tw st2 0 n) ∧ st2.length = st.length + 1 := by
  let L := st.length
  have e1 : tw st 0 n ++ [MO.lst []] = tw (tw (st ++ [MO.lst []]) 0 n) L 0 := by
    rw [tw_app ht]
    refine (set_same ?_).symm
    rw [tw_ne (by omega)]
    exact get_new
  have nmc := names_spec hG ns (t := L) (n := 0) (st := tw (st ++ [MO.lst []]) 0 n) (by rw [tw_len, List.length_append]; show st.length < st.length + 1; omega) (by omega) d
  rw [← e1] at nmc
  let k := 0 + 2 + many4 ns 0
  let st2 : Store := (st ++ [MO.lst []]).set L (.lst (zs k))
  have e2 : tw (tw (st ++ [MO.lst []]) 0 n) L k = tw st2 0 n := tw_set (by omega : L ≠ 0)
  refine ⟨st2, ?_, by simp [st2]⟩
  rw [tw_len, ← e2]; exact nmc
/-- a table of names, each True -/
theorem dict_true {p : List Str} (hp : p.Nodup) {st : Store} {n : Nat} (ht : 0 < st.length) : runOp (.dict1 false) [.lst (p.map fun x => .tup [.str x, .bl true])] (tw st 0 n) = .ok (.loc st.length) (tw (st ++ [.dic (kd p)]) 0 n) := by
  rw [dict1_lst (pairsOf_map _ (.bl true)), tw_len, dmerge_nodup _ _ (by
    rw [List.map_map]
    have : ((fun (x : Str × MV) => x.1) ∘ fun (x : Str) => (x, MV.bl true)) = id := rfl
    rw [this, List.map_id]; exact hp) (by intro kv h; cases h), tw_app ht]
  rfl
theorem add_tup {xs ys : List MV} {st : Store} (h : xs.length + ys.length ≤ lim) : runOp .add [.tup xs, .tup ys] st = .ok (.tup (xs ++ ys)) st := by
  show (if xs.length + ys.length ≤ lim then Res.ok (MV.tup (xs ++ ys)) st else .err) = _
  rw [if_pos h]
theorem add_blk {a b : Blk} {st : Store} (h : a.length + b.length ≤ lim) : runOp .add [a.mv, b.mv] st = .ok (a.app b).mv st := by
  show runOp .add [.tup a.mvs, .tup b.mvs] st = .ok (.tup (a.app b).mvs) st
  rw [add_tup (by rw [mvs_len, mvs_len]; exact h), app_mvs]
end Mi.Sh
set_option Elab.async false
set_option linter.all false
set_option maxRecDepth 100000
set_option maxHeartbeats 1000000
/-! K31a: programs without stir, renamed, joined; typed. -/
namespace Mi
open PySem Mi.Sh
def Row.isStir : Row → Bool
  | .stir => true
  | _ => false
mutual
def Row.less : Row → Row
  | .ifr x p q => .ifr x p.less q.less
  | .loop x p => .loop x p.less
  | r => r
def Blk.less : Blk → Blk
  | .nil => .nil
  | .cons r b => if r.isStir then b.less else .cons r.less b.less
end
def ρ (x : Str) : Str := ("zz" : Str) ++ x
mutual
def Row.zzd : Row → Row
  | .num x i => .num (ρ x) i
  | .copy x y => .copy (ρ x) (ρ y)
  | .add x y z => .add (ρ x) (ρ y) (ρ z)
  | .make t x y => .make (ρ t) (ρ x) (ρ y)
  | .get x t f => .get (ρ x) (ρ t) f
  | .put t f x => .put (ρ t) f (ρ x)
  | .lett t u => .lett (ρ t) (ρ u)
  | .same x t u => .same (ρ x) (ρ t) (ρ u)
  | .say x => .say (ρ x)
  | .give t => .give (ρ t)
  | .stir => .stir
  | .ifr x p q => .ifr (ρ x) p.zzd q.zzd
  | .loop x p => .loop (ρ x) p.zzd
def Blk.zzd : Blk → Blk
  | .nil => .nil
  | .cons r b => .cons r.zzd b.zzd
end
mutual
/-- no row stirs -/
def Row.calm : Row → Prop
  | .stir => False
  | .ifr _ p q => p.calm ∧ q.calm
  | .loop _ p => p.calm
  | _ => True
def Blk.calm : Blk → Prop
  | .nil => True
  | .cons r b => r.calm ∧ b.calm
end
theorem less_simple {r : Row} (h : r.blks = []) : r.less = r := by
  cases r <;> first | rfl | (cases h; done)
theorem less_calm : (∀ b : Blk, b.less.calm) ∧ ∀ r : Row, r.isStir = false → r.less.calm := by
  apply blk_ind2
  · trivial
  · intro r b hr hb
    show (if r.isStir then b.less else Blk.cons r.less b.less).calm
    cases h : r.isStir with
    | true => exact hb
    | false => exact ⟨hr h, hb⟩
  · intro r hs h
    rw [less_simple hs]
    cases r <;> first | trivial | (cases hs; done) | (cases h; done)
  · intro x p q hp hq _; exact ⟨hp, hq⟩
  · intro x p hp _; exact hp
theorem less_frm {N T : List Str} : (∀ b : Blk, b.frm N T → b.less.frm N T) ∧ ∀ r : Row, r.frm N T → r.less.frm N T := by
  apply blk_ind2
  · intro _; trivial
  · intro r b hr hb h
    show (if r.isStir then b.less else Blk.cons r.less b.less).frm N T
    split
    · exact hb h.2
    · exact ⟨hr h.1, hb h.2⟩
  · intro r hs h; rw [less_simple hs]; exact h
  · intro x p q hp hq h; exact ⟨h.1, hp h.2.1, hq h.2.2⟩
  · intro x p hp h; exact ⟨h.1, hp h.2⟩
theorem less_surely : (∀ (b : Blk) ks, b.less.surely ks = b.surely ks) ∧ ∀ (r : Row) ks, r.less.surely ks = r.surely ks ∧ r.less.reads = r.reads := by
  apply blk_ind2
  · intro ks; rfl
  · intro r b hr hb ks
    show (if r.isStir then b.less else Blk.cons r.less b.less).surely ks = _
    cases h : r.isStir with
    | true =>
      cases r <;> first | (cases h; done) | skip
      show b.less.surely ks = _
      rw [hb]; rfl
    | false =>
      show (Blk.cons r.less b.less).surely ks = (Blk.cons r b).surely ks
      simp only [Blk.surely, (hr ks).1, (hr ks).2]
      have e : b.less.surely = b.surely := by funext k; exact hb k
      rw [e]
  · intro r hs ks; rw [less_simple hs]; exact ⟨rfl, rfl⟩
  · intro x p q hp hq ks
    refine ⟨?_, rfl⟩
    show (match p.less.surely ks, q.less.surely ks with | some k1, some k2 => some (both k1 k2 ks) | _, _ => none) = _
    rw [hp, hq]; rfl
  · intro x p hp ks
    refine ⟨?_, rfl⟩
    show (p.less.surely ks).map _ = _
    rw [hp]; rfl
theorem less_le : (∀ b : Blk, b.less.size ≤ b.size ∧ b.less.deep ≤ b.deep ∧ b.less.steps ≤ b.steps) ∧ ∀ r : Row, r.less.size ≤ r.size ∧ r.less.deep ≤ r.deep ∧ r.less.steps ≤ r.steps := by
  apply blk_ind2
  · exact ⟨Nat.le_refl _, Nat.le_refl _, Nat.le_refl _⟩
  · intro r b hr hb
    show (if r.isStir then b.less else Blk.cons r.less b.less).size ≤ r.size + b.size ∧ (if r.isStir then b.less else Blk.cons r.less b.less).deep ≤ max r.deep b.deep ∧ (if r.isStir then b.less else Blk.cons r.less b.less).steps ≤ r.steps + b.steps
    split
    · omega
    · show r.less.size + b.less.size ≤ r.size + b.size ∧ max r.less.deep b.less.deep ≤ max r.deep b.deep ∧ r.less.steps + b.less.steps ≤ r.steps + b.steps
      omega
  · intro r hs; rw [less_simple hs]; exact ⟨Nat.le_refl _, Nat.le_refl _, Nat.le_refl _⟩
  · intro x p q hp hq
    show 1 + (p.less.size + q.less.size) ≤ 1 + (p.size + q.size) ∧ 1 + max p.less.deep q.less.deep ≤ 1 + max p.deep q.deep ∧ 1 + (p.less.steps + q.less.steps) ≤ 1 + (p.steps + q.steps)
    omega
  · intro x p hp
    show 1 + p.less.size ≤ 1 + p.size ∧ 1 + p.less.deep ≤ 1 + p.deep ∧ 1 + 9 * p.less.steps ≤ 1 + 9 * p.steps
    omega
/-! ### renamed -/
theorem rho_cps (x : Str) : (ρ x).cps.toList = 122 :: 122 :: x.cps.toList := by
  unfold ρ
  rw [cps_app]
  have e : (Str.cps "zz").toList = [122, 122] := by decide +kernel
  rw [e]; rfl
theorem rho_inj {x y : Str} (h : ρ x = ρ y) : x = y := by
  have := congrArg (fun s : Str => s.cps.toList) h
  simp only [rho_cps, List.cons.injEq, true_and] at this
  cases x; cases y
  simp only at this
  congr 1
  exact Array.ext' this
theorem rho_word {x : Str} (h : IsWord x) (h4 : x.cps.toList.length ≤ 4) : IsWord (ρ x) := by
  unfold IsWord
  rw [rho_cps]
  refine ⟨by simp only [List.length_cons]; omega, by simp only [List.length_cons]; omega, fun c hc => ?_⟩
  simp only [List.mem_cons] at hc
  rcases hc with rfl | rfl | hc
  · omega
  · omega
  · exact h.2.2 c hc
theorem rho_head (x : Str) : (ρ x).cps.toList.head? = some 122 := by rw [rho_cps]; rfl
theorem mem_rho {x : Str} {l : List Str} : ρ x ∈ l.map ρ ↔ x ∈ l := by
  constructor
  · intro h
    obtain ⟨y, hy, e⟩ := List.mem_map.mp h
    rw [← rho_inj e]; exact hy
  · exact fun h => List.mem_map.mpr ⟨x, h, rfl⟩
theorem zzd_frm {N T : List Str} : (∀ b : Blk, b.frm N T → b.zzd.frm (N.map ρ) (T.map ρ)) ∧ ∀ r : Row, r.frm N T → r.zzd.frm (N.map ρ) (T.map ρ) := by
  have m : ∀ {x : Str} {l : List Str}, x ∈ l → ρ x ∈ l.map ρ := fun h => mem_rho.mpr h
  apply blk_ind2
  · intro _; trivial
  · intro r b hr hb h; exact ⟨hr h.1, hb h.2⟩
  · intro r hs h
    cases r <;> first | (cases hs; done) | skip
    case num => exact ⟨m h.1, h.2⟩
    case copy => exact ⟨m h.1, m h.2⟩
    case add => exact ⟨m h.1, m h.2.1, m h.2.2⟩
    case make => exact ⟨m h.1, m h.2.1, m h.2.2⟩
    case get => exact ⟨m h.1, m h.2.1, h.2.2⟩
    case put => exact ⟨m h.1, h.2.1, m h.2.2⟩
    case lett => exact ⟨m h.1, m h.2⟩
    case same => exact ⟨m h.1, m h.2.1, m h.2.2⟩
    case say => exact m h
    case give => exact m h
    case stir => trivial
  · intro x p q hp hq h; exact ⟨m h.1, hp h.2.1, hq h.2.2⟩
  · intro x p hp h; exact ⟨m h.1, hp h.2⟩
theorem kput_rho (ks : List Str) (x : Str) : (kput ks x).map ρ = kput (ks.map ρ) (ρ x) := by
  unfold kput
  by_cases h : x ∈ ks
  · rw [if_pos h, if_pos (mem_rho.mpr h)]
  · rw [if_neg h, if_neg (fun e => h (mem_rho.mp e)), List.map_append]; rfl
theorem both_rho (k1 k2 : List Str) : ∀ ks, (both k1 k2 ks).map ρ = both (k1.map ρ) (k2.map ρ) (ks.map ρ) := by
  unfold both
  induction k1 with
  | nil => intro ks; rfl
  | cons a k1 ih =>
    intro ks
    rw [List.map_cons, List.foldl_cons, List.foldl_cons, ih]
    congr 1
    by_cases h : a ∈ k2
    · rw [if_pos h, if_pos (mem_rho.mpr h), kput_rho]
    · rw [if_neg h, if_neg (fun e => h (mem_rho.mp e))]
theorem zzd_reads (r : Row) : r.zzd.reads = r.reads.map ρ := by cases r <;> rfl
theorem zzd_surely : (∀ (b : Blk) ks ks', b.surely ks = some ks' → b.zzd.surely (ks.map ρ) = some (ks'.map ρ)) ∧ ∀ (r : Row) ks ks', r.surely ks = some ks' → r.zzd.surely (ks.map ρ) = some (ks'.map ρ) := by
  apply blk_ind2
  · intro ks ks' h; cases h; rfl
  · intro r b hr hb ks ks' h
    obtain ⟨h1, k1, h2, h3⟩ := surely_cons h
    refine surely_cons_of (fun x hx => ?_) (hr ks k1 h2) (hb k1 ks' h3)
    rw [zzd_reads] at hx
    obtain ⟨y, hy, rfl⟩ := List.mem_map.mp hx
    exact mem_rho.mpr (h1 y hy)
  · intro r hs ks ks' h
    cases r <;> first | (cases hs; done) | skip
    all_goals
      cases h
      first | rfl | exact congrArg some (kput_rho ks _).symm
  · intro x p q hp hq ks ks' h
    simp only [Row.surely] at h
    split at h
    · rename_i k1 k2 h1 h2
      cases h
      show (match p.zzd.surely (ks.map ρ), q.zzd.surely (ks.map ρ) with | some k1, some k2 => some (both k1 k2 (ks.map ρ)) | _, _ => none) = _
      rw [hp ks k1 h1, hq ks k2 h2, both_rho]
    · cases h
  · intro x p hp ks ks' h
    simp only [Row.surely] at h
    obtain ⟨k1, h1, rfl⟩ := Option.map_eq_some_iff.mp h
    show (p.zzd.surely (ks.map ρ)).map _ = _
    rw [hp ks k1 h1]; rfl
theorem zzd_same : (∀ b : Blk, b.zzd.size = b.size ∧ b.zzd.deep = b.deep ∧ b.zzd.steps = b.steps ∧ b.zzd.length = b.length) ∧ ∀ r : Row, r.zzd.size = r.size ∧ r.zzd.deep = r.deep ∧ r.zzd.steps = r.steps := by
  apply blk_ind2
  · exact ⟨rfl, rfl, rfl, rfl⟩
  · intro r b hr hb
    refine ⟨?_, ?_, ?_, ?_⟩
    · show r.zzd.size + b.zzd.size = r.size + b.size; omega
    · show max r.zzd.deep b.zzd.deep = max r.deep b.deep; rw [hr.2.1, hb.2.1]
    · show r.zzd.steps + b.zzd.steps = r.steps + b.steps; omega
    · show b.zzd.length + 1 = b.length + 1; omega
  · intro r hs; cases r <;> first | exact ⟨rfl, rfl, rfl⟩ | (cases hs; done)
  · intro x p q hp hq
    refine ⟨?_, ?_, ?_⟩
    · show 1 + (p.zzd.size + q.zzd.size) = 1 + (p.size + q.size); omega
    · show 1 + max p.zzd.deep q.zzd.deep = 1 + max p.deep q.deep; rw [hp.2.1, hq.2.1]
    · show 1 + (p.zzd.steps + q.zzd.steps) = 1 + (p.steps + q.steps); omega
  · intro x p hp
    refine ⟨?_, ?_, ?_⟩
    · show 1 + p.zzd.size = 1 + p.size; omega
    · show 1 + p.zzd.deep = 1 + p.deep; omega
    · show 1 + 9 * p.zzd.steps = 1 + 9 * p.steps; omega
end Mi
set_option Elab.async false
set_option linter.all false
set_option maxRecDepth 100000
set_option maxHeartbeats 1000000
/-! K31b: what joined programs do. -/
namespace Mi
open PySem Mi.Sh
theorem loopN_rel {c d : RS → Bool} {f g : RS → RS} {R : RS → RS → Prop} (hc : ∀ s t, R s t → c s = d t) (h : ∀ s t, R s t → R (f s) (g t)) : ∀ n s t, R s t → R (loopN c f n s) (loopN d g n t)
  | 0, s, t, hr => hr
  | n + 1, s, t, hr => by
    simp only [loopN, hc s t hr]
    split
    · exact loopN_rel hc h n _ _ (h s t hr)
    · exact hr
/-- alike on names -/
def AlN (N T : List Str) (s t : RS) : Prop := (∀ x, x ∈ N ∨ x ∈ T → s.worth x = t.worth x) ∧ s.things = t.things ∧ s.given = t.given ∧ s.noted = t.noted
theorem AlN.put {N T : List Str} {s t : RS} (h : AlN N T s t) (x : Str) {v v' : Int} (e : v = v') : AlN N T (s.put x v) (t.put x v') := by
  subst e
  refine ⟨fun y hy => ?_, h.2⟩
  show upd s.worth x v y = upd t.worth x v y
  unfold upd
  split
  · rfl
  · exact h.1 y hy
theorem exec_alN {N T : List Str} : (∀ b : Blk, b.frm N T → ∀ pl n pl' n' s t, AlN N T s t → AlN N T (b.exec pl n s) (b.exec pl' n' t)) ∧ ∀ r : Row, r.frm N T → ∀ pl pl' s t, AlN N T s t → AlN N T (r.exec pl s) (r.exec pl' t) := by
  apply blk_ind2
  · intro _ pl n pl' n' s t h; exact h
  · intro r b hr hb hf pl n pl' n' s t h; exact hb hf.2 _ _ _ _ _ _ (hr hf.1 _ _ _ _ h)
  · intro r hs hf pl pl' s t h
    obtain ⟨h1, h2, h3, h4⟩ := id h
    have n : ∀ {x}, x ∈ N → s.worth x = t.worth x := fun hx => h1 _ (.inl hx)
    have m : ∀ {x}, x ∈ T → s.worth x = t.worth x := fun hx => h1 _ (.inr hx)
    have at' : ∀ {u}, u ∈ T → s.at u = t.at u := fun hu => by unfold RS.at; rw [m hu, h2]
    cases r <;> first | (cases hs; done) | skip
    case num x i => exact h.put x rfl
    case copy x y => exact h.put x (n hf.2)
    case add x y z => exact h.put x (by rw [n hf.2.1, n hf.2.2])
    case get x u f => exact h.put x (by rw [at' hf.2.1])
    case lett x u => exact h.put x (m hf.2)
    case same x u v => exact h.put x (by rw [m hf.2.1, m hf.2.2])
    case make u x y =>
      have hp := h.put u (v := s.things.length) (v' := t.things.length) (by rw [h2])
      refine ⟨hp.1, ?_, h3, h4⟩
      show s.things ++ [(s.worth x, s.worth y)] = t.things ++ [(t.worth x, t.worth y)]
      rw [h2, n hf.2.1, n hf.2.2]
    case put u f x =>
      refine ⟨h1, ?_, h3, h4⟩
      show s.things.set _ _ = t.things.set _ _
      rw [at' hf.1, m hf.1, n hf.2.2, h2]
    case say x =>
      refine ⟨h1, h2, h3, ?_⟩
      show s.noted ++ [_] = t.noted ++ [_]
      rw [h4, n hf]
    case give u =>
      refine ⟨h1, h2, ?_, ?_⟩
      · show (if (s.worth u).toNat ∈ s.given then s.given else s.given ++ [(s.worth u).toNat]) = _
        rw [h3, m hf]; rfl
      · show s.noted ++ [Note.give ((if (s.worth u).toNat ∈ s.given then s.given else s.given ++ [(s.worth u).toNat]).idxOf (s.worth u).toNat) (s.things.getD (s.worth u).toNat (0, 0)).1 (s.things.getD (s.worth u).toNat (0, 0)).2] = _
        rw [h3, h4, h2, m hf]; rfl
    case stir =>
      refine ⟨h1, ?_, h3, h4⟩
      show stirred s.given s.things = stirred t.given t.things
      rw [h3, h2]
  · intro x p q hp hq hf pl pl' s t h
    simp only [Row.exec, h.1 x (.inl hf.1)]
    split
    · exact hq hf.2.2 _ _ _ _ _ _ h
    · exact hp hf.2.1 _ _ _ _ _ _ h
  · intro x p hp hf pl pl' s t h
    simp only [Row.exec]
    exact loopN_rel (fun s t h => by rw [h.1 x (.inl hf.1)]) (fun s t h => hp hf.2 _ _ _ _ _ _ h) 9 _ _ h
/-- a note moved on -/
def Note.mvd (k : Nat) : Note → Note
  | .say a => .say a
  | .give i a c => .give (i + k) a c
/-- a run on top of what was done -/
structure Sim (κ : Str → Bool) (b : RS) (ks : List Str) (s t : RS) : Prop where
  w : ∀ x ∈ ks, t.worth (ρ x) = if κ x then s.worth x + (b.things.length : Int) else s.worth x
  th : t.things = b.things ++ s.things
  gi : t.given = b.given ++ s.given.map (· + b.things.length)
  no : t.noted = b.noted ++ s.noted.map (Note.mvd b.given.length)
theorem Sim.put {κ : Str → Bool} {b : RS} {ks : List Str} {s t : RS} (h : Sim κ b ks s t) (x : Str) {v v' : Int} (e : v' = if κ x then v + (b.things.length : Int) else v) : Sim κ b (kput ks x) (s.put x v) (t.put (ρ x) v') where
  w y hy := by
    show upd t.worth (ρ x) v' (ρ y) = if κ y then upd s.worth x v y + (b.things.length : Int) else upd s.worth x v y
    unfold upd
    by_cases hxy : y = x
    · subst hxy; simp only [if_true]; exact e
    · have h2 : ¬ ρ y = ρ x := fun e => hxy (rho_inj e)
      simp only [hxy, h2, if_false]
      rcases (mem_kput ks x y).mp hy with hy | hy
      · exact h.w y hy
      · exact absurd hy hxy
  th := h.th
  gi := h.gi
  no := h.no
theorem get_shift (l1 l2 : List (Int × Int)) (v : Int) (h : 0 ≤ v) : (l1 ++ l2).getD (v + (l1.length : Int)).toNat (0, 0) = l2.getD v.toNat (0, 0) := by
  rw [List.getD_eq_getElem?_getD, List.getElem?_append_right (by omega), List.getD_eq_getElem?_getD]
  congr 2
  omega
theorem set_shift (l1 l2 : List (Int × Int)) (v : Int) (h : 0 ≤ v) (q : Int × Int) : (l1 ++ l2).set (v + (l1.length : Int)).toNat q = l1 ++ l2.set v.toNat q := by
  rw [List.set_append_right _ _ (by omega)]
  congr 2
  omega
theorem mem_shift {l1 l2 : List Nat} {m g : Nat} (h : ∀ k ∈ l1, k < m) : g + m ∈ l1 ++ l2.map (· + m) ↔ g ∈ l2 := by
  rw [List.mem_append, List.mem_map]
  constructor
  · rintro (h1 | ⟨k, hk, e⟩)
    · have := h _ h1; omega
    · have : k = g := by omega
      rw [← this]; exact hk
  · exact fun hg => .inr ⟨g, hg, rfl⟩
theorem idx_shift {l1 : List Nat} {m g : Nat} (h : ∀ k ∈ l1, k < m) : ∀ (l2 : List Nat), g ∈ l2 → (l1 ++ l2.map (· + m)).idxOf (g + m) = l2.idxOf g + l1.length := by
  intro l2 hg
  rw [List.idxOf_append, if_neg (fun h1 => by have := h _ h1; omega)]
  have key : ∀ l2 : List Nat, (l2.map (· + m)).idxOf (g + m) = l2.idxOf g := by
    intro l2
    induction l2 with
    | nil => rfl
    | cons a l2 ih =>
      rw [List.map_cons, List.idxOf_cons, List.idxOf_cons, ih]
      have : ((a + m == g + m) = (a == g)) := by
        by_cases e : a = g
        · subst e; rw [beq_self_eq_true, beq_self_eq_true]
        · have : ¬ a + m = g + m := by omega
          rw [beq_eq_false_iff_ne.mpr e, beq_eq_false_iff_ne.mpr this]
      rw [this]
  rw [key l2]
theorem sim_exec (κ : Str → Bool) (b : RS) (hb : GivenOk b) : (∀ B : Blk, B.wk κ → B.calm → ∀ ks ks' pl n pl' n' s t, B.surely ks = some ks' → Safe κ ks s → Sim κ b ks s t → Sim κ b ks' (B.exec pl n s) (B.zzd.exec pl' n' t)) ∧
    ∀ r : Row, r.wk κ → r.calm → ∀ ks ks' pl pl' s t, r.has ks → r.surely ks = some ks' → Safe κ ks s → Sim κ b ks s t → Sim κ b ks' (r.exec pl s) (r.zzd.exec pl' t) := by
  apply blk_ind2
  · intro _ _ ks ks' pl n pl' n' s t h _ hm; cases h; exact hm
  · intro r B hr hB hw hc ks ks' pl n pl' n' s t h hs hm
    obtain ⟨h1, k1, h2, h3⟩ := surely_cons h
    exact hB hw.2 hc.2 k1 ks' _ _ _ _ _ _ h3 ((exec_safe κ).2 r hw.1 ks k1 _ s h1 h2 hs) (hr hw.1 hc.1 ks k1 _ _ s t h1 h2 hs hm)
  · intro r hbk hw hc ks ks' pl pl' s t hh h hs hm
    have n : ∀ {x}, x ∈ r.reads → κ x = false → t.worth (ρ x) = s.worth x := fun hx hk => by rw [hm.w _ (hh _ hx), hk]; rfl
    have u : ∀ {x}, x ∈ r.reads → κ x = true → t.worth (ρ x) = s.worth x + (b.things.length : Int) ∧ 0 ≤ s.worth x ∧ s.worth x < s.things.length := fun hx hk => ⟨by rw [hm.w _ (hh _ hx), hk]; rfl, hs _ (hh _ hx) hk⟩
    have at' : ∀ {x}, x ∈ r.reads → κ x = true → t.at (ρ x) = s.at x := fun hx hk => by
      obtain ⟨e, h0, _⟩ := u hx hk
      unfold RS.at
      rw [e, hm.th, get_shift _ _ _ h0]
    have kf : ∀ {x}, (x, false) ∈ r.kinds → κ x = false := fun hx => by
      cases r <;> first | exact hw _ hx | (cases hbk; done)
    have kt : ∀ {x}, (x, true) ∈ r.kinds → κ x = true := fun hx => by
      cases r <;> first | exact hw _ hx | (cases hbk; done)
    cases r <;> first | (cases hbk; done) | (exact hc.elim) | skip
    case num x i => cases h; exact hm.put x (by rw [kf (by simp [Row.kinds])]; rfl)
    case copy x y => cases h; exact hm.put x (by rw [kf (by simp [Row.kinds]), n (by simp [Row.reads]) (kf (by simp [Row.kinds]))]; rfl)
    case add x y z => cases h; exact hm.put x (by rw [kf (by simp [Row.kinds]), n (x := y) (by simp [Row.reads]) (kf (by simp [Row.kinds])), n (x := z) (by simp [Row.reads]) (kf (by simp [Row.kinds]))]; rfl)
    case get x v f => cases h; exact hm.put x (by rw [kf (by simp [Row.kinds]), at' (by simp [Row.reads]) (kt (by simp [Row.kinds]))]; rfl)
    case lett x v => cases h; exact hm.put x (by rw [kt (by simp [Row.kinds]), (u (by simp [Row.reads]) (kt (by simp [Row.kinds]))).1]; rfl)
    case same x v w =>
      cases h
      refine hm.put x ?_
      rw [kf (by simp [Row.kinds]), (u (x := v) (by simp [Row.reads]) (kt (by simp [Row.kinds]))).1, (u (x := w) (by simp [Row.reads]) (kt (by simp [Row.kinds]))).1]
      by_cases e : s.worth v = s.worth w
      · simp [e]
      · have : ¬ s.worth v + (b.things.length : Int) = s.worth w + (b.things.length : Int) := by omega
        simp [e, this]
    case make x y z =>
      cases h
      have hp := hm.put x (v := s.things.length) (v' := t.things.length) (by rw [kt (by simp [Row.kinds]), hm.th, List.length_append]; simp; omega)
      refine ⟨hp.w, ?_, hm.gi, hm.no⟩
      show t.things ++ [(t.worth (ρ y), t.worth (ρ z))] = b.things ++ (s.things ++ [(s.worth y, s.worth z)])
      rw [n (x := y) (by simp [Row.reads]) (kf (by simp [Row.kinds])), n (x := z) (by simp [Row.reads]) (kf (by simp [Row.kinds])), hm.th, List.append_assoc]
    case put x f y =>
      cases h
      refine ⟨hm.w, ?_, hm.gi, hm.no⟩
      show t.things.set (t.worth (ρ x)).toNat (fldPut (t.at (ρ x)) f (t.worth (ρ y))) = b.things ++ s.things.set (s.worth x).toNat (fldPut (s.at x) f (s.worth y))
      obtain ⟨e, h0, _⟩ := u (x := x) (by simp [Row.reads]) (kt (by simp [Row.kinds]))
      rw [at' (x := x) (by simp [Row.reads]) (kt (by simp [Row.kinds])), n (x := y) (by simp [Row.reads]) (kf (by simp [Row.kinds])), e, hm.th, set_shift _ _ _ h0]
    case say x =>
      cases h
      refine ⟨hm.w, hm.th, hm.gi, ?_⟩
      show t.noted ++ [Note.say (t.worth (ρ x))] = b.noted ++ (s.noted ++ [Note.say (s.worth x)]).map _
      rw [n (by simp [Row.reads]) (kf (by simp [Row.kinds])), hm.no, List.map_append, List.append_assoc]; rfl
    case give x =>
      cases h
      obtain ⟨e, h0, h1⟩ := u (x := x) (by simp [Row.reads]) (kt (by simp [Row.kinds]))
      have eg : (t.worth (ρ x)).toNat = (s.worth x).toNat + b.things.length := by rw [e]; omega
      have hgv : (if (t.worth (ρ x)).toNat ∈ t.given then t.given else t.given ++ [(t.worth (ρ x)).toNat]) = b.given ++ (if (s.worth x).toNat ∈ s.given then s.given else s.given ++ [(s.worth x).toNat]).map (· + b.things.length) := by
        rw [eg, hm.gi]
        by_cases hg : (s.worth x).toNat ∈ s.given
        · rw [if_pos ((mem_shift hb.2).mpr hg), if_pos hg]
        · rw [if_neg (fun hc => hg ((mem_shift hb.2).mp hc)), if_neg hg, List.map_append, List.append_assoc]; rfl
      refine ⟨hm.w, hm.th, hgv, ?_⟩
      show t.noted ++ [Note.give ((if (t.worth (ρ x)).toNat ∈ t.given then t.given else t.given ++ [(t.worth (ρ x)).toNat]).idxOf (t.worth (ρ x)).toNat) (t.things.getD (t.worth (ρ x)).toNat (0, 0)).1 (t.things.getD (t.worth (ρ x)).toNat (0, 0)).2] = b.noted ++ (s.noted ++ [Note.give ((if (s.worth x).toNat ∈ s.given then s.given else s.given ++ [(s.worth x).toNat]).idxOf (s.worth x).toNat) (s.things.getD (s.worth x).toNat (0, 0)).1 (s.things.getD (s.worth x).toNat (0, 0)).2]).map _
      have hin : (s.worth x).toNat ∈ (if (s.worth x).toNat ∈ s.given then s.given else s.given ++ [(s.worth x).toNat]) := by
        split
        · assumption
        · simp
      have hth : t.things.getD (t.worth (ρ x)).toNat (0, 0) = s.things.getD (s.worth x).toNat (0, 0) := by rw [e, hm.th, get_shift _ _ _ h0]
      rw [hgv, hth, eg, idx_shift hb.2 _ hin, hm.no, List.map_append, List.append_assoc]; rfl
  · intro x p q hp hq hw hc ks ks' pl pl' s t hh h hs hm
    simp only [Row.surely] at h
    split at h
    · rename_i k1 k2 h1 h2
      cases h
      have e : t.worth (ρ x) = s.worth x := by rw [hm.w x (hh x (by simp [Row.reads])), hw.1]; rfl
      show Sim κ b (both k1 k2 ks) ((Row.ifr x p q).exec pl s) ((Row.ifr (ρ x) p.zzd q.zzd).exec pl' t)
      simp only [Row.exec, e]
      split
      · have := hq hw.2.2 hc.2 ks k2 (pl ++ [1]) 0 (pl' ++ [1]) 0 s t h2 hs hm
        exact ⟨fun y hy => this.w y (by
          rcases mem_both.mp hy with hy | hy
          · exact surely_sub h2 y hy
          · exact hy.2), this.th, this.gi, this.no⟩
      · have := hp hw.2.1 hc.1 ks k1 (pl ++ [0]) 0 (pl' ++ [0]) 0 s t h1 hs hm
        exact ⟨fun y hy => this.w y (by
          rcases mem_both.mp hy with hy | hy
          · exact surely_sub h1 y hy
          · exact hy.1), this.th, this.gi, this.no⟩
    · cases h
  · intro x p hp hw hc ks ks' pl pl' s t hh h hs hm
    simp only [Row.surely] at h
    obtain ⟨k1, h1, rfl⟩ := Option.map_eq_some_iff.mp h
    show Sim κ b ks ((Row.loop x p).exec pl s) ((Row.loop (ρ x) p.zzd).exec pl' t)
    simp only [Row.exec]
    have := loopN_rel (c := fun s => decide (s.worth x ≠ 0)) (d := fun s => decide (s.worth (ρ x) ≠ 0)) (f := p.exec (pl ++ [0]) 0) (g := p.zzd.exec (pl' ++ [0]) 0) (R := fun s t => Safe κ ks s ∧ Sim κ b ks s t) (fun s t h => by
      rw [h.2.w x (hh x (by simp [Row.reads])), hw.1]; rfl) (fun s t h => by
      have h2 := hp hw.2 hc ks k1 (pl ++ [0]) 0 (pl' ++ [0]) 0 s t h1 h.1 h.2
      have h3 := (exec_safe κ).1 p hw.2 ks k1 (pl ++ [0]) 0 s h1 h.1
      exact ⟨fun z hz => h3 z (surely_sub h1 z hz), fun y hy => h2.w y (surely_sub h1 y hy), h2.th, h2.gi, h2.no⟩) 9 s t ⟨hs, hm⟩
    exact this.2
/-- a name that no row sets keeps its number -/
theorem exec_keepR {N T : List Str} {z : Str} (hN : z ∉ N) (hT : z ∉ T) : (∀ b : Blk, b.frm N T → ∀ pl n s, (b.exec pl n s).worth z = s.worth z) ∧ ∀ r : Row, r.frm N T → ∀ pl s, (r.exec pl s).worth z = s.worth z := by
  have n : ∀ {x}, x ∈ N → z ≠ x := fun h e => hN (e ▸ h)
  have t : ∀ {x}, x ∈ T → z ≠ x := fun h e => hT (e ▸ h)
  apply blk_ind2
  · intro _ pl n s; rfl
  · intro r b hr hb h pl m s
    show (b.exec pl (m + 1) (r.exec (pl ++ [m]) s)).worth z = _
    rw [hb h.2, hr h.1]
  · intro r hs h pl s
    cases r <;> first | (cases hs; done) | skip
    case num x i => exact if_neg (n h.1)
    case copy x y => exact if_neg (n h.1)
    case add x y w => exact if_neg (n h.1)
    case make x a b => exact if_neg (t h.1)
    case get x u f => exact if_neg (n h.1)
    case lett x u => exact if_neg (t h.1)
    case same x u v => exact if_neg (n h.1)
    all_goals rfl
  · intro x p q hp hq h pl s
    simp only [Row.exec]
    split
    · exact hq h.2.2 _ _ _
    · exact hp h.2.1 _ _ _
  · intro x p hp h pl s
    simp only [Row.exec]
    exact loopN_inv (P := fun s' => s'.worth z = s.worth z) (fun s' hs' => by rw [hp h.2]; exact hs') 9 s rfl
end Mi
set_option Elab.async false
set_option linter.all false
set_option maxRecDepth 100000
set_option maxHeartbeats 1000000
/-! K31c: the law's own less and named. -/
namespace Mi.L
open PySem Mi Mi.Sh
abbrev G : Tab := tabG items
theorem hP : HasP G := ⟨by kernel_rfl, by kernel_rfl, by kernel_rfl, by kernel_rfl, by kernel_rfl, ⟨"ROWS", by kernel_rfl⟩, by kernel_rfl, by kernel_rfl, by kernel_rfl, by kernel_rfl, by kernel_rfl, by kernel_rfl, ⟨"ROWS", by kernel_rfl⟩, by kernel_rfl⟩
theorem hR : HasR G := ⟨hP, by kernel_rfl, by kernel_rfl, by kernel_rfl, by kernel_rfl, by kernel_rfl, by kernel_rfl, by kernel_rfl, by kernel_rfl⟩
theorem hG : HasG G := ⟨by kernel_rfl, by kernel_rfl, by kernel_rfl, by kernel_rfl, by kernel_rfl, by kernel_rfl, by kernel_rfl⟩
theorem hPr : G (.fn "_law_program") = some Sh.d__law_program2 := by kernel_rfl
theorem hSz : G (.fn "_law_size") = some Sh.d__law_size := by kernel_rfl
theorem hIn : G (.fn "_law_inputs") = some Sh.d__law_inputs := by kernel_rfl
theorem hLs : G (.fn "_law_less") = some d__law_less := by kernel_rfl
theorem hNm : G (.fn "_law_named") = some d__law_named := by kernel_rfl
theorem app_new {st j : Store} {acc : List MV} {v : MV} (h : acc.length < lim) : runMe .append (.loc st.length) [v] (st ++ .lst acc :: j) = .ok .non (st ++ .lst (acc ++ [v]) :: j) := by
  rw [append_me get_new h, set_new]
theorem app_new2 {st j k : Store} {acc : List MV} {v : MV} (h : acc.length < lim) : runMe .append (.loc st.length) [v] (st ++ .lst acc :: j ++ k) = .ok .non (st ++ .lst (acc ++ [v]) :: (j ++ k)) := by
  have e : st ++ .lst acc :: j ++ k = st ++ MO.lst acc :: (j ++ k) := by simp
  rw [e]; exact app_new h
/-! ### less -/
theorem less_spec : ∀ (b : Blk) (d : Nat) (st : Store), 1 + b.deep ≤ d → b.length < 1000000 → (∀ r ∈ b.rows, ∀ a ∈ r.blks, a.size < 1000000) → b.size < 1000000 → ∃ j, callF G d (.fn "_law_less") [b.mv] st = .ok b.less.mv (st ++ j) := by
  intro b
  induction b using blk_ind with
  | h b ih =>
    intro d st hd hl _ hsz
    obtain ⟨d, rfl⟩ : ∃ e, d = e + 1 := ⟨d - 1, by omega⟩
    have hlim : lim = 16777216 := rfl
    have key : ∀ (c : Blk), (∀ r ∈ c.rows, r ∈ b.rows) → ∀ (acc : List MV) (j : Store) (e2 : Option MV), acc.length + c.length < 1000000 → ∃ j' e2', forGo (fun x env st => forStep (execS (callF G d) d__law_less_fb1) (bindT st (.name 2) x env) st) none c.mvs [some b.mv, some (.loc st.length), e2] (st ++ .lst acc :: j) = .ok (.nx [some b.mv, some (.loc st.length), e2']) (st ++ .lst (acc ++ c.less.mvs) :: j') := by
      intro c
      induction c using Blk.rec (motive_1 := fun _ => True) with
      | nil => intro _ acc j e2 _; exact ⟨j, e2, by rw [show Blk.nil.less.mvs = [] from rfl, List.append_nil]; rfl⟩
      | cons r c _ ihc =>
        intro hsub acc j e2 hal
        have hal : acc.length + (c.length + 1) < 1000000 := hal
        have hr := hsub r (List.mem_cons_self ..)
        have hdr := deep_rows r hr
        have hszr := rows_size hr
        have ih := ih r hr
        have ihc := ihc (fun r' h => hsub r' (List.mem_cons_of_mem _ h))
        have hg : (st ++ MO.lst acc :: j)[st.length]? = some (.lst acc) := get_new
        have bk : ∀ a ∈ r.blks, ∀ (S : Store), ∃ j, callF G d (.fn "_law_less") [a.mv] S = .ok a.less.mv (S ++ j) := fun a ha S => by
          have h1 := blks_size ha
          have h2 := blks_deep ha
          have h3 := blk_len_size a
          exact ih a ha d S (by omega) (by omega) (fun r' hr' a' ha' => by have := blks_size ha'; have := rows_size hr'; omega) (by omega)
        rcases row_cases r with hs | ⟨x, p, q, rfl⟩ | ⟨x, p, rfl⟩
        · cases hst : r.isStir with
          | true =>
            cases r <;> first | (cases hst; done) | skip
            obtain ⟨j', e2', h2⟩ := ihc acc j (some Row.stir.mv) (by omega)
            refine ⟨j', e2', ?_⟩
            show _ = Res.ok _ (st ++ MO.lst (acc ++ c.less.mvs) :: j')
            rw [← h2]
            exact for_cons (step_some (env1 := [some b.mv, some (.loc st.length), some Row.stir.mv]) rfl (inS (by kernel_rfl)))
          | false =>
            obtain ⟨j', e2', h2⟩ := ihc (acc ++ [r.mv]) j (some r.mv) (by rw [List.length_append, List.length_singleton]; omega)
            refine ⟨j', e2', ?_⟩
            have e : (Blk.cons r c).less.mvs = r.mv :: c.less.mvs := by
              show (if r.isStir then c.less else Blk.cons r.less c.less).mvs = _
              rw [hst, less_simple hs]; rfl
            rw [e]
            have e' : acc ++ r.mv :: c.less.mvs = acc ++ [r.mv] ++ c.less.mvs := by simp
            rw [e', ← h2]
            refine for_cons (step_some (env1 := [some b.mv, some (.loc st.length), some r.mv]) rfl (inS ?_))
            refine sGl hg ?_ (sM (app_new (st := st) (j := j) (acc := acc) (v := r.mv) (by omega)) ?_ ?_)
            all_goals (cases r <;> first | (cases hs; done) | (cases hst; done) | kernel_rfl)
        · obtain ⟨j1, c1⟩ := bk p (by simp [Row.blks]) (st ++ .lst acc :: j)
          obtain ⟨j2, c2⟩ := bk q (by simp [Row.blks]) (st ++ .lst acc :: j ++ j1)
          have ea : st ++ .lst acc :: j ++ j1 ++ j2 = st ++ MO.lst acc :: j ++ (j1 ++ j2) := by simp
          obtain ⟨j', e2', h2⟩ := ihc (acc ++ [(Row.ifr x p.less q.less).mv]) (j ++ (j1 ++ j2)) (some (Row.ifr x p q).mv) (by rw [List.length_append, List.length_singleton]; omega)
          refine ⟨j', e2', ?_⟩
          have e' : acc ++ (Blk.cons (Row.ifr x p q) c).less.mvs = acc ++ [(Row.ifr x p.less q.less).mv] ++ c.less.mvs := by
            show acc ++ (Row.ifr x p.less q.less).mv :: c.less.mvs = _
            simp
          rw [e', ← h2]
          have ap := app_new2 (st := st) (j := j) (k := j1 ++ j2) (acc := acc) (v := (Row.ifr x p.less q.less).mv) (by omega)
          rw [← ea] at ap
          exact for_cons (step_some (env1 := [some b.mv, some (.loc st.length), some (Row.ifr x p q).mv]) rfl (inS (sGl hg (by kernel_rfl) (sM c1 (by kernel_rfl) (sM c2 (by kernel_rfl) (sF 1 (sM ap (by kernel_rfl) (by kernel_rfl))))))))
        · obtain ⟨j1, c1⟩ := bk p (by simp [Row.blks]) (st ++ .lst acc :: j)
          obtain ⟨j', e2', h2⟩ := ihc (acc ++ [(Row.loop x p.less).mv]) (j ++ j1) (some (Row.loop x p).mv) (by rw [List.length_append, List.length_singleton]; omega)
          refine ⟨j', e2', ?_⟩
          have e' : acc ++ (Blk.cons (Row.loop x p) c).less.mvs = acc ++ [(Row.loop x p.less).mv] ++ c.less.mvs := by
            show acc ++ (Row.loop x p.less).mv :: c.less.mvs = _
            simp
          rw [e', ← h2]
          have ap := app_new2 (st := st) (j := j) (k := j1) (acc := acc) (v := (Row.loop x p.less).mv) (by omega)
          exact for_cons (step_some (env1 := [some b.mv, some (.loc st.length), some (Row.loop x p).mv]) rfl (inS (sGl hg (by kernel_rfl) (sM c1 (by kernel_rfl) (sF 1 (sM ap (by kernel_rfl) (by kernel_rfl)))))))
      | _ => trivial
    obtain ⟨j', e2, h⟩ := key b (fun _ h => h) [] [] none (by rw [List.length_nil]; omega)
    rw [List.nil_append] at h
    have hf : execS (callF G d) d__law_less_for1 [some b.mv, some (.loc st.length), none] (st ++ [MO.lst []]) = _ := ex_for (vs := [b.mv]) (by kernel_rfl) rfl h
    exact ⟨.lst b.less.mvs :: j', inF_rt hLs rfl (sO hf (by kernel_rfl) (sM (tuple1_loc (get_new (st := st) (j := j') (o := MO.lst b.less.mvs))) (by kernel_rfl) (by kernel_rfl)))⟩

/-! ### named -/
inductive Pt where
  | nm (x : Str)
  | i (n : Int)
  | b (c : Blk)
def Pt.enc : Pt → MV
  | .nm x => .str x
  | .i n => .int n
  | .b c => c.mv
def Pt.res : Pt → MV
  | .nm x => .str (ρ x)
  | .i n => .int n
  | .b c => c.zzd.mv
def kw : Row → Str
  | .num .. => "num" | .copy .. => "copy" | .add .. => "add" | .make .. => "make" | .get .. => "get" | .put .. => "put" | .lett .. => "let" | .same .. => "same" | .say .. => "say" | .give .. => "give" | .stir => "stir" | .ifr .. => "if" | .loop .. => "loop"
def pts : Row → List Pt
  | .num x n => [.nm x, .i n]
  | .copy x y => [.nm x, .nm y]
  | .add x y z => [.nm x, .nm y, .nm z]
  | .make t x y => [.nm t, .nm x, .nm y]
  | .get x t f => [.nm x, .nm t, .i f]
  | .put t f x => [.nm t, .i f, .nm x]
  | .lett t u => [.nm t, .nm u]
  | .same x t u => [.nm x, .nm t, .nm u]
  | .say x => [.nm x]
  | .give t => [.nm t]
  | .stir => []
  | .ifr x p q => [.nm x, .b p, .b q]
  | .loop x p => [.nm x, .b p]
theorem row_pts (r : Row) : r.mv = .tup (.str (kw r) :: (pts r).map Pt.enc) := by cases r <;> rfl
theorem row_ptz (r : Row) : r.zzd.mv = .tup (.str (kw r) :: (pts r).map Pt.res) := by cases r <;> rfl
theorem pts_len (r : Row) : (pts r).length ≤ 3 := by cases r <;> simp [pts]
/-- what is asked of a part -/
def PtOk (d : Nat) : Pt → Prop
  | .nm x => x.length ≤ 100
  | .i _ => True
  | .b c => ∀ S : Store, ∃ j, callF G d (.fn "_law_named") [c.mv] S = .ok c.zzd.mv (S ++ j)
theorem zz_add {x : Str} {st : Store} (h : x.length ≤ 100) : runOp .add [.str "zz", .str x] st = .ok (.str (ρ x)) st := by
  have e : ("zz" : Str).length = 2 := by decide +kernel
  have hlim : lim = 16777216 := rfl
  exact add_str (by rw [e]; omega)
theorem named_parts (d : Nat) (S : Store) (e0 e1 e2 : Option MV) : ∀ (ps : List Pt), (∀ p ∈ ps, PtOk d p) → ∀ (acc : List MV) (j : Store) (e4 : Option MV), acc.length + ps.length < 1000 →
    ∃ j' e4', forGo (fun x env st => forStep (execS (callF G d) d__law_named_fb1) (bindT st (.name 4) x env) st) none (ps.map Pt.enc) [e0, e1, e2, some (.loc S.length), e4] (S ++ .lst acc :: j) = .ok (.nx [e0, e1, e2, some (.loc S.length), e4']) (S ++ .lst (acc ++ ps.map Pt.res) :: j')
  | [], _, acc, j, e4, _ => ⟨j, e4, by simp only [List.map_nil, List.append_nil]; rfl⟩
  | p :: ps, h, acc, j, e4, hl => by
    rw [List.length_cons] at hl
    have hlim : lim = 16777216 := rfl
    have hp := h p (List.mem_cons_self ..)
    have hg : (S ++ MO.lst acc :: j)[S.length]? = some (.lst acc) := get_new
    have e' : ∀ (j' : Store), S ++ MO.lst (acc ++ (p :: ps).map Pt.res) :: j' = S ++ MO.lst (acc ++ [p.res] ++ ps.map Pt.res) :: j' := fun j' => by simp
    cases p with
    | nm x =>
      obtain ⟨j', e4', ih⟩ := named_parts d S e0 e1 e2 ps (fun q hq => h q (List.mem_cons_of_mem _ hq)) (acc ++ [.str (ρ x)]) j (some (.str (ρ x))) (by rw [List.length_append, List.length_singleton]; omega)
      refine ⟨j', e4', ?_⟩
      rw [e' j']
      show _ = Res.ok _ (S ++ MO.lst (acc ++ [.str (ρ x)] ++ ps.map Pt.res) :: j')
      rw [← ih, List.map_cons]
      exact for_cons (step_some (env1 := [e0, e1, e2, some (.loc S.length), some (.str x)]) rfl (inS (sM (zz_add (st := S ++ MO.lst acc :: j) hp) (by kernel_rfl) (sGl hg (by kernel_rfl) (sM (app_new (st := S) (j := j) (acc := acc) (v := .str (ρ x)) (by omega)) (by kernel_rfl) (by kernel_rfl))))))
    | i n =>
      obtain ⟨j', e4', ih⟩ := named_parts d S e0 e1 e2 ps (fun q hq => h q (List.mem_cons_of_mem _ hq)) (acc ++ [.int n]) j (some (.int n)) (by rw [List.length_append, List.length_singleton]; omega)
      refine ⟨j', e4', ?_⟩
      rw [e' j']
      show _ = Res.ok _ (S ++ MO.lst (acc ++ [.int n] ++ ps.map Pt.res) :: j')
      rw [← ih, List.map_cons]
      exact for_cons (step_some (env1 := [e0, e1, e2, some (.loc S.length), some (.int n)]) rfl (inS (sGl hg (by kernel_rfl) (sM (app_new (st := S) (j := j) (acc := acc) (v := .int n) (by omega)) (by kernel_rfl) (by kernel_rfl)))))
    | b c =>
      obtain ⟨k, hc⟩ := hp (S ++ .lst acc :: j)
      have hg2 : (S ++ MO.lst acc :: j ++ k)[S.length]? = some (.lst acc) := get_app' hg
      obtain ⟨j', e4', ih⟩ := named_parts d S e0 e1 e2 ps (fun q hq => h q (List.mem_cons_of_mem _ hq)) (acc ++ [c.zzd.mv]) (j ++ k) (some c.zzd.mv) (by rw [List.length_append, List.length_singleton]; omega)
      refine ⟨j', e4', ?_⟩
      rw [e' j']
      show _ = Res.ok _ (S ++ MO.lst (acc ++ [c.zzd.mv] ++ ps.map Pt.res) :: j')
      rw [← ih, List.map_cons]
      exact for_cons (step_some (env1 := [e0, e1, e2, some (.loc S.length), some c.mv]) rfl (inS (sM hc (by kernel_rfl) (sGl hg2 (by kernel_rfl) (sM (app_new2 (st := S) (j := j) (k := k) (acc := acc) (v := c.zzd.mv) (by omega)) (by kernel_rfl) (by kernel_rfl))))))
/-- names are short -/
def shortR (r : Row) : Prop := ∀ p ∈ pts r, match p with | .nm x => x.length ≤ 100 | _ => True
theorem named_spec {N T : List Str} (hN : ∀ x ∈ N, x.length ≤ 100) (hT : ∀ x ∈ T, x.length ≤ 100) : ∀ (b : Blk), b.frm N T → ∀ (d : Nat) (st : Store), 1 + b.deep ≤ d → b.size < 1000000 → ∃ j, callF G d (.fn "_law_named") [b.mv] st = .ok b.zzd.mv (st ++ j) := by
  intro b
  induction b using blk_ind with
  | h b ih =>
    intro hfb d st hd hsz
    obtain ⟨d, rfl⟩ : ∃ e, d = e + 1 := ⟨d - 1, by omega⟩
    have hlim : lim = 16777216 := rfl
    have hbl := blk_len_size b
    have key : ∀ (c : Blk), (∀ r ∈ c.rows, r ∈ b.rows) → c.frm N T → ∀ (acc : List MV) (j : Store) (e2 e3 e4 : Option MV), acc.length + c.length < 1000000 → ∃ j' e2' e3' e4', forGo (fun x env st => forStep (execS (callF G d) d__law_named_fb2) (bindT st (.name 2) x env) st) none c.mvs [some b.mv, some (.loc st.length), e2, e3, e4] (st ++ .lst acc :: j) = .ok (.nx [some b.mv, some (.loc st.length), e2', e3', e4']) (st ++ .lst (acc ++ c.zzd.mvs) :: j') := by
      intro c
      induction c using Blk.rec (motive_1 := fun _ => True) with
      | nil => intro _ _ acc j e2 e3 e4 _; exact ⟨j, e2, e3, e4, by rw [show Blk.nil.zzd.mvs = [] from rfl, List.append_nil]; rfl⟩
      | cons r c _ ihc =>
        intro hsub hf acc j e2 e3 e4 hal
        have hal : acc.length + (c.length + 1) < 1000000 := hal
        have hr := hsub r (List.mem_cons_self ..)
        have hdr := deep_rows r hr
        have hszr := rows_size hr
        have ih := ih r hr
        have bk : ∀ a ∈ r.blks, a.frm N T → ∀ (S : Store), ∃ j, callF G d (.fn "_law_named") [a.mv] S = .ok a.zzd.mv (S ++ j) := fun a ha hfa S => by
          have h1 := blks_size ha
          have h2 := blks_deep ha
          exact ih a ha hfa d S (by omega) (by omega)
        have hok : ∀ p ∈ pts r, PtOk d p := by
          have hf1 := hf.1
          intro p hp
          cases r <;> simp only [pts, List.mem_cons, List.not_mem_nil, or_false] at hp <;> simp only [Row.frm] at hf1
          case num => rcases hp with rfl | rfl; exact hN _ hf1.1; trivial
          case copy => rcases hp with rfl | rfl; exact hN _ hf1.1; exact hN _ hf1.2
          case add => rcases hp with rfl | rfl | rfl; exact hN _ hf1.1; exact hN _ hf1.2.1; exact hN _ hf1.2.2
          case make => rcases hp with rfl | rfl | rfl; exact hT _ hf1.1; exact hN _ hf1.2.1; exact hN _ hf1.2.2
          case get => rcases hp with rfl | rfl | rfl; exact hN _ hf1.1; exact hT _ hf1.2.1; trivial
          case put => rcases hp with rfl | rfl | rfl; exact hT _ hf1.1; trivial; exact hN _ hf1.2.2
          case lett => rcases hp with rfl | rfl; exact hT _ hf1.1; exact hT _ hf1.2
          case same => rcases hp with rfl | rfl | rfl; exact hN _ hf1.1; exact hT _ hf1.2.1; exact hT _ hf1.2.2
          case say => subst hp; exact hN _ hf1
          case give => subst hp; exact hT _ hf1
          case ifr x p q => rcases hp with rfl | rfl | rfl; exact hN _ hf1.1; exact bk p (by simp [Row.blks]) hf1.2.1; exact bk q (by simp [Row.blks]) hf1.2.2
          case loop x p => rcases hp with rfl | rfl; exact hN _ hf1.1; exact bk p (by simp [Row.blks]) hf1.2
        let S : Store := st ++ .lst acc :: j
        obtain ⟨j1, e4', hin⟩ := named_parts d S (some b.mv) (some (.loc st.length)) (some r.mv) (pts r) hok [.str (kw r)] [] e4 (by have := pts_len r; show 1 + _ < 1000; omega)
        have hfor : execS (callF G d) d__law_named_for1 [some b.mv, some (.loc st.length), some r.mv, some (.loc S.length), e4] (S ++ [MO.lst [.str (kw r)]]) = .ok (.nx [some b.mv, some (.loc st.length), some r.mv, some (.loc S.length), e4']) (S ++ .lst ([.str (kw r)] ++ (pts r).map Pt.res) :: j1) := by
          refine ex_for (vs := [.tup ((pts r).map Pt.enc)]) (st1 := S ++ [MO.lst [.str (kw r)]]) (xs := (pts r).map Pt.enc) (l := none) ?_ rfl hin
          cases r <;> kernel_rfl
        have hgn : (S ++ MO.lst ([.str (kw r)] ++ (pts r).map Pt.res) :: j1)[S.length]? = some (.lst ([.str (kw r)] ++ (pts r).map Pt.res)) := get_new
        have hgm : (S ++ MO.lst ([.str (kw r)] ++ (pts r).map Pt.res) :: j1)[st.length]? = some (.lst acc) := get_app' get_new
        have ht : runOp .tuple1 [.loc S.length] (S ++ MO.lst ([.str (kw r)] ++ (pts r).map Pt.res) :: j1) = .ok r.zzd.mv (S ++ MO.lst ([.str (kw r)] ++ (pts r).map Pt.res) :: j1) := by
          rw [tuple1_loc hgn, row_ptz]; rfl
        have ap := app_new2 (st := st) (j := j) (k := MO.lst ([.str (kw r)] ++ (pts r).map Pt.res) :: j1) (acc := acc) (v := r.zzd.mv) (by omega)
        obtain ⟨j', f2, f3, f4, h2⟩ := ihc (fun r' h => hsub r' (List.mem_cons_of_mem _ h)) hf.2 (acc ++ [r.zzd.mv]) (j ++ MO.lst ([.str (kw r)] ++ (pts r).map Pt.res) :: j1) (some r.mv) (some (.loc S.length)) e4' (by rw [List.length_append, List.length_singleton]; omega)
        refine ⟨j', f2, f3, f4, ?_⟩
        have e' : acc ++ (Blk.cons r c).zzd.mvs = acc ++ [r.zzd.mv] ++ c.zzd.mvs := by
          show acc ++ r.zzd.mv :: c.zzd.mvs = _
          simp
        rw [e', ← h2]
        refine for_cons (step_some (env1 := [some b.mv, some (.loc st.length), some r.mv, e3, e4]) rfl (inS (sO hfor ?_ (sGl hgm ?_ (sM ht ?_ (sM ap ?_ ?_))))))
        all_goals (cases r <;> kernel_rfl)
      | _ => trivial
    obtain ⟨j', e2, e3, e4, h⟩ := key b (fun _ h => h) hfb [] [] none none none (by rw [List.length_nil]; omega)
    rw [List.nil_append] at h
    have hf : execS (callF G d) d__law_named_for2 [some b.mv, some (.loc st.length), none, none, none] (st ++ [MO.lst []]) = _ := ex_for (vs := [b.mv]) (by kernel_rfl) rfl h
    exact ⟨.lst b.zzd.mvs :: j', inF_rt hNm rfl (sO hf (by kernel_rfl) (sM (tuple1_loc (get_new (st := st) (j := j') (o := MO.lst b.zzd.mvs))) (by kernel_rfl) (by kernel_rfl)))⟩
end Mi.L
set_option Elab.async false
set_option linter.all false
set_option maxRecDepth 100000
set_option maxHeartbeats 1000000
/-! K31: the law of joined programs. -/
namespace Mi.L
open PySem Mi Mi.Sh
/-! ### names -/
theorem nm_head (rest : Str) (c : Nat) : (nm rest c).cps.toList.head? = some c := by unfold nm; rw [cps_app]; rfl
theorem nm_len (ns : List Int) (n c : Nat) : (nm (restOf ns n) c).cps.toList.length ≤ 4 := by
  unfold nm
  rw [cps_app, List.length_append]
  have := (rest_ok ns n).1
  have e : ((⟨#[c]⟩ : Str).cps.toList).length = 1 := rfl
  omega
theorem name_facts {ns : List Int} {n : Nat} {x : Str} (h : x ∈ NN ns n ∨ x ∈ TT ns n) : x.cps.toList.length ≤ 4 ∧ ∃ c, x.cps.toList.head? = some c ∧ c ≤ 118 := by
  rcases h with h | h
  · obtain ⟨c, hc, rfl⟩ := List.mem_map.mp h
    have := (order_ok (mixed ns (n + 2 + many4 ns n) 3)).1 c hc
    exact ⟨nm_len ns n c, c, nm_head _ _, by omega⟩
  · obtain ⟨c, hc, rfl⟩ := List.mem_map.mp h
    simp only [List.mem_cons, List.not_mem_nil, or_false] at hc
    exact ⟨nm_len ns n c, c, nm_head _ _, by omega⟩
theorem rho_off {ns : List Int} {n : Nat} (y : Str) : ¬ (ρ y ∈ NN ns n ∨ ρ y ∈ TT ns n) := fun h => by
  obtain ⟨_, c, h1, h2⟩ := name_facts h
  rw [rho_head] at h1
  cases h1; omega
theorem map_nodup {l : List Str} (h : l.Nodup) : (l.map ρ).Nodup := nodup_map (fun _ _ e => rho_inj e) h
/-- two drawn programs without stir, joined -/
structure Two (ns : List Int) (n1 n2 : Nat) (p1 p2 : Prg) : Prop where
  o1 : p1.Ok
  o2 : p2.Ok
  f1 : p1.body.frm (NN ns n1) (TT ns n1)
  f2 : p2.body.frm (NN ns n2) (TT ns n2)
  q1 : ∀ x ∈ p1.params, x ∈ NN ns n1
  q2 : ∀ x ∈ p2.params, x ∈ NN ns n2
  c2 : p2.body.calm
  z1 : p1.body.size ≤ 100
  z2 : p2.body.size ≤ 100
  d1 : p1.body.deep ≤ 2
  d2 : p2.body.deep ≤ 2
  s1 : p1.body.steps ≤ 10000
  s2 : p2.body.steps ≤ 10000
  few : p1.params.length + p2.params.length ≤ 3
def joined (p1 p2 : Prg) : Prg := ⟨p1.params ++ p2.params.map ρ, p1.body.app p2.body.zzd⟩
section
variable {ns : List Int} {n1 n2 : Nat} {p1 p2 : Prg} (h : Two ns n1 n2 p1 p2)
include h
theorem joined_ok : (joined p1 p2).Ok := by
  obtain ⟨k1, e1⟩ := Ok_surely h.o1
  obtain ⟨k2, e2⟩ := Ok_surely h.o2
  have e3 := (zzd_surely).1 p2.body _ _ e2
  obtain ⟨l1, a1, a2⟩ := (surely_mono).1 p1.body p1.params k1 (p1.params ++ p2.params.map ρ) (fun x hx => List.mem_append_left _ hx) e1
  obtain ⟨l2, b1, _⟩ := (surely_mono).1 p2.body.zzd (p2.params.map ρ) (k2.map ρ) l1 (fun x hx => surely_sub a1 x (List.mem_append_right _ hx)) e3
  have hz := (zzd_same).1 p2.body
  have A := nms ns n1
  have B := nms ns n2
  have g1 := h.z1; have g2 := h.z2; have g3 := h.d1; have g4 := h.d2; have g5 := h.few
  refine ok_of2 (N := NN ns n1 ++ (NN ns n2).map ρ) (T := TT ns n1 ++ (TT ns n2).map ρ) ?_ ?_ ?_ _ ?_ ?_ ?_ ?_ ?_ ?_ (ks := l2) ?_
  · intro x hx
    rcases List.mem_append.mp hx with hx | hx
    · exact A.wN x hx
    · obtain ⟨y, hy, rfl⟩ := List.mem_map.mp hx
      exact rho_word (B.wN y hy) (name_facts (.inl hy)).1
  · intro x hx
    rcases List.mem_append.mp hx with hx | hx
    · exact A.wT x hx
    · obtain ⟨y, hy, rfl⟩ := List.mem_map.mp hx
      exact rho_word (B.wT y hy) (name_facts (.inr hy)).1
  · intro x hx hx2
    rcases List.mem_append.mp hx with hx | hx
    · rcases List.mem_append.mp hx2 with hx2 | hx2
      · exact A.off x hx hx2
      · obtain ⟨y, hy, rfl⟩ := List.mem_map.mp hx2
        exact rho_off y (.inl hx)
    · obtain ⟨y, hy, rfl⟩ := List.mem_map.mp hx
      rcases List.mem_append.mp hx2 with hx2 | hx2
      · exact rho_off y (.inr hx2)
      · exact B.off y hy (mem_rho.mp hx2)
  · intro x hx
    rcases List.mem_append.mp hx with hx | hx
    · exact List.mem_append_left _ (h.q1 x hx)
    · obtain ⟨y, hy, rfl⟩ := List.mem_map.mp hx
      exact List.mem_append_right _ (mem_rho.mpr (h.q2 y hy))
  · show (p1.params ++ p2.params.map ρ).length ≤ 3
    rw [List.length_append, List.length_map]; omega
  · show (p1.params ++ p2.params.map ρ).Nodup
    rw [List.nodup_append]
    refine ⟨h.o1.built.nodup, map_nodup h.o2.built.nodup, fun a ha b hb e => ?_⟩
    obtain ⟨y, hy, rfl⟩ := List.mem_map.mp hb
    subst e
    exact rho_off y (.inl (h.q1 _ ha))
  · exact app_frm ((frm_mono (fun x hx => List.mem_append_left _ hx) (fun x hx => List.mem_append_left _ hx)).1 _ h.f1) ((frm_mono (fun x hx => List.mem_append_right _ hx) (fun x hx => List.mem_append_right _ hx)).1 _ ((zzd_frm).1 _ h.f2))
  · show (p1.body.app p2.body.zzd).size ≤ 400
    rw [app_size, hz.1]; omega
  · show (p1.body.app p2.body.zzd).deep ≤ 6
    rw [app_deep, hz.2.1]; omega
  · show (p1.body.app p2.body.zzd).surely (p1.params ++ p2.params.map ρ) = _
    rw [app_surely, a1, Option.bind_some]; exact b1
theorem dget_app {α : Type} (a b : List (Str × α)) (x : Str) : dget (a ++ b) x = (dget a x).or (dget b x) := by
  unfold dget
  rw [List.find?_append]
  cases a.find? (fun kv => decide (kv.1 = x)) <;> rfl
theorem dget_zip_none {ps : List Str} {α : Type} {vs : List α} {x : Str} (hx : x ∉ ps) : dget (ps.zip vs) x = none := by
  refine dget_none_of fun kv hkv e => hx ?_
  rw [← e]
  exact (List.of_mem_zip hkv).1
theorem dget_zip_rho : ∀ (ps : List Str) (vs : List Int) (y : Str), dget ((ps.map ρ).zip vs) (ρ y) = dget (ps.zip vs) y
  | [], vs, y => rfl
  | a :: ps, [], y => rfl
  | a :: ps, v :: vs, y => by
    have ih := dget_zip_rho ps vs y
    unfold dget at *
    rw [List.map_cons, List.zip_cons_cons, List.zip_cons_cons, List.find?_cons, List.find?_cons]
    by_cases e : a = y
    · subst e; simp
    · have e2 : ¬ ρ a = ρ y := fun h => e (rho_inj h)
      simp only [e, e2, decide_false]
      exact ih
/-- what the joined one does -/
theorem joined_fin (i1 i2 : List Int) (h1 : Ins p1 i1) (h2 : Ins p2 i2) : ((joined p1 p2).fin (i1 ++ i2)).things = (p1.fin i1).things ++ (p2.fin i2).things ∧ ((joined p1 p2).fin (i1 ++ i2)).outs = (p1.fin i1).outs ++ (p2.fin i2).outs ∧
    ((joined p1 p2).fin (i1 ++ i2)).noted = (p1.fin i1).noted ++ (p2.fin i2).noted.map (Note.mvd (p1.fin i1).given.length) := by
  let t0 := (joined p1 p2).start (i1 ++ i2)
  let t1 := p1.body.exec [] 0 t0
  let b := p1.fin i1
  have hzip : (p1.params ++ p2.params.map ρ).zip (i1 ++ i2) = p1.params.zip i1 ++ (p2.params.map ρ).zip i2 := List.zip_append h1.len.symm
  have al0 : AlN (NN ns n1) (TT ns n1) (p1.start i1) t0 := by
    refine ⟨fun x hx => ?_, rfl, rfl, rfl⟩
    show (dget (p1.params.zip i1) x).getD 0 = (dget ((p1.params ++ p2.params.map ρ).zip (i1 ++ i2)) x).getD 0
    rw [hzip, dget_app h, dget_zip_none h (ps := p2.params.map ρ) (vs := i2) (x := x) (fun hc => by
      obtain ⟨y, _, rfl⟩ := List.mem_map.mp hc
      exact rho_off y hx)]
    cases dget (p1.params.zip i1) x <;> rfl
  have al1 := (exec_alN).1 p1.body h.f1 [] 0 [] 0 _ _ al0
  have hb : GivenOk b := fin_given h.o1 i1
  obtain ⟨k2, e2⟩ := Ok_surely h.o2
  have hw2 := (frm_wk (nms ns n2).off).1 p2.body h.f2
  have hk2 : ∀ x ∈ p2.params, kT (TT ns n2) x = false := fun x hx => decide_eq_false ((nms ns n2).off x (h.q2 x hx))
  have sim0 : Sim (kT (TT ns n2)) b p2.params (p2.start i2) t1 := by
    refine ⟨fun y hy => ?_, ?_, ?_, ?_⟩
    · rw [hk2 y hy]
      have e1 : t1.worth (ρ y) = t0.worth (ρ y) := (exec_keepR (fun hc => rho_off y (.inl hc)) (fun hc => rho_off y (.inr hc))).1 p1.body h.f1 [] 0 t0
      show t1.worth (ρ y) = (dget (p2.params.zip i2) y).getD 0
      rw [e1]
      show (dget ((p1.params ++ p2.params.map ρ).zip (i1 ++ i2)) (ρ y)).getD 0 = _
      rw [hzip, dget_app h, dget_zip_none h (ps := p1.params) (fun hc => rho_off y (.inl (h.q1 _ hc))), dget_zip_rho h]
      rfl
    · show t1.things = b.things ++ []
      rw [List.append_nil]; exact al1.2.1.symm
    · show t1.given = b.given ++ []
      rw [List.append_nil]; exact al1.2.2.1.symm
    · show t1.noted = b.noted ++ []
      rw [List.append_nil]; exact al1.2.2.2.symm
  have sim1 := (sim_exec (kT (TT ns n2)) b hb).1 p2.body hw2 h.c2 p2.params k2 [] 0 [] (0 + p1.body.length) _ _ e2 (start_safe hk2 i2) sim0
  have hfin : (joined p1 p2).fin (i1 ++ i2) = p2.body.zzd.exec [] (0 + p1.body.length) t1 := by
    show (p1.body.app p2.body.zzd).exec [] 0 t0 = _
    rw [app_exec]
  rw [hfin]
  refine ⟨sim1.th, ?_, sim1.no⟩
  unfold RS.outs
  rw [sim1.gi, sim1.th, List.map_append, List.map_map]
  congr 1
  · apply List.map_congr_left
    intro g hg
    rw [List.getD_eq_getElem?_getD, List.getElem?_append_left (hb.2 g hg), ← List.getD_eq_getElem?_getD]
  · apply List.map_congr_left
    intro g hg
    show (b.things ++ (p2.fin i2).things).getD (g + b.things.length) (0, 0) = _
    rw [List.getD_eq_getElem?_getD, List.getElem?_append_right (by omega), Nat.add_sub_cancel, ← List.getD_eq_getElem?_getD]
end

/-! ### the law -/
theorem add_lst {xs ys : List MV} {st : Store} (h : xs.length + ys.length ≤ lim) : runOp .add [.lst xs, .lst ys] st = .ok (.lst (xs ++ ys)) st := by
  show addL (.lst xs) (.lst ys) st = _
  unfold addL
  show (if xs.length + ys.length ≤ lim then _ else _) = _
  rw [if_pos h]
theorem add_locs {xs ys : List MV} {st : Store} {n m : Nat} (hn : st[n]? = some (.lst xs)) (hm : st[m]? = some (.lst ys)) (h : xs.length + ys.length ≤ lim) : runOp .add [.loc n, .loc m] st = .ok (.lst (xs ++ ys)) st := by
  show addL (.loc n) (.loc m) st = _
  unfold addL
  rw [lstS_loc hn, lstS_loc hm]
  show (if xs.length + ys.length ≤ lim then _ else _) = _
  rw [if_pos h]
/-- the notes moved on -/
theorem moved_go (k : Nat) (S : Store) (outs : List MV) (hk : outs.length = k) (e0 e1 e2 e3 e4 e5 e6 e7 e8 e10 e11 e12 e13 e16 : Option MV) (l : Option (Nat × MO)) : ∀ (nts : List Note) (acc : List MV) (e15 : Option MV), acc.length + nts.length < 1000000 →
    ∃ e15', forGo (fun x env st => forStep (execS (callF G 100) d_law_fb1) (bindT st (.name 15) x env) st) l (nts.map Note.mv) [e0, e1, e2, e3, e4, e5, e6, e7, e8, some (.lst outs), e10, e11, e12, e13, some (.loc S.length), e15, e16] (S ++ [MO.lst acc]) = .ok (.nx [e0, e1, e2, e3, e4, e5, e6, e7, e8, some (.lst outs), e10, e11, e12, e13, some (.loc S.length), e15', e16]) (unlock l (S ++ [MO.lst (acc ++ nts.map fun a => (a.mvd k).mv)]))
  | [], acc, e15, _ => ⟨e15, by simp only [List.map_nil, List.append_nil]; rfl⟩
  | a :: nts, acc, e15, hl => by
    rw [List.length_cons] at hl
    have hlim : lim = 16777216 := rfl
    obtain ⟨e15', ih⟩ := moved_go k S outs hk e0 e1 e2 e3 e4 e5 e6 e7 e8 e10 e11 e12 e13 e16 l nts (acc ++ [(a.mvd k).mv]) (some a.mv) (by rw [List.length_append, List.length_singleton]; omega)
    refine ⟨e15', ?_⟩
    have e : acc ++ (a :: nts).map (fun a => (a.mvd k).mv) = acc ++ [(a.mvd k).mv] ++ nts.map fun a => (a.mvd k).mv := by simp
    rw [e, ← ih, List.map_cons]
    have hg : (S ++ [MO.lst acc])[S.length]? = some (.lst acc) := get_new
    have ap := app_new (st := S) (j := []) (acc := acc) (v := (a.mvd k).mv) (by omega)
    refine for_cons (step_some (env1 := [e0, e1, e2, e3, e4, e5, e6, e7, e8, some (.lst outs), e10, e11, e12, e13, some (.loc S.length), some a.mv, e16]) rfl (inS (sGl hg (by kernel_rfl) ?_)))
    cases a with
    | say v => exact sM ap (by kernel_rfl) (by kernel_rfl)
    | give i x y =>
      have e2 : (Note.mvd k (.give i x y)).mv = .tup [.str "give", .int ((i : Int) + (outs.length : Nat)), .int x, .int y] := by
        rw [hk]; rfl
      rw [e2] at ap ⊢
      exact sF 1 (sM ap (by kernel_rfl) (by kernel_rfl))
theorem turn (ns : List Int) {n1 n2 : Nat} {p1 p2 : Prg} (h : Two ns n1 n2 p1 p2) {st : Store} {n : Nat} (ht : 0 < st.length) (hn : n < 800000) (x : MV) (e5 e6 e7 e8 e9 e10 e11 e12 e13 e14 e15 e16 : Option MV) :
    ∃ st' n' f6 f7 f8 f9 f10 f11 f12 f13 f14 f15 f16, (fun x env st => forStep (execS (callF G 100) d_law_fb2) (bindT st (.name 5) x env) st) x [some (scr ns), some (.loc 0), some p1.mv, some p2.mv, some (joined p1 p2).mv, e5, e6, e7, e8, e9, e10, e11, e12, e13, e14, e15, e16] (tw st 0 n) = .ok (.nx [some (scr ns), some (.loc 0), some p1.mv, some p2.mv, some (joined p1 p2).mv, some x, f6, f7, f8, f9, f10, f11, f12, f13, f14, f15, f16]) (tw st' 0 n') ∧ 0 < st'.length ∧ n' ≤ n + 12 := by
  have hlim : lim = 16777216 := rfl
  have g1 := h.s1; have g2 := h.s2
  obtain ⟨i1, m1, c1, hi1, _, hm1⟩ := inputs_spec hG hIn ns ht p1 h.o1.built.few (n := n) (by omega) 95
  obtain ⟨i2, m2, c2, hi2, _, hm2⟩ := inputs_spec hG hIn ns ht p2 h.o2.built.few (n := m1) (by omega) 95
  obtain ⟨o1, st1, r1, q1, olt1, ho1, la1, lb1, k1, u1, v1⟩ := run_tw hR 77 p1 h.o1 i1 hi1 (by omega) (st := st) (n := m2) ht
  obtain ⟨o2, st2, r2, q2, olt2, ho2, la2, lb2, k2, u2, v2⟩ := run_tw hR 77 p2 h.o2 i2 hi2 (by omega) (st := st1) (n := m2) lb1
  obtain ⟨jt, jo, jn⟩ := joined_fin h i1 i2 hi1 hi2
  let S0 := tw st2 0 m2
  let nts := (p2.fin i2).noted
  let S1 := S0.set (o2 + 4) (.flst (nts.map Note.mv))
  have lS : S1.length = S0.length := List.length_set
  have lS0 : S0.length = st2.length := tw_len ..
  let outs := (p1.fin i1).outs.map pairMV
  have hol : outs.length = (p1.fin i1).given.length := by show ((p1.fin i1).outs.map pairMV).length = _; rw [List.length_map]; exact List.length_map ..
  let told1 : Option MV := some (.loc (o1 + 4))
  obtain ⟨e15', hmv⟩ := moved_go (p1.fin i1).given.length S1 outs hol (some (scr ns)) (some (.loc 0)) (some p1.mv) (some p2.mv) (some (joined p1 p2).mv) (some x) (some (insMV i1)) (some (insMV i2)) told1 (some (.int (p1.fin i1).things.length)) (some (.loc (o2 + 4))) (some (.lst ((p2.fin i2).outs.map pairMV))) (some (.int (p2.fin i2).things.length)) e16 (some (o2 + 4, .lst (nts.map Note.mv))) nts [] e15 (by rw [List.length_nil]; show 0 + (p2.fin i2).noted.length < 1000000; omega)
  rw [List.nil_append] at hmv
  let mvd := nts.map fun a => (a.mvd (p1.fin i1).given.length).mv
  have q2' : (S0 ++ [MO.lst []])[o2 + 4]? = some (.lst (nts.map Note.mv)) := get_app' q2
  have olt : o2 + 4 < S0.length := by rw [lS0]; exact olt2
  have hlk : lock (some (o2 + 4, .lst (nts.map Note.mv))) (S0 ++ [MO.lst []]) = S1 ++ [MO.lst []] := set_app olt
  have hun : unlock (some (o2 + 4, .lst (nts.map Note.mv))) (S1 ++ [MO.lst mvd]) = S0 ++ [MO.lst mvd] := by
    show (S1 ++ [MO.lst mvd]).set (o2 + 4) (.lst (nts.map Note.mv)) = _
    rw [set_app (by rw [lS]; exact olt)]
    show (S0.set (o2 + 4) _).set (o2 + 4) _ ++ _ = _
    rw [List.set_set, set_same q2]
  rw [hun, lS] at hmv
  have hfor : execS (callF G 100) d_law_for1 [some (scr ns), some (.loc 0), some p1.mv, some p2.mv, some (joined p1 p2).mv, some x, some (insMV i1), some (insMV i2), told1, some (.lst outs), some (.int (p1.fin i1).things.length), some (.loc (o2 + 4)), some (.lst ((p2.fin i2).outs.map pairMV)), some (.int (p2.fin i2).things.length), some (.loc S0.length), e15, e16] (S0 ++ [MO.lst []]) = .ok (.nx [some (scr ns), some (.loc 0), some p1.mv, some p2.mv, some (joined p1 p2).mv, some x, some (insMV i1), some (insMV i2), told1, some (.lst outs), some (.int (p1.fin i1).things.length), some (.loc (o2 + 4)), some (.lst ((p2.fin i2).outs.map pairMV)), some (.int (p2.fin i2).things.length), some (.loc S0.length), e15', e16]) (S0 ++ [MO.lst mvd]) :=
    ex_for (vs := [.loc (o2 + 4)]) (st1 := S0 ++ [MO.lst []]) (by kernel_rfl) (items_lst q2') (by rw [hlk]; exact hmv)
  -- the joined one
  let st3 : Store := st2 ++ [MO.lst mvd]
  have e3 : S0 ++ [MO.lst mvd] = tw st3 0 m2 := tw_app lb2
  rw [e3] at hfor
  have l3 : st3.length = st2.length + 1 := by simp [st3]
  have ai : runOp .add [insMV i1, insMV i2] (tw st3 0 m2) = .ok (insMV (i1 ++ i2)) (tw st3 0 m2) := by
    have h1 := hi1.len; have h2 := hi2.len; have h3 := h.o1.built.few; have h4 := h.o2.built.few
    show runOp .add [.tup (i1.map MV.int), .tup (i2.map MV.int)] _ = .ok (.tup ((i1 ++ i2).map MV.int)) _
    rw [add_tup (by rw [List.length_map, List.length_map]; omega), List.map_append]
  have hij : Ins (joined p1 p2) (i1 ++ i2) := by
    refine ⟨?_, fun i hi => ?_⟩
    · show (i1 ++ i2).length = (p1.params ++ p2.params.map ρ).length
      rw [List.length_append, List.length_append, List.length_map, hi1.len, hi2.len]
    · rcases List.mem_append.mp hi with hi | hi
      · exact hi1.ok i hi
      · exact hi2.ok i hi
  have hjs : (joined p1 p2).body.steps = p1.body.steps + p2.body.steps := by
    show (p1.body.app p2.body.zzd).steps = _
    rw [app_steps, ((zzd_same).1 p2.body).2.2.1]
  obtain ⟨o3, st4, r3, q3, olt3, ho3, la3, lb3, k3, u3, v3⟩ := run_tw hR 77 (joined p1 p2) (joined_ok h) (i1 ++ i2) hij (by omega) (st := st3) (n := m2) (by omega)
  let S4 := tw st4 0 m2
  have w1 : S4[o1 + 4]? = some (.lst ((p1.fin i1).noted.map Note.mv)) := by
    show (tw st4 0 m2)[o1 + 4]? = _
    rw [k3 _ (by omega), ← e3, get_app (by omega)]
    show (tw st2 0 m2)[o1 + 4]? = _
    rw [k2 _ olt1]; exact q1
  have w2 : S4[S0.length]? = some (.lst mvd) := by
    show (tw st4 0 m2)[S0.length]? = _
    rw [k3 _ (by omega), ← e3]; exact get_new
  have an := add_locs w1 w2 (by
    rw [List.length_map]
    show _ + (nts.map _).length ≤ lim
    rw [List.length_map]
    show (p1.fin i1).noted.length + (p2.fin i2).noted.length ≤ lim
    omega)
  have ol2 : (p2.fin i2).outs.length = (p2.fin i2).given.length := List.length_map ..
  have ol3 : ((p2.fin i2).outs.map pairMV).length = (p2.fin i2).given.length := by rw [List.length_map]; exact ol2
  have ao := add_lst (xs := outs) (ys := (p2.fin i2).outs.map pairMV) (st := S4) (by rw [hol, ol3]; omega)
  have hne : runOp .ne [toldMV o3 ((joined p1 p2).fin (i1 ++ i2)), .tup [.lst ((p1.fin i1).noted.map Note.mv ++ mvd), .lst (outs ++ (p2.fin i2).outs.map pairMV), .int ((p1.fin i1).things.length + (p2.fin i2).things.length)]] S4 = .ok (.bl false) S4 := by
    have e1 : (p1.fin i1).noted.map Note.mv ++ mvd = ((joined p1 p2).fin (i1 ++ i2)).noted.map Note.mv := by
      rw [jn, List.map_append, List.map_map]; rfl
    have e2 : outs ++ (p2.fin i2).outs.map pairMV = ((joined p1 p2).fin (i1 ++ i2)).outs.map pairMV := by
      rw [jo, List.map_append]
    have e4 : ((p1.fin i1).things.length : Int) + ((p2.fin i2).things.length : Int) = (((joined p1 p2).fin (i1 ++ i2)).things.length : Nat) := by
      rw [jt, List.length_append]; omega
    rw [e1, e2, e4]
    exact ne_same (dt_told q3) (Dt.tup3 (n := 2) (Dt.lst fun a _ => dt_note _ a) (Dt.lst fun a _ => dt_pair _ a) (Dt.int _)) (by omega) (by omega)
  refine ⟨st4, m2, some (insMV i1), some (insMV i2), told1, some (.lst outs), some (.int (p1.fin i1).things.length), some (.loc (o2 + 4)), some (.lst ((p2.fin i2).outs.map pairMV)), some (.int (p2.fin i2).things.length), some (.loc S0.length), e15', e16, step_some (env1 := [some (scr ns), some (.loc 0), some p1.mv, some p2.mv, some (joined p1 p2).mv, some x, e6, e7, e8, e9, e10, e11, e12, e13, e14, e15, e16]) rfl (inS ?_), lb3, by omega⟩
  exact sM c1 (by kernel_rfl) (sM c2 (by kernel_rfl) (sM r1 (by kernel_rfl) (sM r2 (by kernel_rfl) (sO hfor (by kernel_rfl) (sM ai (by kernel_rfl) (sM r3 (by kernel_rfl) (sM an (by kernel_rfl) (sM ao (by kernel_rfl) (sM hne (by kernel_rfl) (by kernel_rfl))))))))))

theorem law_true (ns : List Int) : ∃ st, callF G 101 (.fn "law") [.slst (ns.map MV.int)] [] = .ok (.bl true) st := by
  have b5 : 5 * rd 5 2 = 1930 ∧ 5 * rz 5 2 = 155 ∧ 5 * rt 5 2 = 2570 := by decide
  have hlim : lim = 16777216 := rfl
  obtain ⟨p, n1, st1, c1, dp, h100, _, bn1, l1, _⟩ := program2_spec hG hPr hSz ns (t := 0) (n := 0) (m := 5) (D := 2) (deep := 2) (st := [MO.lst []]) (by decide) (by omega) (by omega) (by omega) (by omega) 94 (by omega)
  have lp : 0 < st1.length := by have : [MO.lst []].length = 1 := rfl; omega
  obtain ⟨q, n2, st2, c2, dq, h100', _, bn2, l2, _⟩ := program2_spec hG hPr hSz ns (t := 0) (n := n1) (m := 5) (D := 2) (deep := 2) (st := st1) lp (by omega) (by omega) (by omega) (by omega) 94 (by omega)
  have hps := dp.stp; have hpd := dp.dp; have hqs := dq.stp; have hqd := dq.dp
  have bl : ∀ b : Blk, b.size ≤ 100 → b.length < 1000000 ∧ (∀ r ∈ b.rows, ∀ a ∈ r.blks, a.size < 1000000) ∧ b.size < 1000000 := fun b hb => ⟨by have := blk_len_size b; omega, fun r hr a ha => by have := blks_size ha; have := rows_size hr; omega, by omega⟩
  obtain ⟨x1, x2, x3⟩ := bl p.body h100
  obtain ⟨y1, y2, y3⟩ := bl q.body h100'
  obtain ⟨j1, c3⟩ := less_spec p.body 100 (tw st2 0 n2) (by omega) x1 x2 x3
  rw [tw_app (by omega)] at c3
  obtain ⟨j2, c4⟩ := less_spec q.body 100 (tw (st2 ++ j1) 0 n2) (by omega) y1 y2 y3
  rw [tw_app (by rw [List.length_append]; omega)] at c4
  let p1 : Prg := ⟨p.params, p.body.less⟩
  let p2 : Prg := ⟨q.params, q.body.less⟩
  let st3 : Store := st2 ++ j1 ++ j2
  have l3 : 0 < st3.length := by show 0 < (st2 ++ j1 ++ j2).length; rw [List.length_append, List.length_append]; omega
  obtain ⟨k1, e1⟩ := dp.su
  obtain ⟨k2, e2⟩ := dq.su
  have le1 := (less_le).1 p.body
  have le2 := (less_le).1 q.body
  have nd1 : p.params.Nodup := dp.parNd (nms ns 0).nd
  have nd2 : q.params.Nodup := dq.parNd (nms ns n1).nd
  have o1 : p1.Ok := ok_of (nms ns 0) p1 dp.parN dp.parLen nd1 ((less_frm).1 _ dp.frm) (by show p.body.less.size ≤ 400; omega) (by show p.body.less.deep ≤ 6; omega) (ks := k1) (by show p.body.less.surely p.params = _; rw [(less_surely).1]; exact e1)
  have o2 : p2.Ok := ok_of (nms ns n1) p2 dq.parN dq.parLen nd2 ((less_frm).1 _ dq.frm) (by show q.body.less.size ≤ 400; omega) (by show q.body.less.deep ≤ 6; omega) (ks := k2) (by show q.body.less.surely q.params = _; rw [(less_surely).1]; exact e2)
  have lm1 : (p.params.map MV.str).length = p.params.length := List.length_map ..
  have lm2 : (q.params.map MV.str).length = q.params.length := List.length_map ..
  by_cases hfew : p.params.length + q.params.length ≤ 3
  · have h : Two ns 0 n1 p1 p2 := ⟨o1, o2, (less_frm).1 _ dp.frm, (less_frm).1 _ dq.frm, dp.parN, dq.parN, (less_calm).1 _, by show p.body.less.size ≤ 100; omega, by show q.body.less.size ≤ 100; omega, by show p.body.less.deep ≤ 2; omega, by show q.body.less.deep ≤ 2; omega, by show p.body.less.steps ≤ 10000; omega, by show q.body.less.steps ≤ 10000; omega, hfew⟩
    have gt : runOp .gt [.int (((p.params.map MV.str).length : Nat) + ((q.params.map MV.str).length : Nat) : Int), .int 3] (tw st3 0 n2) = .ok (.bl false) (tw st3 0 n2) := gt_f (by rw [lm1, lm2]; omega)
    have wl : ∀ x, x ∈ NN ns n1 ∨ x ∈ TT ns n1 → x.length ≤ 100 := fun x hx => by rw [str_len]; have := (name_facts hx).1; omega
    let z : Option MV := none
    let env2 : Env := [some (scr ns), some (.loc 0), some p1.mv, some p2.mv, z, z, z, z, z, z, z, z, z, z, z, z, z]
    have lc : evalE (callF G 100) d_law_lc1 env2 (tw st3 0 n2) = .ok (.lst (q.params.map fun x => .str (ρ x))) (tw st3 0 n2) :=
      ev_lc q.params MV.str (fun x => .str (ρ x)) (vs := [.tup (q.params.map MV.str)]) (by kernel_rfl) rfl (Nat.le_trans dq.parLen (by decide)) fun x hx => ⟨[some (scr ns), some (.loc 0), some p1.mv, some p2.mv, z, z, z, z, z, z, z, z, z, z, z, z, some (.str x)], rfl, rfl, eC (zz_add (st := tw st3 0 n2) (wl x (.inl (dq.parN x hx)))) (by kernel_rfl) (by kernel_rfl)⟩
    have ap : runOp .add [.tup (p.params.map MV.str), .tup (q.params.map fun x => .str (ρ x))] (tw st3 0 n2) = .ok (.tup ((p.params ++ q.params.map ρ).map MV.str)) (tw st3 0 n2) := by
      rw [add_tup (by rw [List.length_map, List.length_map]; omega), List.map_append, List.map_map]; rfl
    obtain ⟨j4, c5⟩ := named_spec (N := NN ns n1) (T := TT ns n1) (fun x hx => wl x (.inl hx)) (fun x hx => wl x (.inr hx)) q.body.less ((less_frm).1 _ dq.frm) 100 (tw st3 0 n2) (by omega) (by omega)
    rw [tw_app l3] at c5
    have l4 : 0 < (st3 ++ j4).length := by rw [List.length_append]; omega
    have ab := add_blk (a := p.body.less) (b := q.body.less.zzd) (st := tw (st3 ++ j4) 0 n2) (by
      have h1 := blk_len_size p.body.less
      have h2 := blk_len_size q.body.less
      have h3 := ((zzd_same).1 q.body.less).2.2.2
      omega)
    obtain ⟨s1, m1, f6, f7, f8, f9, f10, f11, f12, f13, f14, f15, f16, t1, ls1, bs1⟩ := turn ns h (st := st3 ++ j4) (n := n2) l4 (by omega) (.int 0) z z z z z z z z z z z z
    obtain ⟨s2, m2, g6, g7, g8, g9, g10, g11, g12, g13, g14, g15, g16, t2, ls2, bs2⟩ := turn ns h (st := s1) (n := m1) ls1 (by omega) (.int 1) (some (.int 0)) f6 f7 f8 f9 f10 f11 f12 f13 f14 f15 f16
    obtain ⟨s3, m3, h6, h7, h8, h9, h10, h11, h12, h13, h14, h15, h16, t3, ls3, bs3⟩ := turn ns h (st := s2) (n := m2) ls2 (by omega) (.int 2) (some (.int 1)) g6 g7 g8 g9 g10 g11 g12 g13 g14 g15 g16
    have hf : execS (callF G 100) d_law_for2 [some (scr ns), some (.loc 0), some p1.mv, some p2.mv, some (joined p1 p2).mv, z, z, z, z, z, z, z, z, z, z, z, z] (tw (st3 ++ j4) 0 n2) = .ok (.nx [some (scr ns), some (.loc 0), some p1.mv, some p2.mv, some (joined p1 p2).mv, some (.int 2), h6, h7, h8, h9, h10, h11, h12, h13, h14, h15, h16]) (tw s3 0 m3) :=
      ex_for (vs := [.int 3]) (st1 := tw (st3 ++ j4) 0 n2) (xs := [.int 0, .int 1, .int 2]) (l := none) (by kernel_rfl) (by kernel_rfl) ((for_cons t1).trans ((for_cons t2).trans ((for_cons t3).trans rfl)))
    refine ⟨tw s3 0 m3, inF_rt (m := d_law) (by kernel_rfl) rfl ?_⟩
    exact sM c1 (by kernel_rfl) (sM c2 (by kernel_rfl) (sM c3 (by kernel_rfl) (sM c4 (by kernel_rfl) (sM gt (by kernel_rfl) (sM lc (by kernel_rfl) (sM ap (by kernel_rfl) (sM c5 (by kernel_rfl) (sM ab (by kernel_rfl) (sO hf (by kernel_rfl) (by kernel_rfl))))))))))
  · have gt : runOp .gt [.int (((p.params.map MV.str).length : Nat) + ((q.params.map MV.str).length : Nat) : Int), .int 3] (tw st3 0 n2) = .ok (.bl true) (tw st3 0 n2) := gt_t (by rw [lm1, lm2]; omega)
    refine ⟨tw st3 0 n2, inF_rt (m := d_law) (by kernel_rfl) rfl ?_⟩
    exact sM c1 (by kernel_rfl) (sM c2 (by kernel_rfl) (sM c3 (by kernel_rfl) (sM c4 (by kernel_rfl) (sM gt (by kernel_rfl) (by kernel_rfl)))))
end Mi.L
theorem PySem.Challenge.cw_takeapart_k31_whole_joined_holds : PySem.Challenge.rw_takeapart_k31_whole_joined.Holds := by
  exact Mi.L.end_ 100 rfl fun ns _ _ => Mi.L.law_true ns
