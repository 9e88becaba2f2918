import PyProof.Rows.All
import Wide.All
import OpenK.AllK
import Wide.FinOn
import HandS.ForMost
import HandS.IsInst
import HandS.Wide
import HandS.Flow
import HandS.NoneIn
import HandS.Deep
import HandS.SetKeys
import HandS.DictComp
import HandS.TupAny
import KE.SortData
import KE.DatumOrd
import HandS.HeadHook1
import HandS.HeadHook2
import HandS.Lambda
import KE.KNest
import HandS.Defaults
import HandS.Head0
import HandS.Head1
import HandS.Head2
import HandS.HeadEnd
import HandS.EndTab
import HandS.ExcInit
import HandS.ExcCtx
import HandS.HotCalls
import HandS.ExcField
import KE.KExcIs
import KE.DataFind
import PySem.Challenge.RW_scalebook_k21_lower_half_by_names
import HandS.Zip
import KE.KEqDict
import HandS.Style
import PyProof.Rows.StrMeet
import HandS.Exc
import HandS.ExcOwn
import HandS.WordsExc
import HandS.CallSlots
import HandS.ExcInitHot
import HandS.ExcIs
import KE.KSortKey
import KE.KSortTupG
import HandS.SortKw
import KE.KUnpackStar
import HandS.SetBool
import HandS.SetFor
import KE.KDictZip
import PyProof.DictUpdate
import HandS.MakeKw
set_option Elab.async false
set_option linter.all false
set_option maxRecDepth 100000
set_option maxHeartbeats 4000000
namespace Sb
open PySem
inductive Ty where
  | none | bool | int | str | tuple | list | dict | set
  deriving DecidableEq
def Ty.nm : Ty → String
  | .none => "NoneType" | .bool => "bool" | .int => "int" | .str => "str" | .tuple => "tuple" | .list => "list" | .dict => "dict" | .set => "set"
inductive PV where
  | non | bl (b : Bool) | int (i : Int) | str (x : Str) | tup (l : List PV) | ref (n : Nat) | cl (l : List PV) | ty (t : Ty)
  /-- a class of the program; an exception that is handled -/
  | cls (x : Str) | xc (x : Str) (ns : List Str) (vs : List PV)
  /-- a set of ints and texts (never changed) -/
  | ste (l : List L2.Key)
inductive PO where
  | lst (l : List PV)
  /-- a dict by ints and texts -/
  | dct (l : List (L2.Key × PV))
  /-- an instance of an own class -/
  | obj (c : Str) (fs : List (Str × PV))
abbrev PH := List PO
structure Exn where
  cls : Str
  ns : List Str
  vs : List PV
inductive R (α : Type) where
  | ok (a : α) (h : PH)
  | ex (x : Exn) (h : PH)
  | no
def R.bind {α β : Type} (m : R α) (f : α → PH → R β) : R β :=
  match m with
  | .ok a h => f a h
  | .ex x h => .ex x h
  | .no => .no
@[simp] theorem R.bind_ok {α β : Type} (a : α) (h : PH) (f : α → PH → R β) : (R.ok a h).bind f = f a h := rfl
@[simp] theorem R.bind_ex {α β : Type} (x : Exn) (h : PH) (f : α → PH → R β) : (R.ex x h : R α).bind f = .ex x h := rfl
@[simp] theorem R.bind_no {α β : Type} (f : α → PH → R β) : (R.no : R α).bind f = .no := rfl
/-- a value that may not be there -/
def ofO {α : Type} (o : Option α) (h : PH) : R α := match o with | some a => .ok a h | none => .no
@[simp] theorem ofO_some {α : Type} (a : α) (h : PH) : ofO (some a) h = .ok a h := rfl
@[simp] theorem ofO_none {α : Type} (h : PH) : ofO (none : Option α) h = .no := rfl
/-- no exception is let out -/
def R.calm {α : Type} (m : R α) : R α := match m with | .ok a h => .ok a h | _ => .no
@[simp] theorem R.calm_ok {α : Type} (a : α) (h : PH) : (R.ok a h).calm = .ok a h := rfl
/-- the items of a list (in the heap or constant) or tuple -/
def seqOf (h : PH) : PV → Option (List PV)
  | .tup l => some l
  | .cl l => some l
  | .ref n => match h[n]? with | some (.lst l) => some l | _ => none
  | _ => none
def listOf (h : PH) : PV → Option (List PV)
  | .cl l => some l
  | .ref n => match h[n]? with | some (.lst l) => some l | _ => none
  | _ => none
def tyOf (h : PH) : PV → Option Ty
  | .non => some .none | .bl _ => some .bool | .int _ => some .int | .str _ => some .str | .tup _ => some .tuple | .cl _ => some .list
  | .ref n => match h[n]? with | some (.lst _) => some .list | some (.dct _) => some .dict | _ => none
  | .ty _ => none
  | .cls _ => none
  | .xc _ _ _ => none
  | .ste _ => none
def lineOk (n : Nat) : Bool := decide (n ≤ 1000000)
def truthy (h : PH) : PV → Option Bool
  | .non => some false
  | .bl b => some b
  | .int i => some (i != 0)
  | .str x => if lineOk x.length then some (decide (0 < x.length)) else none
  | .tup l => some (!l.isEmpty)
  | .cl l => some (!l.isEmpty)
  | .ref n => match h[n]? with | some (.lst l) => some (!l.isEmpty) | some (.dct l) => some (!l.isEmpty) | _ => none
  | .ty _ => none
  | .cls _ => none
  | .xc _ _ _ => none
  | .ste _ => none
def alloc (l : List PV) (h : PH) : R PV := if lineOk l.length then .ok (.ref h.length) (h ++ [.lst l]) else .no
def tupO (l : List PV) (h : PH) : R PV := if lineOk l.length then .ok (.tup l) h else .no
def mapO {α β : Type} (f : α → Option β) : List α → Option (List β)
  | [] => some []
  | a :: r => match f a, mapO f r with | some b, some s => some (b :: s) | _, _ => none
def strOkP (x : Str) : Bool := x.cps.all (· < 0x110000)
def pd (h : PH) : Nat → PV → Option PyData
  | _, .non => some .none
  | _, .bl b => some (.bool b)
  | _, .int i => some (.int i)
  | _, .str x => if strOkP x then some (.str x) else none
  | n + 1, .tup l => (mapO (pd h n) l).map .tuple
  | n + 1, .cl l => (mapO (pd h n) l).map .list
  | n + 1, .ref m => match h[m]? with | some (.lst l) => (mapO (pd h n) l).map .list | _ => none
  | _, _ => none
def keyOf : PV → Option L2.Key
  | .int i => some (.inl i)
  | .str x => some (.inr x)
  | _ => none
def keyP : L2.Key → PV
  | .inl i => .int i
  | .inr x => .str x
def valP (l : List (L2.Key × PV)) (k : L2.Key) : Option PV := (l.find? fun kv => decide (kv.1 = k)).map (·.2)
/-- == of two values that are data -/
def eqvP (h : PH) (a b : PV) : Bool := match pd h 8 a, pd h 8 b with | some d, some e => PyData.eqv d e | _, _ => false
def dHit (h : PH) (k : List (L2.Key × PV)) (kv : L2.Key × PV) : Bool := match valP k kv.1 with | some v => eqvP h kv.2 v | none => false
/-- == of two dicts whose values are data -/
def dEq (h : PH) (l k : List (L2.Key × PV)) : Option Bool :=
  if (l.all fun kv => (pd h 8 kv.2).isSome) && (k.all fun kv => (pd h 8 kv.2).isSome) then
    some ((l.length == k.length) && l.all (dHit h k))
  else none
def dEqP (h : PH) : PV → PV → Option Bool
  | .ref m, .ref n => (match h[m]?, h[n]? with | some (.dct l), some (.dct k) => dEq h l k | _, _ => none)
  | _, _ => none
def eqP (h : PH) (a b : PV) : Option Bool := match pd h 8 a, pd h 8 b with | some d, some e => some (PyData.eqv d e) | _, _ => dEqP h a b
def putP (l : List (L2.Key × PV)) (k : L2.Key) (v : PV) : List (L2.Key × PV) :=
  if (l.any fun kv => decide (kv.1 = k)) = true then l.map (fun kv => if kv.1 = k then (kv.1, v) else kv) else l ++ [(k, v)]
def mergeP (l more : List (L2.Key × PV)) : List (L2.Key × PV) := more.foldl (fun acc kv => putP acc kv.1 kv.2) l
/-- k1, v1, k2, v2, .. -/
def pairUp : List PV → Option (List (L2.Key × PV))
  | [] => some []
  | [_] => none
  | k :: v :: r => (match keyOf k, pairUp r with | some k, some l => some ((k, v) :: l) | _, _ => none)
/-- a new dict -/
def allocD (l : List (L2.Key × PV)) (h : PH) : R PV := .ok (.ref h.length) (h ++ [.dct l])
/-- x in y -/
def inSeqP (h : PH) (x : PV) (l : List PV) : Option Bool := match pd h 8 x, mapO (pd h 8) l with | some d, some ds => some (ds.any fun z => PyData.eqv z d) | _, _ => none
def inP (h : PH) (x : PV) : PV → Option Bool
  | .tup l => inSeqP h x l
  | .cl l => inSeqP h x l
  | .ref n => match h[n]? with
    | some (.lst l) => inSeqP h x l
    | some (.dct l) => (keyOf x).map fun k => (valP l k).isSome
    | _ => none
  | .ste l => (keyOf x).map fun k => l.any fun j => decide (j = k)
  | _ => none
def mulOk (i j : Int) : Bool := decide (i.natAbs.log2 + j.natAbs.log2 < 1000000)
def divOk (j : Int) : Bool := decide (j ≠ 0) && decide (j.natAbs.log2 < 9000)
def powOk (i j : Int) : Bool := decide (0 ≤ j) && decide (j ≤ 1000000) && decide (i.natAbs < 2 ^ 64)
def binop (op : Operator) (a b : PV) (h : PH) : R PV :=
  match op, a, b with
  | .Add, .int i, .int j => .ok (.int (i + j)) h
  | .Sub, .int i, .int j => .ok (.int (i - j)) h
  | .Mult, .int i, .int j => if mulOk i j then .ok (.int (i * j)) h else .no
  | .FloorDiv, .int i, .int j => if divOk j then .ok (.int (i.fdiv j)) h else .no
  | .Mod, .int i, .int j => if j = 0 then .no else .ok (.int (i.fmod j)) h
  | .Pow, .int i, .int j => if powOk i j then .ok (.int (i ^ j.toNat)) h else .no
  | .Add, .str x, .str y => if lineOk (x.length + y.length) then .ok (.str (x ++ y)) h else .no
  | .Add, .ref m, .ref n => match h[m]?, h[n]? with
    | some (.lst l), some (.lst k) => if lineOk (l.length + k.length) then alloc (l ++ k) h else .no
    | _, _ => .no
  | .Mult, .ref m, .int k => match h[m]? with
    | some (.lst l) => if 0 ≤ k ∧ k ≤ 1000 ∧ l.length ≤ 1000 then .ok (.ref h.length) (h ++ [.lst (List.replicate k.toNat l).flatten]) else .no
    | _ => .no
  | .Add, .tup l, .tup k => if lineOk (l.length + k.length) then .ok (.tup (l ++ k)) h else .no
  | _, _, _ => .no
def ltStr (x y : Str) : Bool := decide (x.cps.toList < y.cps.toList)
def isNonP : PV → Bool
  | .non => true
  | _ => false
def cmpop (op : CmpOp) (a b : PV) (h : PH) : R PV :=
  match op, a, b with
  | .Lt, .int i, .int j => .ok (.bl (decide (i < j))) h
  | .LtE, .int i, .int j => .ok (.bl (decide (i ≤ j))) h
  | .Gt, .int i, .int j => .ok (.bl (decide (j < i))) h
  | .GtE, .int i, .int j => .ok (.bl (decide (j ≤ i))) h
  | .Lt, .str x, .str y => .ok (.bl (ltStr x y)) h
  | .Is, x, .non => .ok (.bl (isNonP x)) h
  | .IsNot, x, .non => .ok (.bl (!isNonP x)) h
  | .Is, .bl x, .bl y => .ok (.bl (decide (x = y))) h
  | .IsNot, .bl x, .bl y => .ok (.bl (!decide (x = y))) h
  | .Eq, .str x, .str y => .ok (.bl (decide (x = y))) h
  | .NotEq, .str x, .str y => .ok (.bl (!decide (x = y))) h
  | .Eq, x, y => ofO ((eqP h x y).map .bl) h
  | .NotEq, x, y => ofO ((eqP h x y).map fun b => .bl (!b)) h
  | .In, x, y => ofO ((inP h x y).map .bl) h
  | .NotIn, x, y => ofO ((inP h x y).map fun b => .bl (!b)) h
  | .Gt, .str x, .str y => .ok (.bl (ltStr y x)) h
  | _, _, _ => .no
def idxop (a i : PV) (h : PH) : R PV :=
  match a, i with
  | .str x, .int i => if lineOk x.length then (match L2.atI x.cps.toList i with | some c => .ok (.str ⟨#[c]⟩) h | none => .no) else .no
  | .ref n, i => (match h[n]? with
    | some (.lst l) => (match i with | .int j => ofO (L2.atI l j) h | _ => .no)
    | some (.dct l) => (match keyOf i with | some k => ofO (valP l k) h | none => .no)
    | _ => .no)
  | .tup l, .int i => ofO (L2.atI l i) h
  | .cl l, .int i => ofO (L2.atI l i) h
  | _, _ => .no
/-- a[lo:hi] -/
def cutP (l : List PV) (lo hi : Option Int) : List PV := (l.drop (HT.sIx l.length 0 lo)).take (HT.sIx l.length l.length hi - HT.sIx l.length 0 lo)
def slcop (a : PV) (lo hi : Option Int) (h : PH) : R PV :=
  match a with
  | .tup l => .ok (.tup (cutP l lo hi)) h
  | a => match listOf h a with
    | some l => .ok (.ref h.length) (h ++ [.lst (cutP l lo hi)])
    | none => .no
def stpop (a st : PV) (h : PH) : R PV :=
  match a, st with
  | .tup [u, w], .int 1 => .ok (.tup [u, w]) h
  | .tup [u, w], .int (-1) => .ok (.tup [w, u]) h
  | _, _ => .no
def revop (a : PV) (h : PH) : R PV := match listOf h a with
  | some l => alloc l.reverse h
  | none => .no
def setop (a i v : PV) (h : PH) : Option PH :=
  match a with
  | .ref n => match h[n]? with
    | some (.lst l) => (match i with | .int i => (match L2.ixN l.length i with | some j => some (h.set n (.lst (l.set j v))) | none => none) | _ => none)
    | some (.dct l) => (match keyOf i with | some k => if lineOk (l.length + 1) then some (h.set n (.dct (putP l k v))) else none | none => none)
    | _ => none
  | _ => none
inductive BI where
  | isx | abs | len | all | any | isinst | tupleOf | listOf | int1 | min2 | max2 | str1 | sorted1 | dictOf | minN | sortSet | dictZip | lenSet
  deriving DecidableEq
inductive MT where
  | count | append | popAt | join | get1 | get2 | setd | clear | insert | index | pop0 | update
  deriving DecidableEq
def MT.ty : MT → Ty
  | .count => .list | .append => .list | .popAt => .list | .join => .str | .get1 => .dict | .get2 => .dict | .setd => .dict | .clear => .list | .insert => .list | .index => .list | .pop0 => .list | .update => .dict
def isTy : Ty → Ty → Bool
  | .bool, .int => true
  | a, b => decide (a = b)
def boolsOf : List PV → Option (List Bool)
  | [] => some []
  | .bl b :: r => (boolsOf r).map (b :: ·)
  | _ :: _ => none
def tysOf : List PV → Option (List Ty)
  | [] => some []
  | .ty b :: r => (tysOf r).map (b :: ·)
  | _ :: _ => none
def biAbs (as : List PV) (h : PH) : R PV := match as with
  | [.int i] => .ok (.int (if i < 0 then -i else i)) h
  | _ => .no
def biLen (as : List PV) (h : PH) : R PV := match as with
  | [.str x] => if lineOk x.length then .ok (.int x.length) h else .no
  | [.ref n] => (match h[n]? with | some (.lst l) => .ok (.int l.length) h | some (.dct l) => .ok (.int l.length) h | _ => .no)
  | [.tup l] => .ok (.int l.length) h
  | [.cl l] => .ok (.int l.length) h
  | _ => .no
def strsOf : List PV → Option (List Str)
  | [] => some []
  | .str b :: r => (strsOf r).map (b :: ·)
  | _ :: _ => none
def intsOf : List PV → Option (List Int)
  | [] => some []
  | .int b :: r => (intsOf r).map (b :: ·)
  | _ :: _ => none
def leStr (x y : Str) : Bool := !ltStr y x
def sortS (l : List Str) : List Str := l.mergeSort leStr
def sortI (l : List Int) : List Int := l.mergeSort fun a b => decide (a ≤ b)
/-- by the order of data -/
def isTupD : PyData → Bool
  | .tuple (_ :: _) => true
  | _ => false
def sortableD (ds : List PyData) : Bool := (ds.all fun d => ds.all fun e => PySem.W.alike d e) && (ds.all isTupD && decide (ds.length ≤ 1000))
def sortD (ds : List PyData) (l : List PV) : List PV := ((l.zip ds).mergeSort (PySem.W.dataLe false Prod.snd)).map Prod.fst
/-- sorted(x): texts, ints, a dict's keys (texts); tuples of data -/
def biSorted (as : List PV) (h : PH) : R PV := match as with
  | [.ref n] => (match h[n]? with
    | some (.lst l) => (match strsOf l, intsOf l with
      | some xs, _ => if xs.length < 64 then .ok (.ref h.length) (h ++ [.lst ((sortS xs).map PV.str)]) else .no
      | _, some xs => if xs.length < 64 then .ok (.ref h.length) (h ++ [.lst ((sortI xs).map PV.int)]) else .no
      | _, _ => (match mapO (pd h 8) l with
        | some ds => if sortableD ds then .ok (.ref h.length) (h ++ [.lst (sortD ds l)]) else .no
        | none => .no))
    | some (.dct l) => (match strsOf (l.map fun kv => keyP kv.1) with
      | some xs => if xs.length < 64 then .ok (.ref h.length) (h ++ [.lst ((sortS xs).map PV.str)]) else .no
      | none => .no)
    | _ => .no)
  | _ => .no
def pairsOf : List PV → Option (List (L2.Key × PV))
  | [] => some []
  | .tup [k, v] :: r => (match keyOf k, pairsOf r with | some k, some l => some ((k, v) :: l) | _, _ => none)
  | _ :: _ => none
/-- dict(x): of a dict, of a list of pairs -/
def biDict (as : List PV) (h : PH) : R PV := match as with
  | [.ref n] => (match h[n]? with
    | some (.lst l) => (match pairsOf l with | some kvs => allocD (mergeP [] kvs) h | none => .no)
    | some (.dct l) => allocD l h
    | _ => .no)
  | _ => .no
def biAll (as : List PV) (h : PH) : R PV := match as with
  | [a] => (match (listOf h a).bind boolsOf with | some bs => .ok (.bl (bs.all id)) h | none => .no)
  | _ => .no
def biAny (as : List PV) (h : PH) : R PV := match as with
  | [a] => (match (listOf h a).bind boolsOf with | some bs => .ok (.bl (bs.any id)) h | none => .no)
  | _ => .no
def biIsinst (as : List PV) (h : PH) : R PV := match as with
  | [a, .ty t] => (match tyOf h a with | some s => .ok (.bl (isTy s t)) h | none => .no)
  | [a, .tup l] => (match tyOf h a, tysOf l with | some s, some ts => .ok (.bl (ts.any (isTy s))) h | _, _ => .no)
  | _ => .no
/-- the program's own refusals -/
def excAll : List Str := ["NoBottom", "NotJoined", "NoTelling", "NoTie", "BadName", "Taken", "NoSuch", "InUse", "Full", "Far", "Flat", "BadWeight", "SameScale", "Vouched", "NotVouched", "NotSheer", "Clash", "NoText", "NoBook", "NoLevel", "NothingDone", "NoLine"]
/-- is an exception of the class x one of the class c? -/
def isX (x c : Str) : Option Bool := if x ∈ excAll ∧ (c ∈ excAll ∨ c = "BookError" ∨ c = "ValueError") then some (decide (x = c) || decide (c = "BookError") || decide (c = "ValueError")) else none
def biIsx (as : List PV) (h : PH) : R PV := match as with
  | [.xc x _ _, .cls c] => (match isX x c with | some b => .ok (.bl b) h | none => .no)
  | _ => .no
def biTuple (as : List PV) (h : PH) : R PV := match as with
  | [.tup l] => .ok (.tup l) h
  | [a] => (match listOf h a with | some l => .ok (.tup l) h | none => .no)
  | _ => .no
def biList (as : List PV) (h : PH) : R PV := match as with
  | [.ref n] => (match h[n]? with
    | some (.lst l) => .ok (.ref h.length) (h ++ [.lst l])
    | some (.dct l) => .ok (.ref h.length) (h ++ [.lst (l.map fun kv => keyP kv.1)])
    | _ => .no)
  | [.tup l] => .ok (.ref h.length) (h ++ [.lst l])
  | [.cl l] => .ok (.ref h.length) (h ++ [.lst l])
  | _ => .no
def biInt (as : List PV) (h : PH) : R PV := match as with
  | [.int i] => .ok (.int i) h
  | [.bl b] => .ok (.int (if b then 1 else 0)) h
  | _ => .no
def biMin2 (as : List PV) (h : PH) : R PV := match as with
  | [.int i, .int j] => .ok (.int (if j < i then j else i)) h
  | [.ref n] => (match h[n]? with
    | some (.lst l) => (match (intsOf l).bind List.min? with | some m => .ok (.int m) h | none => .no)
    | _ => .no)
  | _ => .no
def biMax2 (as : List PV) (h : PH) : R PV := match as with
  | [.int i, .int j] => .ok (.int (if j > i then j else i)) h
  | _ => .no
/-- min(xs, default=None), ints -/
def biMinN (as : List PV) (h : PH) : R PV := match as with
  | [.ref n] => (match h[n]? with
    | some (.lst l) => (match intsOf l with | some xs => .ok (match xs.min? with | some m => .int m | none => .non) h | none => .no)
    | _ => .no)
  | _ => .no
/-- sorted(set(xs)), ints -/
def dedupI : List Int → List Int
  | [] => []
  | x :: r => if x ∈ r then dedupI r else x :: dedupI r
def uniqI (xs : List Int) : List Int := sortI (dedupI xs)
def biSortSet (as : List PV) (h : PH) : R PV := match as with
  | [.ref n] => (match h[n]? with
    | some (.lst l) => (match intsOf l with | some xs => if xs.length < 64 then .ok (.ref h.length) (h ++ [.lst ((uniqI xs).map PV.int)]) else .no | none => .no)
    | _ => .no)
  | _ => .no
/-- dict(zip(xs, ys)) -/
def biDictZip (as : List PV) (h : PH) : R PV := match as with
  | [.ref m, .ref n] => (match h[m]?, h[n]? with
    | some (.lst l), some (.lst k) => (match mapO keyOf l with | some ks => allocD (mergeP [] (ks.zip k)) h | none => .no)
    | _, _ => .no)
  | _ => .no
def addK (l : List L2.Key) (k : L2.Key) : List L2.Key := if (l.any fun j => decide (j = k)) = true then l else l ++ [k]
/-- len(set(xs)) -/
def biLenSet (as : List PV) (h : PH) : R PV := match as with
  | [.ref n] => (match h[n]? with
    | some (.lst l) => (match mapO keyOf l with | some ks => if ks.length < 1000 then .ok (.int (ks.foldl addK []).length) h else .no | none => .no)
    | _ => .no)
  | _ => .no
def biF : BI → List PV → PH → R PV
  | .isx => biIsx | .abs => biAbs | .len => biLen | .all => biAll | .any => biAny | .isinst => biIsinst | .tupleOf => biTuple | .listOf => biList | .int1 => biInt | .min2 => biMin2 | .max2 => biMax2
  | .str1 => fun _ _ => .no
  | .sorted1 => biSorted | .dictOf => biDict | .minN => biMinN | .sortSet => biSortSet | .dictZip => biDictZip | .lenSet => biLenSet
def mtAppend (o : PV) (as : List PV) (h : PH) : R PV := match o, as with
  | .ref n, [v] => (match h[n]? with
    | some (.lst l) => if lineOk (l.length + 1) then .ok .non (h.set n (.lst (l ++ [v]))) else .no
    | _ => .no)
  | _, _ => .no
/-- bs.count(b), truths alone -/
def mtCount (o : PV) (as : List PV) (h : PH) : R PV := match o, as with
  | .ref n, [.bl b] => (match h[n]? with
    | some (.lst l) => (match boolsOf l with | some bs => .ok (.int ((bs.countP fun c => c == b : Nat))) h | none => .no)
    | _ => .no)
  | _, _ => .no
def mtPopAt (o : PV) (as : List PV) (h : PH) : R PV := match o, as with
  | .ref n, [.int i] => (match h[n]? with
    | some (.lst l) => if 0 ≤ i then (match l[i.toNat]? with | some v => .ok v (h.set n (.lst (l.eraseIdx i.toNat))) | none => .no) else .no
    | _ => .no)
  | _, _ => .no
def mtJoin (o : PV) (as : List PV) (h : PH) : R PV := match o, as with
  | .str sep, [a] => (match (listOf h a).bind strsOf with
    | some ys => if (ys.map (·.length)).sum + ys.length * sep.length ≤ 1000000 then .ok (.str (Txt.join sep ys)) h else .no
    | none => .no)
  | _, _ => .no
def mtGet1 (o : PV) (as : List PV) (h : PH) : R PV := match o, as with
  | .ref n, [k] => (match h[n]?, keyOf k with
    | some (.dct l), some k => .ok ((valP l k).getD .non) h
    | _, _ => .no)
  | _, _ => .no
def mtGet2 (o : PV) (as : List PV) (h : PH) : R PV := match o, as with
  | .ref n, [k, d] => (match h[n]?, keyOf k with
    | some (.dct l), some k => .ok ((valP l k).getD d) h
    | _, _ => .no)
  | _, _ => .no
def mtSetd (o : PV) (as : List PV) (h : PH) : R PV := match o, as with
  | .ref n, [k, d] => (match h[n]?, keyOf k with
    | some (.dct l), some k => if lineOk (l.length + 1) then (match valP l k with | some v => .ok v h | none => .ok d (h.set n (.dct (putP l k d)))) else .no
    | _, _ => .no)
  | _, _ => .no
def mtClear (o : PV) (as : List PV) (h : PH) : R PV := match o, as with
  | .ref n, [] => (match h[n]? with
    | some (.lst _) => .ok .non (h.set n (.lst []))
    | _ => .no)
  | _, _ => .no
def mtInsert (o : PV) (as : List PV) (h : PH) : R PV := match o, as with
  | .ref n, [.int i, v] => (match h[n]? with
    | some (.lst l) => if lineOk (l.length + 1) && decide (0 ≤ i) && decide (i < 2 ^ 62) then .ok .non (h.set n (.lst (l.take i.toNat ++ [v] ++ l.drop i.toNat))) else .no
    | _ => .no)
  | _, _ => .no
/-- xs.index(x), where it is there -/
def mtIndex (o : PV) (as : List PV) (h : PH) : R PV := match o, as with
  | .ref n, [v] => (match h[n]? with
    | some (.lst l) => (match pd h 8 v, mapO (pd h 8) l with
      | some d, some ds => (match ds.findIdx? fun z => PyData.eqv z d with | some j => .ok (.int (j : Nat)) h | none => .no)
      | _, _ => .no)
    | _ => .no)
  | _, _ => .no
def mtPop0 (o : PV) (as : List PV) (h : PH) : R PV := match o, as with
  | .ref n, [] => (match h[n]? with
    | some (.lst l) => (match l[l.length - 1]? with | some v => .ok v (h.set n (.lst l.dropLast)) | none => .no)
    | _ => .no)
  | _, _ => .no
/-- d.update(e), another dict -/
def mtUpdate (o : PV) (as : List PV) (h : PH) : R PV := match o, as with
  | .ref m, [.ref n] => (match h[m]?, h[n]? with
    | some (.dct l), some (.dct k) => if m ≠ n ∧ lineOk (l.length + k.length) = true then .ok .non (h.set m (.dct (mergeP l k))) else .no
    | _, _ => .no)
  | _, _ => .no
def mtF : MT → PV → List PV → PH → R PV
  | .count => mtCount
  | .append => mtAppend
  | .popAt => mtPopAt
  | .join => mtJoin
  | .get1 => mtGet1
  | .get2 => mtGet2
  | .setd => mtSetd
  | .clear => mtClear
  | .insert => mtInsert
  | .index => mtIndex
  | .pop0 => mtPop0
  | .update => mtUpdate
def sortKey : PV → Option (Int × Str)
  | .tup l => (match (l[4]? : Option PV), (l[0]? : Option PV) with | some (.int t), some (.str n) => some (t, n) | _, _ => none)
  | _ => none
def leTel (p q : Int × Str) : Bool := decide (q.1 < p.1) || (decide (p.1 = q.1) && leStr p.2 q.2)
def sortT (ks : List (Int × Str)) (l : List PV) : List PV := ((ks.zip l).mergeSort fun p q => leTel p.1 q.1).map (·.2)
def srtop (a : PV) (h : PH) : R PV := match seqOf h a with
  | some l => (match mapO sortKey l with
    | some ks => if decide ks.Nodup && decide (l.length ≤ 1000) then .ok (.ref h.length) (h ++ [.lst (sortT ks l)]) else .no
    | none => .no)
  | none => .no
def xatop (a : PV) (f c : Str) (h : PH) : R PV := match a with
  | .xc x ns vs => if x = c then ofO ((ns.zip vs).lookup f) h else .no
  | _ => .no
mutual
def coldV : PV → Bool
  | .xc _ _ _ => false
  | .tup l => coldVs l
  | .cl l => coldVs l
  | _ => true
def coldVs : List PV → Bool
  | [] => true
  | p :: r => coldV p && coldVs r
end
def coldO : PO → Bool
  | .lst l => coldVs l
  | .dct l => coldVs (l.map (·.2))
  | .obj _ _ => false
/-- is an exception of the class x caught by the class c? -/
def hitX (x c : Str) : Bool := decide (x = c) || decide (c = "BookError")
inductive ITK where
  | seq | range | zip
  deriving DecidableEq
/-- a target: one name, names for a tuple's items, names and a starred one -/
inductive TgK where
  | one | tup | star | nest
  deriving DecidableEq
inductive E where
  | var (i : Nat)
  | lit (v : PV)
  | bin (op : Operator) (a b : E)
  | neg (a : E)
  | nt (a : E)
  | band (a b : E)
  | bor (a b : E)
  | cmp (op : CmpOp) (a b : E)
  | ite (t a b : E)
  | tup (es : List E)
  | lst (es : List E)
  | idx (a i : E)
  | slc (a : E) (lo hi : Option E)
  | call (f : Nat) (es : List E) (ds : List PV)
  /-- f(e, .., k = v, ..): ix puts the values in the parameters' order -/
  | callk (f : Nat) (es : List E) (ix : List Nat) (ds : List PV)
  | bi (b : BI) (es : List E)
  | mth (m : MT) (o : E) (es : List E)
  | srt (a : E)
  | dct (es : List E)
  | dcomp (k v : E) (tg : List Nat) (one : TgK) (kk : ITK) (its : List E) (cond : Option E) (own : List Nat)
  /-- {x[0] for x in xs} -/
  | firsts (j : Nat)
  /-- {scale: near if mark == far else mark for scale, mark in marks.items()} -/
  | remark (d near far : Nat)
  | comp (elt : E) (tg : List Nat) (one : TgK) (k : ITK) (its : List E) (cond : Option E) (own : List Nat)
  /-- (a, b)[::s] -/
  | stp (a s : E)
  /-- xs[::-1] -/
  | rev (a : E)
  /-- a.f of an exception of the class c -/
  | xat (a : E) (f : Str) (c : Str)
inductive Tgt where
  | nm (i : Nat)
  | tup (is : List Nat)
  | unl (is : List Nat)
  | sub (o i : E)
inductive S where
  | asg (g : Tgt) (e : E)
  | aug (i : Nat) (op : Operator) (e : E)
  | augs (o i : E) (op : Operator) (e : E)
  | ifs (t : E) (a b : List S)
  | whl (t : E) (b : List S)
  | fr (tg : List Nat) (one : TgK) (k : ITK) (its : List E) (b : List S)
  | ret (e : E)
  | ret0
  | ex (e : E)
  | pass
  | brk
  | cont
  /-- raise x(es..), the fields' names newest first -/
  | raise (x : Str) (ns : List Str) (es : List E)
  /-- try: b  except c: s; what b lets out is of xs -/
  | tryN (b : List S) (c : Str) (xs : List Str) (s : List S)
  /-- try: b  except c as e: if fi(e): j = (lit, e.f, ..) | j = (lit, e.f, .., fi(e)): i is e's slot, ns the fields' names, fs those that are read, ex what goes behind -/
  | tryA (b : List S) (c : Str) (xs : List Str) (fi i j : Nat) (lit : Str) (ns fs : List Str) (ex : List PV)
  /-- what is told nothing of -/
  | hole
  /-- try: b  except ..: hs are all .hd; what b lets out is of xs -/
  | tryH (b : List S) (xs : List Str) (hs : List S)
  /-- except c as i: b -/
  | hd (c : Str) (i : Option Nat) (b : List S)
structure Fn where
  np : Nat
  ns : Nat
  body : List S
abbrev Env := List (Option PV)
def Env.get (ρ : Env) (i : Nat) : Option PV := match ρ[i]? with | some (some v) => some v | _ => none
def wipeP (ρ : Env) : List Nat → Env
  | [] => ρ
  | i :: r => (wipeP ρ r).set i none
def setAll (ρ : Env) : List Nat → List PV → Option Env
  | [], [] => some ρ
  | i :: is, v :: vs => setAll (ρ.set i (some v)) is vs
  | _, _ => none
/-- a loop's target: one name, or names for a tuple's items -/
def setTg (ρ : Env) (is : List Nat) (one : TgK) (v : PV) : Option Env :=
  match one, is, v with
  | .one, [i], v => some (ρ.set i (some v))
  | .tup, is, .tup l => setAll ρ is l
  | .nest, i :: is, .tup [a, .tup l] => setAll (ρ.set i (some a)) is l
  | .star, is, .tup l => if is.length ≤ l.length + 1 ∧ l.length ≤ 1000 then (match is.getLast? with | some j => (setAll ρ is.dropLast (l.take (is.length - 1))).map fun ρ' => ρ'.set j none | none => none) else none
  | _, _, _ => none
/-- what a loop walks: its items, and what must stay as it is -/
def rangeP (n : Int) : List PV := (List.range n.toNat).map fun i => .int (i : Nat)
end Sb
set_option Elab.async false
set_option linter.all false
set_option maxRecDepth 100000
set_option maxHeartbeats 4000000
namespace Sb
open PySem PySem.Spec PyProof.Rows L2
def lamNames : List Str := ["in_order", "_law_in_order"]
def tabsOf (K : PySem.W.Frag) : List (Addr × Str) := lamNames.filterMap fun x => (PySem.W.tabIn K x).map fun p => (p.2, x ++ ".<locals>." ++ "<lambda>")
mutual
def pvB (K : PySem.W.Frag) : PV → Value → Bool
  | .non, .none => true
  | .bl b, .bool c => b == c
  | .int i, .int j _ => decide (i = j)
  | .str x, .str y _ => decide (x = y)
  | .tup l, .ref a => (match K.lookup a with
    | some ⟨.type c, _, .seq its _, _⟩ => decide (c = "tuple") && (decide (its.size ≤ sizeLine) && pvsB K l its.toList)
    | _ => false)
  | .cl l, .ref a => (match K.lookup a with
    | some ⟨.type c, none, .seq its _, _⟩ => decide (c = "list") && (decide (its.size ≤ sizeLine) && pvsB K l its.toList)
    | _ => false)
  | _, _ => false
def pvsB (K : PySem.W.Frag) : List PV → List Value → Bool
  | [], [] => true
  | p :: ps, u :: us => pvB K p u && pvsB K ps us
  | _, _ => false
end
def conB (K : PySem.W.Frag) (x : Str) (p : PV) : Bool := match PySem.W.nsIn K mainGlobals x with
  | some (some u) => pvB K p u
  | _ => false
abbrev AlE : Type := He.AlD × Bool
def tabCs (K : PySem.W.Frag) : List (Addr × Addr) := lamNames.filterMap fun x => PySem.W.tabIn K x
def tabB (K : PySem.W.Frag) (xs : List Str) : Bool := decide ((tabsOf K).map (·.1)).Nodup && ((tabsOf K).all fun p => (K.lookup p.1).isNone) && (xs.all fun x => (PySem.W.tabIn K x).isSome) && lamNames.all fun x => xs.contains x || (PySem.W.tabIn K x).isNone
def notTab (o : Option Obj) : Bool := match o with
  | some ⟨.none, _, .fields _, _⟩ => false
  | _ => true
def frT (g : Addr → Option Obj) (n : Nat) : PySem.W.Frag := He.frG g (cStatics :: (He.asD g n).filter fun a => notTab (g a))
def hookT (n : Nat) (fa : List He.Fa) (fn : List He.DefD) (ex : PySem.W.Frag → Bool) : PySem.W.Hook where
  α := AlE
  obs := fun s => (He.obsD fa fn (frT s.heap.get? n), ex (frT s.heap.get? n))
  val := fun _ => (He.valD fn, true)
  says := fun _ h => ∃ K : PySem.W.Frag, K.In h ∧ He.SaysD fa fn K ∧ ex K = true
  of := fun _ _ e => ⟨_, He.frG_in, congrArg Prod.fst e, congrArg Prod.snd e⟩
  keeps := fun _ _ _ ⟨K, hK, c⟩ k => ⟨K, PySem.W.Frag.In.keeps hK k, c⟩
def obsT (n : Nat) (fa : List He.Fa) (fn : List He.DefD) (ex : PySem.W.Frag → Bool) (s : PySem.W.SharedT) : AlE := (He.obsD fa fn (frT (HandSHeadRun.getT s) n), ex (frT (HandSHeadRun.getT s) n))
def bkB (K : PySem.W.Frag) (b : Str) : Bool := He.eqO (PySem.W.nsIn K mainGlobals b) (some (some (.ref (He.ga K b)))) && (He.eqO (PySem.W.specialIn K (.ref (He.ga K b)) "__getattribute__") (some (some (.builtin "type.__getattribute__"))) && (PySem.W.readsIn K (He.ga K b) (.type "type") &&
  (match PySem.W.findCls K (.ref (He.ga K b)) (.type "type") "__init__" with | some (.val (.builtin n)) => decide (n = "ValueError.__init__") | _ => false)))
def oexB (K : PySem.W.Frag) (C : Addr) : Bool := (match K.lookup C with
  | some ⟨.type "type", _, .cls cd, sl⟩ => (match cd.mro, sl.toList with
    | .ref C' :: bm, [_, _, _, _, some (.builtin n), _] => C' == C && n == "ValueError.__new__" && !cd.hasDel && cd.hasDict && PySem.HandSPX.refsVE bm
    | _, _ => false)
  | _ => false) && (He.eqO (PySem.W.findIn K (.ref C) "__setattr__") (some (some (.builtin "object.__setattr__"))) && (decide (PySem.W.subIn K (.ref C) (.type "BaseException") = some true) && (decide (PySem.W.typeIn K (.ref C) = some (.type "type")) && PySem.W.keepIn K (.ref C))))
def xcB (K : PySem.W.Frag) (x : Str) (fs : List Str) : Bool := oexB K (He.ga K x) && (He.eqO (PySem.W.nsIn K mainGlobals x) (some (some (.ref (He.ga K x)))) && (He.eqO (PySem.W.findIn K (.ref (He.ga K x)) "__init__") (some (some (.ref (He.ma K (He.ga K x) "__init__")))) &&
  (decide (PySem.W.typeIn K (.ref (He.ma K (He.ga K x) "__init__")) = some (.type "function")) && fs.all fun f => He.eqO (PySem.W.findIn K (.ref (He.ga K x)) f) (some none))))
def hdJB (K : PySem.W.Frag) (c : Str) (xs : List Str) : Bool := He.eqO (PySem.W.nsIn K mainGlobals c) (some (some (.ref (He.ga K c)))) && xs.all fun y => decide (PySem.W.exmOne K (.ref (He.ga K y)) (.ref (He.ga K c)) = some (hitX y c))
end Sb
set_option Elab.async false
set_option linter.all false
set_option maxRecDepth 100000
set_option maxHeartbeats 0
namespace Sb
open PySem PySem.Spec L2
def topS (i : Nat) : Stmt := PySem.Challenge.pw_scalebook_k21_lower_half_by_names.main.body.getD i (.Pass ⟨0, 0, 0, 0⟩)
abbrev s_common : Stmt := topS 6
abbrev s_fraction_of : Stmt := topS 7
abbrev s_plus_of : Stmt := topS 8
abbrev s_less_of : Stmt := topS 9
abbrev s_times_of : Stmt := topS 10
abbrev s_over_of : Stmt := topS 11
abbrev s_is_below : Stmt := topS 12
abbrev s_is_whole : Stmt := topS 13
abbrev s_is_fraction : Stmt := topS 14
abbrev s_is_move : Stmt := topS 18
abbrev s_stretch_by : Stmt := topS 19
abbrev s_read_by : Stmt := topS 20
abbrev s_move_then : Stmt := topS 21
abbrev s_move_back : Stmt := topS 22
abbrev s_in_order : Stmt := topS 24
abbrev s_order_of : Stmt := topS 25
abbrev s_named : Stmt := topS 26
abbrev s_tie_rows : Stmt := topS 27
abbrev s_ties_of : Stmt := topS 28
abbrev s_steps_from : Stmt := topS 29
abbrev s_roads_among : Stmt := topS 30
abbrev s_road_among : Stmt := topS 31
abbrev s_road_of : Stmt := topS 32
abbrev s_chain_move : Stmt := topS 33
abbrev s_move_of : Stmt := topS 34
abbrev s_ring_of : Stmt := topS 35
abbrev s_bars_of : Stmt := topS 37
abbrev s_words_of : Stmt := topS 38
abbrev s_paper_of : Stmt := topS 40
abbrev s_is_step : Stmt := topS 41
abbrev s_is_row : Stmt := topS 42
abbrev s_is_sheet : Stmt := topS 43
abbrev s_scales_along : Stmt := topS 44
abbrev s_row_holds : Stmt := topS 45
abbrev s_holds : Stmt := topS 46
abbrev s__law_start : Stmt := topS 48
abbrev s__law_draw : Stmt := topS 49
abbrev s__law_mix : Stmt := topS 50
abbrev s__law_same : Stmt := topS 51
abbrev s__law_number : Stmt := topS 52
abbrev s__law_lead : Stmt := topS 53
abbrev s__law_rows : Stmt := topS 54
abbrev s__law_quotients : Stmt := topS 55
abbrev s__law_fractions : Stmt := topS 56
abbrev s__law_roads : Stmt := topS 57
abbrev s__law_rings : Stmt := topS 58
abbrev s_law : Stmt := topS 59
abbrev s_NoBottom_init : Stmt := (match topS 2 with | .ClassDef _ _ _ b .. => b | _ => []).getD 0 (.Pass ⟨0, 0, 0, 0⟩)
abbrev s_NoTelling_init : Stmt := (match topS 4 with | .ClassDef _ _ _ b .. => b | _ => []).getD 0 (.Pass ⟨0, 0, 0, 0⟩)
abbrev s_NotJoined_init : Stmt := (match topS 3 with | .ClassDef _ _ _ b .. => b | _ => []).getD 0 (.Pass ⟨0, 0, 0, 0⟩)
def hfa : List He.Fa := [.glo "common", .glo "fraction_of", .glo "plus_of", .glo "less_of", .glo "times_of", .glo "over_of", .glo "is_below", .glo "is_whole", .glo "is_fraction", .glo "is_move", .glo "stretch_by", .glo "read_by", .glo "move_then", .glo "move_back", .glo "in_order", .glo "order_of", .glo "named", .glo "tie_rows", .glo "ties_of", .glo "steps_from", .glo "roads_among", .glo "road_among", .glo "road_of", .glo "chain_move", .glo "move_of", .glo "ring_of", .glo "bars_of", .glo "words_of", .glo "paper_of", .glo "is_step", .glo "is_row", .glo "is_sheet", .glo "scales_along", .glo "row_holds", .glo "holds", .glo "_law_start", .glo "_law_draw", .glo "_law_mix", .glo "_law_same", .glo "_law_number", .glo "_law_lead", .glo "_law_rows", .glo "_law_quotients", .glo "_law_fractions", .glo "_law_roads", .glo "_law_rings", .glo "law", .free "abs", .free "all", .free "bool", .free "int", .free "isinstance", .free "len", .free "list", .free "range", .free "set", .free "sorted", .free "str", .free "tuple", .free "zip"]
def d_common : He.DefD := ⟨("common", none), "common", "common", defArgs s_common, defBody s_common, defScope s_common, [], []⟩
def d_fraction_of : He.DefD := ⟨("fraction_of", none), "fraction_of", "fraction_of", defArgs s_fraction_of, defBody s_fraction_of, defScope s_fraction_of, [(.int 1)], []⟩
def d_plus_of : He.DefD := ⟨("plus_of", none), "plus_of", "plus_of", defArgs s_plus_of, defBody s_plus_of, defScope s_plus_of, [], []⟩
def d_less_of : He.DefD := ⟨("less_of", none), "less_of", "less_of", defArgs s_less_of, defBody s_less_of, defScope s_less_of, [], []⟩
def d_times_of : He.DefD := ⟨("times_of", none), "times_of", "times_of", defArgs s_times_of, defBody s_times_of, defScope s_times_of, [], []⟩
def d_over_of : He.DefD := ⟨("over_of", none), "over_of", "over_of", defArgs s_over_of, defBody s_over_of, defScope s_over_of, [], []⟩
def d_is_below : He.DefD := ⟨("is_below", none), "is_below", "is_below", defArgs s_is_below, defBody s_is_below, defScope s_is_below, [], []⟩
def d_is_whole : He.DefD := ⟨("is_whole", none), "is_whole", "is_whole", defArgs s_is_whole, defBody s_is_whole, defScope s_is_whole, [], []⟩
def d_is_fraction : He.DefD := ⟨("is_fraction", none), "is_fraction", "is_fraction", defArgs s_is_fraction, defBody s_is_fraction, defScope s_is_fraction, [], []⟩
def d_is_move : He.DefD := ⟨("is_move", none), "is_move", "is_move", defArgs s_is_move, defBody s_is_move, defScope s_is_move, [], []⟩
def d_stretch_by : He.DefD := ⟨("stretch_by", none), "stretch_by", "stretch_by", defArgs s_stretch_by, defBody s_stretch_by, defScope s_stretch_by, [], []⟩
def d_read_by : He.DefD := ⟨("read_by", none), "read_by", "read_by", defArgs s_read_by, defBody s_read_by, defScope s_read_by, [], []⟩
def d_move_then : He.DefD := ⟨("move_then", none), "move_then", "move_then", defArgs s_move_then, defBody s_move_then, defScope s_move_then, [], []⟩
def d_move_back : He.DefD := ⟨("move_back", none), "move_back", "move_back", defArgs s_move_back, defBody s_move_back, defScope s_move_back, [], []⟩
def d_in_order : He.DefD := ⟨("in_order", none), "in_order", "in_order", defArgs s_in_order, defBody s_in_order, defScope s_in_order, [], []⟩
def d_order_of : He.DefD := ⟨("order_of", none), "order_of", "order_of", defArgs s_order_of, defBody s_order_of, defScope s_order_of, [], []⟩
def d_named : He.DefD := ⟨("named", none), "named", "named", defArgs s_named, defBody s_named, defScope s_named, [], []⟩
def d_tie_rows : He.DefD := ⟨("tie_rows", none), "tie_rows", "tie_rows", defArgs s_tie_rows, defBody s_tie_rows, defScope s_tie_rows, [], []⟩
def d_ties_of : He.DefD := ⟨("ties_of", none), "ties_of", "ties_of", defArgs s_ties_of, defBody s_ties_of, defScope s_ties_of, [], []⟩
def d_steps_from : He.DefD := ⟨("steps_from", none), "steps_from", "steps_from", defArgs s_steps_from, defBody s_steps_from, defScope s_steps_from, [], []⟩
def d_roads_among : He.DefD := ⟨("roads_among", none), "roads_among", "roads_among", defArgs s_roads_among, defBody s_roads_among, defScope s_roads_among, [], []⟩
def d_road_among : He.DefD := ⟨("road_among", none), "road_among", "road_among", defArgs s_road_among, defBody s_road_among, defScope s_road_among, [], []⟩
def d_road_of : He.DefD := ⟨("road_of", none), "road_of", "road_of", defArgs s_road_of, defBody s_road_of, defScope s_road_of, [], []⟩
def d_chain_move : He.DefD := ⟨("chain_move", none), "chain_move", "chain_move", defArgs s_chain_move, defBody s_chain_move, defScope s_chain_move, [], []⟩
def d_move_of : He.DefD := ⟨("move_of", none), "move_of", "move_of", defArgs s_move_of, defBody s_move_of, defScope s_move_of, [], []⟩
def d_ring_of : He.DefD := ⟨("ring_of", none), "ring_of", "ring_of", defArgs s_ring_of, defBody s_ring_of, defScope s_ring_of, [], []⟩
def d_bars_of : He.DefD := ⟨("bars_of", none), "bars_of", "bars_of", defArgs s_bars_of, defBody s_bars_of, defScope s_bars_of, [], []⟩
def d_words_of : He.DefD := ⟨("words_of", none), "words_of", "words_of", defArgs s_words_of, defBody s_words_of, defScope s_words_of, [], []⟩
def d_paper_of : He.DefD := ⟨("paper_of", none), "paper_of", "paper_of", defArgs s_paper_of, defBody s_paper_of, defScope s_paper_of, [], []⟩
def d_is_step : He.DefD := ⟨("is_step", none), "is_step", "is_step", defArgs s_is_step, defBody s_is_step, defScope s_is_step, [], []⟩
def d_is_row : He.DefD := ⟨("is_row", none), "is_row", "is_row", defArgs s_is_row, defBody s_is_row, defScope s_is_row, [], []⟩
def d_is_sheet : He.DefD := ⟨("is_sheet", none), "is_sheet", "is_sheet", defArgs s_is_sheet, defBody s_is_sheet, defScope s_is_sheet, [], []⟩
def d_scales_along : He.DefD := ⟨("scales_along", none), "scales_along", "scales_along", defArgs s_scales_along, defBody s_scales_along, defScope s_scales_along, [], []⟩
def d_row_holds : He.DefD := ⟨("row_holds", none), "row_holds", "row_holds", defArgs s_row_holds, defBody s_row_holds, defScope s_row_holds, [], []⟩
def d_holds : He.DefD := ⟨("holds", none), "holds", "holds", defArgs s_holds, defBody s_holds, defScope s_holds, [], []⟩
def d__law_start : He.DefD := ⟨("_law_start", none), "_law_start", "_law_start", defArgs s__law_start, defBody s__law_start, defScope s__law_start, [], []⟩
def d__law_draw : He.DefD := ⟨("_law_draw", none), "_law_draw", "_law_draw", defArgs s__law_draw, defBody s__law_draw, defScope s__law_draw, [], []⟩
def d__law_mix : He.DefD := ⟨("_law_mix", none), "_law_mix", "_law_mix", defArgs s__law_mix, defBody s__law_mix, defScope s__law_mix, [], []⟩
def d__law_same : He.DefD := ⟨("_law_same", none), "_law_same", "_law_same", defArgs s__law_same, defBody s__law_same, defScope s__law_same, [], []⟩
def d__law_number : He.DefD := ⟨("_law_number", none), "_law_number", "_law_number", defArgs s__law_number, defBody s__law_number, defScope s__law_number, [], []⟩
def d__law_lead : He.DefD := ⟨("_law_lead", none), "_law_lead", "_law_lead", defArgs s__law_lead, defBody s__law_lead, defScope s__law_lead, [], []⟩
def d__law_rows : He.DefD := ⟨("_law_rows", none), "_law_rows", "_law_rows", defArgs s__law_rows, defBody s__law_rows, defScope s__law_rows, [], []⟩
def d__law_quotients : He.DefD := ⟨("_law_quotients", none), "_law_quotients", "_law_quotients", defArgs s__law_quotients, defBody s__law_quotients, defScope s__law_quotients, [], []⟩
def d__law_fractions : He.DefD := ⟨("_law_fractions", none), "_law_fractions", "_law_fractions", defArgs s__law_fractions, defBody s__law_fractions, defScope s__law_fractions, [], []⟩
def d__law_roads : He.DefD := ⟨("_law_roads", none), "_law_roads", "_law_roads", defArgs s__law_roads, defBody s__law_roads, defScope s__law_roads, [], []⟩
def d__law_rings : He.DefD := ⟨("_law_rings", none), "_law_rings", "_law_rings", defArgs s__law_rings, defBody s__law_rings, defScope s__law_rings, [], []⟩
def d_law : He.DefD := ⟨("law", none), "law", "law", defArgs s_law, defBody s_law, defScope s_law, [], []⟩
def d_NoBottom_init : He.DefD := ⟨("NoBottom", some "__init__"), "__init__", "NoBottom.__init__", defArgs s_NoBottom_init, defBody s_NoBottom_init, defScope s_NoBottom_init, [], []⟩
def d_NoTelling_init : He.DefD := ⟨("NoTelling", some "__init__"), "__init__", "NoTelling.__init__", defArgs s_NoTelling_init, defBody s_NoTelling_init, defScope s_NoTelling_init, [], []⟩
def d_NotJoined_init : He.DefD := ⟨("NotJoined", some "__init__"), "__init__", "NotJoined.__init__", defArgs s_NotJoined_init, defBody s_NotJoined_init, defScope s_NotJoined_init, [], []⟩
def hfn : List He.DefD := [d_common, d_fraction_of, d_plus_of, d_less_of, d_times_of, d_over_of, d_is_below, d_is_whole, d_is_fraction, d_is_move, d_stretch_by, d_read_by, d_move_then, d_move_back, d_in_order, d_order_of, d_named, d_tie_rows, d_ties_of, d_steps_from, d_roads_among, d_road_among, d_road_of, d_chain_move, d_move_of, d_ring_of, d_bars_of, d_words_of, d_paper_of, d_is_step, d_is_row, d_is_sheet, d_scales_along, d_row_holds, d_holds, d__law_start, d__law_draw, d__law_mix, d__law_same, d__law_number, d__law_lead, d__law_rows, d__law_quotients, d__law_fractions, d__law_roads, d__law_rings, d_law, d_NoBottom_init, d_NoTelling_init, d_NotJoined_init]
def hex (K : PySem.W.Frag) : Bool := tabB K ["in_order"] && conB K "NOUGHT" (.tup [(.int 0), (.int 1)]) && conB K "SAME" (.tup [(.tup [(.int 1), (.int 1)]), (.tup [(.int 0), (.int 1)])]) && bkB K "BookError" && xcB K "NoBottom" ["top"] && xcB K "NoTelling" ["name"] && xcB K "NotJoined" ["start", "end"] && xfB K (He.ga K "NoBottom") && xfB K (He.ga K "NoTelling") && xfB K (He.ga K "NotJoined") && hdJB K "NoBottom" ["NoBottom", "NoTelling", "NotJoined"] && hdJB K "NoTelling" ["NoBottom", "NoTelling", "NotJoined"] && hdJB K "NotJoined" ["NoBottom", "NoTelling", "NotJoined"]
abbrev Rr : PySem.W.OpenRow := PySem.W.OpenLaw.row PySem.Challenge.rw_scalebook_k21_lower_half_by_names
def loose : List PySem.Str := [("BookError" : PySem.Str), ("NoBottom" : PySem.Str), ("NotJoined" : PySem.Str), ("NoTelling" : PySem.Str), ("common" : PySem.Str), ("fraction_of" : PySem.Str), ("plus_of" : PySem.Str), ("less_of" : PySem.Str), ("times_of" : PySem.Str), ("over_of" : PySem.Str), ("is_below" : PySem.Str), ("is_whole" : PySem.Str), ("is_fraction" : PySem.Str), ("NOUGHT" : PySem.Str), ("SAME" : PySem.Str), ("is_move" : PySem.Str), ("stretch_by" : PySem.Str), ("read_by" : PySem.Str), ("move_then" : PySem.Str), ("move_back" : PySem.Str), ("order_of" : PySem.Str), ("named" : PySem.Str), ("tie_rows" : PySem.Str), ("ties_of" : PySem.Str), ("steps_from" : PySem.Str), ("roads_among" : PySem.Str), ("road_among" : PySem.Str), ("road_of" : PySem.Str), ("chain_move" : PySem.Str), ("move_of" : PySem.Str), ("ring_of" : PySem.Str), ("bars_of" : PySem.Str), ("words_of" : PySem.Str), ("paper_of" : PySem.Str), ("is_step" : PySem.Str), ("is_row" : PySem.Str), ("is_sheet" : PySem.Str), ("scales_along" : PySem.Str), ("row_holds" : PySem.Str), ("holds" : PySem.Str), ("_law_start" : PySem.Str), ("_law_draw" : PySem.Str), ("_law_mix" : PySem.Str), ("_law_same" : PySem.Str), ("_law_number" : PySem.Str), ("_law_lead" : PySem.Str), ("_law_rows" : PySem.Str), ("_law_quotients" : PySem.Str), ("_law_fractions" : PySem.Str), ("_law_roads" : PySem.Str), ("_law_rings" : PySem.Str)]
theorem run (w : World) : HandSHeadRun.RunEq Rr (PySem.W.view Rr.prog [24, 59]) (hookT 5 hfa hfn hex) (obsT 5 hfa hfn hex) 9000 loose w := by
  intro os
  kernel_rfl
end Sb
set_option Elab.async false
set_option linter.all false
set_option maxRecDepth 100000
set_option maxHeartbeats 4000000
namespace Sb
open PySem
/-- what two zipped things give -/
def zipP : List PV → List PV → List PV
  | a :: as, b :: bs => .tup [a, b] :: zipP as bs
  | _, _ => []
abbrev Keep := List (Nat × List PV)
def stays (kp : Keep) (h : PH) : Prop := ∀ p ∈ kp, h[p.1]? = some (.lst p.2)
/-- what a loop walks: its items, and what must stay as it is -/
def walkSeq (as : List PV) (h : PH) : Option (List PV × Keep) := match as with
  | [.cl l] => some (l, [])
  | [.ref n] => (match h[n]? with | some (.lst l) => some (l, [(n, l)]) | _ => none)
  | [.tup l] => some (l, [])
  | _ => none
def walkRange (as : List PV) (h : PH) : Option (List PV × Keep) := match as with
  | [.int n] => if n < 2 ^ 62 ∧ -(2 ^ 62) ≤ n then some (rangeP n, []) else none
  | _ => none
def walkZip (as : List PV) (h : PH) : Option (List PV × Keep) := match as with
  | [.tup l, .tup k] => some (zipP l k, [])
  | [.ref m, .ref n] => (match h[m]?, h[n]? with
    | some (.lst l), some (.lst k) => some (zipP l k, [(m, l), (n, k)])
    | _, _ => none)
  | _ => none
def walkF : ITK → List PV → PH → Option (List PV × Keep)
  | .seq => walkSeq
  | .range => walkRange
  | .zip => walkZip
inductive RS where
  | nx (ρ : Env) (h : PH)
  | rt (v : PV) (h : PH)
  | bk (ρ : Env) (h : PH)
  | ct (ρ : Env) (h : PH)
  | ex (x : Exn) (ρ : Env) (h : PH)
  | no
/-- an expression ahead of a statement's rest -/
def R.st {α : Type} (m : R α) (ρ : Env) (f : α → PH → RS) : RS := match m with | .ok a h => f a h | .ex x h => .ex x ρ h | .no => .no
@[simp] theorem R.st_ok {α : Type} (a : α) (h : PH) (ρ : Env) (f : α → PH → RS) : (R.ok a h).st ρ f = f a h := rfl
@[simp] theorem R.st_no {α : Type} (ρ : Env) (f : α → PH → RS) : (R.no : R α).st ρ f = .no := rfl
@[simp] theorem R.st_ex {α : Type} (x : Exn) (h : PH) (ρ : Env) (f : α → PH → RS) : (R.ex x h : R α).st ρ f = .ex x ρ h := rfl
def RS.seq (m : RS) (f : Env → PH → RS) : RS := match m with | .nx ρ h => f ρ h | r => r
@[simp] theorem RS.seq_nx (ρ : Env) (h : PH) (f : Env → PH → RS) : (RS.nx ρ h).seq f = f ρ h := rfl
@[simp] theorem RS.seq_rt (v : PV) (h : PH) (f : Env → PH → RS) : (RS.rt v h).seq f = .rt v h := rfl
@[simp] theorem RS.seq_no (f : Env → PH → RS) : RS.no.seq f = .no := rfl
@[simp] theorem RS.seq_bk (ρ : Env) (h : PH) (f : Env → PH → RS) : (RS.bk ρ h).seq f = .bk ρ h := rfl
@[simp] theorem RS.seq_ct (ρ : Env) (h : PH) (f : Env → PH → RS) : (RS.ct ρ h).seq f = .ct ρ h := rfl
@[simp] theorem RS.seq_ex (x : Exn) (ρ : Env) (h : PH) (f : Env → PH → RS) : (RS.ex x ρ h).seq f = .ex x ρ h := rfl
open Classical in
noncomputable def compLoop (kp : Keep) (bind : PV → Option Env) (t : Env → PH → R Bool) (e : Env → PH → R PV) : List PV → List PV → PH → R (List PV)
  | [], acc, h => if stays kp h then .ok acc h else .no
  | x :: xs, acc, h => if stays kp h then
      (match bind x with
      | some ρ => (t ρ h).bind fun b h1 => if b then (e ρ h1).bind fun v h2 => if lineOk (acc.length + 1) then compLoop kp bind t e xs (acc ++ [v]) h2 else .no else compLoop kp bind t e xs acc h1
      | none => .no) else .no
open Classical in
noncomputable def dcompLoop (kp : Keep) (bind : PV → Option Env) (t : Env → PH → R Bool) (ek ev : Env → PH → R PV) : List PV → List (L2.Key × PV) → PH → R (List (L2.Key × PV))
  | [], acc, h => if stays kp h then .ok acc h else .no
  | x :: xs, acc, h => if stays kp h then
      (match bind x with
      | some ρ => (t ρ h).bind fun b h1 => if b then (ek ρ h1).bind fun k h2 => (ev ρ h2).bind fun v h3 => (match keyOf k with | some k => if lineOk (acc.length + 1) then dcompLoop kp bind t ek ev xs (putP acc k v) h3 else .no | none => .no) else dcompLoop kp bind t ek ev xs acc h1
      | none => .no) else .no
/-- {x[0] for x in xs} -/
def firstK : PV → Option L2.Key
  | .tup (p :: _) => keyOf p
  | _ => none
def firstsP (d : Option PV) (h : PH) : R PV := match d with
  | some (.ref n) => (match h[n]? with
    | some (.lst l) => (match mapO firstK l with
      | some ks => if l.length < 1000 then .ok (.ste (ks.foldl addK [])) h else .no
      | none => .no)
    | _ => .no)
  | _ => .no
/-- {scale: near if mark == far else mark for scale, mark in marks.items()} -/
def remarkL (a b : Str) (l : List (L2.Key × PV)) : List (L2.Key × PV) := l.map fun kv => (kv.1, match kv.2 with | .str m => .str (if m = b then a else m) | v => v)
def remarkP (d near far : Option PV) (h : PH) : R PV := match d, near, far with
  | some (.ref n), some (.str a), some (.str b) => (match h[n]? with
    | some (.dct l) => (match strsOf (l.map (·.2)) with
      | some _ => if lineOk (l.length + 1) then allocD (mergeP [] (remarkL a b l)) h else .no
      | none => .no)
    | _ => .no)
  | _, _, _ => .no
/-- a loop's turn ends: the next one, or the loop's end -/
def RS.turn (m : RS) (f : Env → PH → RS) : RS := match m with | .nx ρ h => f ρ h | .ct ρ h => f ρ h | .bk ρ h => .nx ρ h | r => r
@[simp] theorem RS.turn_nx (ρ : Env) (h : PH) (f : Env → PH → RS) : (RS.nx ρ h).turn f = f ρ h := rfl
@[simp] theorem RS.turn_ct (ρ : Env) (h : PH) (f : Env → PH → RS) : (RS.ct ρ h).turn f = f ρ h := rfl
@[simp] theorem RS.turn_bk (ρ : Env) (h : PH) (f : Env → PH → RS) : (RS.bk ρ h).turn f = .nx ρ h := rfl
@[simp] theorem RS.turn_rt (v : PV) (h : PH) (f : Env → PH → RS) : (RS.rt v h).turn f = .rt v h := rfl
@[simp] theorem RS.turn_ex (x : Exn) (ρ : Env) (h : PH) (f : Env → PH → RS) : (RS.ex x ρ h).turn f = .ex x ρ h := rfl
@[simp] theorem RS.turn_no (f : Env → PH → RS) : RS.no.turn f = .no := rfl
open Classical in
noncomputable def forLoop (kp : Keep) (bind : Env → PV → Option Env) (b : Env → PH → RS) : List PV → Env → PH → RS
  | [], ρ, h => if stays kp h then .nx ρ h else .no
  | x :: xs, ρ, h => if stays kp h then (match bind ρ x with | some ρ1 => (b ρ1 h).turn (forLoop kp bind b xs) | none => .no) else .no
def whileN (t : Env → PH → R Bool) (b : Env → PH → RS) : Nat → Env → PH → RS
  | 0, _, _ => .no
  | n + 1, ρ, h => (t ρ h).st ρ fun c h1 => if c then (b ρ h1).turn (whileN t b n) else .nx ρ h1
theorem whileN_up {t : Env → PH → R Bool} {b : Env → PH → RS} : ∀ (n : Nat) (ρ : Env) (h : PH), whileN t b n ρ h ≠ .no → whileN t b (n + 1) ρ h = whileN t b n ρ h := by
  intro n
  induction n with
  | zero => intro ρ h q; exact absurd rfl q
  | succ n ih =>
    intro ρ h q
    show (t ρ h).st ρ (fun c h1 => if c then (b ρ h1).turn (whileN t b (n + 1)) else .nx ρ h1) = (t ρ h).st ρ fun c h1 => if c then (b ρ h1).turn (whileN t b n) else .nx ρ h1
    have q' : ((t ρ h).st ρ fun c h1 => if c then (b ρ h1).turn (whileN t b n) else .nx ρ h1) ≠ .no := q
    cases e : t ρ h with
    | no => rfl
    | ex x h1 => rfl
    | ok c h1 =>
      rw [e] at q'
      simp only [R.st_ok] at q' ⊢
      cases c with
      | false => rfl
      | true =>
        simp only [if_true] at q' ⊢
        cases e2 : b ρ h1 with
        | nx ρ2 h2 => rw [e2] at q'; exact ih ρ2 h2 q'
        | ct ρ2 h2 => rw [e2] at q'; exact ih ρ2 h2 q'
        | bk ρ2 h2 => rfl
        | rt v h2 => rfl
        | ex x ρ2 h2 => rfl
        | no => rfl
theorem whileN_le {t : Env → PH → R Bool} {b : Env → PH → RS} {m n : Nat} {ρ : Env} {h : PH} (hmn : m ≤ n) (q : whileN t b m ρ h ≠ .no) : whileN t b n ρ h = whileN t b m ρ h := by
  induction hmn with
  | refl => rfl
  | step _ ih => rw [whileN_up _ _ _ (by rw [ih]; exact q), ih]
open Classical in
noncomputable def whileF (t : Env → PH → R Bool) (b : Env → PH → RS) (ρ : Env) (h : PH) : RS :=
  if q : ∃ n, whileN t b n ρ h ≠ .no then whileN t b q.choose ρ h else .no
theorem whileF_of {t : Env → PH → R Bool} {b : Env → PH → RS} {n : Nat} {ρ : Env} {h : PH} (q : whileN t b n ρ h ≠ .no) : whileF t b ρ h = whileN t b n ρ h := by
  unfold whileF
  have q' : ∃ n, whileN t b n ρ h ≠ .no := ⟨n, q⟩
  rw [dif_pos q']
  rcases Nat.le_total n q'.choose with z | z
  · exact whileN_le z q
  · exact (whileN_le z q'.choose_spec).symm
theorem whileF_some {t : Env → PH → R Bool} {b : Env → PH → RS} {ρ : Env} {h : PH} (q : whileF t b ρ h ≠ .no) : ∃ n, whileN t b n ρ h ≠ .no ∧ whileF t b ρ h = whileN t b n ρ h := by
  by_cases q' : ∃ n, whileN t b n ρ h ≠ .no
  · obtain ⟨n, e⟩ := q'
    exact ⟨n, e, whileF_of e⟩
  · exfalso
    apply q
    unfold whileF
    rw [dif_neg q']
/-- a while, one turn -/
theorem whileF_eq (t : Env → PH → R Bool) (b : Env → PH → RS) (ρ : Env) (h : PH) : whileF t b ρ h = (t ρ h).st ρ fun c h1 => if c then (b ρ h1).turn (whileF t b) else .nx ρ h1 := by
  by_cases q : ((t ρ h).st ρ fun c h1 => if c then (b ρ h1).turn (whileF t b) else .nx ρ h1) = .no
  · rw [q]
    by_cases z : whileF t b ρ h = .no
    · exact z
    · exfalso
      obtain ⟨n, e1, e2⟩ := whileF_some z
      cases n with
      | zero => exact e1 rfl
      | succ n =>
        apply e1
        show ((t ρ h).st ρ fun c h1 => if c then (b ρ h1).turn (whileN t b n) else .nx ρ h1) = .no
        cases e : t ρ h with
        | no => rfl
        | ex x h1 => rw [e] at q; cases q
        | ok c h1 =>
          rw [e] at q
          simp only [R.st_ok] at q ⊢
          cases c with
          | false => simp at q
          | true =>
            simp only [if_true] at q ⊢
            cases e3 : b ρ h1 with
            | nx ρ2 h2 =>
              rw [e3] at q
              by_cases w : whileN t b n ρ2 h2 = .no
              · exact w
              · have := whileF_of w
                show whileN t b n ρ2 h2 = .no
                rw [← this]
                exact q
            | ct ρ2 h2 =>
              rw [e3] at q
              by_cases w : whileN t b n ρ2 h2 = .no
              · exact w
              · have := whileF_of w
                show whileN t b n ρ2 h2 = .no
                rw [← this]
                exact q
            | bk ρ2 h2 => rw [e3] at q; cases q
            | rt v h2 => rw [e3] at q; cases q
            | ex x ρ2 h2 => rw [e3] at q; cases q
            | no => rfl
  · have key : ∃ n, whileN t b n ρ h = (t ρ h).st ρ fun c h1 => if c then (b ρ h1).turn (whileF t b) else .nx ρ h1 := by
      cases e : t ρ h with
      | no => rw [e] at q; exact absurd rfl q
      | ex x h1 => exact ⟨1, by show (t ρ h).st ρ _ = _; rw [e]; rfl⟩
      | ok c h1 =>
        rw [e] at q
        simp only [R.st_ok] at q ⊢
        cases c with
        | false => exact ⟨1, by show (t ρ h).st ρ _ = _; rw [e]; rfl⟩
        | true =>
          simp only [if_true] at q ⊢
          cases e3 : b ρ h1 with
          | nx ρ2 h2 =>
            rw [e3] at q
            obtain ⟨n, _, e5⟩ := whileF_some (show whileF t b ρ2 h2 ≠ .no from q)
            exact ⟨n + 1, by show (t ρ h).st ρ _ = _; rw [e]; simp only [R.st_ok, if_true]; rw [e3]; exact e5.symm⟩
          | ct ρ2 h2 =>
            rw [e3] at q
            obtain ⟨n, _, e5⟩ := whileF_some (show whileF t b ρ2 h2 ≠ .no from q)
            exact ⟨n + 1, by show (t ρ h).st ρ _ = _; rw [e]; simp only [R.st_ok, if_true]; rw [e3]; exact e5.symm⟩
          | bk ρ2 h2 => exact ⟨1, by show (t ρ h).st ρ _ = _; rw [e]; simp only [R.st_ok, if_true]; rw [e3]; rfl⟩
          | rt v h2 => exact ⟨1, by show (t ρ h).st ρ _ = _; rw [e]; simp only [R.st_ok, if_true]; rw [e3]; rfl⟩
          | ex x ρ2 h2 => exact ⟨1, by show (t ρ h).st ρ _ = _; rw [e]; simp only [R.st_ok, if_true]; rw [e3]; rfl⟩
          | no => rw [e3] at q; exact absurd rfl q
    obtain ⟨n, e⟩ := key
    rw [← e] at q ⊢
    exact whileF_of q
abbrev Calls := Nat → List PV → PH → R PV
/-- a value as it is, or (t) its truth -/
def fin (t : Bool) (m : R PV) : R PV := if t then m.bind fun x h => ofO ((truthy h x).map .bl) h else m
def asB (m : R PV) : R Bool := m.bind fun x h => match x with | .bl b => .ok b h | _ => .no
mutual
/-- t: asked as a test -/
noncomputable def evG (C : Calls) : E → Bool → Env → PH → R PV
  | .var i, t, ρ, h => fin t (ofO (ρ.get i) h)
  | .lit v, t, _, h => fin t (.ok v h)
  | .bin op a b, t, ρ, h => fin t ((evG C a false ρ h).bind fun x h1 => (evG C b false ρ h1).bind fun y h2 => binop op x y h2)
  | .neg a, t, ρ, h => fin t ((evG C a false ρ h).bind fun x h1 => match x with | .int i => .ok (.int (-i)) h1 | _ => .no)
  | .nt a, t, ρ, h => (evG C a t ρ h).bind fun x h1 => match x with | .bl b => .ok (.bl (!b)) h1 | _ => .no
  | .band a b, t, ρ, h => (evG C a t ρ h).bind fun x h1 => match x with | .bl true => evG C b t ρ h1 | .bl false => .ok (.bl false) h1 | _ => .no
  | .bor a b, t, ρ, h => (evG C a t ρ h).bind fun x h1 => match x with | .bl false => evG C b t ρ h1 | .bl true => .ok (.bl true) h1 | _ => .no
  | .cmp op a b, t, ρ, h => fin t ((evG C a false ρ h).bind fun x h1 => (evG C b false ρ h1).bind fun y h2 => cmpop op x y h2)
  | .ite c a b, t, ρ, h => fin t ((evG C c true ρ h).bind fun x h1 => match x with | .bl true => evG C a false ρ h1 | .bl false => evG C b false ρ h1 | _ => .no)
  | .tup es, t, ρ, h => fin t ((evGs C es ρ h).bind fun l h1 => tupO l h1)
  | .lst es, t, ρ, h => fin t ((evGs C es ρ h).bind fun l h1 => alloc l h1)
  | .idx a i, t, ρ, h => fin t ((evG C a false ρ h).bind fun x h1 => (evG C i false ρ h1).bind fun y h2 => idxop x y h2)
  | .slc a lo hi, t, ρ, h => fin t ((evG C a false ρ h).bind fun x h1 => (evGo C lo ρ h1).bind fun l h2 => (evGo C hi ρ h2).bind fun u h3 => slcop x l u h3)
  | .call f es ds, t, ρ, h => fin t ((evGs C es ρ h).bind fun l h1 => C f (l ++ ds) h1)
  | .callk f es ix ds, t, ρ, h => fin t ((evGs C es ρ h).bind fun l h1 => match mapO (fun i => l[i]?) ix with | some l' => C f (l' ++ ds) h1 | none => .no)
  | .bi b es, t, ρ, h => fin t ((evGs C es ρ h).bind fun l h1 => biF b l h1)
  | .mth m o es, t, ρ, h => fin t ((evG C o false ρ h).bind fun x h1 => if tyOf h1 x = some m.ty then (evGs C es ρ h1).bind fun l h2 => mtF m x l h2 else .no)
  | .srt a, t, ρ, h => fin t ((evG C a false ρ h).bind fun x h1 => srtop x h1)
  | .dct es, t, ρ, h => fin t ((evGs C es ρ h).bind fun l h1 => match pairUp l with | some l => allocD (mergeP [] l) h1 | none => .no)
  | .dcomp ke ve tg one k its cond own, t, ρ, h => fin t ((evGs C its ρ h).bind fun l h1 =>
      match walkF k l h1 with
      | some (items, kp) => (dcompLoop kp (fun x => setTg (wipeP ρ own) tg one x) (fun ρ1 h2 => (evGc C cond ρ1 h2).calm) (fun ρ1 h2 => (evG C ke false ρ1 h2).calm) (fun ρ1 h2 => (evG C ve false ρ1 h2).calm) items [] h1).bind fun l h2 => allocD l h2
      | none => .no)
  | .firsts j, t, ρ, h => fin t (firstsP (ρ.get j) h)
  | .remark d near far, t, ρ, h => fin t (remarkP (ρ.get d) (ρ.get near) (ρ.get far) h)
  | .comp elt tg one k its cond own, t, ρ, h => fin t ((evGs C its ρ h).bind fun l h1 =>
      match walkF k l h1 with
      | some (items, kp) => (compLoop kp (fun x => setTg (wipeP ρ own) tg one x) (fun ρ1 h2 => (evGc C cond ρ1 h2).calm) (fun ρ1 h2 => (evG C elt false ρ1 h2).calm) items [] h1).bind fun l h2 => alloc l h2
      | none => .no)
  | .stp a s, t, ρ, h => fin t ((evG C a false ρ h).bind fun x h1 => (evG C s false ρ h1).bind fun st h2 => stpop x st h2)
  | .rev a, t, ρ, h => fin t ((evG C a false ρ h).bind fun x h1 => revop x h1)
  | .xat a f c, t, ρ, h => fin t ((evG C a false ρ h).bind fun x h1 => xatop x f c h1)
noncomputable def evGs (C : Calls) : List E → Env → PH → R (List PV)
  | [], _, h => .ok [] h
  | e :: es, ρ, h => (evG C e false ρ h).bind fun x h1 => (evGs C es ρ h1).bind fun l h2 => .ok (x :: l) h2
noncomputable def evGo (C : Calls) : Option E → Env → PH → R (Option Int)
  | none, _, h => .ok none h
  | some e, ρ, h => (evG C e false ρ h).bind fun x h1 => match x with | .int i => .ok (some i) h1 | _ => .no
noncomputable def evGc (C : Calls) : Option E → Env → PH → R Bool
  | none, _, h => .ok true h
  | some e, ρ, h => asB (evG C e true ρ h)
end
noncomputable abbrev evE (C : Calls) (e : E) : Env → PH → R PV := evG C e false
noncomputable def evT (C : Calls) (e : E) (ρ : Env) (h : PH) : R Bool := asB (evG C e true ρ h)
/-- a op= b: ints and texts -/
def iopF (op : Operator) (a b : PV) (h : PH) : R PV := match op, a, b with
  | .Add, .int i, .int j => .ok (.int (i + j)) h
  | .Sub, .int i, .int j => .ok (.int (i - j)) h
  | .Add, .str x, .str y => if lineOk (x.length + y.length) then .ok (.str (x ++ y)) h else .no
  | _, _, _ => .no
/-- o[i] of a list of the heap -/
def getL (a i : PV) (h : PH) : R PV := match a, i with
  | .ref n, .int i => if 0 ≤ i then (match h[n]? with | some (.lst l) => ofO l[i.toNat]? h | _ => .no) else .no
  | _, _ => .no
/-- a target is stored -/
noncomputable def stTg (C : Calls) : Tgt → PV → Env → PH → RS
  | .nm i, v, ρ, h => .nx (ρ.set i (some v)) h
  | .tup is, .tup l, ρ, h => match setAll ρ is l with | some ρ' => .nx ρ' h | none => .no
  | .tup _, _, _, _ => .no
  | .unl is, .ref n, ρ, h => match h[n]? with | some (.lst l) => (match setAll ρ is l with | some ρ' => .nx ρ' h | none => .no) | _ => .no
  | .unl _, _, _, _ => .no
  | .sub o i, v, ρ, h => (evE C o ρ h).st ρ fun x h1 => (evE C i ρ h1).st ρ fun y h2 => match setop x y v h2 with | some h3 => .nx ρ h3 | none => .no
/-- no handled exception is left behind -/
def coolE (ρ ρ1 : Env) : Prop := ∀ (n : Nat) (p : PV), ρ1[n]? = some (some p) → ρ[n]? = some (some p) ∨ coldV p = true
def coolH (h h1 : PH) : Prop := ∀ (n : Nat) (o : PO), h1[n]? = some o → h[n]? = some o ∨ coldO o = true
def setO (ρ : Env) (i : Option Nat) (v : Option PV) : Env := match i with | some i => ρ.set i v | none => ρ
open Classical in
noncomputable def coolS (i : Option Nat) (ρ : Env) (h : PH) : RS → RS
  | .nx ρ1 h1 => if coolE ρ (setO ρ1 i none) ∧ coolH h h1 then .nx (setO ρ1 i none) h1 else .no
  | .rt v h1 => if coldV v = true ∧ coolH h h1 then .rt v h1 else .no
  | _ => .no
mutual
noncomputable def exS (C : Calls) : S → Env → PH → RS
  | .asg g e, ρ, h => (evE C e ρ h).st ρ fun v h1 => stTg C g v ρ h1
  | .aug i op e, ρ, h => match ρ.get i with
    | some x => (evE C e ρ h).st ρ fun y h1 => (iopF op x y h1).st ρ fun z h2 => .nx (ρ.set i (some z)) h2
    | none => .no
  | .augs o i op e, ρ, h => (evE C o ρ h).st ρ fun ov h1 => (evE C i ρ h1).st ρ fun iv h2 => (getL ov iv h2).st ρ fun x h3 => (evE C e ρ h3).st ρ fun y h4 => (iopF op x y h4).st ρ fun z h5 => match setop ov iv z h5 with | some h6 => .nx ρ h6 | none => .no
  | .ifs t a b, ρ, h => (evT C t ρ h).st ρ fun c h1 => if c then exSs C a ρ h1 else exSs C b ρ h1
  | .whl t b, ρ, h => whileF (fun ρ h => evT C t ρ h) (fun ρ h => exSs C b ρ h) ρ h
  | .fr tg one k its b, ρ, h => (evGs C its ρ h).st ρ fun l h1 => match walkF k l h1 with
      | some (items, kp) => forLoop kp (fun ρ x => setTg ρ tg one x) (fun ρ h => exSs C b ρ h) items ρ h1
      | none => .no
  | .ret e, ρ, h => (evE C e ρ h).st ρ fun v h1 => .rt v h1
  | .ret0, _, h => .rt .non h
  | .ex e, ρ, h => (evE C e ρ h).st ρ fun _ h1 => .nx ρ h1
  | .pass, ρ, h => .nx ρ h
  | .brk, ρ, h => .bk ρ h
  | .cont, ρ, h => .ct ρ h
  | .raise x ns es, ρ, h => (evGs C es ρ h).st ρ fun l h1 => .ex ⟨x, ns, l.reverse⟩ ρ h1
  | .tryN b c xs s, ρ, h => match exSs C b ρ h with
    | .ex x ρ1 h1 => if x.cls ∈ xs then (if x.cls = c then exSs C s ρ1 h1 else .ex x ρ1 h1) else .no
    | r => r
  | .tryA b c xs fi i j lit ns fs exs, ρ, h => match exSs C b ρ h with
    | .ex x ρ1 h1 => if x.cls ∈ xs then (if x.cls = c then (match C fi [.xc x.cls [] []] [], mapO (fun f => (x.ns.zip x.vs).lookup f) fs with
      | .ok (.bl true) _, some vs => if x.ns = ns ∧ i < ρ1.length then .nx ((ρ1.set j (some (.tup (.str lit :: vs ++ exs)))).set i none) h1 else .no
      | _, _ => .no) else .ex x ρ1 h1) else .no
    | r => r
  | .hole, _, _ => .no
  | .hd _ _ _, _, _ => .no
  | .tryH b xs hs, ρ, h => match exSs C b ρ h with
    | .ex x ρ1 h1 => if x.cls ∈ xs then exH C hs x ρ1 h1 else .no
    | r => r
noncomputable def exH (C : Calls) : List S → Exn → Env → PH → RS
  | [], x, ρ, h => .ex x ρ h
  | .hd c i b :: r, x, ρ, h => if hitX x.cls c then coolS i ρ h (exSs C b (setO ρ i (some (.xc x.cls x.ns x.vs))) h) else exH C r x ρ h
  | _, _, _, _ => .no
noncomputable def exSs (C : Calls) : List S → Env → PH → RS
  | [], ρ, h => .nx ρ h
  | s :: r, ρ, h => (exS C s ρ h).seq fun ρ1 h1 => exSs C r ρ1 h1
end
/-- a def's body at its arguments -/
def startP (ns : Nat) (vs : List PV) : Env := vs.map some ++ List.replicate (ns - vs.length) none
def RS.toR : RS → R PV
  | .nx _ h => .ok .non h
  | .rt v h => .ok v h
  | .ex x _ h => .ex x h
  | _ => .no
noncomputable def runFn (C : Calls) (f : Fn) (vs : List PV) (h : PH) : R PV := if vs.length = f.np then (exSs C f.body (startP f.ns vs) h).toR else .no
noncomputable def call (tbl : Nat → Fn) : Nat → Calls
  | 0 => fun _ _ _ => .no
  | k + 1 => fun f vs h => runFn (call tbl k) (tbl f) vs h
end Sb
set_option Elab.async false
set_option linter.all false
set_option maxRecDepth 100000
set_option maxHeartbeats 4000000
namespace Sb
open PySem L2
/-- what the lying of plain values leans on: the written part, the exceptions that are handled -/
structure ZZ where
  K : PySem.W.Frag
  pn : List (Addr × Obj)
  P : Program
  w : World
def hotPn (X : Cx) : List (Addr × Obj) := match X.calm with | true => [] | false => X.pn.take 1
abbrev zOf (X : Cx) : ZZ := ⟨X.K, hotPn X, X.prog, X.w⟩
theorem z_calm {X : Cx} (h : X.calm = true) : zOf X = ⟨X.K, [], X.prog, X.w⟩ := by
  unfold zOf hotPn
  rw [h]
/-- a list, a tuple of the written part -/
def KL (K : PySem.W.Frag) (a : Addr) (xs : List V) : Prop := ∃ (o : Obj) (its : Array Value) (n : Nat), K.lookup a = some o ∧ o.cls = .type "list" ∧ o.dict = none ∧ o.data = .seq its n ∧ its.size ≤ sizeLine ∧ Vals xs its.toList
def KT (K : PySem.W.Frag) (a : Addr) (xs : List V) : Prop := ∃ (o : Obj) (its : Array Value) (n : Nat), K.lookup a = some o ∧ o.cls = .type "tuple" ∧ o.data = .seq its n ∧ its.size ≤ sizeLine ∧ Vals xs its.toList
def LstAt (K : ZZ) (φ : List Addr) (H : Hp) (a : Addr) (xs : List V) : Prop := ((∃ o, H a = some (.frz o (.lst xs))) ∧ a ∉ φ) ∨ KL K.K a xs
def TupAt (K : ZZ) (φ : List Addr) (H : Hp) (a : Addr) (xs : List V) : Prop := (Rd H a (.tup xs) ∧ a ∉ φ) ∨ KT K.K a xs
theorem LstAt.sq {K : ZZ} {φ : List Addr} {H : Hp} {a : Addr} {xs : List V} (h : LstAt K φ H a xs) : SqL K.K H a xs := h.elim (fun z => .inl (.inr z.1)) .inr
theorem TupAt.sq {K : ZZ} {φ : List Addr} {H : Hp} {a : Addr} {xs : List V} (h : TupAt K φ H a xs) : SqT K.K H a xs := h.elim (fun z => .inl z.1) .inr
mutual
def RV (K : ZZ) (φ : List Addr) (H : Hp) : PV → V → Prop
  | .non, v => v = .non
  | .bl b, v => v = .bl b
  | .int i, v => v = .int i
  | .str x, v => v = .str x
  | .ty t, v => v = .ty t.nm
  | .ref n, v => ∃ a, v = .ref a ∧ φ[n]? = some a
  | .tup l, v => ∃ a vs, v = .ref a ∧ TupAt K φ H a vs ∧ RVs K φ H l vs
  | .cl l, v => ∃ a vs, v = .ref a ∧ LstAt K φ H a vs ∧ RVs K φ H l vs
  | .cls x, v => v = if x = "ValueError" then .ty "ValueError" else .ref (He.ga K.K x)
  | .xc x ns l, v => ∃ a oe, v = .ref a ∧ (a, oe) ∈ K.pn ∧ oe.cls = .ref (He.ga K.K x) ∧ (∃ vs, oe.data = .fields vs) ∧ ((oe.dict = none ∧ ns = []) ∨ ∃ dd fs us, oe.dict = some dd ∧ H dd = some (.xd fs) ∧ dd ∉ φ ∧ (ns = [] ∨ (fs.map (·.1) = ns ∧ fs.map (·.2) = us)) ∧ RVs K φ H l us)
  | .ste l, v => ∃ a, v = .ref a ∧ H a = some (SetK K.P K.w a (fun k => l.any fun j => decide (j = k)) l.length) ∧ a ∉ φ ∧ l.Nodup
def RVs (K : ZZ) (φ : List Addr) (H : Hp) : List PV → List V → Prop
  | [], vs => vs = []
  | p :: ps, vs => ∃ v r, vs = v :: r ∧ RV K φ H p v ∧ RVs K φ H ps r
end
def RO (K : ZZ) (φ : List Addr) (H : Hp) : PO → HO → Prop
  | .lst l, o => ∃ vs, o = .lst vs ∧ RVs K φ H l vs
  | .dct l, o => ∃ kvs, o = .dK kvs ∧ kvs.map (·.1) = l.map (·.1) ∧ RVs K φ H (l.map (·.2)) (kvs.map (·.2))
  | .obj c fs, o => False
/-- the plain heap h lies at the addresses φ -/
structure Sim (K : ZZ) (φ : List Addr) (h : PH) (H : Hp) : Prop where
  len : φ.length = h.length
  nd : φ.Nodup
  ob : ∀ (n : Nat) (o : PO), h[n]? = some o → ∃ a ho, φ[n]? = some a ∧ H a = some ho ∧ RO K φ H o ho
  tb : LamX.Tabs (tabsOf K.K) H
/-- what may have changed: the objects at φ, and new ones -/
structure Ext (φ φ' : List Addr) (H H' : Hp) : Prop where
  pre : ∃ t, φ' = φ ++ t
  keep : ∀ a o, H a = some o → a ∉ φ → (∀ ps, o ≠ .tbl ps) → H' a = some o
  fresh : ∀ a, a ∈ φ' → a ∉ φ → ∀ o, H a = some o → ∃ ps, o = .tbl ps
theorem Ext.refl (φ : List Addr) (H : Hp) : Ext φ φ H H := ⟨⟨[], by simp⟩, fun _ _ e _ _ => e, fun _ h n => absurd h n⟩
theorem Ext.mem {φ φ' : List Addr} {H H' : Hp} (x : Ext φ φ' H H') {a : Addr} (h : a ∈ φ) : a ∈ φ' := by
  obtain ⟨t, e⟩ := x.pre
  rw [e]
  exact List.mem_append_left _ h
theorem Ext.trans {φ φ1 φ2 : List Addr} {H H1 H2 : Hp} (x : Ext φ φ1 H H1) (y : Ext φ1 φ2 H1 H2) : Ext φ φ2 H H2 := by
  obtain ⟨t, e⟩ := x.pre
  obtain ⟨u, e'⟩ := y.pre
  refine ⟨⟨t ++ u, by rw [e', e, List.append_assoc]⟩, fun a o q n nt => ?_, fun a h n o q => ?_⟩
  · refine y.keep a o (x.keep a o q n nt) (fun z => ?_) nt
    obtain ⟨ps, e⟩ := x.fresh a z n o q
    exact nt ps e
  · by_cases z : a ∈ φ1
    · exact x.fresh a z n o q
    · by_cases nt : ∀ ps, o ≠ .tbl ps
      · exact y.fresh a h z o (x.keep a o q n nt)
      · obtain ⟨ps, ep⟩ := Classical.not_forall.mp nt
        exact ⟨ps, Classical.not_not.mp ep⟩
theorem Ext.at {φ φ' : List Addr} {H H' : Hp} (x : Ext φ φ' H H') {n : Nat} {a : Addr} (h : φ[n]? = some a) : φ'[n]? = some a := by
  obtain ⟨t, e⟩ := x.pre
  rw [e, List.getElem?_append_left (List.getElem?_eq_some_iff.mp h).1]
  exact h
/-- what plain values lean on: tuples and locked things stay, places stay -/
def isFix : HO → Bool
  | .tup _ => true
  | .frz _ _ => true
  | .xd _ => true
  | .ext _ => true
  | _ => false
structure Kp (φ φ' : List Addr) (H H' : Hp) : Prop where
  pl : ∀ (n : Nat) (a : Addr), φ[n]? = some a → φ'[n]? = some a
  fx : ∀ a o, isFix o = true → H a = some o → a ∉ φ → H' a = some o ∧ a ∉ φ'
theorem fix_ntbl {o : HO} (f : isFix o = true) : ∀ ps, o ≠ .tbl ps := fun ps z => by
  subst z
  cases f
theorem Ext.kp {φ φ' : List Addr} {H H' : Hp} (x : Ext φ φ' H H') : Kp φ φ' H H' := ⟨fun _ _ => x.at, fun a o f e n => ⟨x.keep a o e n (fix_ntbl f), fun m => by
  obtain ⟨ps, z⟩ := x.fresh a m n o e
  exact fix_ntbl f ps z⟩⟩
section
variable {K : ZZ} {φ φ' : List Addr} {H H' : Hp}
theorem TupAt.monoK {a : Addr} {xs : List V} (x : Kp φ φ' H H') (h : TupAt K φ H a xs) : TupAt K φ' H' a xs := by
  rcases h with ⟨q | ⟨o, q⟩, n⟩ | h
  · exact .inl ⟨.inl (x.fx a _ rfl q n).1, (x.fx a _ rfl q n).2⟩
  · exact .inl ⟨.inr ⟨o, (x.fx a _ rfl q n).1⟩, (x.fx a _ rfl q n).2⟩
  · exact .inr h
theorem LstAt.monoK {a : Addr} {xs : List V} (x : Kp φ φ' H H') (h : LstAt K φ H a xs) : LstAt K φ' H' a xs := by
  rcases h with ⟨⟨o, q⟩, n⟩ | h
  · exact .inl ⟨⟨o, (x.fx a _ rfl q n).1⟩, (x.fx a _ rfl q n).2⟩
  · exact .inr h
theorem TupAt.mono {a : Addr} {xs : List V} (x : Ext φ φ' H H') (h : TupAt K φ H a xs) : TupAt K φ' H' a xs := h.monoK x.kp
theorem LstAt.mono {a : Addr} {xs : List V} (x : Ext φ φ' H H') (h : LstAt K φ H a xs) : LstAt K φ' H' a xs := h.monoK x.kp
mutual
theorem RV.monoK (x : Kp φ φ' H H') : ∀ {p : PV} {v : V}, RV K φ H p v → RV K φ' H' p v
  | .non, _, h => h
  | .bl _, _, h => h
  | .int _, _, h => h
  | .str _, _, h => h
  | .ty _, _, h => h
  | .ref n, v, h => by
    obtain ⟨a, e, q⟩ := h
    exact ⟨a, e, x.pl n a q⟩
  | .tup l, v, h => by
    obtain ⟨a, vs, e, q, r⟩ := h
    exact ⟨a, vs, e, q.monoK x, RVs.monoK x r⟩
  | .cl l, v, h => by
    obtain ⟨a, vs, e, q, r⟩ := h
    exact ⟨a, vs, e, q.monoK x, RVs.monoK x r⟩
  | .cls _, _, h => h
  | .xc _ _ l, v, h => by
    obtain ⟨a, oe, e, q, c, n, d⟩ := h
    refine ⟨a, oe, e, q, c, n, d.imp id ?_⟩
    rintro ⟨dd, fs, us, d1, d2, d3, d4, d5⟩
    exact ⟨dd, fs, us, d1, (x.fx dd _ rfl d2 d3).1, (x.fx dd _ rfl d2 d3).2, d4, RVs.monoK x d5⟩
  | .ste l, v, h => by
    obtain ⟨a, e, q, n, d⟩ := h
    exact ⟨a, e, (x.fx a _ rfl q n).1, (x.fx a _ rfl q n).2, d⟩
theorem RVs.monoK (x : Kp φ φ' H H') : ∀ {p : List PV} {v : List V}, RVs K φ H p v → RVs K φ' H' p v
  | [], _, h => h
  | p :: ps, vs, h => by
    obtain ⟨v, r, e, q, s⟩ := h
    exact ⟨v, r, e, RV.monoK x q, RVs.monoK x s⟩
end
theorem RV.mono (x : Ext φ φ' H H') {p : PV} {v : V} (h : RV K φ H p v) : RV K φ' H' p v := h.monoK x.kp
theorem RVs.mono (x : Ext φ φ' H H') {p : List PV} {v : List V} (h : RVs K φ H p v) : RVs K φ' H' p v := h.monoK x.kp
theorem RO.monoK (x : Kp φ φ' H H') {o : PO} {ho : HO} (h : RO K φ H o ho) : RO K φ' H' o ho := by
  cases o with
  | lst l =>
    obtain ⟨vs, e, r⟩ := h
    exact ⟨vs, e, r.monoK x⟩
  | dct l =>
    obtain ⟨kvs, e, k, r⟩ := h
    exact ⟨kvs, e, k, r.monoK x⟩
  | obj c fs => exact h
theorem RO.mono (x : Ext φ φ' H H') {o : PO} {ho : HO} (h : RO K φ H o ho) : RO K φ' H' o ho := h.monoK x.kp
theorem RVs.nil : RVs K φ H [] [] := rfl
theorem RVs.cons {p : PV} {v : V} {ps : List PV} {vs : List V} (h : RV K φ H p v) (r : RVs K φ H ps vs) : RVs K φ H (p :: ps) (v :: vs) := ⟨v, vs, rfl, h, r⟩
theorem RVs.length : ∀ {ps : List PV} {vs : List V}, RVs K φ H ps vs → ps.length = vs.length
  | [], vs, h => by
    have e : vs = [] := h
    rw [e]
    rfl
  | p :: ps, vs, h => by
    obtain ⟨v, r, e, _, s⟩ := h
    rw [e, List.length_cons, List.length_cons, RVs.length s]
theorem RVs.get : ∀ {ps : List PV} {vs : List V} {i : Nat} {p : PV}, RVs K φ H ps vs → ps[i]? = some p → ∃ v, vs[i]? = some v ∧ RV K φ H p v
  | [], _, _, _, _, e => by simp at e
  | p :: ps, vs, 0, q, h, e => by
    obtain ⟨v, r, e', s, _⟩ := h
    simp at e
    subst e
    exact ⟨v, by rw [e']; rfl, s⟩
  | p :: ps, vs, i + 1, q, h, e => by
    obtain ⟨v, r, e', _, s⟩ := h
    obtain ⟨w, f, g⟩ := RVs.get (i := i) s (by simpa using e)
    exact ⟨w, by rw [e']; simpa using f, g⟩
theorem RVs.append : ∀ {ps qs : List PV} {vs ws : List V}, RVs K φ H ps vs → RVs K φ H qs ws → RVs K φ H (ps ++ qs) (vs ++ ws)
  | [], _, vs, _, h, r => by
    rw [show vs = [] from h]
    exact r
  | p :: ps, qs, vs, ws, h, r => by
    obtain ⟨v, t, e, q, s⟩ := h
    rw [e]
    exact ⟨v, t ++ ws, rfl, q, RVs.append s r⟩
theorem RVs.set : ∀ {ps : List PV} {vs : List V} {p : PV} {v : V} (i : Nat), RV K φ H p v → RVs K φ H ps vs → RVs K φ H (ps.set i p) (vs.set i v)
  | [], vs, _, _, _, _, h => by
    rw [show vs = [] from h]
    exact rfl
  | q :: ps, vs, p, v, 0, hp, h => by
    obtain ⟨w, t, e, q, s⟩ := h
    rw [e]
    exact ⟨v, t, rfl, hp, s⟩
  | q :: ps, vs, p, v, i + 1, hp, h => by
    obtain ⟨w, t, e, q, s⟩ := h
    rw [e]
    exact ⟨w, t.set i v, rfl, q, RVs.set i hp s⟩
theorem RVs.erase : ∀ {ps : List PV} {vs : List V} (i : Nat), RVs K φ H ps vs → RVs K φ H (ps.eraseIdx i) (vs.eraseIdx i)
  | [], vs, _, h => by
    rw [show vs = [] from h]
    exact rfl
  | q :: ps, vs, 0, h => by
    obtain ⟨w, t, e, q, s⟩ := h
    rw [e]
    exact s
  | q :: ps, vs, i + 1, h => by
    obtain ⟨w, t, e, q, s⟩ := h
    rw [e]
    exact ⟨w, t.eraseIdx i, rfl, q, RVs.erase i s⟩
theorem RVs.take : ∀ {ps : List PV} {vs : List V} (i : Nat), RVs K φ H ps vs → RVs K φ H (ps.take i) (vs.take i)
  | _, _, 0, _ => by rw [List.take_zero, List.take_zero]; exact rfl
  | [], vs, i + 1, h => by
    rw [show vs = [] from h]
    exact rfl
  | q :: ps, vs, i + 1, h => by
    obtain ⟨w, t, e, q, s⟩ := h
    rw [e]
    exact ⟨w, t.take i, rfl, q, RVs.take i s⟩
theorem RVs.drop : ∀ {ps : List PV} {vs : List V} (i : Nat), RVs K φ H ps vs → RVs K φ H (ps.drop i) (vs.drop i)
  | _, _, 0, h => h
  | [], vs, i + 1, h => by
    rw [show vs = [] from h]
    exact rfl
  | q :: ps, vs, i + 1, h => by
    obtain ⟨w, t, e, q, s⟩ := h
    rw [e]
    exact RVs.drop i s
/-- all is as it was at φ, and the plain heap the same -/
theorem Sim.mem {h : PH} (s : Sim K φ h H) {a : Addr} (m : a ∈ φ) : ∃ ho, H a = some ho := by
  obtain ⟨n, hn, e⟩ := List.mem_iff_getElem.mp m
  have hn' : n < h.length := by rw [← s.len]; exact hn
  obtain ⟨a', ho, e1, e2, _⟩ := s.ob n h[n] (List.getElem?_eq_getElem hn')
  rw [List.getElem?_eq_getElem hn] at e1
  have : a = a' := by rw [← e]; exact Option.some.inj e1
  exact ⟨ho, by rw [this]; exact e2⟩
theorem Sim.out {h : PH} (s : Sim K φ h H) {a : Addr} (n : H a = none) : a ∉ φ := fun m => by
  obtain ⟨ho, e⟩ := s.mem m
  rw [n] at e
  cases e
/-- tables and code objects stay -/
theorem tabs_keep {T : List (Addr × Str)} (k : ∀ b o, H b = some o → ((∃ ps, o = .tbl ps) ∨ ∃ f, o = .ext f) → H' b = some o) (t : LamX.Tabs T H) : LamX.Tabs T H' := fun p hp => by
  obtain ⟨ps, e1, e2, e3⟩ := t p hp
  refine ⟨ps, k _ _ e1 (.inl ⟨ps, rfl⟩), e2, fun pos cv hc => ?_⟩
  obtain ⟨c, f1, f2⟩ := e3 pos cv hc
  exact ⟨c, f1, k _ _ f2 (.inr ⟨_, rfl⟩)⟩
theorem tabs_upd {T : List (Addr × Str)} {a : Addr} {u : HO} (ha : ∀ o, H a = some o → (∀ ps, o ≠ .tbl ps) ∧ ∀ f, o ≠ .ext f) (t : LamX.Tabs T H) : LamX.Tabs T (upd H a u) := tabs_keep (fun b o e z => by
  have n : b ≠ a := fun q => by
    subst q
    obtain ⟨h1, h2⟩ := ha o e
    rcases z with ⟨ps, z⟩ | ⟨f, z⟩
    · exact h1 ps z
    · exact h2 f z
  rw [upd_ne n]
  exact e) t
/-- an object of the plain heap is no table -/
theorem RO.plain {o : PO} {ho : HO} (r : RO K φ H o ho) : (∀ ps, ho ≠ .tbl ps) ∧ ∀ f, ho ≠ .ext f := by
  cases o with
  | lst l =>
    obtain ⟨vs, e, _⟩ := r
    subst e
    exact ⟨fun _ z => (by cases z), fun _ z => (by cases z)⟩
  | dct l =>
    obtain ⟨vs, e, _⟩ := r
    subst e
    exact ⟨fun _ z => (by cases z), fun _ z => (by cases z)⟩
  | obj c fs => exact r.elim
theorem Sim.plain {h : PH} (s : Sim K φ h H) {a : Addr} (m : a ∈ φ) : ∀ o, H a = some o → (∀ ps, o ≠ .tbl ps) ∧ ∀ f, o ≠ .ext f := fun o eo => by
  obtain ⟨n, hn, e⟩ := List.mem_iff_getElem.mp m
  have hn' : n < h.length := by rw [← s.len]; exact hn
  obtain ⟨a', ho, e1, e2, r⟩ := s.ob n h[n] (List.getElem?_eq_getElem hn')
  rw [List.getElem?_eq_getElem hn] at e1
  have : a = a' := by rw [← e]; exact Option.some.inj e1
  subst this
  rw [eo] at e2
  cases e2
  exact r.plain
theorem none_plain {a : Addr} (n : H a = none) : ∀ o, H a = some o → (∀ ps, o ≠ .tbl ps) ∧ ∀ f, o ≠ .ext f := fun o e => by
  rw [n] at e
  cases e
theorem lst_plain {a : Addr} {vs : List V} (n : H a = some (.lst vs)) : ∀ o, H a = some o → (∀ ps, o ≠ .tbl ps) ∧ ∀ f, o ≠ .ext f := fun o e => by
  rw [n] at e
  cases e
  exact ⟨fun _ z => (by cases z), fun _ z => (by cases z)⟩
theorem dK_plain {a : Addr} {vs : List (Key × V)} (n : H a = some (.dK vs)) : ∀ o, H a = some o → (∀ ps, o ≠ .tbl ps) ∧ ∀ f, o ≠ .ext f := fun o e => by
  rw [n] at e
  cases e
  exact ⟨fun _ z => (by cases z), fun _ z => (by cases z)⟩
/-- a new thing that is not of the plain heap -/
theorem Ext.new {p : Addr} {o : HO} (n : H p = none) : Ext φ φ H (upd H p o) := ⟨⟨[], by simp⟩, fun a u e _ _ => by rw [upd_ne (ne_of_none e n)]; exact e, fun _ h z => absurd h z⟩
theorem Sim.new {h : PH} {p : Addr} {o : HO} (s : Sim K φ h H) (n : H p = none) : Sim K φ h (upd H p o) := ⟨s.len, s.nd, fun m u e => by
  obtain ⟨a, ho, e1, e2, r⟩ := s.ob m u e
  exact ⟨a, ho, e1, by rw [upd_ne (ne_of_none e2 n)]; exact e2, r.mono (Ext.new n)⟩, tabs_upd (none_plain n) s.tb⟩
/-- a new object of the plain heap -/
theorem Ext.push {p : Addr} {o : HO} (n : H p = none) : Ext φ (φ ++ [p]) H (upd H p o) := ⟨⟨[p], rfl⟩, fun a u e _ _ => by rw [upd_ne (ne_of_none e n)]; exact e, fun a h z => by
  rcases List.mem_append.mp h with h | h
  · exact absurd h z
  · intro o e
    rw [List.mem_singleton.mp h, n] at e
    cases e⟩
theorem Sim.pushO {h : PH} {p : Addr} {o : PO} {ho : HO} (s : Sim K φ h H) (n : H p = none) (r : RO K φ H o ho) : Sim K (φ ++ [p]) (h ++ [o]) (upd H p ho) := by
  have x : Ext φ (φ ++ [p]) H (upd H p ho) := Ext.push n
  refine ⟨by rw [List.length_append, List.length_append, s.len]; rfl, ?_, fun m u e => ?_, tabs_upd (none_plain n) s.tb⟩
  · rw [List.nodup_append]
    refine ⟨s.nd, by simp, fun a ha b hb => ?_⟩
    rw [List.mem_singleton.mp hb]
    intro z
    exact s.out n (z ▸ ha)
  · by_cases hm : m < h.length
    · rw [List.getElem?_append_left hm] at e
      obtain ⟨a, ho, e1, e2, r'⟩ := s.ob m u e
      exact ⟨a, ho, x.at e1, by rw [upd_ne (ne_of_none e2 n)]; exact e2, r'.mono x⟩
    · have em : m = h.length := by
        have := (List.getElem?_eq_some_iff.mp e).1
        rw [List.length_append] at this
        simp at this
        omega
      subst em
      rw [List.getElem?_append_right (Nat.le_refl _), Nat.sub_self] at e
      have eu : o = u := Option.some.inj e
      subst eu
      refine ⟨p, ho, ?_, upd_same, r.mono x⟩
      rw [List.getElem?_append_right (by rw [s.len]; exact Nat.le_refl _), s.len, Nat.sub_self]
      rfl
theorem Sim.push {h : PH} {p : Addr} {l : List PV} {vs : List V} (s : Sim K φ h H) (n : H p = none) (r : RVs K φ H l vs) : Sim K (φ ++ [p]) (h ++ [.lst l]) (upd H p (.lst vs)) := s.pushO n (o := .lst l) ⟨vs, rfl, r⟩
/-- an object of the plain heap is changed -/
theorem Ext.write {h : PH} {a : Addr} {o : HO} (s : Sim K φ h H) (m : a ∈ φ) : Ext φ φ H (upd H a o) := ⟨⟨[], by simp⟩, fun b u e n _ => by
  have z : b ≠ a := fun z => n (by rw [z]; exact m)
  rw [upd_ne z]
  exact e, fun _ h z => absurd h z⟩
theorem nodup_at {l : List Addr} (nd : l.Nodup) {i j : Nat} {x : Addr} (a : l[i]? = some x) (b : l[j]? = some x) : i = j := by
  obtain ⟨h1, e1⟩ := List.getElem?_eq_some_iff.mp a
  obtain ⟨h2, e2⟩ := List.getElem?_eq_some_iff.mp b
  exact (List.getElem_inj nd).mp (e1.trans e2.symm)
theorem Sim.writeO {h : PH} {n : Nat} {a : Addr} {o : PO} {ho : HO} (s : Sim K φ h H) (e : φ[n]? = some a) (r : RO K φ H o ho) : Sim K φ (h.set n o) (upd H a ho) := by
  have x : Ext φ φ H (upd H a ho) := Ext.write s (List.mem_of_getElem? e)
  refine ⟨by rw [List.length_set, s.len], s.nd, fun m u q => ?_, tabs_upd (s.plain (List.mem_of_getElem? e)) s.tb⟩
  by_cases hm : m = n
  · subst hm
    have hl : m < h.length := by
      have := (List.getElem?_eq_some_iff.mp e).1
      rw [← s.len]
      exact this
    rw [List.getElem?_set_self hl] at q
    have eu : o = u := Option.some.inj q
    subst eu
    exact ⟨a, ho, e, upd_same, r.mono x⟩
  · rw [List.getElem?_set_ne (Ne.symm hm)] at q
    obtain ⟨b, ho, e1, e2, r'⟩ := s.ob m u q
    refine ⟨b, ho, e1, ?_, r'.mono x⟩
    rw [upd_ne]
    · exact e2
    · intro z
      subst z
      exact hm (nodup_at s.nd e1 e)
theorem Sim.write {h : PH} {n : Nat} {a : Addr} {l : List PV} {vs : List V} (s : Sim K φ h H) (e : φ[n]? = some a) (r : RVs K φ H l vs) : Sim K φ (h.set n (.lst l)) (upd H a (.lst vs)) := s.writeO e (o := .lst l) ⟨vs, rfl, r⟩
/-- a list that is not of the plain heap -/
theorem Kp.aside {D : Addr} {ws ws' : List V} (e : H D = some (.lst ws)) : Kp φ φ H (upd H D (.lst ws')) := ⟨fun _ _ q => q, fun a o f q n => ⟨by
  rw [upd_ne (fun z => by
    subst z
    rw [e] at q
    cases q
    cases f)]
  exact q, n⟩⟩
theorem Sim.aside {h : PH} {D : Addr} {ws ws' : List V} (s : Sim K φ h H) (e : H D = some (.lst ws)) (n : D ∉ φ) : Sim K φ h (upd H D (.lst ws')) := ⟨s.len, s.nd, fun m u q => by
  obtain ⟨a, ho, e1, e2, r⟩ := s.ob m u q
  refine ⟨a, ho, e1, ?_, r.monoK (Kp.aside e)⟩
  rw [upd_ne (fun z => n (by rw [← z]; exact List.mem_of_getElem? e1))]
  exact e2, tabs_upd (lst_plain e) s.tb⟩
theorem Ext.aside {D : Addr} {o : HO} (x : Ext φ φ' H H') (n : H D = none) : Ext φ φ' H (upd H' D o) := ⟨x.pre, fun a u e m nt => by
  rw [upd_ne (ne_of_none e n)]
  exact x.keep a u e m nt, x.fresh⟩
/-- .. it becomes one of the plain heap -/
theorem Kp.adopt {D : Addr} {ws : List V} (e : H D = some (.lst ws)) : Kp φ (φ ++ [D]) H H := ⟨fun n a q => by
  rw [List.getElem?_append_left (List.getElem?_eq_some_iff.mp q).1]
  exact q, fun a o f q n => ⟨q, fun m => by
  rcases List.mem_append.mp m with z | z
  · exact n z
  · rw [List.mem_singleton.mp z, e] at q
    cases q
    cases f⟩⟩
theorem Sim.adopt {h : PH} {D : Addr} {l : List PV} {ws : List V} (s : Sim K φ h H) (e : H D = some (.lst ws)) (n : D ∉ φ) (r : RVs K φ H l ws) : Sim K (φ ++ [D]) (h ++ [.lst l]) H := by
  have x : Kp φ (φ ++ [D]) H H := Kp.adopt e
  refine ⟨by rw [List.length_append, List.length_append, s.len]; rfl, ?_, fun m u q => ?_, s.tb⟩
  · rw [List.nodup_append]
    refine ⟨s.nd, by simp, fun a ha b hb => ?_⟩
    rw [List.mem_singleton.mp hb]
    intro z
    exact n (z ▸ ha)
  · by_cases hm : m < h.length
    · rw [List.getElem?_append_left hm] at q
      obtain ⟨a, ho, e1, e2, r'⟩ := s.ob m u q
      exact ⟨a, ho, x.pl m a e1, e2, r'.monoK x⟩
    · have em : m = h.length := by
        have := (List.getElem?_eq_some_iff.mp q).1
        rw [List.length_append] at this
        simp at this
        omega
      subst em
      rw [List.getElem?_append_right (Nat.le_refl _), Nat.sub_self] at q
      have eu : PO.lst l = u := Option.some.inj q
      subst eu
      refine ⟨D, .lst ws, ?_, e, ws, rfl, r.monoK x⟩
      rw [List.getElem?_append_right (by rw [s.len]; exact Nat.le_refl _), s.len, Nat.sub_self]
      rfl
theorem Ext.adopt {D : Addr} (x : Ext φ φ' H H') (n : H D = none) : Ext φ (φ' ++ [D]) H H' := ⟨by
  obtain ⟨t, e⟩ := x.pre
  exact ⟨t ++ [D], by rw [e, List.append_assoc]⟩, x.keep, fun a m z => by
  rcases List.mem_append.mp m with q | q
  · exact x.fresh a q z
  · intro o e
    rw [List.mem_singleton.mp q, n] at e
    cases e⟩
/-- tables alone have changed -/
theorem Ext.tabs (e : LamX.ExtN H H') : Ext φ φ H H' := ⟨⟨[], by simp⟩, fun a o q _ nt => e a o q nt, fun _ h z => absurd h z⟩
theorem Sim.tabs {h : PH} (s : Sim K φ h H) (e : LamX.ExtN H H') (t : LamX.Tabs (tabsOf K.K) H') : Sim K φ h H' := ⟨s.len, s.nd, fun m u q => by
  obtain ⟨a, ho, e1, e2, r⟩ := s.ob m u q
  exact ⟨a, ho, e1, e a ho e2 (s.plain (List.mem_of_getElem? e1) ho e2).1, r.mono (Ext.tabs e)⟩, t⟩
theorem Sim.lst {h : PH} {n : Nat} {l : List PV} (s : Sim K φ h H) (e : h[n]? = some (.lst l)) : ∃ a vs, φ[n]? = some a ∧ H a = some (.lst vs) ∧ RVs K φ H l vs := by
  obtain ⟨a, ho, e1, e2, vs, e3, r⟩ := s.ob n _ e
  subst e3
  exact ⟨a, vs, e1, e2, r⟩
theorem Sim.dct {h : PH} {n : Nat} {l : List (Key × PV)} (s : Sim K φ h H) (e : h[n]? = some (.dct l)) : ∃ a kvs, φ[n]? = some a ∧ H a = some (.dK kvs) ∧ kvs.map (·.1) = l.map (·.1) ∧ RVs K φ H (l.map (·.2)) (kvs.map (·.2)) := by
  obtain ⟨a, ho, e1, e2, kvs, e3, r⟩ := s.ob n _ e
  subst e3
  exact ⟨a, kvs, e1, e2, r⟩
/-- what a list, a tuple is in the abstract heap -/
theorem Sim.listV {h : PH} {p : PV} {v : V} {l : List PV} (s : Sim K φ h H) (r : RV K φ H p v) (e : listOf h p = some l) : ∃ a vs, v = .ref a ∧ SqL K.K H a vs ∧ RVs K φ H l vs := by
  cases p with
  | cl l' =>
    obtain ⟨a, vs, e1, q, r'⟩ := r
    cases e
    exact ⟨a, vs, e1, q.sq, r'⟩
  | ref n =>
    obtain ⟨a, e1, e2⟩ := r
    unfold listOf at e
    cases q : h[n]? with
    | none => simp only [q] at e; cases e
    | some o =>
      cases o with
      | lst l' =>
        simp only [q] at e
        cases e
        obtain ⟨a', vs, e3, e4, r'⟩ := s.lst q
        rw [e2] at e3
        cases e3
        exact ⟨a, vs, e1, SqL.of e4, r'⟩
      | dct l' => simp only [q] at e; cases e
      | obj c l' => simp only [q] at e; cases e
  | _ => cases e
theorem Sim.seqV {h : PH} {p : PV} {v : V} {l : List PV} (s : Sim K φ h H) (r : RV K φ H p v) (e : seqOf h p = some l) : ∃ a vs, v = .ref a ∧ (SqL K.K H a vs ∨ SqT K.K H a vs) ∧ RVs K φ H l vs := by
  cases p with
  | tup l' =>
    obtain ⟨a, vs, e1, q, r'⟩ := r
    cases e
    exact ⟨a, vs, e1, .inr q.sq, r'⟩
  | cl l' =>
    obtain ⟨a, vs, e1, q, r'⟩ := s.listV (l := l) r e
    exact ⟨a, vs, e1, .inl q, r'⟩
  | ref n =>
    obtain ⟨a, vs, e1, q, r'⟩ := s.listV (l := l) r e
    exact ⟨a, vs, e1, .inl q, r'⟩
  | _ => cases e
end
section
variable {K : ZZ} {φ φ' : List Addr} {H H' : Hp}
def RD (K : ZZ) (φ : List Addr) (H : Hp) (l : List (Key × PV)) (kvs : List (Key × V)) : Prop := kvs.map (·.1) = l.map (·.1) ∧ RVs K φ H (l.map (·.2)) (kvs.map (·.2))
theorem RD.nil : RD K φ H [] [] := ⟨rfl, rfl⟩
theorem RD.cons {k : Key} {p : PV} {v : V} {l : List (Key × PV)} {kvs : List (Key × V)} (h : RV K φ H p v) (r : RD K φ H l kvs) : RD K φ H ((k, p) :: l) ((k, v) :: kvs) := ⟨by simp [r.1], RVs.cons h r.2⟩
theorem RD.inv {k : Key} {p : PV} {l : List (Key × PV)} {kvs : List (Key × V)} (r : RD K φ H ((k, p) :: l) kvs) : ∃ v t, kvs = (k, v) :: t ∧ RV K φ H p v ∧ RD K φ H l t := by
  cases kvs with
  | nil =>
    have := r.1
    simp at this
  | cons kv t =>
    obtain ⟨k', v⟩ := kv
    obtain ⟨r1, v', t', e, q, s⟩ := r
    simp at r1 e
    obtain ⟨rfl, r2⟩ := r1
    obtain ⟨rfl, rfl⟩ := e
    exact ⟨v, t, rfl, q, r2, s⟩
theorem RD.empty {kvs : List (Key × V)} (r : RD K φ H [] kvs) : kvs = [] := by
  have := r.1
  simpa using this
theorem RD.monoK (x : Kp φ φ' H H') {l : List (Key × PV)} {kvs : List (Key × V)} (r : RD K φ H l kvs) : RD K φ' H' l kvs := ⟨r.1, r.2.monoK x⟩
theorem RD.mono (x : Ext φ φ' H H') {l : List (Key × PV)} {kvs : List (Key × V)} (r : RD K φ H l kvs) : RD K φ' H' l kvs := ⟨r.1, r.2.mono x⟩
theorem RD.length {l : List (Key × PV)} {kvs : List (Key × V)} (r : RD K φ H l kvs) : l.length = kvs.length := by
  have := congrArg List.length r.1
  simpa using this.symm
theorem RD.val (k : Key) : ∀ {l : List (Key × PV)} {kvs : List (Key × V)}, RD K φ H l kvs → (valP l k = none ∧ valV kvs k = none) ∨ ∃ p v, valP l k = some p ∧ valV kvs k = some v ∧ RV K φ H p v
  | [], kvs, r => by
    rw [r.empty]
    exact .inl ⟨rfl, rfl⟩
  | (k', p) :: l, kvs, r => by
    obtain ⟨v, t, rfl, q, s⟩ := r.inv
    by_cases e : k' = k
    · exact .inr ⟨p, v, by simp [valP, e], valV_pos e, q⟩
    · rcases RD.val k s with ⟨h1, h2⟩ | ⟨p', v', h1, h2, h3⟩
      · exact .inl ⟨by simpa [valP, e] using h1, by rw [valV_neg e]; exact h2⟩
      · exact .inr ⟨p', v', by simpa [valP, e] using h1, by rw [valV_neg e]; exact h2, h3⟩
theorem RD.any (k : Key) {l : List (Key × PV)} {kvs : List (Key × V)} (r : RD K φ H l kvs) : (l.any fun kv => decide (kv.1 = k)) = kvs.any fun kv => decide (kv.1 = k) := by
  have e1 : (l.any fun kv => decide (kv.1 = k)) = (l.map (·.1)).any fun j => decide (j = k) := by rw [List.any_map]; rfl
  have e2 : (kvs.any fun kv => decide (kv.1 = k)) = (kvs.map (·.1)).any fun j => decide (j = k) := by rw [List.any_map]; rfl
  rw [e1, e2, r.1]
theorem RD.repl (k : Key) {p : PV} {v : V} (h : RV K φ H p v) : ∀ {l : List (Key × PV)} {kvs : List (Key × V)}, RD K φ H l kvs → RD K φ H (l.map fun kv => if kv.1 = k then (kv.1, p) else kv) (kvs.map fun kv => if kv.1 = k then (kv.1, v) else kv)
  | [], kvs, r => by
    rw [r.empty]
    exact RD.nil
  | (k', p') :: l, kvs, r => by
    obtain ⟨v', t, rfl, q, s⟩ := r.inv
    rw [List.map_cons, List.map_cons]
    by_cases e : k' = k
    · simp only [e, if_true]
      exact RD.cons h (RD.repl k h s)
    · simp only [e, if_false]
      exact RD.cons q (RD.repl k h s)
theorem RD.snoc (k : Key) {p : PV} {v : V} (h : RV K φ H p v) {l : List (Key × PV)} {kvs : List (Key × V)} (r : RD K φ H l kvs) : RD K φ H (l ++ [(k, p)]) (kvs ++ [(k, v)]) := ⟨by simp [r.1], by
  rw [List.map_append, List.map_append]
  exact r.2.append (RVs.cons h RVs.nil)⟩
theorem RD.put (k : Key) {p : PV} {v : V} (h : RV K φ H p v) {l : List (Key × PV)} {kvs : List (Key × V)} (r : RD K φ H l kvs) : RD K φ H (putP l k p) (putK kvs k v) := by
  unfold putP putK
  rw [r.any k]
  split
  · exact r.repl k h
  · exact r.snoc k h
theorem RD.merge : ∀ {more : List (Key × PV)} {rs : List (Key × V)} {l : List (Key × PV)} {kvs : List (Key × V)}, RD K φ H more rs → RD K φ H l kvs → RD K φ H (mergeP l more) (mergeK kvs rs)
  | [], rs, l, kvs, r, s => by
    rw [r.empty]
    exact s
  | (k, p) :: more, rs, l, kvs, r, s => by
    obtain ⟨v, t, rfl, q, r'⟩ := r.inv
    show RD K φ H (mergeP (putP l k p) more) (mergeK (putK kvs k v) t)
    exact RD.merge r' (s.put k q)
theorem Sim.dctR {h : PH} {n : Nat} {l : List (Key × PV)} (s : Sim K φ h H) (e : h[n]? = some (.dct l)) : ∃ a kvs, φ[n]? = some a ∧ H a = some (.dK kvs) ∧ RD K φ H l kvs := s.dct e
theorem Sim.pushD {h : PH} {p : Addr} {l : List (Key × PV)} {kvs : List (Key × V)} (s : Sim K φ h H) (n : H p = none) (r : RD K φ H l kvs) : Sim K (φ ++ [p]) (h ++ [.dct l]) (upd H p (.dK kvs)) := s.pushO n (o := .dct l) ⟨kvs, rfl, r⟩
theorem Sim.writeD {h : PH} {n : Nat} {a : Addr} {l : List (Key × PV)} {kvs : List (Key × V)} (s : Sim K φ h H) (e : φ[n]? = some a) (r : RD K φ H l kvs) : Sim K φ (h.set n (.dct l)) (upd H a (.dK kvs)) := s.writeO e (o := .dct l) ⟨kvs, rfl, r⟩
theorem key_rel {p : PV} {k : Key} {v : V} (r : RV K φ H p v) (e : keyOf p = some k) : v = kV k := by
  cases p with
  | int i =>
    cases e
    exact r
  | str x =>
    cases e
    exact r
  | _ => cases e
end
def RE (K : ZZ) (φ : List Addr) (H : Hp) : Env → St → Prop
  | [], σ => σ = []
  | p :: ρ, σ => ∃ v r, σ = v :: r ∧ (∀ x, p = some x → ∃ y, v = some y ∧ RV K φ H x y) ∧ RE K φ H ρ r
section
variable {K : ZZ} {φ φ' : List Addr} {H H' : Hp}
theorem RE.mono (x : Ext φ φ' H H') : ∀ {ρ : Env} {σ : St}, RE K φ H ρ σ → RE K φ' H' ρ σ
  | [], _, h => h
  | p :: ρ, σ, h => by
    obtain ⟨v, r, e, q, s⟩ := h
    exact ⟨v, r, e, fun y z => by
      obtain ⟨w, e1, e2⟩ := q y z
      exact ⟨w, e1, e2.mono x⟩, RE.mono x s⟩
theorem RE.get : ∀ {ρ : Env} {σ : St} {i : Nat} {p : PV}, RE K φ H ρ σ → ρ[i]? = some (some p) → ∃ v, σ[i]? = some (some v) ∧ RV K φ H p v
  | [], _, _, _, _, e => by simp at e
  | q :: ρ, σ, 0, p, h, e => by
    obtain ⟨v, r, e1, k, s⟩ := h
    simp at e
    obtain ⟨w, e2, e3⟩ := k p e
    exact ⟨w, by rw [e1, e2]; rfl, e3⟩
  | q :: ρ, σ, i + 1, p, h, e => by
    obtain ⟨v, r, e1, k, s⟩ := h
    obtain ⟨w, e2, e3⟩ := RE.get (i := i) s (by simpa using e)
    exact ⟨w, by rw [e1]; simpa using e2, e3⟩
theorem RE.set : ∀ {ρ : Env} {σ : St} {p : PV} {v : V} (i : Nat), RV K φ H p v → RE K φ H ρ σ → RE K φ H (ρ.set i (some p)) (σ.set i (some v))
  | [], σ, _, _, _, _, h => by
    rw [show σ = [] from h]
    exact rfl
  | q :: ρ, σ, p, v, 0, hp, h => by
    obtain ⟨w, r, e1, k, s⟩ := h
    rw [e1]
    exact ⟨some v, r, rfl, fun x e => ⟨v, rfl, by cases e; exact hp⟩, s⟩
  | q :: ρ, σ, p, v, i + 1, hp, h => by
    obtain ⟨w, r, e1, k, s⟩ := h
    rw [e1]
    exact ⟨w, r.set i (some v), rfl, k, RE.set i hp s⟩
theorem RE.unset : ∀ {ρ : Env} {σ : St} (i : Nat), RE K φ H ρ σ → RE K φ H (ρ.set i none) (σ.set i none)
  | [], σ, _, h => by
    rw [show σ = [] from h]
    exact rfl
  | q :: ρ, σ, 0, h => by
    obtain ⟨w, r, e1, k, s⟩ := h
    rw [e1]
    exact ⟨none, r, rfl, fun x e => (by cases e), s⟩
  | q :: ρ, σ, i + 1, h => by
    obtain ⟨w, r, e1, k, s⟩ := h
    rw [e1]
    exact ⟨w, r.set i none, rfl, k, RE.unset i s⟩
theorem RE.unsetA {v : Option V} : ∀ {ρ : Env} {σ : St} (i : Nat), RE K φ H ρ σ → RE K φ H (ρ.set i none) (σ.set i v)
  | [], σ, _, h => by
    rw [show σ = [] from h]
    exact rfl
  | q :: ρ, σ, 0, h => by
    obtain ⟨w, r, e1, k, s⟩ := h
    rw [e1]
    exact ⟨v, r, rfl, fun x e => (by cases e), s⟩
  | q :: ρ, σ, i + 1, h => by
    obtain ⟨w, r, e1, k, s⟩ := h
    rw [e1]
    exact ⟨w, r.set i v, rfl, k, RE.unsetA i s⟩
theorem RE.wipe {ρ : Env} {σ : St} (h : RE K φ H ρ σ) : ∀ is : List Nat, RE K φ H (wipeP ρ is) (L2.wipe σ is)
  | [] => h
  | i :: is => (RE.wipe h is).unset i
end
end Sb
set_option Elab.async false
set_option linter.all false
set_option maxRecDepth 100000
set_option maxHeartbeats 4000000
namespace Sb
open PySem PySem.Spec PyProof.Rows L2
/-- how an exception lies: its class, its own dict -/
def RX (K : ZZ) (mg : Str → Option Value) (φ : List Addr) (H : Hp) (x : Exn) (cls : Value) (d : Option Addr) : Prop :=
  cls = .ref (He.ga K.K x.cls) ∧ ∃ fs : List (Str × V), ((d = none ∧ fs = []) ∨ ∃ da, d = some da ∧ H da = some (.xd fs) ∧ da ∉ φ) ∧ fs.map (·.1) = x.ns ∧ RVs K φ H x.vs (fs.map (·.2))
/-- rel: how a plain answer lies; W: what is wanted of an exception; Q: what is wanted of the answer -/
def Out (K : ZZ) (mg : Str → Option Value) {α β : Type} (rel : List Addr → Hp → α → β → Prop) (φ : List Addr) (H : Hp) (W : XK) (Q : β → Hp → Prop) : R α → Prop
  | .ok a h => ∀ φ' H' b, Ext φ φ' H H' → Sim K φ' h H' → rel φ' H' a b → Q b H'
  | .ex x h => ∀ φ' H' cls d, Ext φ φ' H H' → Sim K φ' h H' → RX K mg φ' H' x cls d → W cls d H'
  | .no => False
section
variable {K : ZZ} {mg : Str → Option Value} {α β γ δ : Type} {rel : List Addr → Hp → α → β → Prop} {rel2 : List Addr → Hp → γ → δ → Prop} {φ φ' : List Addr} {H H' : Hp} {W : XK} {Q Q' : β → Hp → Prop}
theorem Out.mono (x : Ext φ φ' H H') : ∀ {m : R α}, Out K mg rel φ H W Q m → Out K mg rel φ' H' W Q m
  | .ok _ _, h => fun φ2 H2 b y s r => h φ2 H2 b (x.trans y) s r
  | .ex _ _, h => fun φ2 H2 c d y s r => h φ2 H2 c d (x.trans y) s r
  | .no, h => h
theorem Out.imp (f : ∀ b H', Q b H' → Q' b H') : ∀ {m : R α}, Out K mg rel φ H W Q m → Out K mg rel φ H W Q' m
  | .ok _ _, h => fun φ2 H2 b y s r => f _ _ (h φ2 H2 b y s r)
  | .ex _ _, h => h
  | .no, h => h
/-- one thing after another -/
theorem Out.bind {m : R γ} {f : γ → PH → R α} (h : Out K mg rel φ H W Q (m.bind f)) :
    Out K mg rel2 φ H W (fun b H' => ∃ φ' a h1, Ext φ φ' H H' ∧ Sim K φ' h1 H' ∧ rel2 φ' H' a b ∧ Out K mg rel φ' H' W Q (f a h1)) m := by
  cases m with
  | ok a h1 => exact fun φ' H' b x s r => ⟨φ', a, h1, x, s, r, h.mono x⟩
  | ex x h1 => exact h
  | no => exact h
/-- the answer is there -/
theorem Out.at {a : α} {h : PH} {b : β} (o : Out K mg rel φ H W Q (.ok a h)) (s : Sim K φ h H) (r : rel φ H a b) : Q b H := o φ H b (Ext.refl _ _) s r
theorem Out.some {o : Option α} {h : PH} (q : Out K mg rel φ H W Q (ofO o h)) : ∃ a, o = .some a ∧ Out K mg rel φ H W Q (.ok a h) := by
  cases o with
  | none => exact q.elim
  | some a => exact ⟨a, rfl, q⟩
end
/-- an answer that is the thing itself -/
def RI {α : Type} (_ : List Addr) (_ : Hp) (a b : α) : Prop := a = b
theorem line_ok {n : Nat} (h : lineOk n = true) : n ≤ sizeLine := by
  have e : n ≤ 1000000 := of_decide_eq_true h
  have := sizeLine_eq
  omega
theorem line_lt {n : Nat} (h : lineOk (n + 1) = true) : n < sizeLine := by
  have e : n + 1 ≤ 1000000 := of_decide_eq_true h
  have := sizeLine_eq
  omega
def rOp (K : ZZ) (mg : Str → Option Value) (W : XK) (f : PV → PV → PH → R PV) : R2 := fun x y H Q => ∃ φ h a b, Sim K φ h H ∧ RV K φ H a x ∧ RV K φ H b y ∧ Out K mg (RV K) φ H W Q (f a b h)
/-- a new list -/
theorem Out.alloc {K : ZZ} {mg : Str → Option Value} {φ : List Addr} {H : Hp} {W : XK} {Q : VK} {h : PH} {l : List PV} {vs : List V} (s : Sim K φ h H) (r : RVs K φ H l vs) (o : Out K mg (RV K) φ H W Q (.ok (.ref h.length) (h ++ [.lst l]))) :
    ∀ p, H p = none → Q (.ref p) (upd H p (.lst vs)) := fun p n => o (φ ++ [p]) _ (.ref p) (Ext.push n) (s.push n r) ⟨p, rfl, by
  rw [← s.len, List.getElem?_append_right (Nat.le_refl _), Nat.sub_self]
  rfl⟩
/-- a new tuple -/
theorem Out.tupn {K : ZZ} {mg : Str → Option Value} {φ : List Addr} {H : Hp} {W : XK} {Q : VK} {h : PH} {l : List PV} {vs : List V} (s : Sim K φ h H) (r : RVs K φ H l vs) (o : Out K mg (RV K) φ H W Q (.ok (.tup l) h)) :
    ∀ p, H p = none → Q (.ref p) (upd H p (.tup vs)) := fun p n => o φ _ (.ref p) (Ext.new n) (s.new n) ⟨p, vs, rfl, .inl ⟨.inl upd_same, s.out n⟩, r.mono (Ext.new n)⟩
section
variable {X : Cx} {W : XK}
theorem op_fdivNW : OpR X (binaryOp .FloorDiv) (rI (fun _ j => j ≠ 0 ∧ j.natAbs.log2 < 9000) fun i j => .int (i.fdiv j)) := opI fun _ _ _ _ _ _ _ hc q => floordiv_int hc.1 q (.inl (PyProof.noPylong_of_log2 hc.2))
theorem rep_rel {K : ZZ} {φ : List Addr} {H : Hp} {l : List PV} {vs : List V} (r : RVs K φ H l vs) : ∀ n : Nat, RVs K φ H (List.replicate n l).flatten (List.replicate n vs).flatten
  | 0 => rfl
  | n + 1 => by
    rw [List.replicate_succ, List.replicate_succ, List.flatten_cons, List.flatten_cons]
    exact r.append (rep_rel r n)
/-- a new dict -/
theorem Out.allocD {K : ZZ} {mg : Str → Option Value} {φ : List Addr} {H : Hp} {W : XK} {Q : VK} {h : PH} {l : List (Key × PV)} {kvs : List (Key × V)} (s : Sim K φ h H) (r : RD K φ H l kvs) (o : Out K mg (RV K) φ H W Q (Sb.allocD l h)) :
    ∀ p, H p = none → Q (.ref p) (upd H p (.dK kvs)) := fun p n => (show Out K mg (RV K) φ H W Q (.ok (.ref h.length) (h ++ [.dct l])) from o) (φ ++ [p]) _ (.ref p) (Ext.push n) (s.pushD n r) ⟨p, rfl, by
  rw [← s.len, List.getElem?_append_right (Nat.le_refl _), Nat.sub_self]
  rfl⟩
theorem bin_ok (op : Operator) : OpR X (binaryOp op) (rOp (zOf X) X.mg W (binop op)) := by
  intro pins s σ H x y v u Q I rx ry hh
  obtain ⟨φ, h, a, b, sm, ra, rb, o⟩ := hh
  unfold binop at o
  split at o
  · exact op_add pins s σ H x y v u Q I rx ry ⟨_, _, ra, rb, o.at sm rfl⟩
  · exact op_sub pins s σ H x y v u Q I rx ry ⟨_, _, ra, rb, o.at sm rfl⟩
  · split at o
    · rename_i hm
      have hm' := of_decide_eq_true hm
      exact op_mulW pins s σ H x y v u Q I rx ry ⟨_, _, ra, rb, hm', o.at sm rfl⟩
    · exact o.elim
  · split at o
    · rename_i hm
      obtain ⟨h1, h2⟩ := Bool.and_eq_true_iff.mp hm
      exact op_fdivNW pins s σ H x y v u Q I rx ry ⟨_, _, ra, rb, ⟨of_decide_eq_true h1, of_decide_eq_true h2⟩, o.at sm rfl⟩
    · exact o.elim
  · split at o
    · exact o.elim
    · rename_i hm
      exact op_modN pins s σ H x y v u Q I rx ry ⟨_, _, ra, rb, hm, o.at sm rfl⟩
  · split at o
    · rename_i hm
      obtain ⟨h12, h3⟩ := Bool.and_eq_true_iff.mp hm
      obtain ⟨h1, h2⟩ := Bool.and_eq_true_iff.mp h12
      exact op_pow pins s σ H x y v u Q I rx ry ⟨_, _, ra, rb, ⟨of_decide_eq_true h1, of_decide_eq_true h2, of_decide_eq_true h3⟩, o.at sm rfl⟩
    · exact o.elim
  · split at o
    · rename_i hm
      exact op_add_str pins s σ H x y v u Q I rx ry ⟨_, _, ra, rb, line_ok hm, o.at sm rfl⟩
    · exact o.elim
  · rename_i m n
    split at o
    · rename_i l k e1 e2
      split at o
      · rename_i hm
        obtain ⟨a1, vs1, f1, g1, r1⟩ := sm.lst e1
        obtain ⟨a2, vs2, f2, g2, r2⟩ := sm.lst e2
        obtain ⟨b1, hx, q1⟩ := ra
        obtain ⟨b2, hy, q2⟩ := rb
        rw [f1] at q1
        rw [f2] at q2
        cases q1
        cases q2
        have hz : lineOk ((l ++ k).length) = true := by rw [List.length_append]; exact hm
        unfold Sb.alloc at o
        rw [if_pos hz] at o
        exact op_cat pins s σ H x y v u Q I rx ry ⟨a1, a2, vs1, vs2, hx, hy, g1, g2, by rw [← r1.length, ← r2.length]; exact line_ok hm, o.alloc sm (r1.append r2)⟩
      · exact o.elim
    · exact o.elim
  · rename_i m k
    split at o
    · rename_i l e1
      split at o
      · rename_i hm
        obtain ⟨a1, vs1, f1, g1, r1⟩ := sm.lst e1
        obtain ⟨b1, hx, q1⟩ := ra
        rw [f1] at q1
        cases q1
        have hl : vs1.length * k.toNat ≤ 1000 * 1000 := Nat.mul_le_mul (by rw [← r1.length]; exact hm.2.2) (by omega)
        have hs := sizeLine_eq
        exact op_rep pins s σ H x y v u Q I rx ry ⟨a1, k, vs1, hx, rb, g1, by omega, by omega, by omega, o.alloc sm (rep_rel r1 _)⟩
      · exact o.elim
    · exact o.elim
  · rename_i l k
    split at o
    · rename_i hm
      obtain ⟨a1, vs1, hx, h1, r1⟩ := ra
      obtain ⟨a2, vs2, hy, h2, r2⟩ := rb
      refine op_catA pins s σ H x y v u Q I rx ry ⟨a1, a2, vs1, vs2, hx, hy, h1.sq, h2.sq, by rw [← r1.length, ← r2.length]; exact line_ok hm, fun e => ?_, fun _ e => ?_, fun _ _ => o.tupn sm (r1.append r2)⟩
      · subst e
        have : l = [] := List.length_eq_zero_iff.mp r1.length
        subst this
        exact o.at sm ⟨a2, vs2, rfl, h2, r2⟩
      · subst e
        have : k = [] := List.length_eq_zero_iff.mp r2.length
        subst this
        rw [List.append_nil] at o
        exact o.at sm ⟨a1, vs1, rfl, h1, r1⟩
    · exact o.elim
  · exact o.elim
mutual
theorem dp_of {K : ZZ} {φ : List Addr} {h : PH} {H : Hp} (s : Sim K φ h H) : ∀ (n : Nat) (p : PV) (v : V) (d : PyData), RV K φ H p v → pd h n p = some d → Dp K.K H v d
  | n, .non, v, d, r, e => by
    have : v = .non := r
    subst this
    cases n <;> (cases e; exact .non)
  | n, .bl b, v, d, r, e => by
    have : v = .bl b := r
    subst this
    cases n <;> (cases e; exact .bl b)
  | n, .int i, v, d, r, e => by
    have : v = .int i := r
    subst this
    cases n <;> (cases e; exact .int i)
  | n, .str z, v, d, r, e => by
    have : v = .str z := r
    subst this
    have e' : d = .str z := by
      cases n <;> (
        unfold pd at e
        split at e
        · exact (Option.some.inj e).symm
        · cases e)
    subst e'
    exact .str z
  | 0, .tup l, v, d, r, e => by cases e
  | n + 1, .tup l, v, d, r, e => by
    obtain ⟨a, vs, e1, q, r'⟩ := r
    subst e1
    obtain ⟨ds, e2, e3⟩ := Option.map_eq_some_iff.mp (show (mapO (pd h n) l).map .tuple = some d from e)
    subst e3
    exact .tup q.sq (dps_of s n l vs ds r' e2)
  | 0, .cl l, v, d, r, e => by cases e
  | n + 1, .cl l, v, d, r, e => by
    obtain ⟨a, vs, e1, q, r'⟩ := r
    subst e1
    obtain ⟨ds, e2, e3⟩ := Option.map_eq_some_iff.mp (show (mapO (pd h n) l).map .list = some d from e)
    subst e3
    exact .lst q.sq (dps_of s n l vs ds r' e2)
  | 0, .ref m, v, d, r, e => by cases e
  | n + 1, .ref m, v, d, r, e => by
    obtain ⟨a, e1, q⟩ := r
    subst e1
    unfold pd at e
    cases z : h[m]? with
    | none => simp only [z] at e; cases e
    | some o =>
      cases o with
      | lst l =>
        simp only [z] at e
        obtain ⟨a', vs, e4, e5, r'⟩ := s.lst z
        rw [q] at e4
        cases e4
        obtain ⟨ds, e2, e3⟩ := Option.map_eq_some_iff.mp e
        subst e3
        exact .lst (SqL.of e5) (dps_of s n l vs ds r' e2)
      | dct l => simp only [z] at e; cases e
      | obj c l => simp only [z] at e; cases e
  | n, .ty t, v, d, r, e => by cases n <;> cases e
  | n, .cls t, v, d, r, e => by cases n <;> cases e
  | n, .xc x ns vs, v, d, r, e => by cases n <;> cases e
  | n, .ste l, v, d, r, e => by cases n <;> cases e
theorem dps_of {K : ZZ} {φ : List Addr} {h : PH} {H : Hp} (s : Sim K φ h H) : ∀ (n : Nat) (l : List PV) (vs : List V) (ds : List PyData), RVs K φ H l vs → mapO (pd h n) l = some ds → DpAll K.K H vs ds
  | n, [], vs, ds, r, e => by
    have : vs = [] := r
    subst this
    cases e
    exact .nil
  | n, p :: l, vs, ds, r, e => by
    obtain ⟨v, t, e1, q, r'⟩ := r
    subst e1
    unfold mapO at e
    cases z1 : pd h n p with
    | none => simp only [z1] at e; cases e
    | some d1 =>
      cases z2 : mapO (pd h n) l with
      | none => simp only [z1, z2] at e; cases e
      | some d2 =>
        simp only [z1, z2] at e
        cases e
        exact .cons (dp_of s n p v d1 q z1) (dps_of s n l t d2 r' z2)
end
mutual
theorem pd_shape {h : PH} : ∀ (n : Nat) (p : PV) (d : PyData), pd h n p = some d → d.canLay0 = true ∧ d.depth ≤ n
  | n, .non, d, e => by cases n <;> (cases e; exact ⟨rfl, Nat.zero_le _⟩)
  | n, .bl b, d, e => by cases n <;> (cases e; exact ⟨rfl, Nat.zero_le _⟩)
  | n, .int i, d, e => by cases n <;> (cases e; exact ⟨rfl, Nat.zero_le _⟩)
  | n, .str z, d, e => by
    have e' : strOkP z = true ∧ d = .str z := by
      cases n <;> (
        unfold pd at e
        split at e
        · exact ⟨by assumption, (Option.some.inj e).symm⟩
        · cases e)
    obtain ⟨e1, e2⟩ := e'
    subst e2
    exact ⟨e1, Nat.zero_le _⟩
  | 0, .tup l, d, e => by cases e
  | n + 1, .tup l, d, e => by
    obtain ⟨ds, e2, e3⟩ := Option.map_eq_some_iff.mp (show (mapO (pd h n) l).map .tuple = some d from e)
    subst e3
    obtain ⟨h1, h2⟩ := pds_shape n l ds e2
    exact ⟨h1, by unfold PyData.depth; omega⟩
  | 0, .cl l, d, e => by cases e
  | n + 1, .cl l, d, e => by
    obtain ⟨ds, e2, e3⟩ := Option.map_eq_some_iff.mp (show (mapO (pd h n) l).map .list = some d from e)
    subst e3
    obtain ⟨h1, h2⟩ := pds_shape n l ds e2
    exact ⟨h1, by unfold PyData.depth; omega⟩
  | 0, .ref m, d, e => by cases e
  | n + 1, .ref m, d, e => by
    unfold pd at e
    cases z : h[m]? with
    | none => simp only [z] at e; cases e
    | some o =>
      cases o with
      | lst l =>
        simp only [z] at e
        obtain ⟨ds, e2, e3⟩ := Option.map_eq_some_iff.mp e
        subst e3
        obtain ⟨h1, h2⟩ := pds_shape n l ds e2
        exact ⟨h1, by unfold PyData.depth; omega⟩
      | dct l => simp only [z] at e; cases e
      | obj c l => simp only [z] at e; cases e
  | n, .ty t, d, e => by cases n <;> cases e
  | n, .cls t, d, e => by cases n <;> cases e
  | n, .xc x ns vs, d, e => by cases n <;> cases e
  | n, .ste l, d, e => by cases n <;> cases e
theorem pds_shape {h : PH} : ∀ (n : Nat) (l : List PV) (ds : List PyData), mapO (pd h n) l = some ds → PyData.canLayAll0 ds = true ∧ PyData.depthAll ds ≤ n
  | n, [], ds, e => by
    cases e
    exact ⟨rfl, Nat.zero_le _⟩
  | n, p :: l, ds, e => by
    unfold mapO at e
    cases z1 : pd h n p with
    | none => simp only [z1] at e; cases e
    | some d1 =>
      cases z2 : mapO (pd h n) l with
      | none => simp only [z1, z2] at e; cases e
      | some d2 =>
        simp only [z1, z2] at e
        cases e
        obtain ⟨a1, a2⟩ := pd_shape n p d1 z1
        obtain ⟨b1, b2⟩ := pds_shape n l d2 z2
        refine ⟨?_, ?_⟩
        · show (d1.canLay0 && PyData.canLayAll0 d2) = true
          rw [a1, b1]
          rfl
        · unfold PyData.depthAll
          omega
end
theorem shaped_of {h : PH} {n : Nat} {p : PV} {d : PyData} (e : pd h n p = some d) (hn : n ≤ 64) : SeqAt.shaped d = true := by
  obtain ⟨h1, h2⟩ := pd_shape n p d e
  unfold SeqAt.shaped
  rw [h1, decide_eq_true (show d.depth ≤ 64 by omega)]
  rfl
theorem eqP_ok {K : ZZ} {φ : List Addr} {h : PH} {H : Hp} (s : Sim K φ h H) {a b : PV} {x y : V} {r : Bool} (ra : RV K φ H a x) (rb : RV K φ H b y) (e : eqP h a b = some r) :
    (∃ d e, Dp K.K H x d ∧ Dp K.K H y e ∧ SeqAt.shaped d = true ∧ SeqAt.shaped e = true ∧ PyData.eqv d e = r) ∨ dEqP h a b = some r := by
  unfold eqP at e
  cases z1 : pd h 8 a with
  | none => simp only [z1] at e; exact .inr e
  | some d1 =>
    cases z2 : pd h 8 b with
    | none => simp only [z1, z2] at e; exact .inr e
    | some d2 =>
      simp only [z1, z2] at e
      exact .inl ⟨d1, d2, dp_of s 8 a x d1 ra z1, dp_of s 8 b y d2 rb z2, shaped_of z1 (by decide), shaped_of z2 (by decide), Option.some.inj e⟩
section
variable {X : Cx} {pins : List (Addr × Obj)} {s : Shared} {σ : L2.St} {φ : List Addr} {h : PH} {H : Hp}
theorem dEq_hits (hu : X.A.units + 66 < cLine) (I : Inv X pins σ H s) (sm : Sim (zOf X) φ h H) {k : List (Key × PV)} {ls : List (Key × V)} {vb : List (Key × Value)} (rk : RD (zOf X) φ H k ls) (rb : KV ls vb) (hk : ∀ kv ∈ k, (pd h 8 kv.2).isSome = true) :
    ∀ {l : List (Key × PV)} {ks : List (Key × V)} {va : List (Key × Value)}, RD (zOf X) φ H l ks → KV ks va → (∀ kv ∈ l, (pd h 8 kv.2).isSome = true) → PySem.W.KeqHits X.A.in1 s vb va (l.all (dHit h k))
  | [], ks, va, rl, ra, _ => by
    have := rl.empty
    subst this
    unfold KV at ra
    cases ra
    exact .nil
  | (key, p) :: l, ks, va, rl, ra, hl => by
    obtain ⟨v, t, rfl, rv, rt⟩ := rl.inv
    unfold KV at ra
    cases ra with
    | @cons _ q _ qs hq tq =>
      obtain ⟨q1, q2⟩ := q
      obtain ⟨e1, e2⟩ := hq
      have e1 : key = q1 := e1
      subst e1
      have e2 : RelV v q2 := e2
      have ih := dEq_hits hu I sm rk rb hk rt tq fun kv hm => hl kv (List.mem_cons_of_mem _ hm)
      have rr := rb.val key
      rw [List.all_cons]
      rcases rk.val key with ⟨n1, n2⟩ | ⟨p', v', n1, n2, n3⟩
      · rw [n2] at rr
        rw [show dHit h k (key, p) = false from by unfold dHit; rw [n1], Bool.false_and]
        refine .miss ?_
        cases hv : valueAt vb key with
        | none => rfl
        | some w => rw [hv] at rr; exact rr.elim
      · rw [n2] at rr
        obtain ⟨y, hy, ry⟩ := rr.some_of
        rw [show dHit h k (key, p) = eqvP h p p' from by unfold dHit; rw [n1]]
        obtain ⟨d1, z1⟩ := Option.isSome_iff_exists.mp (hl (key, p) (by simp))
        have z1 : pd h 8 p = some d1 := z1
        have hm : (key, p') ∈ k := by
          unfold valP at n1
          obtain ⟨kv, f1, f2⟩ := Option.map_eq_some_iff.mp n1
          have := List.mem_of_find?_eq_some f1
          have k1 : kv.1 = key := by simpa using List.find?_some f1
          rw [← k1, ← f2]
          exact this
        obtain ⟨d2, z2⟩ := Option.isSome_iff_exists.mp (hk _ hm)
        have z2 : pd h 8 p' = some d2 := z2
        have ev : eqvP h p p' = PyData.eqv d1 d2 := by unfold eqvP; rw [z1, z2]
        obtain ⟨as, r1⟩ := Dp.reads I d1 v q2 (dp_of sm 8 p v d1 rv z1) e2
        obtain ⟨bs, r2⟩ := Dp.reads I d2 v' y (dp_of sm 8 p' v' d2 n3 z2) ry
        rw [ev]
        exact .hit hy (PySem.W.keq_at r1 r2 (shaped_of z1 (by decide)) (shaped_of z2 (by decide)) (by show X.A.units + 1 + 64 < cLine; omega)) ih
theorem dEq_ok (hu : X.A.units + 66 < cLine) {a b : PV} {x y : V} {v u : Value} {r : Bool} {Q : VK} (I : Inv X pins σ H s) (rx : RelV x v) (ry : RelV y u) (sm : Sim (zOf X) φ h H) (ra : RV (zOf X) φ H a x) (rb : RV (zOf X) φ H b y) (e : dEqP h a b = some r) :
    (Q (.bl r) H → wpAny (model X.prog X.w) X.A (compareOp .Eq v u) (EP X pins σ Q) X.xe s) ∧ (Q (.bl (!r)) H → wpAny (model X.prog X.w) X.A (compareOp .NotEq v u) (EP X pins σ Q) X.xe s) := by
  unfold dEqP at e
  split at e
  · rename_i m n
    split at e
    · rename_i l k e1 e2
      unfold dEq at e
      split at e
      · rename_i hall
        obtain ⟨h1, h2⟩ := Bool.and_eq_true_iff.mp hall
        have h1 := List.all_eq_true.mp h1
        have h2 := List.all_eq_true.mp h2
        obtain ⟨a1, hx, f1⟩ := ra
        obtain ⟨b1, hy, f2⟩ := rb
        obtain ⟨a', ks, g1, g2, g3⟩ := sm.dctR e1
        obtain ⟨b', ls, k1, k2, k3⟩ := sm.dctR e2
        rw [f1] at g1
        cases g1
        rw [f2] at k1
        cases k1
        subst hx hy
        cases (show v = Value.ref a1 from rx)
        cases (show u = Value.ref b1 from ry)
        obtain ⟨_, ya, va, rva, da⟩ := (show ObjOk X.prog X.w H s.heap a1 (.dK ks) from I.hok a1 _ g2)
        obtain ⟨_, yb, vb, rvb, db⟩ := (show ObjOk X.prog X.w H s.heap b1 (.dK ls) from I.hok b1 _ k2)
        have hits := dEq_hits hu I sm k3 rvb h2 g3 rva h1
        have el : (va.length == vb.length) = (l.length == k.length) := by rw [← rva.length, ← rvb.length, ← g3.length, ← k3.length]
        have er := Option.some.inj e
        rw [← el] at er
        exact ⟨fun q => PySem.W.keq_eq (knd := mixKind X.prog X.w) ya yb da db (by omega) (fun _ => hits) ⟨.bl _, H, I, rfl, by rw [er]; exact q⟩, fun q => PySem.W.keq_ne (knd := mixKind X.prog X.w) ya yb da db (by omega) (fun _ => hits) ⟨.bl _, H, I, rfl, by rw [er]; exact q⟩⟩
      · cases e
    · cases e
  · cases e
end
section
variable {X : Cx} {W : XK}
theorem RV.isNon {K : ZZ} {φ : List Addr} {H : Hp} {a : PV} {x : V} (r : RV K φ H a x) : decide (x = .non) = isNonP a := by
  cases a with
  | non => rw [show x = .non from r]; rfl
  | bl b => rw [show x = .bl b from r]; rfl
  | int b => rw [show x = .int b from r]; rfl
  | str b => rw [show x = .str b from r]; rfl
  | ty b => rw [show x = .ty b.nm from r]; rfl
  | ref n => obtain ⟨a, e, _⟩ := r; rw [e]; rfl
  | tup n => obtain ⟨a, _, e, _⟩ := r; rw [e]; rfl
  | cl n => obtain ⟨a, _, e, _⟩ := r; rw [e]; rfl
  | cls n =>
    have r' : x = if n = "ValueError" then V.ty "ValueError" else .ref (He.ga K.K n) := r
    rw [r']
    split <;> rfl
  | xc n m l => obtain ⟨a, _, e, _⟩ := r; rw [e]; rfl
  | ste n => obtain ⟨a, e, _⟩ := r; rw [e]; rfl
theorem _root_.L2.Room.u66 {k : Nat} {A : Around} (r : Room k A) : A.units + 66 < cLine := by have := r.un; omega
/-- x in a list, a tuple, by data -/
theorem inSeq_ok {K : ZZ} {φ : List Addr} {h : PH} {H : Hp} (s : Sim K φ h H) {a : PV} {x : V} {l : List PV} {vs : List V} {r : Bool} (ra : RV K φ H a x) (rl : RVs K φ H l vs) (e : inSeqP h a l = some r) :
    ∃ d ds, Dp K.K H x d ∧ DpAll K.K H vs ds ∧ SeqAt.shaped d = true ∧ SeqAt.shaped (.list ds) = true ∧ (ds.any fun z => PyData.eqv z d) = r := by
  unfold inSeqP at e
  cases z1 : pd h 8 a with
  | none => simp only [z1] at e; cases e
  | some d1 =>
    cases z2 : mapO (pd h 8) l with
    | none => simp only [z1, z2] at e; cases e
    | some d2 =>
      simp only [z1, z2] at e
      obtain ⟨h1, h2⟩ := pds_shape 8 l d2 z2
      refine ⟨d1, d2, dp_of s 8 a x d1 ra z1, dps_of s 8 l vs d2 rl z2, shaped_of z1 (by decide), ?_, Option.some.inj e⟩
      unfold SeqAt.shaped
      have e1 : (PyData.list d2).canLay0 = true := h1
      have e2 : (PyData.list d2).depth ≤ 64 := by unfold PyData.depth; omega
      rw [e1, decide_eq_true e2]
      rfl
theorem in_tupD (hu : X.A.units + 66 < cLine) : OpR X (compareOp .In) (fun x y H Q => ∃ d ds, Dp X.K H x d ∧ Dp X.K H y (.tuple ds) ∧ SeqAt.shaped d = true ∧ SeqAt.shaped (.list ds) = true ∧ Q (.bl (ds.any fun z => PyData.eqv z d)) H) := by
  intro pins s σ H x y v u Q I rx ry h
  obtain ⟨d, ds, hd, he, sd, se, q⟩ := h
  obtain ⟨as, r1⟩ := Dp.reads I d x v hd rx
  obtain ⟨bs, r2⟩ := Dp.reads I (.tuple ds) y u he ry
  exact SeqAt.in_tuple_reads r2 r1 (SeqAt.canLay_of_shaped se) (SeqAt.canLay_of_shaped sd) (room_in_shaped sd (by omega)) ⟨.bl _, H, I, rfl, q⟩
theorem notIn_tupD (hu : X.A.units + 66 < cLine) : OpR X (compareOp .NotIn) (fun x y H Q => ∃ d ds, Dp X.K H x d ∧ Dp X.K H y (.tuple ds) ∧ SeqAt.shaped d = true ∧ SeqAt.shaped (.list ds) = true ∧ Q (.bl (!ds.any fun z => PyData.eqv z d)) H) := by
  intro pins s σ H x y v u Q I rx ry h
  obtain ⟨d, ds, hd, he, sd, se, q⟩ := h
  obtain ⟨as, r1⟩ := Dp.reads I d x v hd rx
  obtain ⟨bs, r2⟩ := Dp.reads I (.tuple ds) y u he ry
  exact SeqAt.notIn_tuple_reads r2 r1 (SeqAt.canLay_of_shaped se) (SeqAt.canLay_of_shaped sd) (room_in_shaped sd (by omega)) ⟨.bl _, H, I, rfl, q⟩
theorem in_ok (hu : X.A.units + 66 < cLine) {pins : List (Addr × Obj)} {s : Shared} {σ : L2.St} {φ : List Addr} {h : PH} {H : Hp} {a b : PV} {x y : V} {v u : Value} {r : Bool} {Q : VK} (I : Inv X pins σ H s) (rx : RelV x v) (ry : RelV y u) (sm : Sim (zOf X) φ h H) (ra : RV (zOf X) φ H a x) (rb : RV (zOf X) φ H b y) (e : inP h a b = some r) :
    (Q (.bl r) H → wpAny (model X.prog X.w) X.A (compareOp .In v u) (EP X pins σ Q) X.xe s) ∧ (Q (.bl (!r)) H → wpAny (model X.prog X.w) X.A (compareOp .NotIn v u) (EP X pins σ Q) X.xe s) := by
  have lst : ∀ {l : List PV}, inSeqP h a l = some r → (∃ ad vs, y = .ref ad ∧ SqL X.K H ad vs ∧ RVs (zOf X) φ H l vs) → (Q (.bl r) H → wpAny (model X.prog X.w) X.A (compareOp .In v u) (EP X pins σ Q) X.xe s) ∧ (Q (.bl (!r)) H → wpAny (model X.prog X.w) X.A (compareOp .NotIn v u) (EP X pins σ Q) X.xe s) := by
    rintro l e1 ⟨ad, vs, hy, hq, rl⟩
    obtain ⟨d, ds, h1, h2, h3, h4, h5⟩ := inSeq_ok sm ra rl e1
    subst hy h5
    exact ⟨fun q => op_inD (by omega) pins s σ H x _ v u Q I rx ry ⟨d, ds, h1, .lst hq h2, h3, h4, q⟩, fun q => op_notInD (by omega) pins s σ H x _ v u Q I rx ry ⟨d, ds, h1, .lst hq h2, h3, h4, q⟩⟩
  cases b with
  | tup l =>
    obtain ⟨ad, vs, hy, hq, rl⟩ := rb
    obtain ⟨d, ds, h1, h2, h3, h4, h5⟩ := inSeq_ok sm ra rl e
    subst hy h5
    exact ⟨fun q => in_tupD hu pins s σ H x _ v u Q I rx ry ⟨d, ds, h1, .tup hq.sq h2, h3, h4, q⟩, fun q => notIn_tupD hu pins s σ H x _ v u Q I rx ry ⟨d, ds, h1, .tup hq.sq h2, h3, h4, q⟩⟩
  | cl l =>
    obtain ⟨ad, vs, hy, hq, rl⟩ := rb
    exact lst e ⟨ad, vs, hy, hq.sq, rl⟩
  | ref n =>
    unfold inP at e
    cases z : h[n]? with
    | none => simp only [z] at e; cases e
    | some o =>
      cases o with
      | lst l =>
        simp only [z] at e
        obtain ⟨ad, hy, q⟩ := rb
        obtain ⟨a', vs, e4, e5, r'⟩ := sm.lst z
        rw [q] at e4
        cases e4
        exact lst e ⟨ad, vs, hy, SqL.of e5, r'⟩
      | dct l =>
        simp only [z] at e
        obtain ⟨k, ek, er⟩ := Option.map_eq_some_iff.mp e
        obtain ⟨ad, hy, q⟩ := rb
        obtain ⟨a', kvs, e4, e5, r'⟩ := sm.dctR z
        rw [q] at e4
        cases e4
        subst hy er
        have hx := key_rel ra ek
        subst hx
        obtain rfl : u = Value.ref ad := ry
        have ev : (valV kvs k).isSome = (valP l k).isSome := by
          rcases r'.val k with ⟨h1, h2⟩ | ⟨_, _, h1, h2, _⟩ <;> rw [h1, h2] <;> rfl
        exact ⟨fun q => d_in (by omega) I (DGet.k e5) rx fun s3 I3 => ⟨.bl _, H, I3, by rw [ev]; rfl, q⟩, fun q => d_notIn (by omega) I (DGet.k e5) rx fun s3 I3 => ⟨.bl _, H, I3, by rw [ev]; rfl, q⟩⟩
      | obj c l => simp only [z] at e; cases e
  | ste l =>
    obtain ⟨k, ek, er⟩ := Option.map_eq_some_iff.mp (show ((keyOf a).map fun k => l.any fun j => decide (j = k)) = some r from e)
    obtain ⟨ad, hy, q, _, _⟩ := rb
    subst hy er
    have hx := key_rel ra ek
    subst hx
    exact ⟨fun z => or_sinK pins s σ H _ _ v u Q I rx ry ⟨k, ad, _, _, rfl, rfl, q, z⟩, fun z => or_snotinK pins s σ H _ _ v u Q I rx ry ⟨k, ad, _, _, rfl, rfl, q, z⟩⟩
  | _ => cases e
theorem cmp_ok (hu : X.A.units + 66 < cLine) (op : CmpOp) : OpR X (compareOp op) (rOp (zOf X) X.mg W (cmpop op)) := by
  intro pins s σ H x y v u Q I rx ry hh
  obtain ⟨φ, h, a, b, sm, ra, rb, o⟩ := hh
  unfold cmpop at o
  split at o
  · exact op_lt pins s σ H x y v u Q I rx ry ⟨_, _, ra, rb, o.at sm rfl⟩
  · exact op_le pins s σ H x y v u Q I rx ry ⟨_, _, ra, rb, o.at sm rfl⟩
  · exact op_gt pins s σ H x y v u Q I rx ry ⟨_, _, ra, rb, o.at sm rfl⟩
  · exact op_ge pins s σ H x y v u Q I rx ry ⟨_, _, ra, rb, o.at sm rfl⟩
  · exact op_lt_str pins s σ H x y v u Q I rx ry ⟨_, _, ra, rb, o.at sm rfl⟩
  · have q := ra.isNon
    refine op_isN pins s σ H x y v u Q I rx ry ⟨rb, ?_⟩
    rw [q]
    exact o.at sm rfl
  · have q := ra.isNon
    refine op_notN pins s σ H x y v u Q I rx ry ⟨rb, ?_⟩
    rw [q]
    exact o.at sm rfl
  · exact op_isBl pins s σ H x y v u Q I rx ry ⟨_, _, ra, rb, o.at sm rfl⟩
  · exact op_notBl pins s σ H x y v u Q I rx ry ⟨_, _, ra, rb, o.at sm rfl⟩
  · rename_i x1 y1
    have hx : x = .str x1 := ra
    have hy : y = .str y1 := rb
    subst hx hy
    refine op_eq pins s σ H _ _ v u Q I rx ry ⟨rfl, ?_⟩
    rw [dec_str]
    have := o.at sm (b := V.bl (decide (x1 = y1))) rfl
    rwa [show (x1 == y1) = decide (x1 = y1) from by rw [Bool.eq_iff_iff]; simp]
  · rename_i x1 y1
    have hx : x = .str x1 := ra
    have hy : y = .str y1 := rb
    subst hx hy
    refine op_ne pins s σ H _ _ v u Q I rx ry ⟨rfl, ?_⟩
    rw [dec_str]
    have := o.at sm (b := V.bl (!decide (x1 = y1))) rfl
    rwa [show (x1 == y1) = decide (x1 = y1) from by rw [Bool.eq_iff_iff]; simp]
  · obtain ⟨z, e, q⟩ := o.some
    obtain ⟨r, e1, e2⟩ := Option.map_eq_some_iff.mp e
    subst e2
    rcases eqP_ok sm ra rb e1 with ⟨d, e', h1, h2, h3, h4, h5⟩ | e2
    · refine op_eqD (by omega) pins s σ H x y v u Q I rx ry ⟨d, e', h1, h2, h3, h4, ?_⟩
      rw [h5]
      exact q.at sm rfl
    · exact (dEq_ok hu I rx ry sm ra rb e2).1 (q.at sm rfl)
  · obtain ⟨z, e, q⟩ := o.some
    obtain ⟨r, e1, e2⟩ := Option.map_eq_some_iff.mp e
    subst e2
    rcases eqP_ok sm ra rb e1 with ⟨d, e', h1, h2, h3, h4, h5⟩ | e2
    · refine op_neD (by omega) pins s σ H x y v u Q I rx ry ⟨d, e', h1, h2, h3, h4, ?_⟩
      rw [h5]
      exact q.at sm rfl
    · exact (dEq_ok hu I rx ry sm ra rb e2).2 (q.at sm rfl)
  · obtain ⟨z, e, q⟩ := o.some
    obtain ⟨r, e1, e2⟩ := Option.map_eq_some_iff.mp e
    subst e2
    exact (in_ok hu I rx ry sm ra rb e1).1 (q.at sm rfl)
  · obtain ⟨z, e, q⟩ := o.some
    obtain ⟨r, e1, e2⟩ := Option.map_eq_some_iff.mp e
    subst e2
    exact (in_ok hu I rx ry sm ra rb e1).2 (q.at sm rfl)
  · exact op_gt_str pins s σ H x y v u Q I rx ry ⟨_, _, ra, rb, o.at sm rfl⟩
  · exact o.elim
theorem atI_rel {K : ZZ} {φ : List Addr} {H : Hp} {l : List PV} {vs : List V} {i : Int} {p : PV} (r : RVs K φ H l vs) (e : atI l i = some p) : ∃ v, atI vs i = some v ∧ RV K φ H p v := by
  unfold atI at e ⊢
  rw [← r.length]
  cases q : ixN l.length i with
  | none => rw [q] at e; cases e
  | some j =>
    rw [q] at e
    exact r.get e
theorem ix_ok (hu : X.A.units + 1 < cLine) : IxR X (rOp (zOf X) X.mg W idxop) := by
  intro value slice pins s σ H x y v u Q I rx ry hh hs
  obtain ⟨φ, h, a, b, sm, ra, rb, o⟩ := hh
  unfold idxop at o
  split at o
  · split at o
    · rename_i hm
      split at o
      · rename_i c e
        exact ix_str value slice pins s σ H x y v u Q I rx ry ⟨_, _, c, ra, rb, line_ok hm, e, o.at sm rfl⟩ hs
      · exact o.elim
    · exact o.elim
  · rename_i n i _
    split at o
    · rename_i l e
      split at o
      · obtain ⟨p, e1, q⟩ := o.some
        obtain ⟨ad, vs, hx, hq, r⟩ := sm.listV (l := l) ra (by simp only [listOf, e])
        obtain ⟨w, e2, rw'⟩ := atI_rel r e1
        exact ix_list value slice pins s σ H x y v u Q I rx ry ⟨ad, vs, _, w, hx, rb, hq, e2, q.at sm rw'⟩ hs
      · exact o.elim
    · rename_i l e
      split at o
      · rename_i k ek
        obtain ⟨p, e1, q⟩ := o.some
        obtain ⟨ad, hx, qq⟩ := ra
        obtain ⟨a', kvs, e4, e5, r'⟩ := sm.dctR e
        rw [qq] at e4
        cases e4
        have hy := key_rel rb ek
        subst hx hy
        obtain rfl : v = Value.ref ad := rx
        rcases r'.val k with ⟨h1, h2⟩ | ⟨p', v', h1, h2, h3⟩
        · rw [h1] at e1
          cases e1
        · rw [h1] at e1
          cases e1
          have g : DGet H ad (kV k) (some v') := by
            rw [← h2]
            exact DGet.k e5
          exact tail_any (dict_typeIs I g) PySem.F.slot_dict_getitem.lookup (d_getItem hu I g ry fun w' s3 I3 rw' => ⟨v', H, I3, rw', q.at sm h3⟩) hs
      · exact o.elim
    · exact o.elim
  · obtain ⟨p, e1, q⟩ := o.some
    obtain ⟨ad, vs, hx, hq, r⟩ := ra
    obtain ⟨w, e2, rw'⟩ := atI_rel r e1
    exact ix_tup value slice pins s σ H x y v u Q I rx ry ⟨ad, vs, _, w, hx, rb, hq.sq, e2, q.at sm rw'⟩ hs
  · obtain ⟨p, e1, q⟩ := o.some
    obtain ⟨ad, vs, hx, hq, r⟩ := ra
    obtain ⟨w, e2, rw'⟩ := atI_rel r e1
    exact ix_list value slice pins s σ H x y v u Q I rx ry ⟨ad, vs, _, w, hx, rb, hq.sq, e2, q.at sm rw'⟩ hs
  · exact o.elim
def rSetP (K : ZZ) (mg : Str → Option Value) : TSet := fun o i v H Q => ∃ φ h a b c h', Sim K φ h H ∧ RV K φ H a o ∧ RV K φ H b i ∧ RV K φ H c v ∧ setop a b c h = some h' ∧ ∀ H', Ext φ φ H H' → Sim K φ h' H' → Q H'
theorem set_ok (hu : X.A.units + 1 < cLine) : PSet X (rSetP (zOf X) X.mg) := by
  intro pins s σ H o i v ov iv u Q I ro ri rv hh
  obtain ⟨φ, h, a, b, c, h', sm, ra, rb, rc, e, q⟩ := hh
  unfold setop at e
  split at e
  · rename_i n
    split at e
    · rename_i l e1
      split at e
      · rename_i k
        split at e
        · rename_i j e2
          cases e
          obtain ⟨ad, vs, f1, g1, r1⟩ := sm.lst e1
          obtain ⟨b1, hx, q1⟩ := ra
          rw [f1] at q1
          cases q1
          refine set_list pins s σ H o i v ov iv u Q I ro ri rv ⟨ad, vs, k, j, hx, rb, g1, by rw [← r1.length]; exact e2, ?_⟩
          exact q _ (Ext.write sm (List.mem_of_getElem? f1)) (sm.write f1 (r1.set j rc))
        · cases e
      · cases e
    · rename_i l e1
      split at e
      · rename_i k ek
        split at e
        · rename_i hm
          cases e
          obtain ⟨ad, kvs, f1, g1, r1⟩ := sm.dctR e1
          obtain ⟨b1, hx, q1⟩ := ra
          rw [f1] at q1
          cases q1
          have hi := key_rel rb ek
          subst hx hi
          obtain rfl : ov = Value.ref ad := ro
          exact d_setItem hu I (DPut.k g1 (by rw [← r1.length]; exact line_lt hm)) ri rv fun s4 I4 => ⟨_, I4, q _ (Ext.write sm (List.mem_of_getElem? f1)) (sm.writeD f1 (r1.put k rc))⟩
        · cases e
      · cases e
    · cases e
  · cases e
theorem tru_of {K : ZZ} {φ : List Addr} {h : PH} {H : Hp} {a : PV} {x : V} {b : Bool} (sm : Sim K φ h H) (r : RV K φ H a x) (e : truthy h a = some b) : TruV K.K x H b := by
  cases a with
  | non => rw [show x = .non from r]; cases e; rfl
  | bl c => rw [show x = .bl c from r]; cases e; rfl
  | int i => rw [show x = .int i from r]; cases e; rfl
  | str z =>
    rw [show x = .str z from r]
    simp only [truthy] at e
    split at e
    · rename_i hm
      cases e
      refine ⟨line_ok hm, ?_⟩
      by_cases q : 0 < z.length
      · rw [decide_eq_true q]
        exact (by simp; omega)
      · rw [decide_eq_false q]
        have : z.length = 0 := by omega
        rw [this]
        rfl
    · cases e
  | ty t => cases e
  | cls t => cases e
  | xc t ns vs => cases e
  | ste l => cases e
  | tup l =>
    obtain ⟨ad, vs, e1, q, r'⟩ := r
    cases e
    subst e1
    refine .inr (.inl ⟨vs, q.sq, ?_⟩)
    cases l with
    | nil => rw [show vs = [] from r']; rfl
    | cons p l => obtain ⟨v, t, e2, _⟩ := r'; rw [e2]; rfl
  | cl l =>
    obtain ⟨ad, vs, e1, q, r'⟩ := r
    cases e
    subst e1
    refine .inl ⟨vs, q.sq, ?_⟩
    cases l with
    | nil => rw [show vs = [] from r']; rfl
    | cons p l => obtain ⟨v, t, e2, _⟩ := r'; rw [e2]; rfl
  | ref n =>
    obtain ⟨ad, e1, q⟩ := r
    subst e1
    unfold truthy at e
    cases z : h[n]? with
    | none => simp only [z] at e; cases e
    | some o =>
      cases o with
      | lst l =>
        simp only [z] at e
        cases e
        obtain ⟨a', vs, e4, e5, r'⟩ := sm.lst z
        rw [q] at e4
        cases e4
        refine .inl ⟨vs, SqL.of e5, ?_⟩
        cases l with
        | nil => rw [show vs = [] from r']; rfl
        | cons p l => obtain ⟨v, t, e2, _⟩ := r'; rw [e2]; rfl
      | dct l =>
        simp only [z] at e
        cases e
        obtain ⟨a', kvs, e4, e5, ek, r'⟩ := sm.dct z
        rw [q] at e4
        cases e4
        refine .inr (.inr ⟨kvs, e5, ?_⟩)
        cases l with
        | nil => rw [show kvs = [] from List.map_eq_nil_iff.mp ek]; rfl
        | cons p l =>
          cases kvs with
          | nil => cases ek
          | cons x y => rfl
      | obj c l => simp only [z] at e; cases e
end
end
end Sb
set_option Elab.async false
set_option linter.all false
set_option maxRecDepth 100000
set_option maxHeartbeats 4000000
namespace Sb
open PySem PySem.Spec PyProof.Rows L2
def rCa (K : ZZ) (mg : Str → Option Value) (W : XK) (f : List PV → PH → R PV) : List V → Hp → VK → Prop := fun vs H Q => ∃ φ h ps, Sim K φ h H ∧ RVs K φ H ps vs ∧ Out K mg (RV K) φ H W Q (f ps h)
theorem RVs.one {K : ZZ} {φ : List Addr} {H : Hp} {p : PV} {vs : List V} (r : RVs K φ H [p] vs) : ∃ v, vs = [v] ∧ RV K φ H p v := by
  obtain ⟨v, t, e, q, s⟩ := r
  have : t = [] := s
  subst this
  exact ⟨v, e, q⟩
theorem RVs.two {K : ZZ} {φ : List Addr} {H : Hp} {p q : PV} {vs : List V} (r : RVs K φ H [p, q] vs) : ∃ v w, vs = [v, w] ∧ RV K φ H p v ∧ RV K φ H q w := by
  obtain ⟨v, t, e, q, s⟩ := r
  obtain ⟨w, e2, q2⟩ := RVs.one s
  subst e2
  exact ⟨v, w, e, q, q2⟩
theorem kit_all (s t : Ty) : kitB s.nm t.nm = some (isTy s t) := by
  cases s <;> cases t <;> decide +kernel
theorem tyx_of {K : ZZ} {φ : List Addr} {h : PH} {H : Hp} {a : PV} {x : V} {t : Ty} (sm : Sim K φ h H) (r : RV K φ H a x) (e : tyOf h a = some t) : TyX K.K H x (.type t.nm) := by
  cases a with
  | non => rw [show x = .non from r]; cases e; exact .base .non
  | bl c => rw [show x = .bl c from r]; cases e; exact .base (.bl c)
  | int i => rw [show x = .int i from r]; cases e; exact .base (.int i)
  | str z => rw [show x = .str z from r]; cases e; exact .base (.str z)
  | ty t => cases e
  | cls t => cases e
  | xc t ns vs => cases e
  | ste l => cases e
  | tup l =>
    obtain ⟨ad, vs, e1, q, r'⟩ := r
    cases e
    subst e1
    rcases q with ⟨q | ⟨o, q⟩, _⟩ | ⟨o, its, n, q1, q2, _⟩
    · exact .base (.tup q)
    · exact .fTuple q
    · exact .kTuple q1 q2
  | cl l =>
    obtain ⟨ad, vs, e1, q, r'⟩ := r
    cases e
    subst e1
    rcases q with ⟨⟨o, q⟩, _⟩ | ⟨o, its, n, q1, q2, _⟩
    · exact .base (.frz q)
    · exact .kList q1 q2
  | ref n =>
    obtain ⟨ad, e1, q⟩ := r
    subst e1
    unfold tyOf at e
    cases z : h[n]? with
    | none => simp only [z] at e; cases e
    | some o =>
      cases o with
      | lst l =>
        simp only [z] at e
        cases e
        obtain ⟨a', vs, e4, e5, r'⟩ := sm.lst z
        rw [q] at e4
        cases e4
        exact .base (.lst e5)
      | dct l =>
        simp only [z] at e
        cases e
        obtain ⟨a', kvs, e4, e5, ek, r'⟩ := sm.dct z
        rw [q] at e4
        cases e4
        exact .base (.dK e5)
      | obj c l => simp only [z] at e; cases e
theorem bools_rel {K : ZZ} {φ : List Addr} {H : Hp} : ∀ {l : List PV} {vs : List V} {bs : List Bool}, RVs K φ H l vs → boolsOf l = some bs → vs = bs.map V.bl
  | [], vs, bs, r, e => by
    have : vs = [] := r
    subst this
    cases e
    rfl
  | p :: l, vs, bs, r, e => by
    obtain ⟨v, t, e1, q, s⟩ := r
    cases p with
    | bl b =>
      obtain ⟨bs', e2, e3⟩ := Option.map_eq_some_iff.mp (show (boolsOf l).map (b :: ·) = some bs from e)
      rw [← e3, e1, bools_rel s e2, show v = .bl b from q]
      rfl
    | _ => cases e
theorem tys_rel {K : ZZ} {φ : List Addr} {H : Hp} : ∀ {l : List PV} {vs : List V} {ts : List Ty}, RVs K φ H l vs → tysOf l = some ts → Paired ClsV vs (ts.map fun t => Value.type t.nm)
  | [], vs, bs, r, e => by
    have : vs = [] := r
    subst this
    cases e
    exact .nil
  | p :: l, vs, bs, r, e => by
    obtain ⟨v, t, e1, q, s⟩ := r
    cases p with
    | ty b =>
      obtain ⟨bs', e2, e3⟩ := Option.map_eq_some_iff.mp (show (tysOf l).map (b :: ·) = some bs from e)
      rw [← e3, e1, show v = .ty b.nm from q]
      exact .cons (.ty b.nm) (tys_rel s e2)
    | _ => cases e
theorem kit_any {K : PySem.W.Frag} (s : Ty) : ∀ ts : List Ty, PySem.W.kitAny K (.type s.nm) (ts.map fun t => Value.type t.nm) = some (ts.any (isTy s))
  | [] => kitAny_nil
  | t :: ts => by
    rw [List.map_cons, List.any_cons]
    refine kitAny_cons (b := isTy s t) (kit_ty (kit_all s t)) (fun e => ?_) fun e => ?_
    · rw [e, Bool.false_or]
      exact kit_any s ts
    · rw [e]
      rfl
section
variable {X : Cx} {W : XK}
theorem bi_abs : CallR X (.builtin "abs") (rCa (zOf X) X.mg W biAbs) := by
  intro pins s σ H vs us Q I rv hh
  obtain ⟨φ, h, ps, sm, r, o⟩ := hh
  unfold biAbs at o
  split at o
  · rename_i i
    obtain ⟨v, e, q⟩ := r.one
    subst e
    exact call_abs pins s σ H _ us Q I rv ⟨i, by rw [show v = .int i from q], o.at sm rfl⟩
  · exact o.elim
theorem bi_len : CallR X (.builtin "len") (rCa (zOf X) X.mg W biLen) := by
  intro pins s σ H vs us Q I rv hh
  obtain ⟨φ, h, ps, sm, r, o⟩ := hh
  unfold biLen at o
  split at o
  · rename_i z
    obtain ⟨v, e, q⟩ := r.one
    subst e
    split at o
    · rename_i hm
      exact call_len pins s σ H _ us Q I rv ⟨v, z.length, rfl, by rw [show v = .str z from q]; exact ⟨line_ok hm, rfl⟩, o.at sm rfl⟩
    · exact o.elim
  · rename_i n
    obtain ⟨v, e, q⟩ := r.one
    subst e
    split at o
    · rename_i l e1
      obtain ⟨ad, vs, hx, hq, r'⟩ := sm.listV (l := l) q (by simp only [listOf, e1])
      refine call_len_seq pins s σ H _ us Q I rv ⟨ad, vs, by rw [hx], .inl hq, ?_⟩
      rw [← r'.length]
      exact o.at sm rfl
    · rename_i l e1
      obtain ⟨ad, hx, qq⟩ := q
      obtain ⟨a', kvs, e4, e5, r'⟩ := sm.dctR e1
      rw [qq] at e4
      cases e4
      refine call_lenD pins s σ H _ us Q I rv ⟨ad, kvs, by rw [hx], e5, ?_⟩
      rw [← r'.length]
      exact o.at sm rfl
    · exact o.elim
  · rename_i l
    obtain ⟨v, e, q⟩ := r.one
    subst e
    obtain ⟨ad, vs, hx, hq, r'⟩ := q
    refine call_len_seq pins s σ H _ us Q I rv ⟨ad, vs, by rw [hx], .inr hq.sq, ?_⟩
    rw [← r'.length]
    exact o.at sm rfl
  · rename_i l
    obtain ⟨v, e, q⟩ := r.one
    subst e
    obtain ⟨ad, vs, hx, hq, r'⟩ := q
    refine call_len_seq pins s σ H _ us Q I rv ⟨ad, vs, by rw [hx], .inl hq.sq, ?_⟩
    rw [← r'.length]
    exact o.at sm rfl
  · exact o.elim
theorem bi_all (hc : X.calm = true) : CallR X (.builtin "all") (rCa (zOf X) X.mg W biAll) := by
  intro pins s σ H vs us Q I rv hh
  obtain ⟨φ, h, ps, sm, r, o⟩ := hh
  unfold biAll at o
  split at o
  · obtain ⟨v, e, q⟩ := r.one
    subst e
    split at o
    · rename_i bs e1
      obtain ⟨l, e2, e3⟩ := Option.bind_eq_some_iff.mp e1
      obtain ⟨ad, vs, hx, hq, r'⟩ := sm.listV q e2
      rw [bools_rel r' e3] at hq
      exact cr_all hc pins s σ H _ us Q I rv ⟨ad, bs, by rw [hx], hq, o.at sm rfl⟩
    · exact o.elim
  · exact o.elim
theorem bi_isinst : CallR X (.builtin "isinstance") (rCa (zOf X) X.mg W biIsinst) := by
  intro pins s σ H vs us Q I rv hh
  obtain ⟨φ, h, ps, sm, r, o⟩ := hh
  unfold biIsinst at o
  split at o
  · rename_i a t
    obtain ⟨v, w, e, q, q2⟩ := r.two
    subst e
    split at o
    · rename_i ts e1
      exact call_isi pins s σ H _ us Q I rv ⟨v, .ty t.nm, _, _, _, by rw [show w = .ty t.nm from q2], .ty t.nm, tyx_of sm q e1, kit_ty (kit_all ts t), o.at sm rfl⟩
    · exact o.elim
  · rename_i a l
    obtain ⟨v, w, e, q, q2⟩ := r.two
    subst e
    split at o
    · rename_i ts tl e1 e2
      obtain ⟨ad, vs, hx, hq, r'⟩ := q2
      subst hx
      rcases hq with ⟨hq | ⟨ob, hq⟩, _⟩ | hq
      · exact call_isiT pins s σ H _ us Q I rv ⟨v, ad, vs, _, _, _, rfl, hq, tys_rel r' e2, tyx_of sm q e1, kit_any ts tl, o.at sm rfl⟩
      · exact isiF pins s σ H _ us Q I rv ⟨v, ad, ob, vs, _, _, _, rfl, hq, tys_rel r' e2, tyx_of sm q e1, kit_any ts tl, o.at sm rfl⟩
      · exact isiKT pins s σ H _ us Q I rv ⟨v, ad, vs, _, _, _, rfl, hq, tys_rel r' e2, tyx_of sm q e1, kit_any ts tl, o.at sm rfl⟩
    · exact o.elim
  · exact o.elim
where
  isiF : CallR X (.builtin "isinstance") (fun xs H Q => ∃ (x : V) (tp : Addr) (ob : Obj) (cs : List V) (t : Value) (us : List Value) (b : Bool), xs = [x, .ref tp] ∧ H tp = some (.frz ob (.tup cs)) ∧ Paired ClsV cs us ∧ TyX X.K H x t ∧ PySem.W.kitAny X.K t us = some b ∧ Q (.bl b) H) := by
    intro pins s σ H xs us Q I r h
    obtain ⟨x, tp, ob, cs, t, ws, b, rfl, hT, k, ty, e, q⟩ := h
    obtain ⟨u1, u2, rfl, r1, r2⟩ := vals2 r
    cases (show u2 = Value.ref tp from r2)
    obtain ⟨P, Z, p, hx⟩ := kit_of I r1 ty
    obtain ⟨_, _, its, rv, o, h1, h2, n, h3⟩ := (show ObjOk X.prog X.w H s.heap tp (.frz ob (.tup cs)) from I.hok tp _ hT)
    have e3 := ClsV.all k rv
    subst e3
    obtain ⟨oc, od, dt, sl⟩ := o
    simp only at h2 h3
    subst h2 h3
    exact PySem.W.kia_tup Z I.kIn p h1 e hx fun tk => ⟨.bl b, H, I.tok tk, rfl, q⟩
  isiKT : CallR X (.builtin "isinstance") (fun xs H Q => ∃ (x : V) (tp : Addr) (cs : List V) (t : Value) (us : List Value) (b : Bool), xs = [x, .ref tp] ∧ KT X.K tp cs ∧ Paired ClsV cs us ∧ TyX X.K H x t ∧ PySem.W.kitAny X.K t us = some b ∧ Q (.bl b) H) := by
    intro pins s σ H xs us Q I r h
    obtain ⟨x, tp, cs, t, ws, b, rfl, ⟨o, its, n, h1, h2, h3, hz, rv⟩, k, ty, e, q⟩ := h
    obtain ⟨u1, u2, rfl, r1, r2⟩ := vals2 r
    cases (show u2 = Value.ref tp from r2)
    obtain ⟨P, Z, p, hx⟩ := kit_of I r1 ty
    have e3 := ClsV.all k rv
    obtain ⟨oc, od, dt, sl⟩ := o
    simp only at h2 h3
    subst h2 h3
    have e4 : its = ws.toArray := by rw [← e3]
    subst e4
    exact PySem.W.kia_tup Z I.kIn p (I.kIn _ _ h1) e hx fun tk => ⟨.bl b, H, I.tok tk, rfl, q⟩
theorem bi_tuple : CallR X (.type "tuple") (rCa (zOf X) X.mg W biTuple) := by
  intro pins s σ H vs us Q I rv hh
  obtain ⟨φ, h, ps, sm, r, o⟩ := hh
  unfold biTuple at o
  split at o
  · rename_i l
    obtain ⟨v, e, q⟩ := r.one
    subst e
    obtain ⟨ad, vs, hx, hq, r'⟩ := id q
    exact call_tuple_of pins s σ H _ us Q I rv ⟨ad, vs, by rw [hx], .inr ⟨hq.sq, o.at sm ⟨ad, vs, rfl, hq, r'⟩⟩⟩
  · obtain ⟨v, e, q⟩ := r.one
    subst e
    split at o
    · rename_i l e1
      obtain ⟨ad, vs, hx, hq, r'⟩ := sm.listV q e1
      exact call_tuple_of pins s σ H _ us Q I rv ⟨ad, vs, by rw [hx], .inl ⟨hq, o.tupn sm r'⟩⟩
    · exact o.elim
  · exact o.elim
theorem ints_rv {K : ZZ} {φ : List Addr} {H : Hp} : ∀ xs : List Int, RVs K φ H (xs.map PV.int) (xs.map V.int)
  | [] => rfl
  | x :: xs => RVs.cons rfl (ints_rv xs)
theorem leStr_iff {x y : Str} : leStr x y = true ↔ ¬ y.cps.toList < x.cps.toList := by
  unfold leStr ltStr
  simp
theorem leStr_trans (a b c : Str) (h1 : leStr a b = true) (h2 : leStr b c = true) : leStr a c = true := by
  rw [leStr_iff] at h1 h2 ⊢
  rw [List.not_lt] at h1 h2 ⊢
  exact List.le_trans h1 h2
theorem leStr_total (a b : Str) : (leStr a b || leStr b a) = true := by
  rw [Bool.or_eq_true, leStr_iff, leStr_iff, List.not_lt, List.not_lt]
  exact List.le_total _ _
theorem leStr_anti {a b : Str} (h1 : leStr a b = true) (h2 : leStr b a = true) : a = b := by
  rw [leStr_iff, List.not_lt] at h1 h2
  have e : a.cps.toList = b.cps.toList := List.le_antisymm h1 h2
  cases a with
  | mk x =>
    cases b with
    | mk y => exact congrArg Str.mk (Array.toList_inj.mp e)
theorem vals1' {x : V} {us : List Value} (r : Vals [x] us) : ∃ u, us = [u] ∧ RelV x u := by
  cases r with
  | cons r1 r2 =>
    cases r2
    exact ⟨_, rfl, r1⟩
def rMt (K : ZZ) (mg : Str → Option Value) (W : XK) (f : PV → List PV → PH → R PV) : V → List V → Hp → VK → Prop := fun x vs H Q => ∃ φ h p ps, Sim K φ h H ∧ RV K φ H p x ∧ RVs K φ H ps vs ∧ Out K mg (RV K) φ H W Q (f p ps h)
theorem mt_append_ok : MtR X "list.append" (rMt (zOf X) X.mg W mtAppend) := by
  intro pins s σ H x xs v us Q I rx rs hh
  obtain ⟨φ, h, p, ps, sm, r, r2, o⟩ := hh
  unfold mtAppend at o
  split at o
  · rename_i n a
    split at o
    · rename_i l e1
      split at o
      · rename_i hm
        obtain ⟨ad, vs, f1, g1, r1⟩ := sm.lst e1
        obtain ⟨b1, hx, q1⟩ := r
        rw [f1] at q1
        cases q1
        obtain ⟨w, e, q⟩ := r2.one
        subst e
        refine mt_append pins s σ H x _ v us Q I rx rs ⟨ad, vs, w, hx, rfl, g1, by rw [← r1.length]; exact line_lt hm, ?_⟩
        exact o φ _ _ (Ext.write sm (List.mem_of_getElem? f1)) (sm.write f1 (r1.append (RVs.cons q RVs.nil))) rfl
      · exact o.elim
    · exact o.elim
  · exact o.elim
theorem mt_popAt_ok : MtR X "list.pop" (rMt (zOf X) X.mg W mtPopAt) := by
  intro pins s σ H x xs v us Q I rx rs hh
  obtain ⟨φ, h, p, ps, sm, r, r2, o⟩ := hh
  unfold mtPopAt at o
  split at o
  · rename_i n i
    split at o
    · rename_i l e1
      split at o
      · rename_i hm
        split at o
        · rename_i w e2
          obtain ⟨ad, vs, f1, g1, r1⟩ := sm.lst e1
          obtain ⟨b1, hx, q1⟩ := r
          rw [f1] at q1
          cases q1
          obtain ⟨z, e, q⟩ := r2.one
          subst e
          obtain ⟨y, e3, ry⟩ := r1.get e2
          have hlt : i.toNat < vs.length := (List.getElem?_eq_some_iff.mp e3).1
          have hz : vs.length ≤ sizeLine := by
            obtain ⟨hz, _⟩ := (show ObjOk X.prog X.w H s.heap ad (.lst vs) from I.hok ad _ g1)
            exact hz
          have hs := sizeLine_eq
          refine mt_popAt pins s σ H x _ v us Q I rx rs ⟨ad, vs, i, i.toNat, y, hx, by rw [show z = .int i from q], g1, by omega, by omega, PySem.StrLaws.seqIndex_nonneg hm (by omega), e3, ?_⟩
          exact o φ _ _ (Ext.write sm (List.mem_of_getElem? f1)) (sm.write f1 (r1.erase i.toNat)) (ry.mono (Ext.write sm (List.mem_of_getElem? f1)))
        · exact o.elim
      · exact o.elim
    · exact o.elim
  · exact o.elim
theorem vals2' {x y : V} {us : List Value} (r : Vals [x, y] us) : ∃ u w, us = [u, w] ∧ RelV x u ∧ RelV y w := by
  cases r with
  | cons r1 r2 =>
    cases r2 with
    | cons r3 r4 =>
      cases r4
      exact ⟨_, _, rfl, r1, r3⟩
theorem mt_get1_ok (hu : X.A.units + 1 < cLine) : MtR X "dict.get" (rMt (zOf X) X.mg W mtGet1) := by
  intro pins s σ H x xs v us Q I rx rs hh
  obtain ⟨φ, h, p, ps, sm, r, r2, o⟩ := hh
  unfold mtGet1 at o
  split at o
  · rename_i n a
    split at o
    · rename_i l k e1 ek
      obtain ⟨w, e, q⟩ := r2.one
      subst e
      obtain ⟨ad, hx, qq⟩ := r
      obtain ⟨a', kvs, e4, e5, r'⟩ := sm.dctR e1
      rw [qq] at e4
      cases e4
      have hk := key_rel q ek
      subst hx hk
      obtain rfl : v = Value.ref ad := rx
      obtain ⟨u, eu, ru⟩ := vals1' rs
      subst eu
      refine d_get1 hu I (DGet.k e5) ru fun w' s3 I3 rw' => ⟨_, H, I3, rw', ?_⟩
      rcases r'.val k with ⟨h1, h2⟩ | ⟨p', v', h1, h2, h3⟩
      · rw [h1] at o
        rw [h2]
        exact o.at sm rfl
      · rw [h1] at o
        rw [h2]
        exact o.at sm h3
    · exact o.elim
  · exact o.elim
theorem mt_get2_ok (hu : X.A.units + 1 < cLine) : MtR X "dict.get" (rMt (zOf X) X.mg W mtGet2) := by
  intro pins s σ H x xs v us Q I rx rs hh
  obtain ⟨φ, h, p, ps, sm, r, r2, o⟩ := hh
  unfold mtGet2 at o
  split at o
  · rename_i n a d
    split at o
    · rename_i l k e1 ek
      obtain ⟨w, w2, e, q, q2⟩ := r2.two
      subst e
      obtain ⟨ad, hx, qq⟩ := r
      obtain ⟨a', kvs, e4, e5, r'⟩ := sm.dctR e1
      rw [qq] at e4
      cases e4
      have hk := key_rel q ek
      subst hx hk
      obtain rfl : v = Value.ref ad := rx
      obtain ⟨u, u2, eu, ru, ru2⟩ := vals2' rs
      subst eu
      refine d_get2 hu I (DGet.k e5) ru ru2 fun w' s3 I3 rw' => ⟨_, H, I3, rw', ?_⟩
      rcases r'.val k with ⟨h1, h2⟩ | ⟨p', v', h1, h2, h3⟩
      · rw [h1] at o
        rw [h2]
        exact o.at sm q2
      · rw [h1] at o
        rw [h2]
        exact o.at sm h3
    · exact o.elim
  · exact o.elim
theorem mt_setd_ok : MtR X "dict.setdefault" (rMt (zOf X) X.mg W mtSetd) := by
  intro pins s σ H x xs v us Q I rx rs hh
  obtain ⟨φ, h, p, ps, sm, r, r2, o⟩ := hh
  unfold mtSetd at o
  split at o
  · rename_i n a d
    split at o
    · rename_i l k e1 ek
      split at o
      · rename_i hm
        obtain ⟨w, w2, e, q, q2⟩ := r2.two
        subst e
        obtain ⟨ad, hx, qq⟩ := r
        obtain ⟨a', kvs, e4, e5, r'⟩ := sm.dctR e1
        rw [qq] at e4
        cases e4
        have hk := key_rel q ek
        subst hx hk
        obtain rfl : v = Value.ref ad := rx
        obtain ⟨u, u2, eu, ru, ru2⟩ := vals2' rs
        subst eu
        have xw := Ext.write (o := HO.dK (putK kvs k w2)) sm (List.mem_of_getElem? qq)
        refine d_setd I e5 ru ru2 (by rw [← r'.length]; exact line_lt hm) (fun v0 hv w' s3 I3 rw' => ⟨v0, H, I3, rw', ?_⟩) fun hn w' s3 I3 rw' => ⟨w2, _, I3, rw', ?_⟩
        · rcases r'.val k with ⟨h1, h2⟩ | ⟨p', v', h1, h2, h3⟩
          · rw [h2] at hv
            cases hv
          · rw [h2] at hv
            cases hv
            rw [h1] at o
            exact o.at sm h3
        · rcases r'.val k with ⟨h1, h2⟩ | ⟨p', v', h1, h2, h3⟩
          · rw [h1] at o
            exact o φ _ _ xw (sm.writeD qq (r'.put k q2)) (q2.mono xw)
          · rw [h2] at hn
            cases hn
      · exact o.elim
    · exact o.elim
  · exact o.elim
end
end Sb
set_option Elab.async false
set_option linter.all false
set_option maxRecDepth 100000
set_option maxHeartbeats 4000000
namespace Sb
open PySem PySem.Spec L2
/-- nothing is let out -/
theorem takesN0 {X : Cx} : L2N.Takes X (fun _ _ _ _ => False) := fun _ _ x => by
  obtain ⟨_, _, _, _, _, _, _, _, _, _, _, _, _, _, _, _, z⟩ := x
  exact z.elim
/-- what is wanted of an exception at these slots -/
abbrev atS (W : WX) (σ : St) : XK := fun c d H => W c d σ H
def tE (K : ZZ) (mg : Str → Option Value) (W : WX) (C : Calls) (e : E) : TE := fun σ H Q => ∃ ρ φ h, Sim K φ h H ∧ RE K φ H ρ σ ∧ Out K mg (RV K) φ H (atS W σ) Q (evG C e false ρ h)
def tT (K : ZZ) (mg : Str → Option Value) (W : WX) (C : Calls) (e : E) : TT := fun σ H Q => ∃ ρ φ h, Sim K φ h H ∧ RE K φ H ρ σ ∧ Out K mg RI φ H (atS W σ) Q (evT C e ρ h)
def tAs (K : ZZ) (mg : Str → Option Value) (W : WX) (C : Calls) (es : List E) : TA := fun σ H Q => ∃ ρ φ h, Sim K φ h H ∧ RE K φ H ρ σ ∧ Out K mg (RVs K) φ H (atS W σ) Q (evGs C es ρ h)
/-- the program's expression a is the plain expression e -/
abbrev JE (X : Cx) (W : WX) (C : Calls) (a : Expr) (e : E) : Prop := PE X a (tE (zOf X) X.mg W C e)
abbrev JT (X : Cx) (W : WX) (C : Calls) (a : Expr) (e : E) : Prop := PT X a (tT (zOf X) X.mg W C e)
abbrev JA (X : Cx) (W : WX) (C : Calls) (as : List Expr) (es : List E) : Prop := PA X as (tAs (zOf X) X.mg W C es)
theorem pe_imp {X : Cx} {a : Expr} {t t' : TE} (p : PE X a t) (f : ∀ σ H Q, t' σ H Q → t σ H Q) : PE X a t' := ⟨fun pins s σ H Q I h => p.run pins s σ H Q I (f σ H Q h)⟩
theorem pt_imp {X : Cx} {a : Expr} {t t' : TT} (p : PT X a t) (f : ∀ σ H Q, t' σ H Q → t σ H Q) : PT X a t' := ⟨fun pins s σ H Q I h => p.run pins s σ H Q I (f σ H Q h)⟩
theorem pa_imp {X : Cx} {a : List Expr} {t t' : TA} (p : PA X a t) (f : ∀ σ H Q, t' σ H Q → t σ H Q) : PA X a t' := ⟨fun pos pins s σ H Q I h => p.run pos pins s σ H Q I (f σ H Q h)⟩
section
variable {X : Cx} {W : WX} {C : Calls} {a b c : Expr} {pos : Pos} {ea eb ec : E}
theorem je_var (i : Nat) {x : Str} (hN : X.N[i]? = some x := by rfl) (hv : Vis X.env.scope x := by first | exact Or.inl rfl | exact Or.inr (Or.inl rfl) | exact Or.inr (Or.inr rfl)) (hd : (x == ("__debug__" : Str)) = false := by decide)
    (hcd : (x == ("__classdict__" : Str)) = false := by decide) : JE X W C (.Name x pos) (.var i) := pe_imp (pe_var hN hv hd hcd) fun σ H Q ⟨ρ, φ, h, sm, re, o⟩ => by
  have o' : Out (zOf X) X.mg (RV (zOf X)) φ H (atS W σ) Q (ofO (ρ.get i) h) := o
  obtain ⟨p, e, q⟩ := o'.some
  have e' : ρ[i]? = some (some p) := by
    unfold Env.get at e
    split at e
    · rename_i v e2
      rw [e2, Option.some.inj e]
    · cases e
  obtain ⟨v, e3, r⟩ := re.get e'
  exact ⟨v, e3, q.at sm r⟩
theorem je_lit {a : Expr} {v : V} {p : PV} (hp : PE X a (tC v)) (r : ∀ φ H, RV (zOf X) φ H p v) : JE X W C a (.lit p) := pe_imp hp fun σ H Q ⟨ρ, φ, h, sm, re, o⟩ => by
  have o' : Out (zOf X) X.mg (RV (zOf X)) φ H (atS W σ) Q (.ok p h) := o
  exact o'.at sm (r φ H)
theorem je_int {i : Int} {j : Nat} : JE X W C (.Constant (.int i) j pos) (.lit (.int i)) := je_lit pe_int fun _ _ => rfl
theorem je_bl {i : Bool} {j : Nat} : JE X W C (.Constant (.bool i) j pos) (.lit (.bl i)) := je_lit pe_bl fun _ _ => rfl
theorem je_non {j : Nat} : JE X W C (.Constant .none j pos) (.lit .non) := je_lit pe_non fun _ _ => rfl
theorem je_str {i : Str} {j : Nat} : JE X W C (.Constant (.str i) j pos) (.lit (.str i)) := je_lit pe_str fun _ _ => rfl
/-- a built-in class by its name -/
theorem je_ty {x : Str} (t : Ty) (hm : X.mg x = none) (hv : bootBuiltins x = some (.type t.nm)) (hg : Gl X x := by rfl) (hn : x ≠ "__name__" := by decide) (hd : (x == ("__debug__" : Str)) = false := by decide) : JE X W C (.Name x pos) (.lit (.ty t)) :=
  je_lit (pe_bltn (v := .ty t.nm) hg hm hv rfl hn hd) fun _ _ => rfl
/-- a constant of the module -/
theorem je_glob {x : Str} {v : V} {u : Value} {p : PV} (hm : X.mg x = some u) (ru : RelV v u) (r : ∀ φ H, RV (zOf X) φ H p v) (hg : Gl X x := by rfl) (hd : (x == ("__debug__" : Str)) = false := by decide) : JE X W C (.Name x pos) (.lit p) := je_lit (pe_glob hg hm ru hd) r
/-- two, one after another -/
theorem two_of {σ : St} {H : Hp} {Q : VK} {ρ : Env} {φ : List Addr} {h : PH} {f : PV → PV → PH → R PV} (sm : Sim (zOf X) φ h H) (re : RE (zOf X) φ H ρ σ) (o : Out (zOf X) X.mg (RV (zOf X)) φ H (atS W σ) Q ((evG C ea false ρ h).bind fun x h1 => (evG C eb false ρ h1).bind fun y h2 => f x y h2)) :
    tOp (fun x y H Q => ∃ W' : XK, rOp (zOf X) X.mg W' f x y H Q) (tE (zOf X) X.mg W C ea) (tE (zOf X) X.mg W C eb) σ H Q :=
  ⟨ρ, φ, h, sm, re, (Out.bind (rel2 := RV (zOf X)) o).imp fun x H1 ⟨φ1, va, h1, x1, s1, r1, o1⟩ => ⟨ρ, φ1, h1, s1, re.mono x1, (Out.bind (rel2 := RV (zOf X)) o1).imp fun y H2 ⟨φ2, vb, h2, x2, s2, r2, o2⟩ => ⟨_, φ2, h2, va, vb, s2, r1.mono x2, r2, o2⟩⟩⟩
theorem opr_any {f : Value → Value → Sem Value} {r : XK → R2} (h : ∀ W, OpR X f (r W)) : OpR X f (fun x y H Q => ∃ W, r W x y H Q) := fun pins s σ H x y v u Q I rx ry ⟨W, q⟩ => h W pins s σ H x y v u Q I rx ry q
theorem ixr_any {r : XK → R2} (h : ∀ W, IxR X (r W)) : IxR X (fun x y H Q => ∃ W, r W x y H Q) := fun value slice pins s σ H x y v u Q I rx ry ⟨W, q⟩ hs => h W value slice pins s σ H x y v u Q I rx ry q hs
theorem je_bin {op : Operator} (ha : JE X W C a ea) (hb : JE X W C b eb) : JE X W C (.BinOp a op b pos) (.bin op ea eb) :=
  pe_imp (pe_op (opr_any fun W' => bin_ok (W := W') op) ha hb) fun σ H Q ⟨ρ, φ, h, sm, re, o⟩ => two_of sm re o
theorem je_cmp {op : CmpOp} (hu : X.A.units + 66 < cLine) (ha : JE X W C a ea) (hb : JE X W C b eb) (hm : behindInMarks op b = false := by rfl) : JE X W C (.Compare a [op] [b] pos) (.cmp op ea eb) :=
  pe_imp (pe_cmpR (opr_any fun W' => cmp_ok (W := W') hu op) ha hb hm) fun σ H Q ⟨ρ, φ, h, sm, re, o⟩ => two_of sm re o
theorem je_idx (hu : X.A.units + 66 < cLine) (ha : JE X W C a ea) (hb : JE X W C b eb) (hs : PlainIx b := by exact fun _ _ => rfl) : JE X W C (.Subscript a b pos) (.idx ea eb) :=
  pe_imp (pe_ix (ixr_any fun W' => ix_ok (W := W') (by omega)) ha hb hs) fun σ H Q ⟨ρ, φ, h, sm, re, o⟩ => two_of sm re o
theorem je_neg (ha : JE X W C a ea) : JE X W C (.UnaryOp .USub a pos) (.neg ea) := pe_imp (pe_un un_neg ha) fun σ H Q ⟨ρ, φ, h, sm, re, o⟩ =>
  ⟨ρ, φ, h, sm, re, (Out.bind (rel2 := RV (zOf X)) (show Out (zOf X) X.mg (RV (zOf X)) φ H (atS W σ) Q ((evG C ea false ρ h).bind _) from o)).imp fun x H1 ⟨φ1, va, h1, x1, s1, r1, o1⟩ => by
    cases va with
    | int i => exact ⟨i, r1, o1.at s1 rfl⟩
    | _ => exact (show False from o1).elim⟩
theorem je_not (ha : JE X W C a ea) : JE X W C (.UnaryOp .Not a pos) (.nt ea) := pe_imp (pe_not ha) fun σ H Q ⟨ρ, φ, h, sm, re, o⟩ =>
  ⟨ρ, φ, h, sm, re, (Out.bind (rel2 := RV (zOf X)) (show Out (zOf X) X.mg (RV (zOf X)) φ H (atS W σ) Q ((evG C ea false ρ h).bind _) from o)).imp fun x H1 ⟨φ1, va, h1, x1, s1, r1, o1⟩ => by
    cases va with
    | bl i => exact ⟨i, r1, o1.at s1 rfl⟩
    | _ => exact (show False from o1).elim⟩
/-- a and b (and ..): the rest of the list -/
theorem je_one {op : BoolOp} (ha : JE X W C a ea) : JE X W C (.BoolOp op [a] pos) ea := pe_one ha
theorem je_and {rest : List Expr} (ha : JE X W C a ea) (hb : JE X W C (.BoolOp .And (b :: rest) pos) eb) : JE X W C (.BoolOp .And (a :: b :: rest) pos) (.band ea eb) := pe_imp (pe_and ha hb) fun σ H Q ⟨ρ, φ, h, sm, re, o⟩ =>
  ⟨ρ, φ, h, sm, re, (Out.bind (rel2 := RV (zOf X)) (show Out (zOf X) X.mg (RV (zOf X)) φ H (atS W σ) Q ((evG C ea false ρ h).bind _) from o)).imp fun x H1 ⟨φ1, va, h1, x1, s1, r1, o1⟩ => by
    cases va with
    | bl i =>
      refine ⟨i, r1, ?_⟩
      cases i with
      | true => exact ⟨ρ, φ1, h1, s1, re.mono x1, o1⟩
      | false => exact o1.at s1 rfl
    | _ => exact (show False from o1).elim⟩
theorem evT_fin {K : ZZ} {mg : Str → Option Value} {φ : List Addr} {H : Hp} {W : XK} {Q : Bool → Hp → Prop} {m : R PV} (o : Out K mg RI φ H W Q (asB (fin true m))) :
    Out K mg (RV K) φ H W (fun x H' => ∃ k, TruV K.K x H' k ∧ Q k H') m := by
  unfold asB fin at o
  rw [if_pos rfl] at o
  cases m with
  | ok p h =>
    intro φ' H' v x s r
    rw [R.bind_ok] at o
    cases e : truthy h p with
    | none => rw [e] at o; exact (show False from o).elim
    | some k =>
      rw [e] at o
      exact ⟨k, tru_of s r e, (show Out K mg RI φ H W Q (.ok k h) from o) φ' H' k x s rfl⟩
  | ex x h => exact o
  | no => exact o
/-- a test that is a value's truth -/
theorem jt_val (ha : JE X W C a ea) (he : ∀ whole, isTrue a X.env whole = (do let v ← whole; standAt a.pos; holding [v] (PySem.truthy v)) := by intro _; rfl) (hf : ∀ ρ h, evG C ea true ρ h = fin true (evG C ea false ρ h) := by intro _ _; rfl) : JT X W C a ea :=
  pt_imp (pt_truth ha he) fun σ H Q ⟨ρ, φ, h, sm, re, o⟩ => ⟨ρ, φ, h, sm, re, evT_fin (by
    have o' : Out (zOf X) X.mg RI φ H (atS W σ) Q (asB (evG C ea true ρ h)) := o
    rw [hf] at o'
    exact o')⟩
theorem ofO_bl {o : Option Bool} {f : Bool → Bool} {h h' : PH} {p : PV} (e : ofO (o.map fun b => PV.bl (f b)) h = .ok p h') : ∃ k, p = .bl k := by
  cases o with
  | none => cases e
  | some k => cases e; exact ⟨_, rfl⟩
theorem cmp_bool {op : CmpOp} {a b : PV} {h : PH} {p : PV} {h' : PH} (e : cmpop op a b h = .ok p h') : ∃ k, p = .bl k := by
  unfold cmpop at e
  split at e
  all_goals first
    | exact ofO_bl (f := id) e
    | exact ofO_bl (f := fun b => !b) e
    | (cases e; exact ⟨_, rfl⟩)
    | cases e
/-- a comparison as a test -/
theorem jt_cmp {op : CmpOp} (hu : X.A.units + 66 < cLine) (ha : JE X W C a ea) (hb : JE X W C b eb) (hm : behindInMarks op b = false := by rfl) : JT X W C (.Compare a [op] [b] pos) (.cmp op ea eb) :=
  pt_imp (pt_cmpR (opr_any fun W' => cmp_ok (W := W') hu op) ha hb hm) fun σ H Q ⟨ρ, φ, h, sm, re, o⟩ => by
    have o' : Out (zOf X) X.mg RI φ H (atS W σ) Q (asB (fin true ((evG C ea false ρ h).bind fun x h1 => (evG C eb false ρ h1).bind fun y h2 => cmpop op x y h2))) := o
    have key : Out (zOf X) X.mg (RV (zOf X)) φ H (atS W σ) (fun x H' => ∃ k, x = .bl k ∧ Q k H') ((evG C ea false ρ h).bind fun x h1 => (evG C eb false ρ h1).bind fun y h2 => cmpop op x y h2) := by
      generalize hm : ((evG C ea false ρ h).bind fun x h1 => (evG C eb false ρ h1).bind fun y h2 => cmpop op x y h2) = m at o'
      cases m with
      | ok p h' =>
        intro φ' H' v x s r
        have hp : ∃ k, p = .bl k := by
          cases e1 : evG C ea false ρ h with
          | ok va h1 =>
            rw [e1, R.bind_ok] at hm
            cases e2 : evG C eb false ρ h1 with
            | ok vb h2 => rw [e2, R.bind_ok] at hm; exact cmp_bool hm
            | ex _ _ => rw [e2] at hm; cases hm
            | no => rw [e2] at hm; cases hm
          | ex _ _ => rw [e1] at hm; cases hm
          | no => rw [e1] at hm; cases hm
        obtain ⟨k, rfl⟩ := hp
        exact ⟨k, r, (show Out (zOf X) X.mg RI φ H (atS W σ) Q (.ok k h') from o') φ' H' k x s rfl⟩
      | ex x h' => exact o'
      | no => exact o'
    exact two_of sm re key
theorem evT_not (ρ : Env) (h : PH) : evT C (.nt ea) ρ h = (evT C ea ρ h).bind fun k h1 => .ok (!k) h1 := by
  unfold evT
  show asB ((evG C ea true ρ h).bind _) = (asB (evG C ea true ρ h)).bind _
  cases evG C ea true ρ h with
  | ok p h1 => cases p <;> rfl
  | ex x h1 => rfl
  | no => rfl
theorem evT_and (ρ : Env) (h : PH) : evT C (.band ea eb) ρ h = (evT C ea ρ h).bind fun k h1 => if k then evT C eb ρ h1 else .ok false h1 := by
  unfold evT
  show asB ((evG C ea true ρ h).bind _) = (asB (evG C ea true ρ h)).bind _
  cases evG C ea true ρ h with
  | ok p h1 =>
    cases p with
    | bl k => cases k <;> rfl
    | _ => rfl
  | ex x h1 => rfl
  | no => rfl
theorem evT_or (ρ : Env) (h : PH) : evT C (.bor ea eb) ρ h = (evT C ea ρ h).bind fun k h1 => if k then .ok true h1 else evT C eb ρ h1 := by
  unfold evT
  show asB ((evG C ea true ρ h).bind _) = (asB (evG C ea true ρ h)).bind _
  cases evG C ea true ρ h with
  | ok p h1 =>
    cases p with
    | bl k => cases k <;> rfl
    | _ => rfl
  | ex x h1 => rfl
  | no => rfl
theorem jt_not (ha : JT X W C a ea) : JT X W C (.UnaryOp .Not a pos) (.nt ea) := pt_imp (pt_not ha) fun σ H Q ⟨ρ, φ, h, sm, re, o⟩ => by
  rw [evT_not] at o
  exact ⟨ρ, φ, h, sm, re, (Out.bind (rel2 := RI) o).imp fun k H1 ⟨φ1, k1, h1, x1, s1, r1, o1⟩ => by
    have r1' : k1 = k := r1
    subst r1'
    exact o1.at s1 rfl⟩
abbrev JW (X : Cx) (W : WX) (C : Calls) (a : Expr) (e : E) : Prop := PW X a (tT (zOf X) X.mg W C e)
theorem pw_imp {t t' : TT} (p : PW X a t) (f : ∀ σ H Q, t' σ H Q → t σ H Q) : PW X a t' := ⟨fun wh pins s σ H Q I h => p.run wh pins s σ H Q I (f σ H Q h)⟩
theorem jw_and1 (ha : JT X W C a ea) : JW X W C (.BoolOp .And [a] pos) ea := pw_and1 ha
theorem jw_or1 (ha : JT X W C a ea) : JW X W C (.BoolOp .Or [a] pos) ea := pw_or1 ha
theorem jw_and {rest : List Expr} (ha : JT X W C a ea) (hb : JW X W C (.BoolOp .And (b :: rest) pos) eb) : JW X W C (.BoolOp .And (a :: b :: rest) pos) (.band ea eb) := pw_imp (pw_and ha hb) fun σ H Q ⟨ρ, φ, h, sm, re, o⟩ => by
  rw [evT_and] at o
  exact ⟨ρ, φ, h, sm, re, (Out.bind (rel2 := RI) o).imp fun k H1 ⟨φ1, k1, h1, x1, s1, r1, o1⟩ => by
    have r1' : k1 = k := r1
    subst r1'
    cases k1 with
    | true => exact ⟨ρ, φ1, h1, s1, re.mono x1, o1⟩
    | false => exact (show Out (zOf X) X.mg RI φ1 H1 (atS W σ) Q (.ok false h1) from o1).at s1 rfl⟩
theorem jw_or {rest : List Expr} (ha : JT X W C a ea) (hb : JW X W C (.BoolOp .Or (b :: rest) pos) eb) : JW X W C (.BoolOp .Or (a :: b :: rest) pos) (.bor ea eb) := pw_imp (pw_or ha hb) fun σ H Q ⟨ρ, φ, h, sm, re, o⟩ => by
  rw [evT_or] at o
  exact ⟨ρ, φ, h, sm, re, (Out.bind (rel2 := RI) o).imp fun k H1 ⟨φ1, k1, h1, x1, s1, r1, o1⟩ => by
    have r1' : k1 = k := r1
    subst r1'
    cases k1 with
    | false => exact ⟨ρ, φ1, h1, s1, re.mono x1, o1⟩
    | true => exact (show Out (zOf X) X.mg RI φ1 H1 (atS W σ) Q (.ok true h1) from o1).at s1 rfl⟩
theorem jt_bool (h : JW X W C a ea) : JT X W C a ea := PW.pt h
/-- a if t else b -/
theorem ite_eq (ρ : Env) (h : PH) : evG C (.ite ec ea eb) false ρ h = (evT C ec ρ h).bind fun k h1 => if k then evG C ea false ρ h1 else evG C eb false ρ h1 := by
  unfold evT
  show fin false ((evG C ec true ρ h).bind _) = (asB (evG C ec true ρ h)).bind _
  unfold fin
  rw [if_neg Bool.false_ne_true]
  cases evG C ec true ρ h with
  | ok p h1 =>
    cases p with
    | bl k => cases k <;> rfl
    | _ => rfl
  | ex x h1 => rfl
  | no => rfl
theorem je_ite (hc : JT X W C c ec) (ha : JE X W C a ea) (hb : JE X W C b eb) : JE X W C (.IfExp c a b pos) (.ite ec ea eb) := pe_imp (pe_ifExp hc ha hb) fun σ H Q ⟨ρ, φ, h, sm, re, o⟩ => by
  rw [ite_eq] at o
  exact ⟨ρ, φ, h, sm, re, (Out.bind (rel2 := RI) o).imp fun k H1 ⟨φ1, k1, h1, x1, s1, r1, o1⟩ => by
    have r1' : k1 = k := r1
    subst r1'
    cases k1 with
    | true => exact ⟨ρ, φ1, h1, s1, re.mono x1, o1⟩
    | false => exact ⟨ρ, φ1, h1, s1, re.mono x1, o1⟩⟩
theorem ja_nil : JA X W C [] [] := pa_imp pa_nil fun σ H Q ⟨ρ, φ, h, sm, re, o⟩ => (show Out (zOf X) X.mg (RVs (zOf X)) φ H (atS W σ) Q (.ok [] h) from o).at sm rfl
theorem ja_cons {es : List Expr} {ees : List E} (ha : JE X W C a ea) (hr : JA X W C es ees) (hs : starEach (a :: es) X.env = (false, eval a X.env) :: starEach es X.env := by rfl) : JA X W C (a :: es) (ea :: ees) :=
  pa_imp (pa_cons ha hr hs) fun σ H Q ⟨ρ, φ, h, sm, re, o⟩ =>
    ⟨ρ, φ, h, sm, re, (Out.bind (rel2 := RV (zOf X)) (show Out (zOf X) X.mg (RVs (zOf X)) φ H (atS W σ) Q ((evG C ea false ρ h).bind fun x h1 => (evGs C ees ρ h1).bind fun l h2 => .ok (x :: l) h2) from o)).imp fun x H1 ⟨φ1, va, h1, x1, s1, r1, o1⟩ =>
      ⟨ρ, φ1, h1, s1, re.mono x1, (Out.bind (rel2 := RVs (zOf X)) o1).imp fun xs H2 ⟨φ2, vb, h2, x2, s2, r2, o2⟩ => o2.at s2 (RVs.cons (r1.mono x2) r2)⟩⟩
/-- a list of values, then what is made of them -/
theorem list_of {σ : St} {H : Hp} {Q : VK} {ρ : Env} {φ : List Addr} {h : PH} {es : List E} {f : List PV → PH → R PV} (sm : Sim (zOf X) φ h H) (re : RE (zOf X) φ H ρ σ) (o : Out (zOf X) X.mg (RV (zOf X)) φ H (atS W σ) Q ((evGs C es ρ h).bind fun l h1 => f l h1)) :
    tAs (zOf X) X.mg W C es σ H (fun vs H1 => ∃ φ1 l h1, Sim (zOf X) φ1 h1 H1 ∧ RVs (zOf X) φ1 H1 l vs ∧ Out (zOf X) X.mg (RV (zOf X)) φ1 H1 (atS W σ) Q (f l h1)) :=
  ⟨ρ, φ, h, sm, re, (Out.bind (rel2 := RVs (zOf X)) o).imp fun xs H1 ⟨φ1, l, h1, x1, s1, r1, o1⟩ => ⟨φ1, l, h1, s1, r1, o1⟩⟩
theorem ta_imp {es : List E} {σ : St} {H : Hp} {Q Q' : List V → Hp → Prop} (f : ∀ vs H, Q vs H → Q' vs H) (t : tAs (zOf X) X.mg W C es σ H Q) : tAs (zOf X) X.mg W C es σ H Q' := by
  obtain ⟨ρ, φ, h, sm, re, o⟩ := t
  exact ⟨ρ, φ, h, sm, re, o.imp f⟩
theorem je_tup {es : List Expr} {ees : List E} {k : Nat} (ha : JA X W C es ees) : JE X W C (.Tuple es k pos) (.tup ees) := pe_imp (pe_tup ha) fun σ H Q ⟨ρ, φ, h, sm, re, o⟩ =>
  ta_imp (fun vs H1 ⟨φ1, l, h1, s1, r1, o1⟩ => by
    unfold tupO at o1
    split at o1
    · rename_i hm
      exact ⟨by rw [← r1.length]; exact line_ok hm, o1.tupn s1 r1⟩
    · exact o1.elim) (list_of (f := tupO) sm re o)
theorem je_lst {es : List Expr} {ees : List E} (ha : JA X W C es ees) : JE X W C (.List es pos) (.lst ees) := pe_imp (pe_lst ha) fun σ H Q ⟨ρ, φ, h, sm, re, o⟩ =>
  ta_imp (fun vs H1 ⟨φ1, l, h1, s1, r1, o1⟩ => by
    unfold Sb.alloc at o1
    split at o1
    · rename_i hm
      exact ⟨by rw [← r1.length]; exact line_ok hm, o1.alloc s1 r1⟩
    · exact o1.elim) (list_of (f := Sb.alloc) sm re o)
end
end Sb
set_option Elab.async false
set_option linter.all false
set_option maxRecDepth 100000
set_option maxHeartbeats 4000000
namespace Sb
open PySem PySem.Spec L2
def spF (K : ZZ) (mg : Str → Option Value) (C : Calls) (fi np : Nat) : Sp := fun vs H Q E => vs.length = np ∧ ∃ φ h ps, Sim K φ h H ∧ RVs K φ H ps vs ∧ Out K mg (RV K) φ H E Q (C fi ps h)
/-- the def named x is the fi-th; ds: the defaults that fill up -/
structure FnI (P : Program) (w : World) (K : PySem.W.Frag) (mg : Str → Option Value) (base : Heap) (C : Calls) (k : Nat) (x : Str) (fi : Nat) (np : Nat) (ds : List Value) : Prop where
  ex : ∃ (fa : Addr) (fd : FuncData) (ps : List Str), ps.length = np ∧ FnOk P w K mg base (L2N.CX P w) (k + 3) fa fd ps (spF ⟨K, [], P, w⟩ mg C fi np) ∧ mg x = some (.ref fa) ∧ PySem.W.keepIn K (.ref fa) = true ∧ Binds K fd ps ds
theorem evGs_length {C : Calls} : ∀ {es : List E} {ρ : Env} {h h' : PH} {l : List PV}, evGs C es ρ h = .ok l h' → l.length = es.length
  | [], ρ, h, h', l, e => by
    cases e
    rfl
  | e1 :: es, ρ, h, h', l, e => by
    have e' : ((evG C e1 false ρ h).bind fun x h1 => (evGs C es ρ h1).bind fun l h2 => R.ok (x :: l) h2) = .ok l h' := e
    cases z1 : evG C e1 false ρ h with
    | ok x h1 =>
      rw [z1, R.bind_ok] at e'
      cases z2 : evGs C es ρ h1 with
      | ok l2 h2 =>
        rw [z2, R.bind_ok] at e'
        cases e'
        rw [List.length_cons, List.length_cons, evGs_length z2]
      | ex _ _ => rw [z2] at e'; cases e'
      | no => rw [z2] at e'; cases e'
    | ex _ _ => rw [z1] at e'; cases e'
    | no => rw [z1] at e'; cases e'
section
variable {X : Cx} {W : WX} {C : Calls} {a b c : Expr} {as : List Expr} {pos p : Pos} {ea eb ec : E} {ees : List E} {x : Str} {k : Nat}
theorem call_red {fi np : Nat} {ds : List PV} {dvs : List V} {σ : St} {H : Hp} {Q : VK} {ρ : Env} {φ : List Addr} {h : PH} (hl : ees.length + ds.length = np) (rd : ∀ φ H, RVs (zOf X) φ H ds dvs) (sm : Sim (zOf X) φ h H) (re : RE (zOf X) φ H ρ σ)
    (o : Out (zOf X) X.mg (RV (zOf X)) φ H (atS W σ) Q ((evGs C ees ρ h).bind fun l h1 => C fi (l ++ ds) h1)) : tCallSD (spF (zOf X) X.mg C fi np) dvs (WE W) (tAs (zOf X) X.mg W C ees) σ H Q := by
  have key : Out (zOf X) X.mg (RVs (zOf X)) φ H (atS W σ) (fun vs H1 => spF (zOf X) X.mg C fi np (vs ++ dvs) H1 Q (WE W σ)) (evGs C ees ρ h) := by
    cases e : evGs C ees ρ h with
    | ok l h1 =>
      rw [e, R.bind_ok] at o
      intro φ' H' vs x s r
      refine ⟨?_, φ', h1, l ++ ds, s, r.append (rd φ' H'), o.mono x⟩
      rw [List.length_append, ← r.length, ← (rd φ' H').length, evGs_length e]
      exact hl
    | ex y h1 => rw [e] at o; exact o
    | no => rw [e] at o; exact o
  exact ⟨ρ, φ, h, sm, re, key⟩
theorem je_calld {fi np : Nat} {ds : List PV} {dvs : List V} {dus : List Value} (G : FnI X.prog X.w X.K X.mg X.base C k x fi np dus) (hcalm : X.calm = true) (rv : Vals dvs dus) (rd : ∀ φ H, RVs ⟨X.K, [], X.prog, X.w⟩ φ H ds dvs) (hr : Room (k + 3) X.A) (tk : L2N.Takes X W) (ha : JA X W C (a :: as) ees)
    (hl : ees.length + ds.length = np := by rfl) (hg : Gl X x := by rfl) (hdb : (x == ("__debug__" : Str)) = false := by decide) (he : starEach (a :: as) X.env = (false, eval a X.env) :: starEach as X.env := by rfl) (hpl : (backTo pos (starEach as X.env)).any (·.1) = false := by rfl) :
    JE X W C (.Call (.Name x p) (a :: as) [] pos) (.call fi ees ds) := by
  obtain ⟨fa, fd, ps, hps, F, hm, hk, hb⟩ := G.ex
  have hz : zOf X = ⟨X.K, [], X.prog, X.w⟩ := z_calm hcalm
  rw [← hz] at F
  rw [← hz] at rd
  exact pe_imp (pe_callSD F hr hg hm hk hb rv (fun σ => L2N.passAt tk σ) ha hdb he hpl) fun σ H Q ⟨ρ, φ, h, sm, re, o⟩ => call_red hl rd sm re o
theorem je_call {fi np : Nat} (G : FnI X.prog X.w X.K X.mg X.base C k x fi np []) (hcalm : X.calm = true) (hr : Room (k + 3) X.A) (tk : L2N.Takes X W) (ha : JA X W C (a :: as) ees)
    (hl : ees.length + 0 = np := by rfl) (hg : Gl X x := by rfl) (hdb : (x == ("__debug__" : Str)) = false := by decide) (he : starEach (a :: as) X.env = (false, eval a X.env) :: starEach as X.env := by rfl) (hpl : (backTo pos (starEach as X.env)).any (·.1) = false := by rfl) :
    JE X W C (.Call (.Name x p) (a :: as) [] pos) (.call fi ees []) := je_calld (ds := []) (dvs := []) G hcalm .nil (fun _ _ => rfl) hr tk ha hl hg hdb he hpl
theorem cb_red {f : List PV → PH → R PV} {σ : St} {H : Hp} {Q : VK} {ρ : Env} {φ : List Addr} {h : PH} (sm : Sim (zOf X) φ h H) (re : RE (zOf X) φ H ρ σ)
    (o : Out (zOf X) X.mg (RV (zOf X)) φ H (atS W σ) Q ((evGs C ees ρ h).bind fun l h1 => f l h1)) : tCB (fun vs H Q => ∃ W', rCa (zOf X) X.mg W' f vs H Q) (tAs (zOf X) X.mg W C ees) σ H Q :=
  ta_imp (fun vs H1 ⟨φ1, l, h1, s1, r1, o1⟩ => ⟨_, φ1, h1, l, s1, r1, o1⟩) (list_of sm re o)
theorem cr_any' {f : Value} {r : XK → List V → Hp → VK → Prop} (h : ∀ W, CallR X f (r W)) : CallR X f (fun vs H Q => ∃ W, r W vs H Q) := fun pins s σ H xs us Q I rs ⟨W, q⟩ => h W pins s σ H xs us Q I rs q
theorem je_bi (bi : BI) {id : String} (hc : ∀ W', CallR X (.builtin id) (rCa (zOf X) X.mg W' (biF bi))) (hm : X.mg x = none) (hv : bootBuiltins x = some (.builtin id)) (ha : JA X W C (a :: as) ees) (hg : Gl X x := by rfl) (hn : x ≠ "__name__" := by decide) (hdb : (x == ("__debug__" : Str)) = false := by decide)
    (he : starEach (a :: as) X.env = (false, eval a X.env) :: starEach as X.env := by rfl) (hpl : (backTo pos (starEach as X.env)).any (·.1) = false := by rfl) : JE X W C (.Call (.Name x p) (a :: as) [] pos) (.bi bi ees) :=
  pe_imp (pe_callB (cr_any' hc) hg hm hv ha hn hdb he hpl) fun σ H Q ⟨ρ, φ, h, sm, re, o⟩ => cb_red sm re o
theorem je_biT (bi : BI) {T : String} (hc : ∀ W', CallR X (.type T) (rCa (zOf X) X.mg W' (biF bi))) (hm : X.mg x = none) (hv : bootBuiltins x = some (.type T)) (ha : JA X W C (a :: as) ees) (hg : Gl X x := by rfl) (hn : x ≠ "__name__" := by decide) (hdb : (x == ("__debug__" : Str)) = false := by decide)
    (he : starEach (a :: as) X.env = (false, eval a X.env) :: starEach as X.env := by rfl) (hpl : (backTo pos (starEach as X.env)).any (·.1) = false := by rfl) : JE X W C (.Call (.Name x p) (a :: as) [] pos) (.bi bi ees) :=
  pe_imp (pe_callTy (cr_any' hc) hg hm hv ha hn hdb he hpl) fun σ H Q ⟨ρ, φ, h, sm, re, o⟩ => cb_red sm re o
theorem tyV_of {K : ZZ} {φ : List Addr} {h : PH} {H : Hp} {v : PV} {x : V} {T : Ty} (hT : T = .list ∨ T = .str ∨ T = .dict) (sm : Sim K φ h H) (r : RV K φ H v x) (e : tyOf h v = some T) : tyV K.K T.nm x H := by
  cases v with
  | non => cases e; rcases hT with z | z | z <;> cases z
  | bl c => cases e; rcases hT with z | z | z <;> cases z
  | int i => cases e; rcases hT with z | z | z <;> cases z
  | str z =>
    cases e
    rw [show x = .str z from r]
    rfl
  | ty t => cases e
  | cls t => cases e
  | xc t ns vs => cases e
  | ste l => cases e
  | tup l => cases e; rcases hT with z | z | z <;> cases z
  | cl l =>
    obtain ⟨ad, vs, e1, q, r'⟩ := r
    cases e
    subst e1
    exact .inl ⟨rfl, vs, q.sq⟩
  | ref n =>
    obtain ⟨ad, e1, q⟩ := r
    subst e1
    unfold tyOf at e
    cases z : h[n]? with
    | none => simp only [z] at e; cases e
    | some o =>
      cases o with
      | lst l =>
        simp only [z] at e
        cases e
        obtain ⟨a', vs, e4, e5, r'⟩ := sm.lst z
        rw [q] at e4
        cases e4
        exact .inl ⟨rfl, vs, SqL.of e5⟩
      | dct l =>
        simp only [z] at e
        cases e
        obtain ⟨a', kvs, e4, e5, ek, r'⟩ := sm.dct z
        rw [q] at e4
        cases e4
        exact .inr (.inr (.inl ⟨rfl, .inl ⟨kvs, e5⟩⟩))
      | obj c l => simp only [z] at e; cases e
theorem mr_any {id : String} {r : XK → V → List V → Hp → VK → Prop} (h : ∀ W, MtR X id (r W)) : MtR X id (fun x vs H Q => ∃ W, r W x vs H Q) := fun pins s σ H x xs v us Q I rx rs ⟨W, q⟩ => h W pins s σ H x xs v us Q I rx rs q
theorem je_mth (m : MT) {o : Expr} {eo : E} {name : Str} {apos cpos : Pos} {id : String} (pa : PlainAttrs m.ty.nm) (slot : Slot m.ty.nm name id) (hty : typeOf (.builtin id) = pure (.type "method_descriptor")) (hm : ∀ W', MtR X id (rMt (zOf X) X.mg W' (mtF m))) (ho : JE X W C o eo) (ha : JA X W C (a :: as) ees)
    (hT : m.ty = .list ∨ m.ty = .str ∨ m.ty = .dict := by first | exact .inl rfl | exact .inr (.inl rfl) | exact .inr (.inr rfl)) (hbase : attributeBase o name X.env (eval o X.env) = eval o X.env := by rfl)
    (hfew : ((backTo cpos (starEach (a :: as) X.env)).all (fun x => !x.1) && (backToKw cpos (keywordEach [] X.env)).all (fun x => x.1.isSome)
      && decide ((a :: as).length + ([] : List Keyword).length + (if ([] : List Keyword).isEmpty then 0 else 1) < 30)) = true := by rfl)
    (hline : (apos.endLine == cpos.line) = true := by rfl) (hs : starEach (a :: as) X.env = (false, eval a X.env) :: starEach as X.env := by rfl) (hplain : (backTo cpos (starEach as X.env)).any (·.1) = false := by rfl) :
    JE X W C (.Call (.Attribute o name apos) (a :: as) [] cpos) (.mth m eo ees) :=
  pe_imp (pe_bm pa slot hty (mr_any hm) ho ha hbase hfew hline hs hplain) fun σ H Q ⟨ρ, φ, h, sm, re, o⟩ =>
    ⟨ρ, φ, h, sm, re, (Out.bind (rel2 := RV (zOf X)) (show Out (zOf X) X.mg (RV (zOf X)) φ H (atS W σ) Q ((evG C eo false ρ h).bind fun x h1 => if tyOf h1 x = some m.ty then (evGs C ees ρ h1).bind fun l h2 => mtF m x l h2 else .no) from o)).imp fun x H1 ⟨φ1, vx, h1, x1, s1, r1, o1⟩ => by
      split at o1
      · rename_i ht
        refine ⟨tyV_of hT s1 r1 ht, ρ, φ1, h1, s1, re.mono x1, (Out.bind (rel2 := RVs (zOf X)) o1).imp fun xs H2 ⟨φ2, l, h2, x2, s2, r2, o2⟩ => ⟨_, φ2, h2, vx, l, s2, r1.mono x2, r2, o2⟩⟩
      · exact o1.elim⟩
end
structure WalkOk (K : ZZ) (J : It) (φ0 : List Addr) (H0 : Hp) (items : List PV) (kp : Keep) : Prop where
  go : ∀ (i : Nat) (φ : List Addr) (h : PH) (H : Hp) (p : PV), Ext φ0 φ H0 H → Sim K φ h H → stays kp h → items[i]? = some p → J.go i H ∧ ∀ v H', J.yld i H v H' → Ext φ φ H H' ∧ Sim K φ h H' ∧ RV K φ H' p v
  stop : ∀ (i : Nat) (φ : List Addr) (h : PH) (H : Hp), Ext φ0 φ H0 H → Sim K φ h H → stays kp h → items.length ≤ i → J.stop i H
noncomputable def evI (C : Calls) (k : ITK) (its : List E) (ρ : Env) (h : PH) : R (List PV × Keep) := (evGs C its ρ h).bind fun l h1 => ofO (walkF k l h1) h1
def relW (K : ZZ) (φ : List Addr) (H : Hp) (w : List PV × Keep) (J : It) : Prop := WalkOk K J φ H w.1 w.2
def tI (K : ZZ) (mg : Str → Option Value) (W : WX) (C : Calls) (k : ITK) (its : List E) : TI := fun σ H Q => ∃ ρ φ h, Sim K φ h H ∧ RE K φ H ρ σ ∧ Out K mg (relW K) φ H (atS W σ) Q (evI C k its ρ h)
abbrev JI (X : Cx) (W : WX) (C : Calls) (tg a : Expr) (k : ITK) (its : List E) : Prop := PI X tg a (tI (zOf X) X.mg W C k its)
theorem pi_imp {X : Cx} {tg a : Expr} {t t' : TI} (p : PI X tg a t) (f : ∀ σ H Q, t' σ H Q → t σ H Q) : PI X tg a t' := ⟨fun pins s σ H Q I h => p.run pins s σ H Q I (f σ H Q h)⟩
/-- a list or a tuple -/
def iSeq (K : PySem.W.Frag) (tl : TE) : TI := fun σ H R => tl σ H fun x H1 => ∃ a, x = .ref a ∧ (((∃ xs, SqL K H1 a xs) ∧ R (Itl K a) H1) ∨ ((∃ xs, SqT K H1 a xs) ∧ R (Itt K a) H1))
theorem pi_seq {X : Cx} {tg l : Expr} {tl : TE} (hl : PE X l tl) : PI X tg l (iSeq X.K tl) := by
  refine ⟨fun pins s σ H R I h => ?_⟩
  refine thn (hl.run pins s σ H _ I h) fun v s1 ⟨x, H1, I1, r1, q1⟩ => ?_
  obtain ⟨a, e, q1⟩ := q1
  subst e
  cases r1
  rcases q1 with ⟨⟨xs, hq⟩, q⟩ | ⟨⟨xs, hq⟩, q⟩
  · obtain ⟨its, rv, p, hz⟩ := I1.list hq
    refine wpAny_pyIter_list p.isList ?_
    refine ⟨s1.heap.objs.size, [s1.heap.objs.size], _, _, H1, rfl, I1.kept (t' := s1.toks) fun b o e => Heap.get?_push_of_some _ e, turn_list a _, ⟨_, Heap.get?_push_size _ rfl, rfl, rfl⟩, fun b hb => ?_, q⟩
    have e : b = s1.heap.objs.size := by simpa using hb
    subst e
    exact I1.fpOk (Nat.le_refl _) (I1.hok.fresh (Nat.le_refl _))
  · obtain ⟨its, rv, p, hz⟩ := I1.tuple hq
    refine wpAny_pyIter_tuple (show s1.heap.IsTuple a its.toArray from p) ?_
    refine ⟨s1.heap.objs.size, [s1.heap.objs.size], _, _, H1, rfl, I1.kept (t' := s1.toks) fun b o e => Heap.get?_push_of_some _ e, turn_tuple a _, ⟨_, Heap.get?_push_size _ rfl, rfl, rfl⟩, fun b hb => ?_, q⟩
    have e : b = s1.heap.objs.size := by simpa using hb
    subst e
    exact I1.fpOk (Nat.le_refl _) (I1.hok.fresh (Nat.le_refl _))
section
variable {K : ZZ} {φ0 : List Addr} {H0 : Hp}
/-- a list that every later heap has as it was -/
theorem walk_list {a : Addr} {items : List PV} {kp : Keep} (st : ∀ φ h H, Ext φ0 φ H0 H → Sim K φ h H → stays kp h → ∃ vs, SqL K.K H a vs ∧ RVs K φ H items vs) : WalkOk K (Itl K.K a) φ0 H0 items kp where
  go := fun i φ h H p x s q e => by
    obtain ⟨vs, hs, r⟩ := st φ h H x s q
    obtain ⟨v, e1, rv⟩ := r.get e
    refine ⟨⟨vs, v, hs, e1⟩, fun w H' y => ?_⟩
    obtain ⟨y1, y2⟩ := y
    subst y1
    have := y2 vs hs
    rw [e1] at this
    cases this
    exact ⟨Ext.refl _ _, s, rv⟩
  stop := fun i φ h H x s q e => by
    obtain ⟨vs, hs, r⟩ := st φ h H x s q
    exact ⟨vs, hs, by rw [← r.length]; exact e⟩
theorem walk_tup {a : Addr} {items : List PV} {kp : Keep} (st : ∀ φ h H, Ext φ0 φ H0 H → Sim K φ h H → stays kp h → ∃ vs, SqT K.K H a vs ∧ RVs K φ H items vs) : WalkOk K (Itt K.K a) φ0 H0 items kp where
  go := fun i φ h H p x s q e => by
    obtain ⟨vs, hs, r⟩ := st φ h H x s q
    obtain ⟨v, e1, rv⟩ := r.get e
    refine ⟨⟨vs, v, hs, e1⟩, fun w H' y => ?_⟩
    obtain ⟨y1, y2⟩ := y
    subst y1
    have := y2 vs hs
    rw [e1] at this
    cases this
    exact ⟨Ext.refl _ _, s, rv⟩
  stop := fun i φ h H x s q e => by
    obtain ⟨vs, hs, r⟩ := st φ h H x s q
    exact ⟨vs, hs, by rw [← r.length]; exact e⟩
theorem walk_range (n : Int) : WalkOk K (Itr 0 n.toNat) φ0 H0 (rangeP n) [] where
  go := fun i φ h H p x s q e => by
    have hi : i < n.toNat := by
      have := (List.getElem?_eq_some_iff.mp e).1
      unfold rangeP at this
      rw [List.length_map, List.length_range] at this
      exact this
    refine ⟨hi, fun v H' y => ?_⟩
    obtain ⟨y1, y2⟩ := y
    subst y1 y2
    have ep : p = .int (i : Nat) := by
      unfold rangeP at e
      rw [List.getElem?_map, List.getElem?_range hi] at e
      exact (Option.some.inj e).symm
    subst ep
    refine ⟨Ext.refl _ _, s, ?_⟩
    show V.int (0 + (i : Int)) = V.int (i : Int)
    rw [Int.zero_add]
  stop := fun i φ h H x s q e => by
    unfold rangeP at e
    rw [List.length_map, List.length_range] at e
    exact e
theorem zipP_get : ∀ {l k : List PV} {i : Nat} {p : PV}, (zipP l k)[i]? = some p → ∃ a b, l[i]? = some a ∧ k[i]? = some b ∧ p = .tup [a, b]
  | [], _, _, _, e => by simp [zipP] at e
  | _ :: _, [], _, _, e => by simp [zipP] at e
  | a :: l, b :: k, 0, p, e => by
    simp [zipP] at e
    exact ⟨a, b, rfl, rfl, e.symm⟩
  | a :: l, b :: k, i + 1, p, e => by
    simp [zipP] at e
    simpa using zipP_get e
theorem zipP_len : ∀ {l k : List PV} {i : Nat}, (zipP l k).length ≤ i → l.length ≤ i ∨ k.length ≤ i
  | [], _, i, _ => .inl (Nat.zero_le _)
  | _ :: _, [], i, _ => .inr (Nat.zero_le _)
  | a :: l, b :: k, i, e => by
    have e' : (zipP l k).length + 1 ≤ i := e
    obtain ⟨j, rfl⟩ : ∃ j, i = j + 1 := ⟨i - 1, by omega⟩
    rcases zipP_len (l := l) (k := k) (i := j) (by omega) with z | z
    · exact .inl (by rw [List.length_cons]; omega)
    · exact .inr (by rw [List.length_cons]; omega)
theorem walk_zipL {a b : Addr} {l k : List PV} {kp : Keep} (st : ∀ φ h H, Ext φ0 φ H0 H → Sim K φ h H → stays kp h → ∃ vs ws, SqL K.K H a vs ∧ RVs K φ H l vs ∧ SqL K.K H b ws ∧ RVs K φ H k ws) : WalkOk K (Itz K.K a b) φ0 H0 (zipP l k) kp where
  go := fun i φ h H p x s q e => by
    obtain ⟨vs, ws, hs, r, hs2, r2⟩ := st φ h H x s q
    obtain ⟨pa, pb, ea, eb, rfl⟩ := zipP_get e
    obtain ⟨v, e1, rv⟩ := r.get ea
    obtain ⟨w, e2, rw'⟩ := r2.get eb
    refine ⟨⟨vs, ws, v, w, hs, hs2, e1, e2⟩, fun u H' y => ?_⟩
    obtain ⟨T, v', w', y1, nT, y2, y3, y4⟩ := y
    subst y1 y2
    have z1 := y3 vs hs
    have z2 := y4 ws hs2
    rw [e1] at z1
    rw [e2] at z2
    cases z1
    cases z2
    exact ⟨Ext.new nT, s.new nT, T, [v, w], rfl, .inl ⟨.inl upd_same, s.out nT⟩, (RVs.cons rv (RVs.cons rw' RVs.nil)).mono (Ext.new nT)⟩
  stop := fun i φ h H x s q e => by
    obtain ⟨vs, ws, hs, r, hs2, r2⟩ := st φ h H x s q
    refine ⟨vs, ws, hs, hs2, ?_⟩
    rw [← r.length, ← r2.length]
    exact zipP_len e
theorem walk_zipT {a b : Addr} {l k : List PV} {kp : Keep} (st : ∀ φ h H, Ext φ0 φ H0 H → Sim K φ h H → stays kp h → ∃ vs ws, SqT K.K H a vs ∧ RVs K φ H l vs ∧ SqT K.K H b ws ∧ RVs K φ H k ws) : WalkOk K (RZ.ItzT K.K a b) φ0 H0 (zipP l k) kp where
  go := fun i φ h H p x s q e => by
    obtain ⟨vs, ws, hs, r, hs2, r2⟩ := st φ h H x s q
    obtain ⟨pa, pb, ea, eb, rfl⟩ := zipP_get e
    obtain ⟨v, e1, rv⟩ := r.get ea
    obtain ⟨w, e2, rw'⟩ := r2.get eb
    refine ⟨⟨vs, ws, v, w, hs, hs2, e1, e2⟩, fun u H' y => ?_⟩
    obtain ⟨T, v', w', y1, nT, y2, y3, y4⟩ := y
    subst y1 y2
    have z1 := y3 vs hs
    have z2 := y4 ws hs2
    rw [e1] at z1
    rw [e2] at z2
    cases z1
    cases z2
    exact ⟨Ext.new nT, s.new nT, T, [v, w], rfl, .inl ⟨.inl upd_same, s.out nT⟩, (RVs.cons rv (RVs.cons rw' RVs.nil)).mono (Ext.new nT)⟩
  stop := fun i φ h H x s q e => by
    obtain ⟨vs, ws, hs, r, hs2, r2⟩ := st φ h H x s q
    refine ⟨vs, ws, hs, hs2, ?_⟩
    rw [← r.length, ← r2.length]
    exact zipP_len e
end
theorem Sim.stays_at {K : ZZ} {φ : List Addr} {h : PH} {H : Hp} {n : Nat} {l : List PV} {kp : Keep} {a : Addr} (s : Sim K φ h H) (q : stays kp h) (m : (n, l) ∈ kp) (e : φ[n]? = some a) : ∃ vs, SqL K.K H a vs ∧ RVs K φ H l vs := by
  obtain ⟨a', vs, e1, e2, r⟩ := s.lst (q (n, l) m)
  rw [e] at e1
  cases e1
  exact ⟨vs, SqL.of e2, r⟩
section
variable {X : Cx} {W : WX} {C : Calls} {a b c tg : Expr} {as : List Expr} {pos p : Pos} {ea eb ec : E} {ees : List E} {x : Str} {k : Nat}
theorem ji_seq (ha : JE X W C a ea) : JI X W C tg a .seq [ea] := pi_imp (pi_seq ha) fun σ H Q ⟨ρ, φ, h, sm, re, o⟩ => by
  have o' : Out (zOf X) X.mg (relW (zOf X)) φ H (atS W σ) Q ((evG C ea false ρ h).bind fun x h1 => ofO (walkF .seq [x] h1) h1) := by
    have e : evI C .seq [ea] ρ h = (evG C ea false ρ h).bind fun x h1 => ofO (walkF .seq [x] h1) h1 := by
      show (((evG C ea false ρ h).bind fun x h1 => ((R.ok [] h1 : R (List PV)).bind fun l h2 => R.ok (x :: l) h2)).bind fun l h1 => ofO (walkF .seq l h1) h1) = _
      cases evG C ea false ρ h <;> rfl
    rw [← e]
    exact o
  refine ⟨ρ, φ, h, sm, re, (Out.bind (rel2 := RV (zOf X)) o').imp fun x H1 ⟨φ1, va, h1, x1, s1, r1, o1⟩ => ?_⟩
  obtain ⟨w, e, q⟩ := o1.some
  have e' : walkSeq [va] h1 = some w := e
  cases va with
  | cl l =>
    cases e'
    obtain ⟨ad, vs, hx, hq, r⟩ := r1
    exact ⟨ad, hx, .inl ⟨⟨vs, hq.sq⟩, q φ1 H1 _ (Ext.refl _ _) s1 (walk_list fun φ h H x s _ => ⟨vs, (hq.mono x).sq, r.mono x⟩)⟩⟩
  | ref n =>
    simp only [walkSeq] at e'
    split at e'
    · rename_i l e3
      cases e'
      obtain ⟨ad, hx, e4⟩ := r1
      obtain ⟨a', vs, e5, e6, r⟩ := s1.lst e3
      rw [e4] at e5
      cases e5
      exact ⟨ad, hx, .inl ⟨⟨vs, SqL.of e6⟩, q φ1 H1 _ (Ext.refl _ _) s1 (walk_list fun φ h H x s st => s.stays_at st List.mem_cons_self (x.at e4))⟩⟩
    · cases e'
  | tup l =>
    cases e'
    obtain ⟨ad, vs, hx, hq, r⟩ := r1
    exact ⟨ad, hx, .inr ⟨⟨vs, hq.sq⟩, q φ1 H1 _ (Ext.refl _ _) s1 (walk_tup fun φ h H x s _ => ⟨vs, (hq.mono x).sq, r.mono x⟩)⟩⟩
  | _ => cases e'
theorem ji_range (hm : X.mg "range" = none) (ha : JA X W C [a] [ea]) (hg : Gl X "range" := by rfl) (hs : starEach [a] X.env = [(false, eval a X.env)] := by rfl) : JI X W C tg (.Call (.Name "range" p) [a] [] pos) .range [ea] :=
  pi_imp (pi_range1 hg hm ha hs) fun σ H Q ⟨ρ, φ, h, sm, re, o⟩ => by
    refine ⟨ρ, φ, h, sm, re, (Out.bind (rel2 := RVs (zOf X)) (show Out (zOf X) X.mg (relW (zOf X)) φ H (atS W σ) Q ((evGs C [ea] ρ h).bind _) from o)).imp fun vs H1 ⟨φ1, l, h1, x1, s1, r1, o1⟩ => ?_⟩
    obtain ⟨w, e, q⟩ := o1.some
    change walkRange l h1 = some w at e
    unfold walkRange at e
    split at e
    · rename_i n
      split at e
      · rename_i hn
        cases e
        obtain ⟨v, e1, rv⟩ := r1.one
        exact ⟨n, by rw [e1, show v = .int n from rv], hn.2, hn.1, q φ1 H1 _ (Ext.refl _ _) s1 (walk_range n)⟩
      · cases e
    · cases e
theorem ji_zip {elts : List Expr} {kk : Nat} {tpos : Pos} (hm : X.mg "zip" = none) (ha : JA X W C [a, b] [ea, eb]) (hg : Gl X "zip" := by rfl) (hs : starEach [a, b] X.env = (false, eval a X.env) :: starEach [b] X.env := by rfl) (hpl : (backTo pos (starEach [b] X.env)).any (·.1) = false := by rfl) :
    JI X W C (.Tuple elts kk tpos) (.Call (.Name "zip" p) [a, b] [] pos) .zip [ea, eb] :=
  pi_imp (RZ.pi_zipA hg hm ha hs hpl) fun σ H Q ⟨ρ, φ, h, sm, re, o⟩ => by
    refine ⟨ρ, φ, h, sm, re, (Out.bind (rel2 := RVs (zOf X)) (show Out (zOf X) X.mg (relW (zOf X)) φ H (atS W σ) Q ((evGs C [ea, eb] ρ h).bind _) from o)).imp fun vs H1 ⟨φ1, l, h1, x1, s1, r1, o1⟩ => ?_⟩
    obtain ⟨w, e, q⟩ := o1.some
    change walkZip l h1 = some w at e
    unfold walkZip at e
    split at e
    · rename_i l1 l2
      cases e
      obtain ⟨v, w, e1, rv, rw'⟩ := r1.two
      obtain ⟨ad, vs1, hx, hq, r⟩ := rv
      obtain ⟨bd, vs2, hx2, hq2, r2⟩ := rw'
      exact ⟨ad, bd, vs1, vs2, by rw [e1, hx, hx2], .inr ⟨hq.sq, hq2.sq, q φ1 H1 _ (Ext.refl _ _) s1 (walk_zipT fun φ h H x s _ => ⟨vs1, vs2, (hq.mono x).sq, r.mono x, (hq2.mono x).sq, r2.mono x⟩)⟩⟩
    · rename_i m n
      split at e
      · rename_i l1 l2 e3 e4
        cases e
        obtain ⟨v, w, e1, rv, rw'⟩ := r1.two
        obtain ⟨ad, hx, e5⟩ := rv
        obtain ⟨bd, hx2, e6⟩ := rw'
        obtain ⟨a', vs1, e7, e8, r⟩ := s1.lst e3
        obtain ⟨b', vs2, e9, e10, r2⟩ := s1.lst e4
        rw [e5] at e7
        cases e7
        rw [e6] at e9
        cases e9
        refine ⟨ad, bd, vs1, vs2, by rw [e1, hx, hx2], .inl ⟨SqL.of e8, SqL.of e10, q φ1 H1 _ (Ext.refl _ _) s1 (walk_zipL fun φ h H x s st => ?_)⟩⟩
        obtain ⟨ws1, g1, g2⟩ := s.stays_at st List.mem_cons_self (x.at e5)
        obtain ⟨ws2, g3, g4⟩ := s.stays_at st (List.mem_cons_of_mem _ List.mem_cons_self) (x.at e6)
        exact ⟨ws1, ws2, g1, g2, g3, g4⟩
      · cases e
    · cases e
end
def gNs : List Nat → TGs
  | [] => gNil
  | i :: is => gCons (gName i) (gNs is)
/-- (a, .., *b) = a tuple: the rest's list is not tracked -/
def gStar (K : PySem.W.Frag) (n : Nat) (t : TGs) : TG := fun v σ H Q => ∃ a xs, v = .ref a ∧ SqT K H a xs ∧ n ≤ xs.length + 1 ∧ 0 < n ∧ xs.length ≤ 1000 ∧ ∀ D, t (xs.take (n - 1) ++ [.ref D]) σ H Q
def gT (K : PySem.W.Frag) (is : List Nat) (one : TgK) : TG := match one, is with
  | .one, [i] => gName i
  | .one, _ => fun _ _ _ _ => False
  | .tup, is => gTup K is.length (gNs is)
  | .star, is => gStar K is.length (gNs is)
  | .nest, [] => fun _ _ _ _ => False
  | .nest, i :: is => gTup K 2 (gCons (gName i) (gCons (gTup K is.length (gNs is)) gNil))
theorem gNs_post : ∀ {is : List Nat} {vs : List V} {σ : St} {H : Hp} {Q : St → Hp → Prop}, gNs is vs σ H Q → gNs is vs σ H (fun σ' H' => ([] : List V) = [] ∧ Q σ' H')
  | [], _, _, _, _, h => ⟨h.1, rfl, h.2⟩
  | _ :: is, _, _, _, _, ⟨v, r, e, h⟩ => ⟨v, r, e, gNs_post (is := is) h⟩
def setV : List Nat → List V → St → St
  | i :: is, v :: vs, σ => setV is vs (σ.set i (some v))
  | _, _, σ => σ
theorem gNs_ok {H : Hp} {Q : St → Hp → Prop} : ∀ {is : List Nat} {vs : List V} {σ : St}, is.length = vs.length → Q (setV is vs σ) H → gNs is vs σ H Q
  | [], [], σ, _, q => ⟨rfl, q⟩
  | i :: is, v :: vs, σ, e, q => ⟨v, vs, rfl, gNs_ok (is := is) (by simpa using e) q⟩
  | [], _ :: _, _, e, _ => by simp at e
  | _ :: _, [], _, e, _ => by simp at e
theorem setAll_ok {K : ZZ} {φ : List Addr} {H : Hp} : ∀ {is : List Nat} {l : List PV} {vs : List V} {ρ ρ' : Env} {σ : St}, RE K φ H ρ σ → RVs K φ H l vs → setAll ρ is l = some ρ' → RE K φ H ρ' (setV is vs σ) ∧ is.length = vs.length
  | [], [], vs, ρ, ρ', σ, h, r, e => by
    cases e
    have : vs = [] := r
    subst this
    exact ⟨h, rfl⟩
  | i :: is, p :: l, vs, ρ, ρ', σ, h, r, e => by
    obtain ⟨v, t, e1, q, s⟩ := r
    subst e1
    obtain ⟨h1, h3⟩ := setAll_ok (is := is) (h.set i q) s e
    exact ⟨h1, by rw [List.length_cons, List.length_cons, h3]⟩
  | [], _ :: _, _, _, _, _, _, _, e => by cases e
  | _ :: _, [], _, _, _, _, _, _, e => by cases e
/-- which names were stored -/
def wipesOk (is : List Nat) (σ σ' : St) : Prop := ∀ vs : List Nat, (∀ i ∈ is, i ∈ vs) → L2.wipe σ' vs = L2.wipe σ vs
theorem wipe_set {σ : St} {i : Nat} {v : Option V} : ∀ {vs : List Nat}, i ∈ vs → L2.wipe (σ.set i v) vs = L2.wipe σ vs
  | [], h => by simp at h
  | j :: vs, h => by
    show (L2.wipe (σ.set i v) vs).set j none = (L2.wipe σ vs).set j none
    by_cases e : i ∈ vs
    · rw [wipe_set e]
    · have ij : i = j := by
        rcases List.mem_cons.mp h with z | z
        · exact z
        · exact absurd z e
      subst ij
      rw [wipe_out' e]
      rw [List.set_set]
where
  wipe_out' {σ : St} {i : Nat} {v : Option V} : ∀ {vs : List Nat}, i ∉ vs → L2.wipe (σ.set i v) vs = (L2.wipe σ vs).set i v
    | [], _ => rfl
    | j :: vs, h => by
      show (L2.wipe (σ.set i v) vs).set j none = ((L2.wipe σ vs).set j none).set i v
      rw [wipe_out' (fun z => h (List.mem_cons_of_mem _ z)), List.set_comm _ _ (fun z => h (by rw [z]; exact List.mem_cons_self))]
theorem wipe_setV {σ : St} {ws : List Nat} : ∀ {is : List Nat} {vs : List V} {σ : St}, (∀ i ∈ is, i ∈ ws) → L2.wipe (setV is vs σ) ws = L2.wipe σ ws
  | [], _, σ, _ => rfl
  | _ :: _, [], σ, _ => rfl
  | i :: is, v :: vs, σ, h => by
    show L2.wipe (setV is vs (σ.set i (some v))) ws = _
    rw [wipe_setV (σ := σ) (is := is) (fun j hj => h j (List.mem_cons_of_mem _ hj)), wipe_set (h i List.mem_cons_self)]
theorem wipe_wipe {σ : St} : ∀ {vs : List Nat}, ∀ ws : List Nat, (∀ i ∈ vs, i ∈ ws) → L2.wipe (L2.wipe σ vs) ws = L2.wipe σ ws
  | [], ws, _ => rfl
  | j :: vs, ws, h => by
    show L2.wipe ((L2.wipe σ vs).set j none) ws = _
    rw [wipe_set (h j List.mem_cons_self)]
    exact wipe_wipe ws fun i hi => h i (List.mem_cons_of_mem _ hi)
theorem gT_ok {K : ZZ} {φ : List Addr} {H : Hp} {is : List Nat} {one : TgK} {p : PV} {v : V} {ρ ρ' : Env} {σ : St} {Q : St → Hp → Prop} (re : RE K φ H ρ σ) (r : RV K φ H p v) (e : setTg ρ is one p = some ρ')
    (q : ∀ σ', RE K φ H ρ' σ' → wipesOk is σ σ' → Q σ' H) : gT K.K is one v σ H Q := by
  unfold setTg at e
  split at e
  · rename_i i
    cases e
    exact q _ (re.set i r) fun vs h => wipe_set (h i List.mem_cons_self)
  · rename_i l
    obtain ⟨ad, vs, hx, hq, r'⟩ := r
    obtain ⟨h1, h2⟩ := setAll_ok re r' e
    exact ⟨ad, vs, hx, hq.sq, h2.symm, gNs_ok h2 (q _ h1 fun ws h => wipe_setV (σ := σ) h)⟩
  · rename_i i is a l
    obtain ⟨ad, vs, hx, hq, r'⟩ := r
    obtain ⟨v1, v2, rfl, q1, q2⟩ := r'.two
    obtain ⟨ad2, vs2, hx2, hq2, r2⟩ := q2
    obtain ⟨h1, h2⟩ := setAll_ok (re.set i q1) r2 e
    refine ⟨ad, _, hx, hq.sq, rfl, v1, _, rfl, v2, [], rfl, ad2, vs2, hx2, hq2.sq, h2.symm, ?_⟩
    refine gNs_post (gNs_ok h2 (q _ h1 fun ws h => ?_))
    rw [wipe_setV (σ := σ) (fun j hj => h j (List.mem_cons_of_mem _ hj)), wipe_set (h i List.mem_cons_self)]
  · rename_i l
    split at e
    · rename_i hn
      split at e
      · rename_i j hj
        obtain ⟨ρ1, e1, e2⟩ := Option.map_eq_some_iff.mp e
        subst e2
        obtain ⟨ad, vs, hx, hq, r'⟩ := r
        obtain ⟨h1, h2⟩ := setAll_ok re (r'.take (is.length - 1)) e1
        have eis : is = is.dropLast ++ [j] := by
          obtain ⟨ne, el⟩ := List.getLast?_eq_some_iff.mp hj
          rw [el]
          simp
        have lis : is.length = is.dropLast.length + 1 := by
          have := congrArg List.length eis
          rw [List.length_append] at this
          simpa using this
        have lv := r'.length
        refine ⟨ad, vs, hx, hq.sq, by omega, by omega, by omega, fun D => ?_⟩
        have key : ∀ {as : List Nat} {ws : List V} {σ : St}, as.length = ws.length → setV (as ++ [j]) (ws ++ [.ref D]) σ = (setV as ws σ).set j (some (.ref D)) := by
          intro as
          induction as with
          | nil =>
            intro ws σ e
            match ws, e with
            | [], _ => rfl
          | cons a as ih =>
            intro ws σ e
            match ws, e with
            | w :: ws, e => exact ih (by simpa using e)
        have gg : gNs (is.dropLast ++ [j]) (vs.take (is.length - 1) ++ [.ref D]) σ H Q := by
          refine gNs_ok (by rw [List.length_append, List.length_append, h2]; rfl) ?_
          rw [key h2]
          refine q _ ?_ fun ws hw => ?_
          · exact RE.unsetA j h1
          · rw [wipe_set (hw j (by rw [eis]; simp)), wipe_setV (σ := σ) (fun i hi => hw i (by rw [eis]; exact List.mem_append_left _ hi))]
        rw [← eis] at gg
        exact gg
      · cases e
    · cases e
  · cases e
end Sb
set_option Elab.async false
set_option linter.all false
set_option maxRecDepth 100000
set_option maxHeartbeats 4000000
namespace Sb
open PySem PySem.Spec L2
/-- nothing is let out -/
abbrev W0 : WX := fun _ _ _ _ => False
theorem Out.calm_bind {K : ZZ} {mg : Str → Option Value} {α β γ δ : Type} {rel : List Addr → Hp → α → β → Prop} {rel2 : List Addr → Hp → γ → δ → Prop} {φ0 φ : List Addr} {H0 H : Hp} {W W' : XK} {Q : β → Hp → Prop} {m : R γ} {f : γ → PH → R α} (h : Out K mg rel φ0 H0 W Q (m.calm.bind f)) :
    Out K mg rel2 φ H W' (fun b H' => ∃ φ' a h1, Ext φ φ' H H' ∧ Sim K φ' h1 H' ∧ rel2 φ' H' a b ∧ Out K mg rel φ0 H0 W Q (f a h1)) m := by
  cases m with
  | ok a h1 => exact fun φ' H' b x s r => ⟨φ', a, h1, x, s, r, h⟩
  | ex x h1 => exact (show False from h).elim
  | no => exact h
def tCond (K : ZZ) (mg : Str → Option Value) (C : Calls) : Option E → TT
  | none => tYes
  | some e => tT K mg W0 C e
theorem cond_ok {K : ZZ} {mg : Str → Option Value} {C : Calls} {cond : Option E} {σ : St} {H : Hp} {ρ : Env} {φ : List Addr} {h : PH} {Q : Bool → Hp → Prop} (sm : Sim K φ h H) (re : RE K φ H ρ σ) (o : Out K mg RI φ H (fun _ _ _ => False) Q (evGc C cond ρ h)) : tCond K mg C cond σ H Q := by
  cases cond with
  | none => exact (show Out K mg RI φ H (fun _ _ _ => False) Q (.ok true h) from o).at sm rfl
  | some e => exact ⟨ρ, φ, h, sm, re, o⟩
theorem R.bind_bind {α β γ : Type} (m : R α) (f : α → PH → R β) (g : β → PH → R γ) : (m.bind f).bind g = m.bind fun a h => (f a h).bind g := by
  cases m <;> rfl
/-- the loop of a comprehension, as the layer reads it -/
theorem comp_red {K : ZZ} {mg : Str → Option Value} {W : WX} {C : Calls} {elt : E} {is : List Nat} {one : TgK} {k : ITK} {its : List E} {cond : Option E} {own : List Nat} (his : ∀ i ∈ is, i ∈ own) {σ : St} {H : Hp} {Q : VK} (t : tE K mg W C (.comp elt is one k its cond own) σ H Q) :
    tLc (tI K mg W C k its) (gT K.K is one) (tCond K mg C cond) (tE K mg W0 C elt) own σ H Q := by
  obtain ⟨ρ, φ, h, sm, re, o⟩ := t
  have o' : Out K mg (RV K) φ H (atS W σ) Q ((evI C k its ρ h).bind fun w h1 => (compLoop w.2 (fun x => setTg (wipeP ρ own) is one x) (fun ρ1 h2 => (evGc C cond ρ1 h2).calm) (fun ρ1 h2 => (evG C elt false ρ1 h2).calm) w.1 [] h1).bind fun l h2 => alloc l h2) := by
    have e : evG C (.comp elt is one k its cond own) false ρ h = (evI C k its ρ h).bind fun w h1 => (compLoop w.2 (fun x => setTg (wipeP ρ own) is one x) (fun ρ1 h2 => (evGc C cond ρ1 h2).calm) (fun ρ1 h2 => (evG C elt false ρ1 h2).calm) w.1 [] h1).bind fun l h2 => alloc l h2 := by
      unfold evI
      rw [R.bind_bind]
      show ((evGs C its ρ h).bind _) = _
      congr 1
      funext l h1
      cases walkF k l h1 with
      | none => rfl
      | some w => rfl
    rw [← e]
    exact o
  refine ⟨ρ, φ, h, sm, re, (Out.bind (rel2 := relW K) o').imp fun J H1 ⟨φ1, w, h1, x1, s1, wk, o1⟩ => ?_⟩
  obtain ⟨items, kp⟩ := w
  intro D hD
  have wk : WalkOk K J φ1 H1 items kp := wk
  have re1 := (re.mono x1).wipe own
  refine ⟨fun i m H2 => ∃ φ2 h2 acc ws, m = (items.drop i).length ∧ Ext φ1 φ2 H1 H2 ∧ Sim K φ2 h2 H2 ∧ D ∉ φ2 ∧ H2 D = some (.lst ws) ∧ RVs K φ2 H2 acc ws ∧
    Out K mg (RV K) φ1 H1 (atS W σ) Q ((compLoop kp (fun x => setTg (wipeP ρ own) is one x) (fun ρ1 h2 => (evGc C cond ρ1 h2).calm) (fun ρ1 h2 => (evG C elt false ρ1 h2).calm) (items.drop i) acc h2).bind fun l h2 => alloc l h2),
    ⟨items.length, φ1, h1, [], [], rfl, Ext.new hD, s1.new hD, s1.out hD, upd_same, rfl, o1⟩, ?_⟩
  rintro i m H2 ⟨φ2, h2, acc, ws, hm, x2, s2, nD, hDl, ra, o2⟩
  cases e : items.drop i with
  | nil =>
    rw [e] at o2
    unfold compLoop at o2
    split at o2
    · rename_i hs
      refine .inl ⟨wk.stop i φ2 h2 H2 x2 s2 hs (List.drop_eq_nil_iff.mp e), ?_⟩
      have o3 : Out K mg (RV K) φ1 H1 (atS W σ) Q (alloc acc h2) := o2
      unfold alloc at o3
      split at o3
      · refine o3 (φ2 ++ [D]) H2 (.ref D) (x2.adopt hD) (s2.adopt hDl nD ra) ⟨D, rfl, ?_⟩
        rw [← s2.len, List.getElem?_append_right (Nat.le_refl _), Nat.sub_self]
        rfl
      · exact o3.elim
    · exact (show False from o2).elim
  | cons p rest =>
    have ei : items[i]? = some p := by
      have := congrArg (·[0]?) e
      simpa using this
    have er : items.drop (i + 1) = rest := by
      rw [← List.drop_drop, e]
      rfl
    rw [e] at o2
    unfold compLoop at o2
    split at o2
    · rename_i hs
      obtain ⟨hgo, hy⟩ := wk.go i φ2 h2 H2 p x2 s2 hs ei
      refine .inr ⟨hgo, fun H3 => ∃ φ2 h2 acc ws, Ext φ1 φ2 H1 H3 ∧ Sim K φ2 h2 H3 ∧ D ∉ φ2 ∧ H3 D = some (.lst ws) ∧ RVs K φ2 H3 acc ws ∧
        Out K mg (RV K) φ1 H1 (atS W σ) Q ((compLoop kp (fun x => setTg (wipeP ρ own) is one x) (fun ρ1 h2 => (evGc C cond ρ1 h2).calm) (fun ρ1 h2 => (evG C elt false ρ1 h2).calm) rest acc h2).bind fun l h2 => alloc l h2), fun H3 z => ?_, fun v H3 y => ?_⟩
      · obtain ⟨φ3, h3, acc3, ws3, z1, z2, z3, z4, z5, z6⟩ := z
        refine ⟨rest.length, by rw [hm, e, List.length_cons]; omega, φ3, h3, acc3, ws3, by rw [er], z1, z2, z3, z4, z5, ?_⟩
        rw [er]
        exact z6
      · obtain ⟨ex, sx, rx⟩ := hy v H3 y
        cases eb : setTg (wipeP ρ own) is one p with
        | none => simp only [eb] at o2; exact (show False from o2).elim
        | some ρ1 =>
          simp only [eb] at o2
          have xx := x2.trans ex
          have hD3 : H3 D = some (.lst ws) := ex.keep D _ hDl nD (fun ps z => by cases z)
          refine gT_ok (re1.mono xx) rx eb fun σ2 re2 wp => ⟨by rw [wp own his, wipe_wipe own fun _ z => z], ?_⟩
          have o3 := o2
          rw [R.bind_bind] at o3
          refine cond_ok sx re2 ((Out.calm_bind (rel2 := RI) (W' := fun _ _ _ => False) o3).imp fun b H4 ⟨φ4, b1, h4, x4, s4, r4, o4⟩ => ?_)
          have r4' : b1 = b := r4
          subst r4'
          have hD4 : H4 D = some (.lst ws) := x4.keep D _ hD3 nD (fun ps z => by cases z)
          have nD4 : D ∉ φ4 := fun z => by
            obtain ⟨ps, e⟩ := x4.fresh D z nD _ hD3
            cases e
          cases b1 with
          | false =>
            simp only [Bool.false_eq_true, if_false] at o4 ⊢
            exact ⟨φ4, h4, acc, ws, xx.trans x4, s4, nD4, hD4, (ra.mono ex).mono x4, o4⟩
          | true =>
            simp only [if_true] at o4 ⊢
            rw [R.bind_bind] at o4
            refine ⟨ρ1, φ4, h4, s4, re2.mono x4, (Out.calm_bind (rel2 := RV K) (W' := fun _ _ _ => False) o4).imp fun y H5 ⟨φ5, v5, h5, x5, s5, r5, o5⟩ => ?_⟩
            have hD5 : H5 D = some (.lst ws) := x5.keep D _ hD4 nD4 (fun ps z => by cases z)
            have nD5 : D ∉ φ5 := fun z => by
              obtain ⟨ps, e⟩ := x5.fresh D z nD4 _ hD4
              cases e
            have ra5 := ((ra.mono ex).mono x4).mono x5
            split at o5
            · rename_i hl
              refine ⟨ws, hD5, by rw [← ra.length]; exact line_lt hl, φ5, h5, acc ++ [v5], ws ++ [y], ((xx.trans x4).trans x5).aside hD, s5.aside hD5 nD5, nD5, upd_same, ?_, o5⟩
              exact (ra5.append (RVs.cons r5 RVs.nil)).monoK (Kp.aside hD5)
            · exact (show False from o5).elim
    · exact (show False from o2).elim
section
variable {X : Cx} {W : WX} {C : Calls}
theorem je_comp {elt tg iter : Expr} {ifs : List Expr} {scope : Scope} {own : List (Str × Nat)} {pos : Pos} {ee : E} {is : List Nat} {one : TgK} {k : ITK} {its : List E} {cond : Option E} (hc : X.calm = true) (hN : X.N.Nodup) (hi : JI X W C tg iter k its) (ok : BlkOk X.N X.env.scope scope own)
    (hg : ∀ (s : Shared) (H : Hp) (C : Addr) (cl : List (Str × Addr)) (fp : List Addr), PG (X.blk s H scope (compEnvC scope cl C X.env) fp) tg (gT X.K is one)) (ht : ∀ (s : Shared) (H : Hp) (C' : Addr) (cl : List (Str × Addr)) (fp : List Addr), PTs (X.blk s H scope (compEnvC scope cl C' X.env) fp) ifs (tCond (zOf (X.blk s H scope (compEnvC scope cl C' X.env) fp)) X.mg C cond))
    (he : ∀ (s : Shared) (H : Hp) (C' : Addr) (cl : List (Str × Addr)) (fp : List Addr), JE (X.blk s H scope (compEnvC scope cl C' X.env) fp) W0 C elt ee) (his : ∀ i ∈ is, i ∈ own.map (·.2) := by decide) (hs : ∀ x, foldedSetIterable iter X.env x = pure x := by intro _; rfl) :
    JE X W C (.ListComp elt [⟨tg, iter, ifs, 0⟩] scope pos) (.comp ee is one k its cond (own.map (·.2))) := by
  have hz : zOf X = ⟨X.K, [], X.prog, X.w⟩ := z_calm hc
  have hzb : ∀ (s : Shared) (H : Hp) (cenv : PySem.Env) (fp : List Addr), zOf (X.blk s H scope cenv fp) = ⟨X.K, [], X.prog, X.w⟩ := fun s H cenv fp => z_calm (X := X.blk s H scope cenv fp) hc
  have ht' : ∀ (s : Shared) (H : Hp) (C' : Addr) (cl : List (Str × Addr)) (fp : List Addr), PTs (X.blk s H scope (compEnvC scope cl C' X.env) fp) ifs (tCond ⟨X.K, [], X.prog, X.w⟩ X.mg C cond) := fun s H C' cl fp => by
    have z := ht s H C' cl fp
    rw [hzb] at z
    exact z
  have he' : ∀ (s : Shared) (H : Hp) (C' : Addr) (cl : List (Str × Addr)) (fp : List Addr), PE (X.blk s H scope (compEnvC scope cl C' X.env) fp) elt (tE ⟨X.K, [], X.prog, X.w⟩ X.mg W0 C ee) := fun s H C' cl fp => by
    have z := he s H C' cl fp
    unfold JE at z
    rw [hzb] at z
    exact z
  exact pe_imp (pe_lc (te := tE ⟨X.K, [], X.prog, X.w⟩ X.mg W0 C ee) hc hN hi ok hg ht' he' hs) fun σ H Q t => by
    have t' := comp_red his t
    rw [← hz]
    exact t'
end
def OutS (K : ZZ) (mg : Str → Option Value) (φ : List Addr) (H : Hp) (W : WX) (D : Ends) : RS → Prop
  | .nx ρ h => ∀ φ' H' σ', Ext φ φ' H H' → Sim K φ' h H' → RE K φ' H' ρ σ' → D.nx σ' H'
  | .rt v h => ∀ φ' H' x, Ext φ φ' H H' → Sim K φ' h H' → RV K φ' H' v x → D.rt x H'
  | .bk ρ h => ∀ φ' H' σ', Ext φ φ' H H' → Sim K φ' h H' → RE K φ' H' ρ σ' → D.bk σ' H'
  | .ct ρ h => ∀ φ' H' σ', Ext φ φ' H H' → Sim K φ' h H' → RE K φ' H' ρ σ' → D.ct σ' H'
  | .ex x ρ h => ∀ φ' H' σ' cls d, Ext φ φ' H H' → Sim K φ' h H' → RE K φ' H' ρ σ' → RX K mg φ' H' x cls d → W cls d σ' H'
  | .no => False
section
variable {K : ZZ} {mg : Str → Option Value} {φ φ' : List Addr} {H H' : Hp} {W : WX} {D : Ends}
theorem OutS.mono (x : Ext φ φ' H H') : ∀ {m : RS}, OutS K mg φ H W D m → OutS K mg φ' H' W D m
  | .nx _ _, h => fun φ2 H2 b y s r => h φ2 H2 b (x.trans y) s r
  | .rt _ _, h => fun φ2 H2 b y s r => h φ2 H2 b (x.trans y) s r
  | .bk _ _, h => fun φ2 H2 b y s r => h φ2 H2 b (x.trans y) s r
  | .ct _ _, h => fun φ2 H2 b y s r => h φ2 H2 b (x.trans y) s r
  | .ex _ _ _, h => fun φ2 H2 b c d y s r => h φ2 H2 b c d (x.trans y) s r
  | .no, h => h
/-- an expression, then the rest of the statement -/
theorem OutS.st {α β : Type} {rel : List Addr → Hp → α → β → Prop} {m : R α} {f : α → PH → RS} {ρ : Env} {σ : St} (re : RE K φ H ρ σ) (h : OutS K mg φ H W D (m.st ρ f)) :
    Out K mg rel φ H (atS W σ) (fun b H' => ∃ φ' a h1, Ext φ φ' H H' ∧ Sim K φ' h1 H' ∧ rel φ' H' a b ∧ OutS K mg φ' H' W D (f a h1)) m := by
  cases m with
  | ok a h1 => exact fun φ' H' b x s r => ⟨φ', a, h1, x, s, r, h.mono x⟩
  | ex y h1 => exact fun φ' H' c d x s r => h φ' H' σ c d x s (re.mono x) r
  | no => exact h
theorem OutS.atN {ρ : Env} {h : PH} {σ : St} (o : OutS K mg φ H W D (.nx ρ h)) (s : Sim K φ h H) (re : RE K φ H ρ σ) : D.nx σ H := o φ H σ (Ext.refl _ _) s re
end
def tS (K : ZZ) (mg : Str → Option Value) (W : WX) (C : Calls) (s : S) : TS := fun D σ H => ∃ ρ φ h, Sim K φ h H ∧ RE K φ H ρ σ ∧ OutS K mg φ H W D (exS C s ρ h)
def tSs (K : ZZ) (mg : Str → Option Value) (W : WX) (C : Calls) (s : List S) : TS := fun D σ H => ∃ ρ φ h, Sim K φ h H ∧ RE K φ H ρ σ ∧ OutS K mg φ H W D (exSs C s ρ h)
abbrev JS (X : Cx) (W : WX) (C : Calls) (a : Stmt) (s : S) : Prop := PS X a (tS (zOf X) X.mg W C s)
abbrev JSs (X : Cx) (W : WX) (C : Calls) (a : List Stmt) (s : List S) : Prop := PSs X a (tSs (zOf X) X.mg W C s)
theorem ps_imp {X : Cx} {a : Stmt} {t t' : TS} (p : PS X a t) (f : ∀ D σ H, t' D σ H → t D σ H) : PS X a t' := ⟨fun pins s σ H D I h => p.run pins s σ H D I (f D σ H h)⟩
theorem pss_imp {X : Cx} {a : List Stmt} {t t' : TS} (p : PSs X a t) (f : ∀ D σ H, t' D σ H → t D σ H) : PSs X a t' := ⟨fun pins s σ H D I h => p.run pins s σ H D I (f D σ H h)⟩
section
variable {X : Cx} {W : WX} {C : Calls} {a b c : Expr} {st : Stmt} {sts rest : List Stmt} {pos : Pos} {ea eb ec : E} {s : S} {ss ss2 : List S}
theorem jss_nil : JSs X W C [] [] := pss_imp pss_nil fun D σ H ⟨ρ, φ, h, sm, re, o⟩ => (show OutS (zOf X) X.mg φ H W D (.nx ρ h) from o).atN sm re
theorem jss_cons (h1 : JS X W C st s) (h2 : JSs X W C rest ss) : JSs X W C (st :: rest) (s :: ss) := pss_imp (pss_cons h1 h2) fun D σ H ⟨ρ, φ, h, sm, re, o⟩ => by
  have o' : OutS (zOf X) X.mg φ H W D ((exS C s ρ h).seq fun ρ1 h1 => exSs C ss ρ1 h1) := o
  refine ⟨ρ, φ, h, sm, re, ?_⟩
  cases e : exS C s ρ h with
  | nx ρ1 h1 =>
    rw [e] at o'
    exact fun φ' H' σ' x s r => ⟨ρ1, φ', h1, s, r, OutS.mono x o'⟩
  | rt v h1 => rw [e] at o'; exact o'
  | bk ρ1 h1 => rw [e] at o'; exact o'
  | ct ρ1 h1 => rw [e] at o'; exact o'
  | ex x ρ1 h1 => rw [e] at o'; exact o'
  | no => rw [e] at o'; exact o'
theorem js_ret (ha : JE X W C a ea) : JS X W C (.Return (some a) pos) (.ret ea) := ps_imp (ps_ret ha) fun D σ H ⟨ρ, φ, h, sm, re, o⟩ =>
  ⟨ρ, φ, h, sm, re, (OutS.st (rel := RV (zOf X)) re (show OutS (zOf X) X.mg φ H W D ((evE C ea ρ h).st ρ fun v h1 => .rt v h1) from o)).imp fun x H1 ⟨φ1, v, h1, x1, s1, r1, o1⟩ => o1 φ1 H1 x (Ext.refl _ _) s1 r1⟩
theorem js_expr (ha : JE X W C a ea) (hs : swapsWith a none pos.line X.env = pure false := by rfl) : JS X W C (.Expr a pos) (.ex ea) := ps_imp (ps_expr ha hs) fun D σ H ⟨ρ, φ, h, sm, re, o⟩ =>
  ⟨ρ, φ, h, sm, re, (OutS.st (rel := RV (zOf X)) re (show OutS (zOf X) X.mg φ H W D ((evE C ea ρ h).st ρ fun v h1 => .nx ρ h1) from o)).imp fun x H1 ⟨φ1, v, h1, x1, s1, r1, o1⟩ => o1.atN s1 (re.mono x1)⟩
theorem js_if (hc : JT X W C c ec) (ha : JSs X W C sts ss) (hb : JSs X W C rest ss2) : JS X W C (.If c sts rest pos) (.ifs ec ss ss2) := ps_imp (ps_if hc ha hb) fun D σ H ⟨ρ, φ, h, sm, re, o⟩ =>
  ⟨ρ, φ, h, sm, re, (OutS.st (rel := RI) re (show OutS (zOf X) X.mg φ H W D ((evT C ec ρ h).st ρ fun k h1 => if k then exSs C ss ρ h1 else exSs C ss2 ρ h1) from o)).imp fun k H1 ⟨φ1, k1, h1, x1, s1, r1, o1⟩ => by
    have r1' : k1 = k := r1
    subst r1'
    cases k1 with
    | true => exact ⟨ρ, φ1, h1, s1, re.mono x1, o1⟩
    | false => exact ⟨ρ, φ1, h1, s1, re.mono x1, o1⟩⟩
/-- name = e -/
theorem asg_red {te : TE} {i : Nat} {D : Ends} {σ : St} {H : Hp} (hte : ∀ Q, tE (zOf X) X.mg W C ea σ H Q → te σ H Q) (t : tS (zOf X) X.mg W C (.asg (.nm i) ea) D σ H) : tAsg te (gName i) D σ H := by
  obtain ⟨ρ, φ, h, sm, re, o⟩ := t
  exact hte _ ⟨ρ, φ, h, sm, re, (OutS.st (rel := RV (zOf X)) re (show OutS (zOf X) X.mg φ H W D ((evE C ea ρ h).st ρ fun v h1 => .nx (ρ.set i (some v)) h1) from o)).imp fun x H1 ⟨φ1, v, h1, x1, s1, r1, o1⟩ => o1.atN s1 ((re.mono x1).set i r1)⟩
theorem js_set {i : Nat} {x : Str} {pos' : Pos} (hN : X.N.Nodup) (ha : JE X W C a ea) (hi : X.N[i]? = some x := by rfl) (hx : Loc X.env.scope x := by first | exact .inl rfl | exact .inr rfl) (hs : swapsWith a (some (.Name x pos')) pos.line X.env = pure false := by rfl) (hf : X.fn x = true ∨ X.env.scope.names.lookup x = some .local := by first | exact .inl rfl | exact .inr rfl | assumption) :
    JS X W C (.Assign [.Name x pos'] a pos) (.asg (.nm i) ea) := ps_imp (ps_set hN hi hx ha hs hf) fun D σ H t => asg_red (fun _ z => z) t
/-- name = [.. for ..] on one line -/
theorem js_setC {i : Nat} {y : Str} {py : Pos} {elt tg iter : Expr} {ifs : List Expr} {scope : Scope} {own : List (Str × Nat)} {pos spos : Pos} {ee : E} {is : List Nat} {one : TgK} {k : ITK} {its : List E} {cond : Option E} (hc : X.calm = true) (hN : X.N.Nodup) (hi : JI X W C tg iter k its) (ok : BlkOk X.N X.env.scope scope own)
    (hg : ∀ (s : Shared) (H : Hp) (C : Addr) (cl : List (Str × Addr)) (fp : List Addr), PG (X.blk s H scope (compEnvC scope cl C X.env) fp) tg (gT X.K is one)) (ht : ∀ (s : Shared) (H : Hp) (C' : Addr) (cl : List (Str × Addr)) (fp : List Addr), PTs (X.blk s H scope (compEnvC scope cl C' X.env) fp) ifs (tCond (zOf (X.blk s H scope (compEnvC scope cl C' X.env) fp)) X.mg C cond))
    (he : ∀ (s : Shared) (H : Hp) (C' : Addr) (cl : List (Str × Addr)) (fp : List Addr), JE (X.blk s H scope (compEnvC scope cl C' X.env) fp) W0 C elt ee) (hy : X.N[i]? = some y := by rfl) (hyl : X.env.scope.names.lookup y = some .local := by rfl)
    (hsw : swapsWith (.ListComp elt [⟨tg, iter, ifs, 0⟩] scope pos) (some (.Name y py)) spos.line X.env = pure true := by exact sw_true rfl rfl rfl (by decide +kernel)) (his : ∀ i ∈ is, i ∈ own.map (·.2) := by decide) (hs : ∀ x, foldedSetIterable iter X.env x = pure x := by intro _; rfl) :
    JS X W C (.Assign [.Name y py] (.ListComp elt [⟨tg, iter, ifs, 0⟩] scope pos) spos) (.asg (.nm i) (.comp ee is one k its cond (own.map (·.2)))) :=
  by
  have hz : zOf X = ⟨X.K, [], X.prog, X.w⟩ := z_calm hc
  have hzb : ∀ (s : Shared) (H : Hp) (cenv : PySem.Env) (fp : List Addr), zOf (X.blk s H scope cenv fp) = ⟨X.K, [], X.prog, X.w⟩ := fun s H cenv fp => z_calm (X := X.blk s H scope cenv fp) hc
  have ht' : ∀ (s : Shared) (H : Hp) (C' : Addr) (cl : List (Str × Addr)) (fp : List Addr), PTs (X.blk s H scope (compEnvC scope cl C' X.env) fp) ifs (tCond ⟨X.K, [], X.prog, X.w⟩ X.mg C cond) := fun s H C' cl fp => by
    have z := ht s H C' cl fp
    rw [hzb] at z
    exact z
  have he' : ∀ (s : Shared) (H : Hp) (C' : Addr) (cl : List (Str × Addr)) (fp : List Addr), PE (X.blk s H scope (compEnvC scope cl C' X.env) fp) elt (tE ⟨X.K, [], X.prog, X.w⟩ X.mg W0 C ee) := fun s H C' cl fp => by
    have z := he s H C' cl fp
    unfold JE at z
    rw [hzb] at z
    exact z
  exact ps_imp (ps_setLc (te := tE ⟨X.K, [], X.prog, X.w⟩ X.mg W0 C ee) hc hN hy hyl hsw hi ok hg ht' he' hs) fun D σ H t => by
    have t' := asg_red (X := X) (fun _ z => comp_red his z) t
    rw [← hz]
    exact t'
/-- (a, b, ..) = e -/
theorem js_tup {tg : Expr} {is : List Nat} (ha : JE X W C a ea) (hg : PG X tg (gTup X.K is.length (gNs is))) (hs : swapsWithSole [tg] a pos.line X.env = pure false := by rfl) (hw : swappedStores [tg] a X.env = pure none := by rfl)
    (h1 : (assignEach [tg] X.env).map (·.2) = [assign tg X.env] := by rfl) : JS X W C (.Assign [tg] a pos) (.asg (.tup is) ea) := ps_imp (ps_asg ha hg hs hw h1) fun D σ H ⟨ρ, φ, h, sm, re, o⟩ =>
  ⟨ρ, φ, h, sm, re, (OutS.st (rel := RV (zOf X)) re (show OutS (zOf X) X.mg φ H W D ((evE C ea ρ h).st ρ fun v h1 => stTg C (.tup is) v ρ h1) from o)).imp fun x H1 ⟨φ1, v, h1, x1, s1, r1, o1⟩ => by
    cases v with
    | tup l =>
      simp only [stTg] at o1
      cases e : setAll ρ is l with
      | none => simp only [e] at o1; exact (show False from o1).elim
      | some ρ' =>
        simp only [e] at o1
        obtain ⟨ad, vs, hx, hq, r'⟩ := r1
        obtain ⟨g1, g2⟩ := setAll_ok (re.mono x1) r' e
        exact ⟨ad, vs, hx, hq.sq, g2.symm, gNs_ok g2 (OutS.atN o1 s1 g1)⟩
    | _ => exact (show False from o1).elim⟩
/-- a, b = x, y: two plain names -/
theorem js_par {i j : Nat} {x y : Str} {px py pt : Pos} {kt k2 : Nat} {pt2 : Pos} (hc : X.calm = true) (hN : X.N.Nodup) (ha : JA X W C [a, b] [ea, eb]) (hij : i ≠ j := by decide) (hi : X.N[i]? = some x := by rfl) (hj : X.N[j]? = some y := by rfl)
    (hx : X.env.scope.names.lookup x = some .local := by rfl) (hy : X.env.scope.names.lookup y = some .local := by rfl)
    (hw : swappedStores [.Tuple [.Name x px, .Name y py] kt pt] (.Tuple [a, b] k2 pt2) X.env = pure (some [x, y]) := by rfl)
    (hs : swapsWithSole [.Tuple [.Name x px, .Name y py] kt pt] (.Tuple [a, b] k2 pt2) pos.line X.env = pure false := by rfl) :
    JS X W C (.Assign [.Tuple [.Name x px, .Name y py] kt pt] (.Tuple [a, b] k2 pt2) pos) (.asg (.tup [i, j]) (.tup [ea, eb])) := ps_imp (ps_par hc hN hi hj hij hx hy ha hw hs) fun D σ H ⟨ρ, φ, h, sm, re, o⟩ => by
  have o' : OutS (zOf X) X.mg φ H W D ((evGs C [ea, eb] ρ h).st ρ fun l h1 => (tupO l h1).st ρ fun v h2 => stTg C (.tup [i, j]) v ρ h2) := by
    have e : exS C (.asg (.tup [i, j]) (.tup [ea, eb])) ρ h = (evGs C [ea, eb] ρ h).st ρ fun l h1 => (tupO l h1).st ρ fun v h2 => stTg C (.tup [i, j]) v ρ h2 := by
      show (((evGs C [ea, eb] ρ h).bind fun l h1 => tupO l h1).st ρ fun v h1 => stTg C (.tup [i, j]) v ρ h1) = _
      cases evGs C [ea, eb] ρ h <;> rfl
    rw [← e]
    exact o
  refine ⟨ρ, φ, h, sm, re, (OutS.st (rel := RVs (zOf X)) re o').imp fun vs H1 ⟨φ1, l, h1, x1, s1, r1, o1⟩ => ?_⟩
  unfold tupO at o1
  split at o1
  · have o2 : OutS (zOf X) X.mg φ1 H1 W D (match setAll ρ [i, j] l with | some ρ' => .nx ρ' h1 | none => .no) := o1
    cases e : setAll ρ [i, j] l with
    | none => rw [e] at o2; exact (show False from o2).elim
    | some ρ' =>
      rw [e] at o2
      obtain ⟨g1, g2⟩ := setAll_ok (re.mono x1) r1 e
      match vs, g2, g1 with
      | [v, w], _, g1 => exact ⟨v, w, rfl, OutS.atN o2 s1 g1⟩
  · exact (show False from o1).elim
/-- o[i] = e -/
theorem js_sub {o i : Expr} {eo ei : E} {tpos : Pos} (hu : X.A.units + 66 < cLine) (ha : JE X W C a ea) (ho : JE X W C o eo) (hi : JE X W C i ei)
    (hg : ∀ v, assign (.Subscript o i tpos) X.env v = (do
      let ov ← holding [v] (eval o X.env)
      let iv ← holding [v, ov] (eval i X.env)
      standAt tpos
      holding [v, ov, iv] (setItem ov iv v)
      release [v, ov, iv] []) := by intro _; rfl)
    (hs : swapsWithSole [.Subscript o i tpos] a pos.line X.env = pure false := by rfl) (hw : swappedStores [.Subscript o i tpos] a X.env = pure none := by rfl)
    (h1 : (assignEach [.Subscript o i tpos] X.env).map (·.2) = [assign (.Subscript o i tpos) X.env] := by rfl) : JS X W C (.Assign [.Subscript o i tpos] a pos) (.asg (.sub eo ei) ea) :=
  ps_imp (ps_asg ha (pg_sub ho hi (set_ok (by omega)) hg) hs hw h1) fun D σ H ⟨ρ, φ, h, sm, re, oo⟩ =>
    ⟨ρ, φ, h, sm, re, (OutS.st (rel := RV (zOf X)) re (show OutS (zOf X) X.mg φ H W D ((evE C ea ρ h).st ρ fun v h1 => (evE C eo ρ h1).st ρ fun x h2 => (evE C ei ρ h2).st ρ fun y h3 => match setop x y v h3 with | some h4 => .nx ρ h4 | none => .no) from oo)).imp fun x H1 ⟨φ1, v, h1, x1, s1, r1, o1⟩ =>
      ⟨ρ, φ1, h1, s1, re.mono x1, (OutS.st (rel := RV (zOf X)) (re.mono x1) o1).imp fun y H2 ⟨φ2, w, h2, x2, s2, r2, o2⟩ =>
        ⟨ρ, φ2, h2, s2, (re.mono x1).mono x2, (OutS.st (rel := RV (zOf X)) ((re.mono x1).mono x2) o2).imp fun z H3 ⟨φ3, u, h3, x3, s3, r3, o3⟩ => by
          cases e : setop w u v h3 with
          | none => rw [e] at o3; exact (show False from o3).elim
          | some h4 =>
            rw [e] at o3
            exact ⟨φ3, h3, w, u, v, h4, s3, r2.mono x3, r3, (r1.mono x2).mono x3, e, fun H4 x4 s4 => (show OutS (zOf X) X.mg φ3 H3 W D (.nx ρ h4) from o3) φ3 H4 σ x4 s4 ((((re.mono x1).mono x2).mono x3).mono x4)⟩⟩⟩⟩
theorem iop_ok {W' : XK} (op : Operator) : OpR X (inplaceOp op) (rOp (zOf X) X.mg W' (iopF op)) := by
  intro pins s σ H x y v u Q I rx ry hh
  obtain ⟨φ, h, a, b, sm, ra, rb, o⟩ := hh
  unfold iopF at o
  split at o
  · exact iop_add pins s σ H x y v u Q I rx ry ⟨_, _, ra, rb, o.at sm rfl⟩
  · exact iop_sub pins s σ H x y v u Q I rx ry ⟨_, _, ra, rb, o.at sm rfl⟩
  · split at o
    · rename_i hm
      exact iop_add_str pins s σ H x y v u Q I rx ry ⟨_, _, ra, rb, line_ok hm, o.at sm rfl⟩
    · exact o.elim
  · exact o.elim
theorem js_aug {i : Nat} {x : Str} {op : Operator} {pos' : Pos} (hN : X.N.Nodup) (ha : JE X W C a ea) (hi : X.N[i]? = some x := by rfl) (hx : Loc X.env.scope x := by first | exact .inl rfl | exact .inr rfl) (hf : X.fn x = true ∨ X.env.scope.names.lookup x = some .local := by first | exact .inl rfl | exact .inr rfl | assumption) :
    JS X W C (.AugAssign (.Name x pos') op a pos) (.aug i op ea) := ps_imp (ps_aug (ti := fun x y H Q => ∃ W', rOp (zOf X) X.mg W' (iopF op) x y H Q) hN hi hx ha (opr_any fun W' => iop_ok (W' := W') op) hf) fun D σ H ⟨ρ, φ, h, sm, re, o⟩ => by
  have o' : OutS (zOf X) X.mg φ H W D (match ρ.get i with
    | some x => (evE C ea ρ h).st ρ fun y h1 => (iopF op x y h1).st ρ fun z h2 => .nx (ρ.set i (some z)) h2
    | none => .no) := o
  cases e : ρ.get i with
  | none => rw [e] at o'; exact (show False from o').elim
  | some p =>
    rw [e] at o'
    have e' : ρ[i]? = some (some p) := by
      unfold Env.get at e
      split at e
      · rename_i v e2
        rw [e2, Option.some.inj e]
      · cases e
    obtain ⟨v, e3, r⟩ := re.get e'
    exact ⟨v, e3, ρ, φ, h, sm, re, (OutS.st (rel := RV (zOf X)) re o').imp fun y H1 ⟨φ1, w, h1, x1, s1, r1, o1⟩ =>
      ⟨_, φ1, h1, p, w, s1, r.mono x1, r1, (OutS.st (rel := RV (zOf X)) (re.mono x1) o1).imp fun z H2 ⟨φ2, u, h2, x2, s2, r2, o2⟩ => OutS.atN o2 s2 (((re.mono x1).mono x2).set i r2)⟩⟩
theorem pget_ok : PGet X (fun x y H Q => ∃ W', rOp (zOf X) X.mg W' getL x y H Q) := by
  intro pins s σ H o i ov iv Q I ro ri hh
  obtain ⟨W', φ, h, a, b, sm, ra, rb, oo⟩ := hh
  unfold getL at oo
  split at oo
  · rename_i n k
    split at oo
    · rename_i hk
      split at oo
      · rename_i l e1
        obtain ⟨p, e2, q⟩ := oo.some
        obtain ⟨ad, vs, f1, g1, r1⟩ := sm.lst e1
        obtain ⟨b1, hx, q1⟩ := ra
        rw [f1] at q1
        cases q1
        obtain ⟨w, e3, rw'⟩ := r1.get e2
        subst hx
        cases ro
        rw [show i = .int k from rb] at ri
        obtain ⟨t, rfl⟩ := ri
        obtain ⟨its, rr, pl, hz⟩ := I.list (SqL.of g1)
        obtain ⟨u, eu, ru⟩ := rr.get e3
        have hl := rr.length
        have hlt := (List.getElem?_eq_some_iff.mp e3).1
        have hs := sizeLine_eq
        exact wpAny_getItem_list pl.isList hk (by omega) (by simpa using eu) ⟨w, H, I, ru, q.at sm rw'⟩
      · exact oo.elim
    · exact oo.elim
  · exact oo.elim
theorem js_augs {o i : Expr} {eo ei : E} {op : Operator} {tpos : Pos} (hu : X.A.units + 66 < cLine) (ho : JE X W C o eo) (hi : JE X W C i ei) (ha : JE X W C a ea)
    (hg : ∀ ov iv new, augStore i ov iv new = (do holding [new, ov, iv] (setItem ov iv new); release [new, ov, iv] []; pure .next) := by intros; rfl) : JS X W C (.AugAssign (.Subscript o i tpos) op a pos) (.augs eo ei op ea) :=
  ps_imp (ps_augS (tip := fun x y H Q => ∃ W', rOp (zOf X) X.mg W' (iopF op) x y H Q) ho hi pget_ok ha (opr_any fun W' => iop_ok (W' := W') op) (set_ok (by omega)) hg) fun D σ H ⟨ρ, φ, h, sm, re, oo⟩ =>
    ⟨ρ, φ, h, sm, re, (OutS.st (rel := RV (zOf X)) re (show OutS (zOf X) X.mg φ H W D ((evE C eo ρ h).st ρ fun ov h1 => (evE C ei ρ h1).st ρ fun iv h2 => (getL ov iv h2).st ρ fun x h3 => (evE C ea ρ h3).st ρ fun y h4 => (iopF op x y h4).st ρ fun z h5 => match setop ov iv z h5 with | some h6 => .nx ρ h6 | none => .no) from oo)).imp fun x H1 ⟨φ1, ov, h1, x1, s1, r1, o1⟩ =>
      ⟨ρ, φ1, h1, s1, re.mono x1, (OutS.st (rel := RV (zOf X)) (re.mono x1) o1).imp fun y H2 ⟨φ2, iv, h2, x2, s2, r2, o2⟩ =>
        ⟨_, φ2, h2, ov, iv, s2, r1.mono x2, r2, (OutS.st (rel := RV (zOf X)) ((re.mono x1).mono x2) o2).imp fun g H3 ⟨φ3, gv, h3, x3, s3, r3, o3⟩ =>
          ⟨ρ, φ3, h3, s3, ((re.mono x1).mono x2).mono x3, (OutS.st (rel := RV (zOf X)) (((re.mono x1).mono x2).mono x3) o3).imp fun y4 H4 ⟨φ4, yv, h4, x4, s4, r4, o4⟩ =>
            ⟨_, φ4, h4, gv, yv, s4, r3.mono x4, r4, (OutS.st (rel := RV (zOf X)) ((((re.mono x1).mono x2).mono x3).mono x4) o4).imp fun z H5 ⟨φ5, zv, h5, x5, s5, r5, o5⟩ => by
              have re5 := ((((re.mono x1).mono x2).mono x3).mono x4).mono x5
              cases e : setop ov iv zv h5 with
              | none => rw [e] at o5; exact (show False from o5).elim
              | some h6 =>
                rw [e] at o5
                exact ⟨φ5, h5, ov, iv, zv, h6, s5, (((r1.mono x2).mono x3).mono x4).mono x5, ((r2.mono x3).mono x4).mono x5, r5, e, fun H6 x6 s6 => (show OutS (zOf X) X.mg φ5 H5 W D (.nx ρ h6) from o5) φ5 H6 σ x6 s6 (re5.mono x6)⟩⟩⟩⟩⟩⟩
end
end Sb
set_option Elab.async false
set_option linter.all false
set_option maxRecDepth 100000
set_option maxHeartbeats 4000000
namespace Sb
open PySem PySem.Spec L2
section
variable {K : ZZ} {mg : Str → Option Value} {φ : List Addr} {H : Hp} {W : WX} {D D' : Ends}
/-- a turn's end -/
theorem OutS.turn {m : RS} {f : Env → PH → RS} (h : OutS K mg φ H W D (m.turn f)) (hN : ∀ φ' H' σ' ρ' h', Ext φ φ' H H' → Sim K φ' h' H' → RE K φ' H' ρ' σ' → OutS K mg φ' H' W D (f ρ' h') → D'.nx σ' H') (hC : D'.ct = D'.nx) (hB : D'.bk = D.nx) (hR : D'.rt = D.rt) : OutS K mg φ H W D' m := by
  cases m with
  | nx ρ1 h1 => exact fun φ' H' σ' x s r => hN φ' H' σ' ρ1 h1 x s r (OutS.mono x h)
  | ct ρ1 h1 =>
    intro φ' H' σ' x s r
    rw [hC]
    exact hN φ' H' σ' ρ1 h1 x s r (OutS.mono x h)
  | bk ρ1 h1 =>
    intro φ' H' σ' x s r
    rw [hB]
    exact h φ' H' σ' x s r
  | rt v h1 =>
    intro φ' H' y x s r
    rw [hR]
    exact h φ' H' y x s r
  | ex y ρ1 h1 => exact h
  | no => exact h
end
section
variable {X : Cx} {W : WX} {C : Calls} {a b c tg iter : Expr} {st : Stmt} {sts rest : List Stmt} {pos : Pos} {ea eb ec : E} {s : S} {ss ss2 : List S}
theorem js_while0 (hp : PassesOwn (model X.prog X.w) X.A X.env X.xe) (hc : JT X W C c ec) (hb : JSs X W C sts ss) : JS X W C (.While c sts [] pos) (.whl ec ss) := ps_imp (ps_while hp hc hb) fun D σ H ⟨ρ, φ, h, sm, re, o⟩ => by
  have o' : OutS (zOf X) X.mg φ H W D (whileF (fun ρ h => evT C ec ρ h) (fun ρ h => exSs C ss ρ h) ρ h) := o
  have ne : whileF (fun ρ h => evT C ec ρ h) (fun ρ h => exSs C ss ρ h) ρ h ≠ .no := fun z => by
    rw [z] at o'
    exact o'
  obtain ⟨n, _, e⟩ := whileF_some ne
  rw [e] at o'
  refine ⟨fun m σ H => ∃ ρ φ h, Sim (zOf X) φ h H ∧ RE (zOf X) φ H ρ σ ∧ OutS (zOf X) X.mg φ H W D (whileN (fun ρ h => evT C ec ρ h) (fun ρ h => exSs C ss ρ h) m ρ h), ⟨n, ρ, φ, h, sm, re, o'⟩, ?_⟩
  rintro m σ H ⟨ρ, φ, h, sm, re, o⟩
  cases m with
  | zero => exact (show False from o).elim
  | succ m =>
    refine ⟨ρ, φ, h, sm, re, (OutS.st (rel := RI) re (show OutS (zOf X) X.mg φ H W D ((evT C ec ρ h).st ρ fun k h1 => if k then (exSs C ss ρ h1).turn (whileN (fun ρ h => evT C ec ρ h) (fun ρ h => exSs C ss ρ h) m) else .nx ρ h1) from o)).imp fun k H1 ⟨φ1, k1, h1, x1, s1, r1, o1⟩ => ?_⟩
    have r1' : k1 = k := r1
    subst r1'
    cases k1 with
    | false =>
      simp only [Bool.false_eq_true, if_false] at o1 ⊢
      exact OutS.atN o1 s1 (re.mono x1)
    | true =>
      simp only [if_true] at o1 ⊢
      refine ⟨fun σ H => ∃ ρ φ h, Sim (zOf X) φ h H ∧ RE (zOf X) φ H ρ σ ∧ OutS (zOf X) X.mg φ H W D (whileN (fun ρ h => evT C ec ρ h) (fun ρ h => exSs C ss ρ h) m ρ h), fun σ' H' z => ⟨m, Nat.lt_succ_self m, z⟩, ρ, φ1, h1, s1, re.mono x1, ?_⟩
      exact OutS.turn o1 (fun φ' H' σ' ρ' h' x s r o => ⟨ρ', φ', h', s, r, o⟩) rfl rfl rfl
theorem js_for0 {is : List Nat} {one : TgK} {k : ITK} {its : List E} (hp : PassesOwn (model X.prog X.w) X.A X.env X.xe) (hc : X.calm = true) (hi : JI X W C tg iter k its) (hg : PG X tg (gT X.K is one)) (hb : JSs X W C sts ss)
    (hs : ∀ x, foldedSetIterable iter X.env x = pure x := by intro _; rfl) : JS X W C (.For tg iter sts [] pos) (.fr is one k its ss) := ps_imp (ps_for hp hc hi hg hb hs) fun D σ H ⟨ρ, φ, h, sm, re, o⟩ => by
  have o' : OutS (zOf X) X.mg φ H W D ((evI C k its ρ h).st ρ fun w h1 => forLoop w.2 (fun ρ x => setTg ρ is one x) (fun ρ h => exSs C ss ρ h) w.1 ρ h1) := by
    have e : exS C (.fr is one k its ss) ρ h = (evI C k its ρ h).st ρ fun w h1 => forLoop w.2 (fun ρ x => setTg ρ is one x) (fun ρ h => exSs C ss ρ h) w.1 ρ h1 := by
      unfold evI
      show ((evGs C its ρ h).st ρ _) = _
      cases evGs C its ρ h with
      | ok l h1 =>
        rw [R.st_ok, R.bind_ok]
        cases walkF k l h1 with
        | none => rfl
        | some w => rfl
      | ex x h1 => rfl
      | no => rfl
    rw [← e]
    exact o
  refine ⟨ρ, φ, h, sm, re, (OutS.st (rel := relW (zOf X)) re o').imp fun J H1 ⟨φ1, w, h1, x1, s1, wk, o1⟩ => ?_⟩
  obtain ⟨items, kp⟩ := w
  have wk : WalkOk (zOf X) J φ1 H1 items kp := wk
  refine ⟨fun i m σ2 H2 => ∃ ρ2 φ2 h2, m = (items.drop i).length ∧ Ext φ1 φ2 H1 H2 ∧ Sim (zOf X) φ2 h2 H2 ∧ RE (zOf X) φ2 H2 ρ2 σ2 ∧ OutS (zOf X) X.mg φ2 H2 W D (forLoop kp (fun ρ x => setTg ρ is one x) (fun ρ h => exSs C ss ρ h) (items.drop i) ρ2 h2),
    ⟨items.length, ρ, φ1, h1, rfl, Ext.refl _ _, s1, re.mono x1, o1⟩, ?_⟩
  rintro i m σ2 H2 ⟨ρ2, φ2, h2, hm, x2, s2, re2, o2⟩
  cases e : items.drop i with
  | nil =>
    rw [e] at o2
    unfold forLoop at o2
    split at o2
    · rename_i hs
      exact .inl ⟨wk.stop i φ2 h2 H2 x2 s2 hs (List.drop_eq_nil_iff.mp e), OutS.atN o2 s2 re2⟩
    · exact (show False from o2).elim
  | cons p rest =>
    have ei : items[i]? = some p := by
      have := congrArg (·[0]?) e
      simpa using this
    have er : items.drop (i + 1) = rest := by
      rw [← List.drop_drop, e]
      rfl
    rw [e] at o2
    unfold forLoop at o2
    split at o2
    · rename_i hs
      obtain ⟨hgo, hy⟩ := wk.go i φ2 h2 H2 p x2 s2 hs ei
      refine .inr ⟨hgo, fun σ3 H3 => ∃ ρ3 φ3 h3, Ext φ1 φ3 H1 H3 ∧ Sim (zOf X) φ3 h3 H3 ∧ RE (zOf X) φ3 H3 ρ3 σ3 ∧ OutS (zOf X) X.mg φ3 H3 W D (forLoop kp (fun ρ x => setTg ρ is one x) (fun ρ h => exSs C ss ρ h) rest ρ3 h3), fun σ3 H3 z => ?_, fun v H3 y => ?_⟩
      · obtain ⟨ρ3, φ3, h3, z1, z2, z3, z4⟩ := z
        refine ⟨rest.length, by rw [hm, e, List.length_cons]; omega, ρ3, φ3, h3, by rw [er], z1, z2, z3, ?_⟩
        rw [er]
        exact z4
      · obtain ⟨ex, sx, rx⟩ := hy v H3 y
        cases eb : setTg ρ2 is one p with
        | none => simp only [eb] at o2; exact (show False from o2).elim
        | some ρ3 =>
          simp only [eb] at o2
          refine gT_ok (re2.mono ex) rx eb fun σ3 re3 _ => ⟨ρ3, φ2, h2, sx, re3, ?_⟩
          exact OutS.turn (OutS.mono ex o2) (fun φ' H' σ' ρ' h' x s r o => ⟨ρ', φ', h', (x2.trans ex).trans x, s, r, o⟩) rfl rfl rfl
    · exact (show False from o2).elim
end
structure Cq (X : Cx) (W : WX) (k : Nat) : Prop where
  calm : X.calm = true
  nd : X.N.Nodup
  hr : Room (k + 3) X.A
  tk : L2N.Takes X W
  po : PassesOwn (model X.prog X.w) X.A X.env X.xe
theorem Cq.blk {X : Cx} {W : WX} {k : Nat} (c : Cq X W k) (s : Shared) (H : Hp) (scope : Scope) (cenv : PySem.Env) (fp : List Addr) : Cq (X.blk s H scope cenv fp) W0 k := ⟨c.calm, c.nd, c.hr, takesN0, PassesOwn.never⟩
/-- a loop's or comprehension's target: one name, names -/
theorem tg_one {X : Cx} {i : Nat} {x : Str} {pos : Pos} (hN : X.N.Nodup) (hi : X.N[i]? = some x := by rfl) (hx : Loc X.env.scope x := by first | exact .inl rfl | exact .inr rfl) (hf : X.fn x = true ∨ X.env.scope.names.lookup x = some .local := by first | exact .inl rfl | exact .inr rfl | assumption) : PG X (.Name x pos) (gT X.K [i] .one) := pg_name hN hi hx hf
theorem tgs_nil {X : Cx} : PGs X [] (gNs []) := pgs_nil
theorem tgs_cons {X : Cx} {i : Nat} {is : List Nat} {x : Str} {pos : Pos} {es : List Expr} (hN : X.N.Nodup) (h2 : PGs X es (gNs is)) (hi : X.N[i]? = some x := by rfl) (hx : Loc X.env.scope x := by first | exact .inl rfl | exact .inr rfl) (hf : X.fn x = true ∨ X.env.scope.names.lookup x = some .local := by first | exact .inl rfl | exact .inr rfl | assumption)
    (hs : (assignEach (.Name x pos :: es) X.env).map (·.2) = assign (.Name x pos) X.env :: (assignEach es X.env).map (·.2) := by rfl) : PGs X (.Name x pos :: es) (gNs (i :: is)) := pgs_cons (pg_name hN hi hx hf) h2 hs
theorem tg_tup {X : Cx} {es : List Expr} {kk : Nat} {pos : Pos} {is : List Nat} (hc : X.calm = true) (h : PGs X es (gNs is)) (hn : (assignEach es X.env).length = is.length := by rfl) (hst : (assignEach es X.env).findIdx? (·.1) = none := by rfl) : PG X (.Tuple es kk pos) (gT X.K is .tup) := pg_tup hc h hn hst
theorem tg_tup' {X : Cx} {es : List Expr} {kk : Nat} {pos : Pos} {is : List Nat} (hc : X.calm = true) (h : PGs X es (gNs is)) (hn : (assignEach es X.env).length = is.length := by rfl) (hst : (assignEach es X.env).findIdx? (·.1) = none := by rfl) : PG X (.Tuple es kk pos) (gTup X.K is.length (gNs is)) := pg_tup hc h hn hst
/-- a comprehension's test -/
theorem cd_none {X : Cx} {C : Calls} : PTs X [] (tCond (zOf X) X.mg C none) := pts_nil
theorem cd_some {X : Cx} {C : Calls} {a : Expr} {e : E} (h : JT X W0 C a e) : PTs X [a] (tCond (zOf X) X.mg C (some e)) := pts_one h
/-- all arguments are given -/
theorem binds_full {K : PySem.W.Frag} {x qual : Str} {params : Arguments} {body : List Stmt} {scope : Scope} {dvs : List V} {kws : List (Str × V)} {f : Addr} {fd : FuncData} {ps : List Str} (F : FunD K x qual params body scope dvs kws f fd) (hd : dvs ≠ [])
    (h : ∀ (T : Addr) (kV doc pm : Value) (an : Option Addr) (cdv ct : Value) (us its : List Value), us.length = ps.length → its.length = dvs.length →
      ∃ k, bindArgs (PySem.W.fnOf x qual params body scope (.ref T) kV doc pm an cdv ct) ⟨us, []⟩ = seqItems? (.ref T) >>= k ∧ k (some its.toArray) = pure (ps.zip us)) : Binds K fd ps [] := by
  obtain ⟨ds, v, b⟩ := F.binds1 (ps := ps) ps.length dvs.length hd (by simp) fun T kV doc pm an cdv ct us its h1 h2 => by
    obtain ⟨k, e1, e2⟩ := h T kV doc pm an cdv ct us its h1 h2
    exact ⟨k, e1, by rw [e2, List.drop_of_length_le (by omega), List.append_nil]⟩
  rw [List.drop_length] at v
  cases v
  exact b
theorem start_re {K : ZZ} {φ : List Addr} {H : Hp} : ∀ {ps : List PV} {vs : List V} (n : Nat), RVs K φ H ps vs → RE K φ H (ps.map some ++ List.replicate n none) (vs.map some ++ List.replicate n none)
  | [], vs, n, r => by
    have : vs = [] := r
    subst this
    show RE K φ H (List.replicate n none) (List.replicate n none)
    induction n with
    | zero => exact rfl
    | succ n ih => exact ⟨none, List.replicate n none, rfl, fun x e => (by cases e), ih⟩
  | p :: ps, vs, n, r => by
    obtain ⟨v, t, e, q, s⟩ := r
    subst e
    exact ⟨some v, _, rfl, fun x e => ⟨v, rfl, by cases e; exact q⟩, start_re n s⟩
theorem FunD.okC {P : Program} {w : World} {K : PySem.W.Frag} {mg : Str → Option Value} {base : Heap} {x qual : Str} {params : Arguments} {body : List Stmt} {scope : Scope} {dvs : List V} {kws : List (Str × V)} {f : Addr} {fd : FuncData} {CX : CXT} {N ps : List Str} {k : Nat} {sp : Sp} (F : FunD K x qual params body scope dvs kws f fd) (S : FnScope N ps scope) (len : ∀ vs H Q E, sp vs H Q E → vs.length = ps.length)
    (hbody : ∀ (cdv : Value) (A : Around) (outer : List PySem.Env) (s : Shared) (H : Hp) (vs : List V) (Q : VK) (E : XK), fd.code = cdv → Room k (A.deeper (PyProof.Rows.envOfC qual scope s.heap.objs.size f cdv)) → sp vs H Q E →
      ∃ t, PSs (cxOf CX P w K mg base N qual scope f cdv A outer s H E) body t ∧ t { nx := fun _ H' => Q .non H', rt := Q } (L2.start N vs) H) : FnOk P w K mg base CX (k + 1) f fd ps sp := by
  obtain ⟨oc, od, dV, kV, doc, pm, an, cdv, ct, osl, rfl, lk, hcd, _, _⟩ := F.ex
  exact fn_of lk hcd S len fun A outer s H vs Q E hr hsp => hbody cdv A outer s H vs Q E rfl hr hsp
theorem fn_ok {P : Program} {w : World} {K : PySem.W.Frag} {mg : Str → Option Value} {base : Heap} {x qual : Str} {params : Arguments} {body : List Stmt} {scope : Scope} {dvs : List V} {kws : List (Str × V)} {f : Addr} {fd : FuncData} {N ps : List Str} {k : Nat} {tbl : Nat → Fn} {fi : Nat}
    (F : FunD K x qual params body scope dvs kws f fd) (S : FnScope N ps scope) (hn : N.length = (tbl fi).ns) (hp : ps.length = (tbl fi).np)
    (hb : ∀ (cdv : Value) (A : Around) (outer : List PySem.Env) (s : Shared) (H : Hp) (E : XK), fd.code = cdv → Cq (cxOf (L2N.CX P w) P w K mg base N qual scope f cdv A outer s H E) (fun c d _ H => E c d H) k → JSs (cxOf (L2N.CX P w) P w K mg base N qual scope f cdv A outer s H E) (fun c d _ H => E c d H) (call tbl k) body (tbl fi).body) :
    FnOk P w K mg base (L2N.CX P w) (k + 1 + 3) f fd ps (spF ⟨K, [], P, w⟩ mg (call tbl (k + 1)) fi ps.length) := by
  refine FunD.okC F S (fun vs H Q E h => h.1) fun cdv A outer s H vs Q E hcd hr h => ?_
  obtain ⟨hl, φ, hh, pl, sm, r, o⟩ := h
  refine ⟨_, hb cdv A outer s H E hcd ⟨rfl, S.nd, hr, L2N.takes_of rfl rfl rfl rfl, PassesOwn.leaving⟩, ?_⟩
  have o' : Out ⟨K, [], P, w⟩ mg (RV ⟨K, [], P, w⟩) φ H E Q (runFn (call tbl k) (tbl fi) pl hh) := o
  unfold runFn at o'
  split at o'
  · rename_i hlen
    have re := start_re (N.length - vs.length) r
    have e1 : startP (tbl fi).ns pl = pl.map some ++ List.replicate (N.length - vs.length) none := by
      unfold startP
      rw [hn, r.length]
    refine ⟨startP (tbl fi).ns pl, φ, hh, sm, by rw [e1]; exact re, ?_⟩
    generalize exSs (call tbl k) (tbl fi).body (startP (tbl fi).ns pl) hh = m at o'
    cases m with
    | nx ρ h1 => exact fun φ' H' σ' x s r => o' φ' H' .non x s rfl
    | rt v h1 => exact fun φ' H' y x s r => o' φ' H' y x s r
    | ex y ρ h1 => exact fun φ' H' σ' c d x s _ r => o' φ' H' c d x s r
    | bk ρ h1 => exact (show False from o').elim
    | ct ρ h1 => exact (show False from o').elim
    | no => exact (show False from o').elim
  · exact (show False from o').elim
theorem fn_zero {P : Program} {w : World} {K : PySem.W.Frag} {mg : Str → Option Value} {base : Heap} {f : Addr} {fd : FuncData} {ps : List Str} {tbl : Nat → Fn} {fi : Nat} : FnOk P w K mg base (L2N.CX P w) (0 + 3) f fd ps (spF ⟨K, [], P, w⟩ mg (call tbl 0) fi ps.length) :=
  ⟨fun vs H Q E h => h.1, fun A outer s H args us vs Q E hr he hb hv h => by
    obtain ⟨_, φ, hh, pl, sm, r, o⟩ := h
    exact (show False from o).elim⟩
mutual
theorem pvB_ok {K : PySem.W.Frag} : ∀ {p : PV} {u : Value}, pvB K p u = true → ∃ v, RelV v u ∧ ∀ pn P w φ H, RV ⟨K, pn, P, w⟩ φ H p v
  | .non, u, e => by
    cases u with
    | none => exact ⟨.non, rfl, fun _ _ _ _ _ => rfl⟩
    | _ => cases e
  | .bl b, u, e => by
    cases u with
    | bool c =>
      have : b = c := eq_of_beq (show (b == c) = true from e)
      subst this
      exact ⟨.bl b, rfl, fun _ _ _ _ _ => rfl⟩
    | _ => cases e
  | .int b, u, e => by
    cases u with
    | int c t =>
      have : b = c := of_decide_eq_true e
      subst this
      exact ⟨.int b, ⟨t, rfl⟩, fun _ _ _ _ _ => rfl⟩
    | _ => cases e
  | .str b, u, e => by
    cases u with
    | str c t =>
      have : b = c := of_decide_eq_true e
      subst this
      exact ⟨.str b, ⟨t, rfl⟩, fun _ _ _ _ _ => rfl⟩
    | _ => cases e
  | .tup l, u, e => by
    cases u with
    | ref a =>
      simp only [pvB] at e
      split at e
      · rename_i c od its n sl q
        obtain ⟨h1, h2⟩ := Bool.and_eq_true_iff.mp e
        obtain ⟨h3, h4⟩ := Bool.and_eq_true_iff.mp h2
        obtain ⟨vs, rv, r⟩ := pvsB_ok h4
        refine ⟨.ref a, rfl, fun pn P w φ H => ⟨a, vs, rfl, .inr ⟨_, its, n, q, ?_, rfl, of_decide_eq_true h3, rv⟩, r pn P w φ H⟩⟩
        exact congrArg Value.type (of_decide_eq_true h1)
      · cases e
    | _ => cases e
  | .cl l, u, e => by
    cases u with
    | ref a =>
      simp only [pvB] at e
      split at e
      · rename_i c its n sl q
        obtain ⟨h1, h2⟩ := Bool.and_eq_true_iff.mp e
        obtain ⟨h3, h4⟩ := Bool.and_eq_true_iff.mp h2
        obtain ⟨vs, rv, r⟩ := pvsB_ok h4
        refine ⟨.ref a, rfl, fun pn P w φ H => ⟨a, vs, rfl, .inr ⟨_, its, n, q, ?_, rfl, rfl, of_decide_eq_true h3, rv⟩, r pn P w φ H⟩⟩
        exact congrArg Value.type (of_decide_eq_true h1)
      · cases e
    | _ => cases e
  | .ref n, u, e => by cases u <;> cases e
  | .ty n, u, e => by cases u <;> cases e
  | .cls n, u, e => by cases u <;> cases e
  | .xc n m l, u, e => by cases u <;> cases e
  | .ste l, u, e => by cases u <;> cases e
theorem pvsB_ok {K : PySem.W.Frag} : ∀ {l : List PV} {us : List Value}, pvsB K l us = true → ∃ vs, Vals vs us ∧ ∀ pn P w φ H, RVs ⟨K, pn, P, w⟩ φ H l vs
  | [], [], _ => ⟨[], .nil, fun _ _ _ _ _ => rfl⟩
  | [], _ :: _, e => by cases e
  | _ :: _, [], e => by cases e
  | p :: l, u :: us, e => by
    obtain ⟨h1, h2⟩ := Bool.and_eq_true_iff.mp (show (pvB K p u && pvsB K l us) = true from e)
    obtain ⟨v, r1, r2⟩ := pvB_ok h1
    obtain ⟨vs, r3, r4⟩ := pvsB_ok h2
    exact ⟨v :: vs, .cons r1 r3, fun pn P w φ H => RVs.cons (r2 pn P w φ H) (r4 pn P w φ H)⟩
end
/-- what a body may use of a constant -/
def ConI (K : PySem.W.Frag) (mg : Str → Option Value) (x : Str) (p : PV) : Prop := ∃ u v, mg x = some u ∧ RelV v u ∧ ∀ pn P w φ H, RV ⟨K, pn, P, w⟩ φ H p v
theorem conB_ok {K : PySem.W.Frag} {h : Heap} {mg : Str → Option Value} (X : K.In h) (G : h.Ns mainGlobals mg) {x : Str} {p : PV} (e : conB K x p = true) : ConI K mg x p := by
  unfold conB at e
  split at e
  · rename_i u q
    obtain ⟨v, r1, r2⟩ := pvB_ok e
    exact ⟨u, v, PySem.W.mg_of X G q, r1, r2⟩
  · cases e
theorem je_con {X : Cx} {W : WX} {C : Calls} {x : Str} {p : PV} {pos : Pos} (c : ConI X.K X.mg x p) (hg : Gl X x := by rfl) (hd : (x == ("__debug__" : Str)) = false := by decide) : JE X W C (.Name x pos) (.lit p) := by
  obtain ⟨u, v, hm, r, rr⟩ := c
  exact je_glob hm r (rr (hotPn X) X.prog X.w) hg hd
theorem cx_false {P : Program} {w : World} {H : Hp} {s : Shared} {e : Value} {s' : Shared} (h : L2N.CX P w [] H s (fun _ _ _ => False) e s') : False := by
  obtain ⟨_, _, _, _, _, _, _, _, _, _, _, _, z⟩ := h
  exact z.elim
end Sb
set_option Elab.async false
set_option linter.all false
set_option maxRecDepth 100000
set_option maxHeartbeats 4000000
namespace Sb
open PySem
def R.Sat {α : Type} (m : R α) (Q : α → PH → Prop) : Prop := match m with | .ok a h => Q a h | _ => False
@[simp] theorem sat_ok {α : Type} (a : α) (h : PH) (Q : α → PH → Prop) : (R.ok a h).Sat Q = Q a h := rfl
@[simp] theorem sat_no {α : Type} (Q : α → PH → Prop) : (R.no : R α).Sat Q = False := rfl
@[simp] theorem sat_ex {α : Type} (x : Exn) (h : PH) (Q : α → PH → Prop) : (R.ex x h : R α).Sat Q = False := rfl
@[simp] theorem sat_bind {α β : Type} (m : R α) (f : α → PH → R β) (Q : β → PH → Prop) : (m.bind f).Sat Q = m.Sat fun a h => (f a h).Sat Q := by
  cases m <;> rfl
@[simp] theorem sat_calm {α : Type} (m : R α) (Q : α → PH → Prop) : m.calm.Sat Q = m.Sat Q := by
  cases m <;> rfl
theorem R.Sat.imp {α : Type} {m : R α} {Q Q' : α → PH → Prop} (s : m.Sat Q) (f : ∀ a h, Q a h → Q' a h) : m.Sat Q' := by
  cases m with
  | ok a h => exact f a h s
  | ex x h => exact s
  | no => exact s
theorem R.Sat.ex {α : Type} {m : R α} {Q : α → PH → Prop} (s : m.Sat Q) : ∃ a h, m = .ok a h ∧ Q a h := by
  cases m with
  | ok a h => exact ⟨a, h, rfl, s⟩
  | ex x h => exact s.elim
  | no => exact s.elim
theorem R.Sat.of {α : Type} {m : R α} {Q : α → PH → Prop} {a : α} {h : PH} (e : m = .ok a h) (q : Q a h) : m.Sat Q := by
  rw [e]
  exact q
@[simp] theorem sat_ofO {α : Type} (o : Option α) (h : PH) (Q : α → PH → Prop) : (ofO o h).Sat Q = ∃ a, o = some a ∧ Q a h := by
  cases o with
  | none => simp [ofO]
  | some a => simp [ofO]
@[simp] theorem sat_asB (m : R PV) (Q : Bool → PH → Prop) : (asB m).Sat Q = m.Sat fun x h => match x with | .bl b => Q b h | _ => False := by
  cases m with
  | ok p h => cases p <;> rfl
  | ex x h => rfl
  | no => rfl
/-- statements: N the next, T a return -/
def RS.Sat (m : RS) (N : Env → PH → Prop) (T : PV → PH → Prop) : Prop := match m with | .nx ρ h => N ρ h | .rt v h => T v h | _ => False
@[simp] theorem ssat_nx (ρ : Env) (h : PH) (N : Env → PH → Prop) (T : PV → PH → Prop) : (RS.nx ρ h).Sat N T = N ρ h := rfl
@[simp] theorem ssat_rt (v : PV) (h : PH) (N : Env → PH → Prop) (T : PV → PH → Prop) : (RS.rt v h).Sat N T = T v h := rfl
@[simp] theorem ssat_no (N : Env → PH → Prop) (T : PV → PH → Prop) : RS.no.Sat N T = False := rfl
@[simp] theorem ssat_seq (m : RS) (f : Env → PH → RS) (N : Env → PH → Prop) (T : PV → PH → Prop) : (m.seq f).Sat N T = m.Sat (fun ρ h => (f ρ h).Sat N T) T := by
  cases m <;> rfl
@[simp] theorem ssat_st {α : Type} (m : R α) (ρ : Env) (f : α → PH → RS) (N : Env → PH → Prop) (T : PV → PH → Prop) : (m.st ρ f).Sat N T = m.Sat fun a h => (f a h).Sat N T := by
  cases m <;> rfl
theorem RS.Sat.imp {m : RS} {N N' : Env → PH → Prop} {T T' : PV → PH → Prop} (s : m.Sat N T) (f : ∀ ρ h, N ρ h → N' ρ h) (g : ∀ v h, T v h → T' v h) : m.Sat N' T' := by
  cases m with
  | nx ρ h => exact f ρ h s
  | rt v h => exact g v h s
  | bk _ _ => exact s
  | ct _ _ => exact s
  | ex _ _ _ => exact s
  | no => exact s
section
variable {C : Calls} {t : Bool} {ρ : Env} {h : PH} {a b c : E}
@[simp] theorem g_var (i : Nat) : evG C (.var i) t ρ h = fin t (ofO (ρ.get i) h) := by rfl
@[simp] theorem g_lit (v : PV) : evG C (.lit v) t ρ h = fin t (.ok v h) := by rfl
@[simp] theorem g_bin (op : Operator) : evG C (.bin op a b) t ρ h = fin t ((evG C a false ρ h).bind fun x h1 => (evG C b false ρ h1).bind fun y h2 => binop op x y h2) := by rfl
@[simp] theorem g_neg : evG C (.neg a) t ρ h = fin t ((evG C a false ρ h).bind fun x h1 => match x with | .int i => .ok (.int (-i)) h1 | _ => .no) := by rfl
@[simp] theorem g_nt : evG C (.nt a) t ρ h = (evG C a t ρ h).bind fun x h1 => match x with | .bl b => .ok (.bl (!b)) h1 | _ => .no := by rfl
@[simp] theorem g_and : evG C (.band a b) t ρ h = (evG C a t ρ h).bind fun x h1 => match x with | .bl true => evG C b t ρ h1 | .bl false => .ok (.bl false) h1 | _ => .no := by
  rfl
@[simp] theorem g_or : evG C (.bor a b) t ρ h = (evG C a t ρ h).bind fun x h1 => match x with | .bl false => evG C b t ρ h1 | .bl true => .ok (.bl true) h1 | _ => .no := by
  rfl
@[simp] theorem g_cmp (op : CmpOp) : evG C (.cmp op a b) t ρ h = fin t ((evG C a false ρ h).bind fun x h1 => (evG C b false ρ h1).bind fun y h2 => cmpop op x y h2) := by rfl
@[simp] theorem g_ite : evG C (.ite c a b) t ρ h = fin t ((evG C c true ρ h).bind fun x h1 => match x with | .bl true => evG C a false ρ h1 | .bl false => evG C b false ρ h1 | _ => .no) := by
  rfl
@[simp] theorem g_tup (es : List E) : evG C (.tup es) t ρ h = fin t ((evGs C es ρ h).bind fun l h1 => tupO l h1) := by rfl
@[simp] theorem g_lst (es : List E) : evG C (.lst es) t ρ h = fin t ((evGs C es ρ h).bind fun l h1 => alloc l h1) := by rfl
@[simp] theorem g_idx : evG C (.idx a b) t ρ h = fin t ((evG C a false ρ h).bind fun x h1 => (evG C b false ρ h1).bind fun y h2 => idxop x y h2) := by rfl
@[simp] theorem g_slc (lo hi : Option E) : evG C (.slc a lo hi) t ρ h = fin t ((evG C a false ρ h).bind fun x h1 => (evGo C lo ρ h1).bind fun l h2 => (evGo C hi ρ h2).bind fun u h3 => slcop x l u h3) := by rfl
@[simp] theorem g_call (f : Nat) (es : List E) (ds : List PV) : evG C (.call f es ds) t ρ h = fin t ((evGs C es ρ h).bind fun l h1 => C f (l ++ ds) h1) := by rfl
@[simp] theorem g_bi (b : BI) (es : List E) : evG C (.bi b es) t ρ h = fin t ((evGs C es ρ h).bind fun l h1 => biF b l h1) := by rfl
@[simp] theorem g_mth (m : MT) (es : List E) : evG C (.mth m a es) t ρ h = fin t ((evG C a false ρ h).bind fun x h1 => if tyOf h1 x = some m.ty then (evGs C es ρ h1).bind fun l h2 => mtF m x l h2 else .no) := by rfl
theorem g_comp (tg : List Nat) (one : TgK) (k : ITK) (its : List E) (cond : Option E) (own : List Nat) : evG C (.comp a tg one k its cond own) t ρ h = fin t ((evGs C its ρ h).bind fun l h1 =>
      match walkF k l h1 with
      | some (items, kp) => (compLoop kp (fun x => setTg (wipeP ρ own) tg one x) (fun ρ1 h2 => (evGc C cond ρ1 h2).calm) (fun ρ1 h2 => (evG C a false ρ1 h2).calm) items [] h1).bind fun l h2 => alloc l h2
      | none => .no) := by rfl
@[simp] theorem gs_nil : evGs C [] ρ h = .ok [] h := by rfl
@[simp] theorem gs_cons (e : E) (es : List E) : evGs C (e :: es) ρ h = (evG C e false ρ h).bind fun x h1 => (evGs C es ρ h1).bind fun l h2 => .ok (x :: l) h2 := by rfl
@[simp] theorem go_none : evGo C none ρ h = .ok none h := by rfl
@[simp] theorem go_some : evGo C (some a) ρ h = (evG C a false ρ h).bind fun x h1 => match x with | .int i => .ok (some i) h1 | _ => .no := by rfl
@[simp] theorem gc_none : evGc C none ρ h = .ok true h := by rfl
@[simp] theorem gc_some : evGc C (some a) ρ h = asB (evG C a true ρ h) := by rfl
@[simp] theorem t_eq : evT C a ρ h = asB (evG C a true ρ h) := rfl
end
@[simp] theorem fin_f (m : R PV) : fin false m = m := rfl
@[simp] theorem sat_fin_t (m : R PV) (Q : PV → PH → Prop) : (fin true m).Sat Q = m.Sat fun v h => ∃ b, truthy h v = some b ∧ Q (.bl b) h := by
  cases m with
  | ok v h =>
    show (ofO ((truthy h v).map .bl) h).Sat Q = _
    rw [sat_ofO, sat_ok]
    cases truthy h v <;> simp
  | ex x h => rfl
  | no => rfl
@[simp] theorem get0 (v : Option PV) (ρ : Env) : Env.get (v :: ρ) 0 = v := by cases v <;> rfl
@[simp] theorem getS (v : Option PV) (ρ : Env) (i : Nat) : Env.get (v :: ρ) (i + 1) = Env.get ρ i := by
  unfold Env.get
  simp
@[simp] theorem tru_bl (h : PH) (b : Bool) : truthy h (.bl b) = some b := rfl
@[simp] theorem tru_int (h : PH) (i : Int) : truthy h (.int i) = some (i != 0) := rfl
@[simp] theorem tru_non (h : PH) : truthy h .non = some false := rfl
@[simp] theorem tru_tup (h : PH) (l : List PV) : truthy h (.tup l) = some (!l.isEmpty) := rfl
theorem tru_ref {h : PH} {n : Nat} {l : List PV} (e : h[n]? = some (.lst l)) : truthy h (.ref n) = some (!l.isEmpty) := by simp only [truthy, e]
section
variable {C : Calls} {ρ : Env} {h : PH} {N : Env → PH → Prop} {T : PV → PH → Prop} {e : E} {s : S} {ss ss2 : List S}
@[simp] theorem x_nil : (exSs C [] ρ h).Sat N T = N ρ h := by simp only [exSs, ssat_nx]
theorem x_cons : (exSs C (s :: ss) ρ h).Sat N T = (exS C s ρ h).Sat (fun ρ1 h1 => (exSs C ss ρ1 h1).Sat N T) T := by simp only [exSs, ssat_seq]
@[simp] theorem x_one : (exSs C [s] ρ h).Sat N T = (exS C s ρ h).Sat N T := by simp only [x_cons, x_nil]
@[simp] theorem x_set (i : Nat) : (exS C (.asg (.nm i) e) ρ h).Sat N T = (evG C e false ρ h).Sat fun v h1 => N (ρ.set i (some v)) h1 := by simp only [exS, ssat_st, stTg, ssat_nx]
@[simp] theorem x_tup (is : List Nat) : (exS C (.asg (.tup is) e) ρ h).Sat N T = (evG C e false ρ h).Sat fun v h1 => match v with | .tup l => (∃ ρ', setAll ρ is l = some ρ' ∧ N ρ' h1) | _ => False := by
  simp only [exS, ssat_st]
  congr 1
  funext v h1
  cases v with
  | tup l =>
    simp only [stTg]
    cases setAll ρ is l <;> simp
  | _ => rfl
@[simp] theorem x_unl (is : List Nat) : (exS C (.asg (.unl is) e) ρ h).Sat N T = (evG C e false ρ h).Sat fun v h1 => match v with | .ref n => (∃ l ρ', h1[n]? = some (.lst l) ∧ setAll ρ is l = some ρ' ∧ N ρ' h1) | _ => False := by
  simp only [exS, ssat_st]
  congr 1
  funext v h1
  cases v with
  | ref n =>
    simp only [stTg]
    cases h1[n]? with
    | none => simp
    | some o =>
      cases o with
      | lst l => cases e : setAll ρ is l <;> simp [e]
      | dct l => simp
      | obj c l => simp
  | _ => rfl
@[simp] theorem x_sub (o i : E) : (exS C (.asg (.sub o i) e) ρ h).Sat N T = (evG C e false ρ h).Sat fun v h1 => (evG C o false ρ h1).Sat fun x h2 => (evG C i false ρ h2).Sat fun y h3 => ∃ h4, setop x y v h3 = some h4 ∧ N ρ h4 := by
  simp only [exS, ssat_st, stTg]
  congr 1
  funext v h1
  congr 1
  funext x h2
  congr 1
  funext y h3
  cases setop x y v h3 <;> simp
@[simp] theorem x_if (t : E) : (exS C (.ifs t ss ss2) ρ h).Sat N T = (evG C t true ρ h).Sat fun x h1 => match x with | .bl true => (exSs C ss ρ h1).Sat N T | .bl false => (exSs C ss2 ρ h1).Sat N T | _ => False := by
  simp only [exS, ssat_st, t_eq, sat_asB]
  congr 1
  funext x h1
  cases x with
  | bl k => cases k <;> rfl
  | _ => rfl
@[simp] theorem x_ret : (exS C (.ret e) ρ h).Sat N T = (evG C e false ρ h).Sat T := by simp only [exS, ssat_st, ssat_rt]
@[simp] theorem x_ex : (exS C (.ex e) ρ h).Sat N T = (evG C e false ρ h).Sat fun _ h1 => N ρ h1 := by simp only [exS, ssat_st, ssat_nx]
@[simp] theorem x_aug (i : Nat) (op : Operator) : (exS C (.aug i op e) ρ h).Sat N T = ∃ x, ρ.get i = some x ∧ (evG C e false ρ h).Sat fun y h1 => (iopF op x y h1).Sat fun z h2 => N (ρ.set i (some z)) h2 := by
  simp only [exS]
  cases ρ.get i with
  | none => simp
  | some x => simp
@[simp] theorem x_augs (o i : E) (op : Operator) : (exS C (.augs o i op e) ρ h).Sat N T = (evG C o false ρ h).Sat fun ov h1 => (evG C i false ρ h1).Sat fun iv h2 => (getL ov iv h2).Sat fun x h3 => (evG C e false ρ h3).Sat fun y h4 => (iopF op x y h4).Sat fun z h5 => ∃ h6, setop ov iv z h5 = some h6 ∧ N ρ h6 := by
  simp only [exS, ssat_st]
  congr 1
  funext v h1
  congr 1
  funext x h2
  congr 1
  funext y h3
  congr 1
  funext y h3
  congr 1
  funext z h5
  cases setop v x z h5 <;> simp
end
/-- a def -/
theorem fn_sat {C : Calls} {f : Fn} {vs : List PV} {h : PH} {Q : PV → PH → Prop} (hl : vs.length = f.np) (s : (exSs C f.body (startP f.ns vs) h).Sat (fun _ h => Q .non h) Q) : (runFn C f vs h).Sat Q := by
  unfold runFn
  rw [if_pos hl]
  generalize exSs C f.body (startP f.ns vs) h = m at s
  cases m with
  | nx ρ h => exact s
  | rt v h => exact s
  | bk _ _ => exact s
  | ct _ _ => exact s
  | ex _ _ _ => exact s
  | no => exact s
theorem call_succ (tbl : Nat → Fn) (k f : Nat) (vs : List PV) (h : PH) : call tbl (k + 1) f vs h = runFn (call tbl k) (tbl f) vs h := rfl
theorem whileN_sat {t : Env → PH → R Bool} {b : Env → PH → RS} {N : Env → PH → Prop} {T : PV → PH → Prop} (I : Nat → Env → PH → Prop)
    (hs : ∀ n ρ h, I n ρ h → (t ρ h).Sat fun c h1 => if c = true then (b ρ h1).Sat (fun ρ' h' => ∃ n', n' < n ∧ I n' ρ' h') T else N ρ h1) : ∀ (n m : Nat) (ρ : Env) (h : PH), n < m → I n ρ h → (whileF t b ρ h).Sat N T
  | n, 0, ρ, h, hm, _ => absurd hm (Nat.not_lt_zero _)
  | n, m + 1, ρ, h, hm, hi => by
    rw [whileF_eq, ssat_st]
    refine (hs n ρ h hi).imp fun c h1 q => ?_
    cases c with
    | false => exact q
    | true =>
      simp only [if_true] at q ⊢
      generalize b ρ h1 = r at q
      cases r with
      | nx ρ' h' =>
        obtain ⟨n', q1, q2⟩ := q
        exact whileN_sat I hs n' m ρ' h' (by omega) q2
      | rt v h' => exact q
      | bk _ _ => exact q.elim
      | ct _ _ => exact q.elim
      | ex _ _ _ => exact q.elim
      | no => exact q.elim
/-- a while, by an invariant with a number that falls -/
theorem x_whl {C : Calls} {e : E} {ss : List S} {ρ : Env} {h : PH} {N : Env → PH → Prop} {T : PV → PH → Prop} (I : Nat → Env → PH → Prop) (n : Nat) (hi : I n ρ h)
    (hs : ∀ n ρ h, I n ρ h → (evG C e true ρ h).Sat fun c h1 => match c with | .bl true => (exSs C ss ρ h1).Sat (fun ρ' h' => ∃ n', n' < n ∧ I n' ρ' h') T | .bl false => N ρ h1 | _ => False) : (exS C (.whl e ss) ρ h).Sat N T := by
  simp only [exS]
  refine whileN_sat I (fun n ρ h hi => ?_) n _ ρ h (Nat.lt_succ_self _) hi
  rw [t_eq, sat_asB]
  refine (hs n ρ h hi).imp fun c h1 q => ?_
  cases c with
  | bl k => cases k <;> simpa using q
  | _ => exact q
theorem for_sat {kp : Keep} {bind : Env → PV → Option Env} {b : Env → PH → RS} {N : Env → PH → Prop} {T : PV → PH → Prop} (I : Nat → Env → PH → Prop) : ∀ (items : List PV) (j : Nat) (ρ : Env) (h : PH), I j ρ h →
    (∀ (i : Nat) (x : PV) ρ h, items[i]? = some x → I (j + i) ρ h → stays kp h ∧ ∃ ρ1, bind ρ x = some ρ1 ∧ (b ρ1 h).Sat (I (j + i + 1)) T) → (∀ ρ h, I (j + items.length) ρ h → stays kp h ∧ N ρ h) → (forLoop kp bind b items ρ h).Sat N T
  | [], j, ρ, h, hi, _, hd => by
    obtain ⟨h1, h2⟩ := hd ρ h hi
    unfold forLoop
    rw [if_pos h1]
    exact h2
  | x :: xs, j, ρ, h, hi, hs, hd => by
    obtain ⟨h1, ρ1, h2, h3⟩ := hs 0 x ρ h rfl hi
    unfold forLoop
    rw [if_pos h1, h2]
    show ((b ρ1 h).turn _).Sat N T
    generalize b ρ1 h = r at h3
    have go : ∀ ρ' h', I (j + 1) ρ' h' → (forLoop kp bind b xs ρ' h').Sat N T := fun ρ' h' hi' => for_sat I xs (j + 1) ρ' h' hi' (fun i y ρ h e q => by
      have := hs (i + 1) y ρ h (by simpa using e)
      rw [show j + (i + 1) = j + 1 + i by omega] at this
      exact this q) (fun ρ h q => hd ρ h (by rw [List.length_cons, show j + (xs.length + 1) = j + 1 + xs.length by omega]; exact q))
    cases r with
    | nx ρ' h' => exact go ρ' h' h3
    | rt v h' => exact h3
    | bk _ _ => exact h3.elim
    | ct _ _ => exact h3.elim
    | ex _ _ _ => exact h3.elim
    | no => exact h3.elim
theorem x_for {C : Calls} {tg : List Nat} {one : TgK} {k : ITK} {its : List E} {ss : List S} {ρ : Env} {h : PH} {N : Env → PH → Prop} {T : PV → PH → Prop}
    (s : (evGs C its ρ h).Sat fun l h1 => ∃ items kp, walkF k l h1 = some (items, kp) ∧ ∃ I : Nat → Env → PH → Prop, I 0 ρ h1 ∧
      (∀ (i : Nat) (x : PV) ρ h, items[i]? = some x → I i ρ h → stays kp h ∧ ∃ ρ1, setTg ρ tg one x = some ρ1 ∧ (exSs C ss ρ1 h).Sat (I (i + 1)) T) ∧ (∀ ρ h, I items.length ρ h → stays kp h ∧ N ρ h)) : (exS C (.fr tg one k its ss) ρ h).Sat N T := by
  simp only [exS, ssat_st]
  refine s.imp fun l h1 ⟨items, kp, e, I, h0, hs, hd⟩ => ?_
  rw [e]
  refine for_sat I items 0 ρ h1 h0 (fun i x ρ h e q => ?_) fun ρ h q => hd ρ h (by simpa using q)
  have := hs i x ρ h e (by simpa using q)
  simpa using this
theorem comp_sat {kp : Keep} {bind : PV → Option Env} {t : Env → PH → R Bool} {e : Env → PH → R PV} {Q : List PV → PH → Prop} (I : Nat → List PV → PH → Prop) : ∀ (items : List PV) (j : Nat) (acc : List PV) (h : PH), I j acc h →
    (∀ (i : Nat) (x : PV) acc h, items[i]? = some x → I (j + i) acc h → stays kp h ∧ ∃ ρ1, bind x = some ρ1 ∧ (t ρ1 h).Sat fun b h1 => if b = true then (e ρ1 h1).Sat fun v h2 => lineOk (acc.length + 1) = true ∧ I (j + i + 1) (acc ++ [v]) h2 else I (j + i + 1) acc h1) →
    (∀ acc h, I (j + items.length) acc h → stays kp h ∧ Q acc h) → (compLoop kp bind t e items acc h).Sat Q
  | [], j, acc, h, hi, _, hd => by
    obtain ⟨h1, h2⟩ := hd acc h hi
    unfold compLoop
    rw [if_pos h1]
    exact h2
  | x :: xs, j, acc, h, hi, hs, hd => by
    obtain ⟨h1, ρ1, h2, h3⟩ := hs 0 x acc h rfl hi
    unfold compLoop
    rw [if_pos h1, h2]
    show ((t ρ1 h).bind _).Sat Q
    rw [sat_bind]
    have go : ∀ acc' h', I (j + 1) acc' h' → (compLoop kp bind t e xs acc' h').Sat Q := fun acc' h' hi' => comp_sat I xs (j + 1) acc' h' hi' (fun i y ρ h e q => by
      have := hs (i + 1) y ρ h (by simpa using e)
      rw [show j + (i + 1) = j + 1 + i by omega] at this
      exact this q) (fun ρ h q => hd ρ h (by rw [List.length_cons, show j + (xs.length + 1) = j + 1 + xs.length by omega]; exact q))
    refine h3.imp fun b h4 q => ?_
    cases b with
    | false => exact go acc h4 (by simpa using q)
    | true =>
      simp only [if_true] at q ⊢
      rw [sat_bind]
      refine q.imp fun v h5 ⟨q1, q2⟩ => ?_
      rw [if_pos q1]
      exact go _ h5 q2
/-- a comprehension -/
theorem v_comp {C : Calls} {tg : List Nat} {one : TgK} {k : ITK} {its : List E} {cond : Option E} {own : List Nat} {a : E} {ρ : Env} {h : PH} {Q : PV → PH → Prop}
    (s : (evGs C its ρ h).Sat fun l h1 => ∃ items kp, walkF k l h1 = some (items, kp) ∧ ∃ I : Nat → List PV → PH → Prop, I 0 [] h1 ∧
      (∀ (i : Nat) (x : PV) acc h, items[i]? = some x → I i acc h → stays kp h ∧ ∃ ρ1, setTg (wipeP ρ own) tg one x = some ρ1 ∧ (evGc C cond ρ1 h).Sat fun b h1 => if b = true then (evG C a false ρ1 h1).Sat fun v h2 => lineOk (acc.length + 1) = true ∧ I (i + 1) (acc ++ [v]) h2 else I (i + 1) acc h1) ∧
      (∀ acc h, I items.length acc h → stays kp h ∧ lineOk acc.length = true ∧ Q (.ref h.length) (h ++ [.lst acc]))) : (evG C (.comp a tg one k its cond own) false ρ h).Sat Q := by
  rw [g_comp, fin_f, sat_bind]
  refine s.imp fun l h1 ⟨items, kp, e, I, h0, hs, hd⟩ => ?_
  rw [e]
  show ((compLoop kp _ _ _ items [] h1).bind _).Sat Q
  rw [sat_bind]
  refine comp_sat I items 0 [] h1 h0 (fun i x acc h e q => ?_) fun acc h q => ?_
  · obtain ⟨q1, ρ1, q2, q3⟩ := hs i x acc h e (by simpa using q)
    refine ⟨q1, ρ1, q2, ?_⟩
    rw [sat_calm]
    refine q3.imp fun b h2 q4 => ?_
    cases b with
    | false => simpa using q4
    | true => simpa using q4
  · obtain ⟨q1, q2, q3⟩ := hd acc h (by simpa using q)
    refine ⟨q1, ?_⟩
    unfold alloc
    rw [if_pos q2]
    exact q3
/-- .. where what is walked is known -/
theorem v_compE {C : Calls} {tg : List Nat} {one : TgK} {k : ITK} {its : List E} {cond : Option E} {own : List Nat} {a : E} {ρ : Env} {h h1 : PH} {Q : PV → PH → Prop} {l items : List PV} {kp : Keep} (e1 : evGs C its ρ h = .ok l h1) (e2 : walkF k l h1 = some (items, kp)) (I : Nat → List PV → PH → Prop) (h0 : I 0 [] h1)
    (hs : ∀ (i : Nat) (x : PV) acc h, items[i]? = some x → I i acc h → stays kp h ∧ ∃ ρ1, setTg (wipeP ρ own) tg one x = some ρ1 ∧ (evGc C cond ρ1 h).Sat fun b h1 => if b = true then (evG C a false ρ1 h1).Sat fun v h2 => lineOk (acc.length + 1) = true ∧ I (i + 1) (acc ++ [v]) h2 else I (i + 1) acc h1)
    (hd : ∀ acc h, I items.length acc h → stays kp h ∧ lineOk acc.length = true ∧ Q (.ref h.length) (h ++ [.lst acc])) : (evG C (.comp a tg one k its cond own) false ρ h).Sat Q :=
  v_comp (by rw [e1]; exact ⟨items, kp, e2, I, h0, hs, hd⟩)
theorem x_forE {C : Calls} {tg : List Nat} {one : TgK} {k : ITK} {its : List E} {ss : List S} {ρ : Env} {h h1 : PH} {N : Env → PH → Prop} {T : PV → PH → Prop} {l items : List PV} {kp : Keep} (e1 : evGs C its ρ h = .ok l h1) (e2 : walkF k l h1 = some (items, kp)) (I : Nat → Env → PH → Prop) (h0 : I 0 ρ h1)
    (hs : ∀ (i : Nat) (x : PV) ρ h, items[i]? = some x → I i ρ h → stays kp h ∧ ∃ ρ1, setTg ρ tg one x = some ρ1 ∧ (exSs C ss ρ1 h).Sat (I (i + 1)) T) (hd : ∀ ρ h, I items.length ρ h → stays kp h ∧ N ρ h) : (exS C (.fr tg one k its ss) ρ h).Sat N T :=
  x_for (by rw [e1]; exact ⟨items, kp, e2, I, h0, hs, hd⟩)
section
variable {h : PH} {i j : Int} {α : Type}
@[simp] theorem sat_ite (c : Prop) [Decidable c] (m n : R α) (Q : α → PH → Prop) : (if c then m else n).Sat Q = if c then m.Sat Q else n.Sat Q := by split <;> rfl
@[simp] theorem b_add : binop .Add (.int i) (.int j) h = .ok (.int (i + j)) h := rfl
@[simp] theorem b_sub : binop .Sub (.int i) (.int j) h = .ok (.int (i - j)) h := rfl
theorem b_mul (e : mulOk i j = true) : binop .Mult (.int i) (.int j) h = .ok (.int (i * j)) h := by
  show (if mulOk i j then _ else _) = _
  rw [if_pos e]
theorem b_fdiv (e : divOk j = true) : binop .FloorDiv (.int i) (.int j) h = .ok (.int (i.fdiv j)) h := by
  show (if divOk j then _ else _) = _
  rw [if_pos e]
theorem b_mod (e : j ≠ 0) : binop .Mod (.int i) (.int j) h = .ok (.int (i.fmod j)) h := by
  show (if j = 0 then _ else _) = _
  rw [if_neg e]
theorem b_pow (e : powOk i j = true) : binop .Pow (.int i) (.int j) h = .ok (.int (i ^ j.toNat)) h := by
  show (if powOk i j then _ else _) = _
  rw [if_pos e]
@[simp] theorem c_lt : cmpop .Lt (.int i) (.int j) h = .ok (.bl (decide (i < j))) h := rfl
@[simp] theorem c_le : cmpop .LtE (.int i) (.int j) h = .ok (.bl (decide (i ≤ j))) h := rfl
@[simp] theorem c_gt : cmpop .Gt (.int i) (.int j) h = .ok (.bl (decide (j < i))) h := rfl
@[simp] theorem c_ge : cmpop .GtE (.int i) (.int j) h = .ok (.bl (decide (j ≤ i))) h := rfl
@[simp] theorem c_eqI : cmpop .Eq (.int i) (.int j) h = .ok (.bl (decide (i = j))) h := by
  show ofO ((eqP h (.int i) (.int j)).map PV.bl) h = _
  have : eqP h (.int i) (.int j) = some (i == j) := by simp [eqP, pd, PyData.eqv]
  rw [this]
  show R.ok (PV.bl (i == j)) h = _
  rw [show (i == j) = decide (i = j) from by rw [Bool.eq_iff_iff]; simp]
@[simp] theorem c_neI : cmpop .NotEq (.int i) (.int j) h = .ok (.bl (!decide (i = j))) h := by
  show ofO ((eqP h (.int i) (.int j)).map fun b => PV.bl (!b)) h = _
  have : eqP h (.int i) (.int j) = some (i == j) := by simp [eqP, pd, PyData.eqv]
  rw [this]
  show R.ok (PV.bl (!(i == j))) h = _
  rw [show (i == j) = decide (i = j) from by rw [Bool.eq_iff_iff]; simp]
@[simp] theorem c_eqB (a b : Bool) : cmpop .Eq (.bl a) (.bl b) h = .ok (.bl (decide (a = b))) h := by cases a <;> cases b <;> rfl
@[simp] theorem c_neB (a b : Bool) : cmpop .NotEq (.bl a) (.bl b) h = .ok (.bl (!decide (a = b))) h := by cases a <;> cases b <;> rfl
@[simp] theorem c_eqS (a b : Str) : cmpop .Eq (.str a) (.str b) h = .ok (.bl (decide (a = b))) h := rfl
@[simp] theorem c_isN (a : PV) : cmpop .Is a .non h = .ok (.bl (isNonP a)) h := by cases a <;> rfl
@[simp] theorem c_isnN (a : PV) : cmpop .IsNot a .non h = .ok (.bl (!isNonP a)) h := by cases a <;> rfl
@[simp] theorem io_add : iopF .Add (.int i) (.int j) h = .ok (.int (i + j)) h := rfl
@[simp] theorem tupO_small (l : List PV) (e : l.length ≤ 1000000) : tupO l h = .ok (.tup l) h := by
  unfold tupO
  rw [if_pos (show lineOk l.length = true from decide_eq_true e)]
theorem alloc_small (l : List PV) (e : l.length ≤ 1000000) : alloc l h = .ok (.ref h.length) (h ++ [.lst l]) := by
  unfold alloc
  rw [if_pos (show lineOk l.length = true from decide_eq_true e)]
theorem idx_ref {n : Nat} {l : List PV} {v : PV} (e : h[n]? = some (.lst l)) (e2 : L2.atI l i = some v) : idxop (.ref n) (.int i) h = .ok v h := by
  unfold idxop
  simp only [seqOf, e, e2, ofO_some]
theorem idx_tup {l : List PV} {v : PV} (e2 : L2.atI l i = some v) : idxop (.tup l) (.int i) h = .ok v h := by
  unfold idxop
  simp only [seqOf, e2, ofO_some]
theorem at_nat {β : Type} {l : List β} {n : Nat} {v : β} (e : l[n]? = some v) : L2.atI l (n : Int) = some v := by
  unfold L2.atI L2.ixN
  have := (List.getElem?_eq_some_iff.mp e).1
  rw [if_pos (by omega), if_pos (by omega)]
  simpa using e
theorem at_pos {β : Type} {l : List β} {i : Int} {v : β} (h0 : 0 ≤ i) (e : l[i.toNat]? = some v) : L2.atI l i = some v := by
  have := at_nat (n := i.toNat) e
  rwa [Int.toNat_of_nonneg h0] at this
end
theorem fmod_pos {a b : Int} (h : 0 < b) : a.fmod b = a % b := Int.fmod_eq_emod_of_nonneg a (by omega)
theorem fdiv_pos {a b : Int} (h : 0 < b) : a.fdiv b = a / b := Int.fdiv_eq_ediv_of_nonneg a (by omega)
theorem log2_small {x : Int} {n : Nat} (h0 : 0 < n) (h : x.natAbs < 2 ^ n) : x.natAbs.log2 < n := PySem.Flt.log2_lt_of h0 h
theorem mul_ok {i j : Int} {a b : Nat} (ha : i.natAbs < 2 ^ a) (hb : j.natAbs < 2 ^ b) (h0 : 0 < a) (h1 : 0 < b) (h : a + b ≤ 1000000) : mulOk i j = true := by
  have x := log2_small h0 ha
  have y := log2_small h1 hb
  exact decide_eq_true (by omega)
theorem div_ok {j : Int} {b : Nat} (hj : j ≠ 0) (hb : j.natAbs < 2 ^ b) (h1 : 0 < b) (h : b ≤ 9000) : divOk j = true := by
  have y := log2_small h1 hb
  unfold divOk
  rw [decide_eq_true hj, decide_eq_true (show j.natAbs.log2 < 9000 by omega)]
  rfl
theorem line_small {n : Nat} (h : n ≤ 1000000) : lineOk n = true := decide_eq_true h
end Sb
set_option linter.all false
set_option maxRecDepth 100000
namespace Sb
open PySem
def F_common : Fn := ⟨2, 2, [.asg (.tup [0, 1]) (.tup [(.bi .abs [(.var 0)]), (.bi .abs [(.var 1)])]),
  .whl (.cmp .Gt (.var 1) (.lit (.int 0))) [.asg (.tup [0, 1]) (.tup [(.var 1), (.bin .Mod (.var 0) (.var 1))])],
  .ret (.var 0)]⟩
def F_law_start : Fn := ⟨1, 3, [.asg (.nm 1) (.comp (.var 2) [2] .one .seq [(.var 0)] (some (.cmp .GtE (.var 2) (.bin .Pow (.lit (.int 10)) (.lit (.int 18))))) [2]),
  .ret (.lst [(.var 1), (.lit (.int 0)), (.comp (.bin .Mod (.var 2) (.lit (.int 2147483587))) [2] .one .seq [(.var 0)] none [2]), (.lit (.int 0))])]⟩
def F_law_mix : Fn := ⟨1, 4, [.augs (.var 0) (.lit (.int 3)) .Add (.lit (.int 1)),
  .asg (.nm 1) (.idx (.var 0) (.lit (.int 3))),
  .asg (.nm 2) (.lit (.int 11)),
  .ifs (.idx (.var 0) (.lit (.int 2))) [.asg (.nm 2) (.idx (.idx (.var 0) (.lit (.int 2))) (.bin .Mod (.var 1) (.bi .len [(.idx (.var 0) (.lit (.int 2)))])))] [],
  .asg (.nm 3) (.bin .Mod (.bin .Pow (.bin .Add (.bin .Add (.bin .Add (.var 2) (.bin .Mult (.bin .Mult (.lit (.int 769)) (.var 1)) (.var 1))) (.bin .Mult (.lit (.int 52361)) (.var 1))) (.lit (.int 23))) (.lit (.int 5))) (.lit (.int 2147483647))),
  .ret (.bin .Mod (.bin .Add (.bin .Mult (.var 3) (.lit (.int 48271))) (.bin .Mult (.lit (.int 6007)) (.var 1))) (.lit (.int 1000000007)))]⟩
def F_law_draw : Fn := ⟨2, 4, [.ifs (.band (.cmp .Eq (.idx (.var 0) (.lit (.int 1))) (.lit (.int 0))) (.idx (.var 0) (.lit (.int 0)))) [.asg (.sub (.var 0) (.lit (.int 1))) (.mth .popAt (.idx (.var 0) (.lit (.int 0))) [(.lit (.int 0))])] [],
  .ifs (.cmp .Gt (.idx (.var 0) (.lit (.int 1))) (.lit (.int 0))) [.asg (.nm 2) (.bin .Mod (.idx (.var 0) (.lit (.int 1))) (.var 1)),
  .asg (.sub (.var 0) (.lit (.int 1))) (.bin .FloorDiv (.idx (.var 0) (.lit (.int 1))) (.var 1)),
  .ret (.var 2)] [],
  .asg (.nm 2) (.lit (.int 0)),
  .asg (.nm 3) (.lit (.int 1)),
  .whl (.cmp .Lt (.var 3) (.var 1)) [.asg (.nm 2) (.bin .Add (.bin .Mult (.var 2) (.lit (.int 1000000007))) (.call 5 [(.var 0)] [])),
  .asg (.nm 3) (.bin .Mult (.var 3) (.lit (.int 1000000007)))],
  .ret (.bin .Mod (.var 2) (.var 1))]⟩
def F_law_same : Fn := ⟨2, 4, [.ifs (.bi .isinst [(.var 1), (.tup [(.lit (.ty .tuple)), (.lit (.ty .list))])]) [.ifs (.cmp .NotEq (.bi .isinst [(.var 0), (.lit (.ty .tuple))]) (.bi .isinst [(.var 1), (.lit (.ty .tuple))])) [.ret (.lit (.bl false))] [],
  .ifs (.bor (.cmp .NotEq (.bi .isinst [(.var 0), (.lit (.ty .list))]) (.bi .isinst [(.var 1), (.lit (.ty .list))])) (.cmp .NotEq (.bi .len [(.var 0)]) (.bi .len [(.var 1)]))) [.ret (.lit (.bl false))] [],
  .ret (.bi .all [(.comp (.call 7 [(.var 2), (.var 3)] []) [2, 3] .tup .zip [(.var 0), (.var 1)] none [2, 3])])] [],
  .ifs (.cmp .Is (.var 1) (.lit .non)) [.ret (.cmp .Is (.var 0) (.lit .non))] [],
  .ifs (.bi .isinst [(.var 1), (.lit (.ty .str))]) [.ret (.band (.bi .isinst [(.var 0), (.lit (.ty .str))]) (.cmp .Eq (.var 0) (.var 1)))] [],
  .ret (.band (.bi .isinst [(.var 0), (.lit (.ty .int))]) (.band (.cmp .Eq (.bi .isinst [(.var 0), (.lit (.ty .bool))]) (.bi .isinst [(.var 1), (.lit (.ty .bool))])) (.cmp .Eq (.var 0) (.var 1))))]⟩
def F_fraction_of : Fn := ⟨2, 3, [.ifs (.cmp .Eq (.var 1) (.lit (.int 0))) [.raise "NoBottom" ["top"] [(.var 0)]] [],
  .asg (.nm 2) (.call 0 [(.var 0), (.var 1)] []),
  .ifs (.cmp .Lt (.var 1) (.lit (.int 0))) [.asg (.nm 2) (.neg (.var 2))] [],
  .ret (.tup [(.bin .FloorDiv (.var 0) (.var 2)), (.bin .FloorDiv (.var 1) (.var 2))])]⟩
def F_plus_of : Fn := ⟨2, 2, [.ret (.call 15 [(.bin .Add (.bin .Mult (.idx (.var 0) (.lit (.int 0))) (.idx (.var 1) (.lit (.int 1)))) (.bin .Mult (.idx (.var 1) (.lit (.int 0))) (.idx (.var 0) (.lit (.int 1))))), (.bin .Mult (.idx (.var 0) (.lit (.int 1))) (.idx (.var 1) (.lit (.int 1))))] [])]⟩
def F_less_of : Fn := ⟨2, 2, [.ret (.call 15 [(.bin .Sub (.bin .Mult (.idx (.var 0) (.lit (.int 0))) (.idx (.var 1) (.lit (.int 1)))) (.bin .Mult (.idx (.var 1) (.lit (.int 0))) (.idx (.var 0) (.lit (.int 1))))), (.bin .Mult (.idx (.var 0) (.lit (.int 1))) (.idx (.var 1) (.lit (.int 1))))] [])]⟩
def F_times_of : Fn := ⟨2, 2, [.ret (.call 15 [(.bin .Mult (.idx (.var 0) (.lit (.int 0))) (.idx (.var 1) (.lit (.int 0)))), (.bin .Mult (.idx (.var 0) (.lit (.int 1))) (.idx (.var 1) (.lit (.int 1))))] [])]⟩
def F_over_of : Fn := ⟨2, 2, [.ifs (.cmp .Eq (.idx (.var 1) (.lit (.int 0))) (.lit (.int 0))) [.raise "NoBottom" ["top"] [(.idx (.var 0) (.lit (.int 0)))]] [],
  .ret (.call 15 [(.bin .Mult (.idx (.var 0) (.lit (.int 0))) (.idx (.var 1) (.lit (.int 1)))), (.bin .Mult (.idx (.var 0) (.lit (.int 1))) (.idx (.var 1) (.lit (.int 0))))] [])]⟩
def F_stretch_by : Fn := ⟨2, 2, [.ret (.call 18 [(.idx (.var 0) (.lit (.int 0))), (.var 1)] [])]⟩
def F_read_by : Fn := ⟨2, 2, [.ret (.call 16 [(.call 20 [(.var 0), (.var 1)] []), (.idx (.var 0) (.lit (.int 1)))] [])]⟩
def F_move_then : Fn := ⟨2, 2, [.ret (.tup [(.call 18 [(.idx (.var 1) (.lit (.int 0))), (.idx (.var 0) (.lit (.int 0)))] []), (.call 21 [(.var 1), (.idx (.var 0) (.lit (.int 1)))] [])])]⟩
def F_move_back : Fn := ⟨1, 3, [.asg (.tup [1, 2]) (.var 0),
  .ret (.tup [(.call 19 [(.tup [(.lit (.int 1)), (.lit (.int 1))]), (.var 1)] []), (.call 19 [(.call 17 [(.lit (.tup [(.int 0), (.int 1)])), (.var 2)] []), (.var 1)] [])])]⟩
def F_in_order : Fn := ⟨1, 1, [.ret (.srt (.var 0))]⟩
def F_order_of : Fn := ⟨1, 2, [.ret (.comp (.idx (.var 1) (.lit (.int 0))) [1] .one .seq [(.call 32 [(.var 0)] [])] none [1])]⟩
def F_law_names : Fn := ⟨2, 7, [.asg (.nm 2) (.lit (.str "abcdefghijklmnopqrstuvxyz")),
  .asg (.nm 3) (.lst []),
  .fr [4] .one .range [(.var 1)] [.asg (.nm 5) (.mth .join (.lit (.str "")) [(.comp (.idx (.lit (.str "abz")) (.call 6 [(.var 0), (.lit (.int 3))] [])) [6] .one .range [(.bin .Add (.lit (.int 1)) (.call 6 [(.var 0), (.lit (.int 3))] []))] none [6])]),
  .ifs (.cmp .Eq (.call 6 [(.var 0), (.lit (.int 8))] []) (.lit (.int 1))) [.asg (.nm 5) (.mth .join (.lit (.str "")) [(.comp (.idx (.var 2) (.call 6 [(.var 0), (.lit (.int 25))] [])) [6] .one .range [(.bin .Add (.lit (.int 1)) (.call 6 [(.var 0), (.lit (.int 8))] []))] none [6])])] [],
  .ifs (.cmp .In (.var 5) (.var 3)) [.asg (.nm 5) (.bin .Add (.bin .Add (.lit (.str "w")) (.idx (.var 2) (.bin .FloorDiv (.var 4) (.lit (.int 25))))) (.idx (.var 2) (.bin .Mod (.var 4) (.lit (.int 25)))))] [],
  .ex (.mth .append (.var 3) [(.var 5)])],
  .ret (.var 3)]⟩
def F_law_world : Fn := ⟨2, 8, [.asg (.nm 2) (.idx (.lst [(.lit (.int 3)), (.lit (.int 9)), (.lit (.int 999))]) (.call 6 [(.var 0), (.lit (.int 3))] [])),
  .asg (.nm 3) (.dct []),
  .fr [4] .one .seq [(.var 1)] [.asg (.nm 5) (.bin .Sub (.lit (.int 1)) (.bin .Mult (.lit (.int 2)) (.call 6 [(.var 0), (.lit (.int 2))] []))),
  .asg (.nm 6) (.call 9 [(.bin .Mult (.var 5) (.bin .Add (.lit (.int 1)) (.call 6 [(.var 0), (.var 2)] []))), (.bin .Add (.lit (.int 1)) (.call 6 [(.var 0), (.bi .min2 [(.var 2), (.lit (.int 99))])] []))] []),
  .asg (.nm 7) (.call 9 [(.bin .Sub (.call 6 [(.var 0), (.bin .Add (.bin .Mult (.lit (.int 2)) (.var 2)) (.lit (.int 1)))] []) (.var 2)), (.bin .Add (.lit (.int 1)) (.call 6 [(.var 0), (.bi .min2 [(.var 2), (.lit (.int 99))])] []))] []),
  .asg (.sub (.var 3) (.var 4)) (.tup [(.var 6), (.var 7)])],
  .ret (.var 3)]⟩
def F_law_tellings : Fn := ⟨3, 13, [.asg (.nm 3) (.lst [(.call 35 [(.var 0), (.var 1)] []), (.call 35 [(.var 0), (.var 1)] [])]),
  .asg (.nm 4) (.idx (.lst [(.lit (.int 1)), (.lit (.int 2)), (.lit (.int 4)), (.bin .Pow (.lit (.int 10)) (.lit (.int 11)))]) (.call 6 [(.var 0), (.lit (.int 4))] [])),
  .asg (.nm 5) (.lst []),
  .fr [6] .one .seq [(.call 34 [(.var 0), (.var 2)] [])] [.asg (.nm 7) (.idx (.var 1) (.call 6 [(.var 0), (.bi .len [(.var 1)])] [])),
  .asg (.nm 8) (.idx (.var 1) (.call 6 [(.var 0), (.bi .len [(.var 1)])] [])),
  .asg (.nm 9) (.call 6 [(.var 0), (.lit (.int 8))] []),
  .asg (.nm 10) (.idx (.var 3) (.bi .int1 [(.cmp .Eq (.var 9) (.lit (.int 5)))])),
  .asg (.tup [11, 12]) (.call 27 [(.call 28 [(.idx (.var 10) (.var 7))] []), (.idx (.var 10) (.var 8))] []),
  .ifs (.cmp .Eq (.var 9) (.lit (.int 6))) [.asg (.nm 12) (.call 24 [(.var 12), (.tup [(.bin .Add (.lit (.int 1)) (.call 6 [(.var 0), (.lit (.int 9))] [])), (.lit (.int 1))])] [])] [],
  .ifs (.cmp .Eq (.var 9) (.lit (.int 7))) [.asg (.nm 11) (.tup [(.bin .Sub (.lit (.int 0)) (.idx (.var 11) (.lit (.int 0)))), (.idx (.var 11) (.lit (.int 1)))])] [],
  .ex (.mth .append (.var 5) [(.tup [(.var 6), (.var 7), (.var 8), (.tup [(.var 11), (.var 12)]), (.call 6 [(.var 0), (.var 4)] [])])])],
  .ret (.var 5)]⟩
def F_tie_rows : Fn := ⟨1, 8, [.asg (.nm 1) (.dct []),
  .asg (.nm 2) (.lst []),
  .fr [3] .one .seq [(.call 32 [(.var 0)] [])] [.asg (.nm 4) (.mth .setd (.var 1) [(.idx (.var 3) (.lit (.int 1))), (.idx (.var 3) (.lit (.int 1)))]),
  .asg (.nm 5) (.mth .setd (.var 1) [(.idx (.var 3) (.lit (.int 2))), (.idx (.var 3) (.lit (.int 2)))]),
  .ifs (.cmp .NotEq (.var 4) (.var 5)) [.asg (.nm 1) (.remark 1 4 5),
  .ex (.mth .append (.var 2) [(.var 3)])] []],
  .ret (.var 2)]⟩
def F_steps_from : Fn := ⟨2, 7, [.asg (.nm 2) (.lst []),
  .fr [3, 4, 5, 6] .star .seq [(.var 0)] [.ifs (.cmp .Eq (.var 4) (.var 1)) [.ex (.mth .append (.var 2) [(.tup [(.tup [(.var 3), (.lit (.bl true))]), (.var 5)])])] [],
  .ifs (.cmp .Eq (.var 5) (.var 1)) [.ex (.mth .append (.var 2) [(.tup [(.tup [(.var 3), (.lit (.bl false))]), (.var 4)])])] []],
  .ret (.var 2)]⟩
def F_roads_among : Fn := ⟨2, 7, [.asg (.nm 2) (.dct [(.var 1), (.lst [])]),
  .asg (.nm 3) (.lst [(.var 1)]),
  .whl (.cmp .Gt (.bi .len [(.var 3)]) (.lit (.int 0))) [.asg (.nm 4) (.mth .popAt (.var 3) [(.lit (.int 0))]),
  .fr [5, 6] .tup .seq [(.call 40 [(.var 0), (.var 4)] [])] [.ifs (.cmp .NotIn (.var 6) (.var 2)) [.asg (.sub (.var 2) (.var 6)) (.bin .Add (.idx (.var 2) (.var 4)) (.lst [(.var 5)])),
  .ex (.mth .append (.var 3) [(.var 6)])] []]],
  .ret (.var 2)]⟩
def F_road_among : Fn := ⟨3, 3, [.ret (.mth .get1 (.call 41 [(.var 0), (.var 1)] []) [(.var 2)])]⟩
def F_road_of : Fn := ⟨3, 4, [.asg (.nm 3) (.call 42 [(.call 39 [(.var 0)] []), (.var 1), (.var 2)] []),
  .ifs (.cmp .Is (.var 3) (.lit .non)) [.raise "NotJoined" ["end", "start"] [(.var 1), (.var 2)]] [],
  .ret (.var 3)]⟩
def F_chain_move : Fn := ⟨2, 7, [.asg (.nm 2) (.dcomp (.idx (.var 6) (.lit (.int 0))) (.idx (.var 6) (.lit (.int 3))) [6] .one .seq [(.var 0)] none [6]),
  .asg (.nm 3) (.lit (.tup [(.tup [(.int 1), (.int 1)]), (.tup [(.int 0), (.int 1)])])),
  .fr [4, 5] .tup .seq [(.var 1)] [.asg (.nm 3) (.call 22 [(.var 3), (.ite (.var 5) (.idx (.var 2) (.var 4)) (.call 23 [(.idx (.var 2) (.var 4))] []))] [])],
  .ret (.var 3)]⟩
def F_move_of : Fn := ⟨3, 3, [.ret (.call 44 [(.var 0), (.call 43 [(.var 0), (.var 1), (.var 2)] [])] [])]⟩
def F_bars_of : Fn := ⟨1, 7, [.asg (.nm 1) (.call 39 [(.var 0)] []),
  .asg (.nm 2) (.firsts 1),
  .asg (.nm 3) (.comp (.var 5) [5] .one .seq [(.call 32 [(.var 0)] [])] (some (.cmp .NotIn (.idx (.var 5) (.lit (.int 0))) (.var 2))) [5]),
  .ret (.dcomp (.idx (.var 6) (.lit (.int 0))) (.call 42 [(.var 1), (.idx (.var 6) (.lit (.int 1))), (.idx (.var 6) (.lit (.int 2)))] []) [6] .one .seq [(.var 3)] none [6])]⟩
def F_words_of : Fn := ⟨1, 7, [.asg (.nm 1) (.call 46 [(.var 0)] []),
  .asg (.nm 2) (.lst []),
  .fr [3] .one .seq [(.call 32 [(.var 0)] [])] [.asg (.tup [4, 5]) (.tup [(.idx (.var 3) (.lit (.int 0))), (.idx (.var 3) (.lit (.int 3)))]),
  .asg (.nm 6) (.lit (.str "tie")),
  .ifs (.cmp .In (.var 4) (.var 1)) [.asg (.nm 6) (.ite (.cmp .Eq (.call 44 [(.var 0), (.idx (.var 1) (.var 4))] []) (.var 5)) (.lit (.str "fits")) (.lit (.str "aside")))] [],
  .ex (.mth .append (.var 2) [(.tup [(.var 4), (.var 6)])])],
  .ret (.var 2)]⟩
def F_named : Fn := ⟨2, 3, [.fr [2] .one .seq [(.var 0)] [.ifs (.cmp .Eq (.idx (.var 2) (.lit (.int 0))) (.var 1)) [.ret (.var 2)] []],
  .raise "NoTelling" ["name"] [(.var 1)]]⟩
def F_ring_of : Fn := ⟨2, 3, [.asg (.nm 2) (.call 51 [(.var 0), (.var 1)] []),
  .ret (.call 22 [(.idx (.var 2) (.lit (.int 3))), (.call 45 [(.var 0), (.idx (.var 2) (.lit (.int 2))), (.idx (.var 2) (.lit (.int 1)))] [])] [])]⟩
def F_ties_of : Fn := ⟨1, 2, [.ret (.comp (.idx (.var 1) (.lit (.int 0))) [1] .one .seq [(.call 39 [(.var 0)] [])] none [1])]⟩
def F_is_below : Fn := ⟨2, 2, [.ret (.cmp .Lt (.bin .Mult (.idx (.var 0) (.lit (.int 0))) (.idx (.var 1) (.lit (.int 1)))) (.bin .Mult (.idx (.var 1) (.lit (.int 0))) (.idx (.var 0) (.lit (.int 1)))))]⟩
def F_law_whole : Fn := ⟨1, 1, [.ret (.band (.bi .isinst [(.var 0), (.lit (.ty .int))]) (.nt (.bi .isinst [(.var 0), (.lit (.ty .bool))])))]⟩
def F_paper_of : Fn := ⟨1, 5, [.asg (.nm 1) (.call 46 [(.var 0)] []),
  .asg (.nm 2) (.comp (.tup [(.var 3), (.var 4), (.bi .tupleOf [(.idx (.var 1) (.var 3))])]) [3, 4] .tup .seq [(.call 47 [(.var 0)] [])] (some (.cmp .In (.var 3) (.var 1))) [3, 4]),
  .ret (.tup [(.bi .tupleOf [(.call 56 [(.var 0)] [])]), (.bi .tupleOf [(.var 2)])])]⟩
def F_is_step : Fn := ⟨1, 1, [.ifs (.bor (.nt (.bi .isinst [(.var 0), (.lit (.ty .tuple))])) (.cmp .NotEq (.bi .len [(.var 0)]) (.lit (.int 2)))) [.ret (.lit (.bl false))] [],
  .ret (.band (.bi .isinst [(.idx (.var 0) (.lit (.int 0))), (.lit (.ty .str))]) (.bi .isinst [(.idx (.var 0) (.lit (.int 1))), (.lit (.ty .bool))]))]⟩
def F_is_row : Fn := ⟨1, 2, [.ifs (.bor (.nt (.bi .isinst [(.var 0), (.lit (.ty .tuple))])) (.bor (.cmp .NotEq (.bi .len [(.var 0)]) (.lit (.int 3))) (.nt (.bi .isinst [(.idx (.var 0) (.lit (.int 2))), (.lit (.ty .tuple))])))) [.ret (.lit (.bl false))] [],
  .ret (.band (.bi .isinst [(.idx (.var 0) (.lit (.int 0))), (.lit (.ty .str))]) (.band (.bi .isinst [(.idx (.var 0) (.lit (.int 1))), (.lit (.ty .str))]) (.bi .all [(.comp (.call 127 [(.var 1)] []) [1] .one .seq [(.idx (.var 0) (.lit (.int 2)))] none [1])])))]⟩
def F_is_sheet : Fn := ⟨1, 4, [.ifs (.bor (.nt (.bi .isinst [(.var 0), (.lit (.ty .tuple))])) (.bor (.cmp .NotEq (.bi .len [(.var 0)]) (.lit (.int 2))) (.nt (.bi .all [(.comp (.bi .isinst [(.var 1), (.lit (.ty .tuple))]) [1] .one .seq [(.var 0)] none [1])])))) [.ret (.lit (.bl false))] [],
  .ret (.bi .all [(.bin .Add (.comp (.bi .isinst [(.var 2), (.lit (.ty .str))]) [2] .one .seq [(.idx (.var 0) (.lit (.int 0)))] none [2]) (.comp (.call 128 [(.var 3)] []) [3] .one .seq [(.idx (.var 0) (.lit (.int 1)))] none [3]))])]⟩
def F_is_fraction : Fn := ⟨1, 2, [.ifs (.bor (.nt (.bi .isinst [(.var 0), (.lit (.ty .tuple))])) (.bor (.cmp .NotEq (.bi .len [(.var 0)]) (.lit (.int 2))) (.nt (.bi .all [(.comp (.call 91 [(.var 1)] []) [1] .one .seq [(.var 0)] none [1])])))) [.ret (.lit (.bl false))] [],
  .ret (.band (.cmp .Gt (.idx (.var 0) (.lit (.int 1))) (.lit (.int 0))) (.cmp .Eq (.call 0 [(.idx (.var 0) (.lit (.int 0))), (.idx (.var 0) (.lit (.int 1)))] []) (.lit (.int 1))))]⟩
def F_is_move : Fn := ⟨1, 2, [.ifs (.bor (.nt (.bi .isinst [(.var 0), (.lit (.ty .tuple))])) (.bor (.cmp .NotEq (.bi .len [(.var 0)]) (.lit (.int 2))) (.nt (.bi .all [(.comp (.call 137 [(.var 1)] []) [1] .one .seq [(.var 0)] none [1])])))) [.ret (.lit (.bl false))] [],
  .ret (.cmp .NotEq (.idx (.var 0) (.lit (.int 0))) (.lit (.tup [(.int 0), (.int 1)])))]⟩
def F_law_number_2 : Fn := ⟨1, 1, [.ret (.idx (.lst [(.tup [(.lit (.int 0)), (.lit (.int 1))]), (.tup [(.lit (.int 5)), (.lit (.int 1))]), (.tup [(.neg (.lit (.int 3))), (.lit (.int 4))]), (.tup [(.lit (.int 1)), (.lit (.int 2))]), (.tup [(.lit (.int 7)), (.lit (.int 3))]), (.tup [(.neg (.lit (.int 1))), (.lit (.int 1))]), (.tup [(.bin .Pow (.lit (.int 10)) (.lit (.int 11))), (.lit (.int 7))])]) (.call 6 [(.var 0), (.lit (.int 7))] []))]⟩
def F_law_lead : Fn := ⟨1, 1, [.ret (.tup [(.idx (.lst [(.tup [(.lit (.int 2)), (.lit (.int 1))]), (.tup [(.neg (.lit (.int 3))), (.lit (.int 4))]), (.tup [(.lit (.int 1)), (.lit (.int 2))]), (.tup [(.lit (.int 1)), (.lit (.int 1))])]) (.call 6 [(.var 0), (.lit (.int 4))] [])), (.call 139 [(.var 0)] [])])]⟩
def F_law_rows : Fn := ⟨1, 4, [.asg (.nm 1) (.lst []),
  .fr [2] .one .range [(.bin .Add (.lit (.int 1)) (.call 6 [(.var 0), (.lit (.int 8))] []))] [.asg (.nm 3) (.tup [(.idx (.lit (.str "pqr")) (.call 6 [(.var 0), (.lit (.int 3))] [])), (.idx (.lit (.str "pqr")) (.call 6 [(.var 0), (.lit (.int 3))] []))]),
  .ex (.mth .append (.var 1) [(.bin .Add (.bin .Add (.tup [(.idx (.lit (.str "abcdefgh")) (.var 2))]) (.var 3)) (.tup [(.call 140 [(.var 0)] []), (.call 6 [(.var 0), (.lit (.int 3))] [])]))])],
  .ret (.var 1)]⟩
def F_scales_along : Fn := ⟨3, 10, [.asg (.nm 3) (.dcomp (.idx (.var 9) (.lit (.int 0))) (.tup [(.idx (.var 9) (.lit (.int 1))), (.idx (.var 9) (.lit (.int 2)))]) [9] .one .seq [(.var 0)] none [9]),
  .asg (.nm 4) (.lst [(.var 1)]),
  .fr [5, 6] .tup .seq [(.var 2)] [.asg (.tup [7, 8]) (.stp (.mth .get2 (.var 3) [(.var 5), (.tup [(.lit .non), (.lit .non)])]) (.ite (.var 6) (.lit (.int 1)) (.neg (.lit (.int 1))))),
  .ifs (.cmp .NotEq (.var 7) (.idx (.var 4) (.neg (.lit (.int 1))))) [.ret (.lit .non)] [],
  .ex (.mth .append (.var 4) [(.var 8)])],
  .ret (.var 4)]⟩
def F_row_holds : Fn := ⟨3, 7, [.asg (.tup [3, 4, 5]) (.var 2),
  .asg (.nm 6) (.call 156 [(.var 0), (.idx (.var 1) (.lit (.int 1))), (.var 5)] []),
  .ifs (.bor (.cmp .NotEq (.var 3) (.idx (.var 1) (.lit (.int 0)))) (.bor (.cmp .Is (.var 6) (.lit .non)) (.bor (.cmp .NotEq (.idx (.var 6) (.neg (.lit (.int 1)))) (.idx (.var 1) (.lit (.int 2)))) (.cmp .NotEq (.bi .lenSet [(.var 6)]) (.bi .len [(.var 6)]))))) [.ret (.lit (.bl false))] [],
  .ret (.cmp .Eq (.var 4) (.ite (.cmp .Eq (.call 44 [(.var 0), (.var 5)] []) (.idx (.var 1) (.lit (.int 3)))) (.lit (.str "fits")) (.lit (.str "aside"))))]⟩
def F_holds : Fn := ⟨2, 12, [.ifs (.nt (.call 129 [(.var 1)] [])) [.ret (.lit (.bl false))] [],
  .asg (.tup [2, 3]) (.var 1),
  .asg (.nm 4) (.lst []),
  .asg (.nm 5) (.dct []),
  .asg (.nm 6) (.lit (.int 0)),
  .fr [7] .one .seq [(.call 32 [(.var 0)] [])] [.asg (.tup [8, 9]) (.tup [(.mth .get2 (.var 5) [(.idx (.var 7) (.lit (.int 1))), (.idx (.var 7) (.lit (.int 1)))]), (.mth .get2 (.var 5) [(.idx (.var 7) (.lit (.int 2))), (.idx (.var 7) (.lit (.int 2)))])]),
  .ifs (.band (.cmp .Lt (.bi .len [(.var 4)]) (.bi .len [(.var 2)])) (.cmp .Eq (.idx (.var 2) (.bi .len [(.var 4)])) (.idx (.var 7) (.lit (.int 0))))) [.ifs (.cmp .Eq (.var 8) (.var 9)) [.ret (.lit (.bl false))] [],
  .ex (.mth .update (.var 5) [(.dct [(.idx (.var 7) (.lit (.int 1))), (.var 8), (.idx (.var 7) (.lit (.int 2))), (.var 9)])]),
  .asg (.nm 5) (.remark 5 8 9),
  .ex (.mth .append (.var 4) [(.var 7)])] [.ifs (.band (.cmp .Lt (.var 6) (.bi .len [(.var 3)])) (.call 157 [(.var 4), (.var 7), (.idx (.var 3) (.var 6))] [])) [.aug 6 .Add (.lit (.int 1))] [.ret (.lit (.bl false))]]],
  .ret (.band (.cmp .Eq (.bi .len [(.var 4)]) (.bi .len [(.var 2)])) (.cmp .Eq (.var 6) (.bi .len [(.var 3)])))]⟩
def F_law_quotients : Fn := ⟨2, 5, [.asg (.nm 2) (.lst []),
  .fr [3] .one .seq [(.tup [(.lit (.bl false)), (.lit (.bl true))])] [.tryH [.ex (.mth .append (.var 2) [(.ite (.var 3) (.callk 19 [(.var 1), (.var 0)] [1, 0] []) (.call 19 [(.var 0), (.var 1)] []))])] ["NoBottom", "NoTelling", "NotJoined"] [.hd "NoBottom" (some 4) [.ex (.mth .append (.var 2) [(.tup [(.lit (.str "none")), (.xat (.var 4) "top" "NoBottom")])])]]],
  .ret (.var 2)]⟩
def F_law_fractions : Fn := ⟨1, 9, [.asg (.tup [1, 2]) (.tup [(.call 139 [(.var 0)] []), (.call 139 [(.var 0)] [])]),
  .asg (.tup [3, 4]) (.tup [(.bin .Sub (.call 6 [(.var 0), (.lit (.int 99))] []) (.lit (.int 40))), (.bin .Add (.lit (.int 1)) (.call 6 [(.var 0), (.lit (.int 9))] []))]),
  .asg (.nm 5) (.lst [(.tup [(.call 15 [(.var 3), (.var 4)] []), (.callk 15 [(.var 4), (.var 3)] [1, 0] [])]), (.tup [(.call 15 [(.var 3)] [.int 1]), (.callk 15 [(.var 3)] [0] [.int 1])])]),
  .ex (.mth .append (.var 5) [(.tup [(.call 15 [(.var 3)] [.int 1]), (.callk 15 [(.var 3), (.lit (.int 1))] [0, 1] [])])]),
  .ex (.mth .append (.var 5) [(.tup [(.call 16 [(.var 1), (.var 2)] []), (.callk 16 [(.var 2), (.var 1)] [1, 0] [])])]),
  .ex (.mth .append (.var 5) [(.tup [(.call 17 [(.var 1), (.var 2)] []), (.callk 17 [(.var 2), (.var 1)] [1, 0] [])])]),
  .ex (.mth .append (.var 5) [(.tup [(.call 18 [(.var 1), (.var 2)] []), (.callk 18 [(.var 2), (.var 1)] [1, 0] [])])]),
  .ex (.mth .append (.var 5) [(.tup [(.call 76 [(.var 1), (.var 2)] []), (.callk 76 [(.var 2), (.var 1)] [1, 0] [])])]),
  .asg (.nm 6) (.call 168 [(.var 1), (.var 2)] []),
  .ex (.mth .append (.var 5) [(.tup [(.idx (.var 6) (.lit (.int 0))), (.idx (.var 6) (.lit (.int 1)))])]),
  .asg (.tup [7, 8]) (.tup [(.call 140 [(.var 0)] []), (.call 140 [(.var 0)] [])]),
  .ex (.mth .append (.var 5) [(.tup [(.call 138 [(.var 7)] []), (.callk 138 [(.var 7)] [0] [])])]),
  .ex (.mth .append (.var 5) [(.tup [(.call 138 [(.var 1)] []), (.callk 138 [(.var 1)] [0] [])])]),
  .ex (.mth .append (.var 5) [(.tup [(.call 21 [(.var 7), (.var 1)] []), (.callk 21 [(.var 1), (.var 7)] [1, 0] [])])]),
  .ex (.mth .append (.var 5) [(.tup [(.call 20 [(.var 7), (.var 1)] []), (.callk 20 [(.var 1), (.var 7)] [1, 0] [])])]),
  .ex (.mth .append (.var 5) [(.tup [(.call 22 [(.var 7), (.var 8)] []), (.callk 22 [(.var 8), (.var 7)] [1, 0] [])])]),
  .ex (.mth .append (.var 5) [(.tup [(.call 23 [(.var 7)] []), (.callk 23 [(.var 7)] [0] [])])]),
  .ret (.var 5)]⟩
def F_law_roads : Fn := ⟨3, 7, [.asg (.nm 3) (.lst []),
  .fr [4] .one .seq [(.tup [(.lit (.bl false)), (.lit (.bl true))])] [.tryH [.ifs (.var 4) [.asg (.nm 5) (.callk 43 [(.var 2), (.var 1), (.var 0)] [2, 1, 0] []),
  .ex (.mth .append (.var 3) [(.tup [(.var 5), (.callk 45 [(.var 2), (.var 0), (.var 1)] [1, 2, 0] [])])])] [.ex (.mth .append (.var 3) [(.tup [(.call 43 [(.var 0), (.var 1), (.var 2)] []), (.call 45 [(.var 0), (.var 1), (.var 2)] [])])])]] ["NoBottom", "NoTelling", "NotJoined"] [.hd "NotJoined" (some 6) [.ex (.mth .append (.var 3) [(.tup [(.lit (.str "apart")), (.xat (.var 6) "start" "NotJoined"), (.xat (.var 6) "end" "NotJoined")])])]]],
  .ret (.var 3)]⟩
def F_law_rings : Fn := ⟨2, 5, [.asg (.nm 2) (.lst []),
  .fr [3] .one .seq [(.tup [(.lit (.bl false)), (.lit (.bl true))])] [.tryH [.ex (.mth .append (.var 2) [(.ite (.var 3) (.callk 52 [(.var 1), (.var 0)] [1, 0] []) (.call 52 [(.var 0), (.var 1)] []))])] ["NoBottom", "NoTelling", "NotJoined"] [.hd "NoTelling" (some 4) [.ex (.mth .append (.var 2) [(.tup [(.lit (.str "none")), (.xat (.var 4) "name" "NoTelling")])])]]],
  .ret (.var 2)]⟩
def F_law_25 : Fn := ⟨1, 10, [.asg (.nm 1) (.call 4 [(.var 0)] []),
  .asg (.nm 2) (.call 169 [(.var 1)] []),
  .asg (.nm 3) (.call 141 [(.var 1)] []),
  .asg (.tup [4, 5]) (.tup [(.idx (.lit (.str "pqrs")) (.call 6 [(.var 1), (.lit (.int 4))] [])), (.idx (.lit (.str "pqrs")) (.call 6 [(.var 1), (.lit (.int 4))] []))]),
  .fr [6] .one .seq [(.tup [(.call 170 [(.var 3), (.var 4), (.var 5)] []), (.call 171 [(.var 3), (.idx (.lit (.str "abcdefghi")) (.call 6 [(.var 1), (.lit (.int 9))] []))] [])])] [.ex (.mth .append (.var 2) [(.tup [(.idx (.var 6) (.lit (.int 0))), (.idx (.var 6) (.lit (.int 1)))])])],
  .ex (.mth .append (.var 2) [(.tup [(.call 33 [(.var 3)] []), (.callk 33 [(.var 3)] [0] [])])]),
  .ex (.mth .append (.var 2) [(.tup [(.call 56 [(.var 3)] []), (.callk 56 [(.var 3)] [0] [])])]),
  .ex (.mth .append (.var 2) [(.tup [(.call 47 [(.var 3)] []), (.callk 47 [(.var 3)] [0] [])])]),
  .asg (.nm 7) (.call 126 [(.var 3)] []),
  .ex (.mth .append (.var 2) [(.tup [(.var 7), (.callk 126 [(.var 3)] [0] [])])]),
  .ex (.mth .append (.var 2) [(.tup [(.call 158 [(.var 3), (.var 7)] []), (.callk 158 [(.var 7), (.var 3)] [1, 0] [])])]),
  .ex (.mth .append (.var 2) [(.tup [(.call 158 [(.var 3), (.stp (.var 7) (.neg (.lit (.int 1))))] []), (.callk 158 [(.stp (.var 7) (.neg (.lit (.int 1)))), (.var 3)] [1, 0] [])])]),
  .ret (.band (.bi .all [(.comp (.call 7 [(.var 9), (.var 8)] []) [8, 9] .tup .seq [(.var 2)] none [8, 9])]) (.call 158 [(.var 3), (.var 7)] []))]⟩
end Sb
set_option linter.all false
namespace Sb
def tbl : Nat → Fn
  | 0 => F_common
  | 15 => F_fraction_of
  | 16 => F_plus_of
  | 17 => F_less_of
  | 18 => F_times_of
  | 19 => F_over_of
  | 76 => F_is_below
  | 91 => F_law_whole
  | 137 => F_is_fraction
  | 138 => F_is_move
  | 20 => F_stretch_by
  | 21 => F_read_by
  | 22 => F_move_then
  | 23 => F_move_back
  | 32 => F_in_order
  | 33 => F_order_of
  | 51 => F_named
  | 39 => F_tie_rows
  | 56 => F_ties_of
  | 40 => F_steps_from
  | 41 => F_roads_among
  | 42 => F_road_among
  | 43 => F_road_of
  | 44 => F_chain_move
  | 45 => F_move_of
  | 52 => F_ring_of
  | 46 => F_bars_of
  | 47 => F_words_of
  | 126 => F_paper_of
  | 127 => F_is_step
  | 128 => F_is_row
  | 129 => F_is_sheet
  | 156 => F_scales_along
  | 157 => F_row_holds
  | 158 => F_holds
  | 4 => F_law_start
  | 6 => F_law_draw
  | 5 => F_law_mix
  | 7 => F_law_same
  | 139 => F_law_number_2
  | 140 => F_law_lead
  | 141 => F_law_rows
  | 168 => F_law_quotients
  | 169 => F_law_fractions
  | 170 => F_law_roads
  | 171 => F_law_rings
  | 173 => F_law_25
  | 34 => F_law_names
  | 35 => F_law_world
  | 36 => F_law_tellings
  | _ => ⟨0, 0, []⟩
end Sb
set_option Elab.async false
set_option linter.all false
set_option maxRecDepth 100000
set_option maxHeartbeats 4000000
namespace Sb
open PySem PySem.Spec PyProof.Rows L2
section
variable {X : Cx} {pins : List (Addr × Obj)} {σ : L2.St} {H : Hp} {s : Shared}
/-- an untracked record of ours is tracked from now on -/
theorem inv_adopt {D : Addr} {ho : HO} (I : Inv X pins σ H s) (f : FpOk X pins H D) (new : ObjOk X.prog X.w (upd H D ho) s.heap D ho) : Inv X pins σ (upd H D ho) s := by
  have nD : ∀ b u, H b = some u → b ≠ D := fun b u e z => by
    rw [z, f.1] at e
    cases e
  have key := I.step (h' := s.heap) (H' := upd H D ho) (g' := s.gens) (t' := s.toks) (d' := s.drawn) (ch := [D])
    (fun b hb => by
      have e : b = D := by simpa using hb
      subst e
      exact ⟨f.2.2.2.1, f.2.1, f.2.2.2.2.1, f.2.2.2.2.2⟩)
    (fun b o _ _ _ e _ => e) (fun b o _ _ _ e _ => ⟨o.slots, e⟩) (fun b o hc e n => by rw [upd_ne (fun z => hc (by simp [z]))]; exact n) (fun b o _ e => ⟨o, e⟩)
    (fun b xs e => by rw [upd_ne (nD b _ e)]; exact e) (fun b o u e => by rw [upd_ne (nD b _ e)]; exact e) (fun b ps e => ⟨#[], by rw [upd_ne (nD b _ e), e]; simp⟩)
    (fun m hm => hm) (fun b u e => by
      by_cases hb : b = D
      · subst hb
        rw [upd_same] at e
        cases e
        exact new
      · rw [upd_ne hb] at e
        exact (I.hok b u e).stay (fun c v hc q => q) (fun d q => by rw [upd_ne (nD d _ q)]; exact q) fun d xs q => by rw [upd_ne (nD d _ q)]; exact q) I.bare
  exact key
end
/-- the items of a list or a tuple collected -/
theorem collect_seq {prog : Program} {w : World} {A : Around} {E : Value → Shared → Prop} {s : Shared} {l : Addr} {vs : List Value} {Q : List Value → Shared → Prop} (hl : s.heap.IsList l vs.toArray ∨ IsTup s.heap l vs.toArray)
    (h : Q vs { s with heap := (s.heap.push (seqObj "list" #[] 0)).update s.heap.objs.size (Obj.mapSeq (· ++ vs.toArray)) }) (hsz : vs.length ≤ sizeLine) :
    wpAny (model prog w) A (collect (.ref l)) Q E s := by
  rcases hl with hl | hl
  · exact collect_list hl h hsz
  obtain ⟨o, ho, hc, n, hd⟩ := id hl
  unfold collect
  refine wpAny_bind (wpAny_runValue (codeAny_builtin entry_proto_collect' ?_))
  show wpAny _ _ (do again (.builtin "list.__iadd__" ⟨[← newList [], .ref l], []⟩)) _ _ s
  refine wpAny_bind (wpAny_newList (wpAny_pure ⟨Code.quiet_builtin _ (by decide +kernel), codeAny_builtin entry_list_iadd' ?_⟩))
  show wpAny _ _ (Builtin.List.listExtendWith (.ref s.heap.objs.size) (.ref l) (.ref s.heap.objs.size)) _ _ { s with heap := s.heap.push (seqObj "list" #[] 0) }
  unfold Builtin.List.listExtendWith
  have ho' : (s.heap.push (seqObj "list" #[] 0)).get? l = some o := Heap.get?_push_of_some _ ho
  refine wpAny_bind (wpAny_typeOf (T := "tuple") ⟨o, ho', hc⟩ ?_)
  rw [if_pos (by rw [show (Value.type "tuple" == Value.type "tuple") = true from rfl]; simp)]
  refine wpAny_bind (listItems_at ho' hd ?_)
  refine wpAny_bind (listItems_at (xs := #[]) (n := 0) (Heap.get?_push_size _ rfl) rfl ?_)
  rw [if_neg (by simp)]
  refine wpAny_bind (listUpdate_at (xs := #[]) (n := 0) (Heap.get?_push_size _ rfl) rfl ?_ (Nat.zero_le _) (by show (#[] ++ vs.toArray).size ≤ sizeLine + 1; simp only [Array.size_append, List.size_toArray, List.length_nil]; omega))
  refine wpAny_pure ?_
  show wpAny (model prog w) A (do
      let o ← load s.heap.objs.size
      match o.data with
      | .seq xs _ => pure xs.toList
      | _ => unsupported "internal:collect") Q E { s with heap := (s.heap.push (seqObj "list" #[] 0)).update s.heap.objs.size (Obj.mapSeq (· ++ vs.toArray)) }
  refine wpAny_bind (wpAny_load (get?_update_seq (Heap.get?_push_size _ rfl) _) ?_)
  show wpAny _ _ (pure ((#[] : Array Value) ++ vs.toArray).toList) Q E _
  rw [show ((#[] : Array Value) ++ vs.toArray).toList = vs by simp]
  exact wpAny_pure h
/-- a lambda that captures nothing is called -/
theorem run_lam {CX : CXT} {P : Program} {w : World} {K : PySem.W.Frag} {mg : Str → Option Value} {base : Heap} {k : Nat} {f c' : Addr} {qual : Str} {params : Arguments} {body : Expr} {scope : Scope} {pm ctv : Value} {N ps : List Str}
    {A : Around} {outer : List PySem.Env} {s : Shared} {H : Hp} {args : Args} {us : List Value} {vs : List V} {Q : VK} {E : XK}
    (hf : s.heap.get? f = some (PySem.W.kla_obj "<lambda>" qual params body scope [] pm c' ctv)) (hc : H c' = some (LamX.CodeO c' qual)) (S : FnScope N ps scope) (hr : Room (k + 1) A) (e0 : Env0 P w K mg base A outer s H)
    (hb : BindsTo s (PySem.W.kla_fn "<lambda>" qual params body scope [] pm (.ref c') ctv) args (ps.zip us)) (r : Vals vs us) (hl : vs.length = ps.length)
    (hbody : Room k (A.deeper (envOfC qual scope s.heap.objs.size f (.ref c'))) → ∃ t, PE (cxOf CX P w K mg base N qual scope f (.ref c') A outer s H E) body t ∧ t (L2.start N vs) H Q) :
    codeAny (model P w) A (.call (.ref f) args) (CR CX outer P w H s Q E) s := by
  have lim : s.heap.NoLimit := e0.mod.nolimit.keeps fun b o e => (e0.bs b o e).1
  have hkind : ∀ y ∈ ps.zip us, scope.names.lookup y.1 = some .local ∨ (scope.names.lookup y.1 = some .cell ∧ ((cellsFrom (s.heap.objs.size + 1) scope.names []).lookup y.1).isSome = true) := fun ⟨n, v⟩ hy => by
    rcases S.par n (List.of_mem_zip hy).1 with q | q
    · exact .inl q
    · exact .inr ⟨q, PySem.W.cellsFrom_some _ _ _ (.inl q)⟩
  obtain ⟨⟨oc, cvs, t, hoc, hdc, hvc⟩, _, _⟩ := e0.hok c' _ hc
  refine PySem.W.kla_callFunE hr.depth hf rfl S.co S.gen rfl ⟨c', oc, cvs, t, rfl, hoc, hdc, hvc⟩ (hb _ _ _ _ ?_)
  refine wpAny_newFunctionEnv_cells S.kind hkind fun env he s1 x => ?_
  subst he
  refine ⟨lim.keeps x.toInCall.keep, PySem.W.kla_codeExpr ?_⟩
  obtain ⟨t, ht, hq⟩ := hbody (hr.deeper _)
  have I : Inv (cxOf CX P w K mg base N qual scope f (.ref c') A outer s H E) [] (L2.start N vs) H s1 := inv_start S hr.hd e0 hl r x
  refine wpAny_mono (ht.run [] s1 (L2.start N vs) H Q I hq) (fun v s' hs => ?_) fun e s' hs => hs
  obtain ⟨v, H', J, rv, q⟩ := hs
  exact ⟨v, H', J.os, J.bare, J.base, J.hok, rv, q⟩
theorem cxN_false {P : Program} {w : World} {outer : List PySem.Env} {H : Hp} {s : Shared} {e : Value} {s' : Shared} (h : L2N.CX P w outer H s (fun _ _ _ => False) e s') : False := by
  obtain ⟨_, _, _, _, _, _, _, _, _, _, _, _, z⟩ := h
  exact z.elim
def keyTup (k : Int × Str) : PV := .tup [.int (-k.1), .str k.2]
structure Z5 where
  k : Int × Str
  p : PV
  v : V
  ky : Value
  u : Value
theorem rows_of {K : ZZ} {φ : List Addr} {H : Hp} : ∀ {l : List PV} {ks : List (Int × Str)} {xs kv : List V} {kA its : List Value}, mapO sortKey l = some ks → RVs K φ H l xs → Vals xs its → RVs K φ H (ks.map keyTup) kv → Vals kv kA →
    ∃ Z : List Z5, Z.map (·.k) = ks ∧ Z.map (·.p) = l ∧ Z.map (·.v) = xs ∧ Z.map (·.ky) = kA ∧ Z.map (·.u) = its ∧ ∀ z ∈ Z, RV K φ H z.p z.v ∧ RelV z.v z.u ∧ ∃ kvz, RV K φ H (keyTup z.k) kvz ∧ RelV kvz z.ky
  | [], ks, xs, kv, kA, its, e, r, rv, rk, rkv => by
    cases e
    have e1 : xs = [] := r
    have e2 : kv = [] := rk
    subst e1 e2
    cases rv
    cases rkv
    exact ⟨[], rfl, rfl, rfl, rfl, rfl, fun z hz => by cases hz⟩
  | p :: l, ks, xs, kv, kA, its, e, r, rv, rk, rkv => by
    unfold mapO at e
    cases z1 : sortKey p with
    | none => simp only [z1] at e; cases e
    | some k1 =>
      cases z2 : mapO sortKey l with
      | none => simp only [z1, z2] at e; cases e
      | some k2 =>
        simp only [z1, z2] at e
        cases e
        obtain ⟨v, t, e1, q, s⟩ := r
        subst e1
        obtain ⟨w, t2, e2, q2, s2⟩ := rk
        subst e2
        cases rv with
        | cons r1 r2 =>
          cases rkv with
          | cons r3 r4 =>
            obtain ⟨Z, h1, h2, h3, h4, h5, h6⟩ := rows_of z2 s r2 s2 r4
            refine ⟨⟨k1, p, v, _, _⟩ :: Z, by simp [h1], by simp [h2], by simp [h3], by simp [h4]; rfl, by simp [h5]; rfl, fun z hz => ?_⟩
            rcases List.mem_cons.mp hz with rfl | hz
            · exact ⟨q, r1, w, q2, r3⟩
            · exact h6 z hz
theorem perm_lift {α β : Type} {f : α → β} : ∀ {x m : List β}, x.Perm m → ∀ l : List α, x = l.map f → ∃ l' : List α, l'.Perm l ∧ l'.map f = m := by
  intro x m h
  induction h with
  | nil =>
    intro l e
    exact ⟨l, .refl _, e.symm⟩
  | cons a h ih =>
    intro l e
    cases l with
    | nil => cases e
    | cons b l =>
      rw [List.map_cons] at e
      injection e with e1 e2
      obtain ⟨l', p, q⟩ := ih l e2
      exact ⟨b :: l', p.cons b, by rw [List.map_cons, q, e1]⟩
  | swap a b m =>
    intro l e
    match l, e with
    | c :: d :: l, e =>
      rw [List.map_cons, List.map_cons] at e
      injection e with e1 e2
      injection e2 with e2 e3
      exact ⟨d :: c :: l, .swap _ _ _, by rw [List.map_cons, List.map_cons, ← e1, ← e2, ← e3]⟩
  | trans h1 h2 ih1 ih2 =>
    intro l e
    obtain ⟨l', p, q⟩ := ih1 l e
    obtain ⟨l2, p2, q2⟩ := ih2 l' q.symm
    exact ⟨l2, p2.trans p, q2⟩
/-- the order -/
theorem leTel_trans (a b c : Int × Str) (h1 : leTel a b = true) (h2 : leTel b c = true) : leTel a c = true := by
  unfold leTel at *
  simp only [Bool.or_eq_true, Bool.and_eq_true, decide_eq_true_eq] at *
  rcases h1 with h1 | ⟨h1, h1'⟩ <;> rcases h2 with h2 | ⟨h2, h2'⟩
  · exact .inl (by omega)
  · exact .inl (by omega)
  · exact .inl (by omega)
  · exact .inr ⟨by omega, leStr_trans _ _ _ h1' h2'⟩
theorem leTel_total (a b : Int × Str) : (leTel a b || leTel b a) = true := by
  unfold leTel
  simp only [Bool.or_eq_true, Bool.and_eq_true, decide_eq_true_eq]
  have := leStr_total a.2 b.2
  rw [Bool.or_eq_true] at this
  rcases Int.lt_trichotomy a.1 b.1 with z | z | z
  · exact .inr (.inl z)
  · rcases this with t | t
    · exact .inl (.inr ⟨z, t⟩)
    · exact .inr (.inr ⟨z.symm, t⟩)
  · exact .inl (.inl z)
theorem leTel_anti {a b : Int × Str} (h1 : leTel a b = true) (h2 : leTel b a = true) : a = b := by
  unfold leTel at *
  simp only [Bool.or_eq_true, Bool.and_eq_true, decide_eq_true_eq] at *
  rcases h1 with h1 | ⟨h1, h1'⟩ <;> rcases h2 with h2 | ⟨h2, h2'⟩
  · omega
  · omega
  · omega
  · exact Prod.ext h1 (leStr_anti h1' h2')
theorem zip_inj {α β : Type} : ∀ {ks : List α} {l : List β} {a b : α × β}, ks.Nodup → a ∈ ks.zip l → b ∈ ks.zip l → a.1 = b.1 → a = b
  | [], l, a, b, nd, ha, hb, e => by simp at ha
  | k :: ks, [], a, b, nd, ha, hb, e => by simp at ha
  | k :: ks, p :: l, a, b, nd, ha, hb, e => by
    rw [List.zip_cons_cons] at ha hb
    obtain ⟨n1, n2⟩ := List.nodup_cons.mp nd
    rcases List.mem_cons.mp ha with rfl | ha <;> rcases List.mem_cons.mp hb with rfl | hb
    · rfl
    · exact absurd (List.of_mem_zip hb).1 (by rw [← e]; exact n1)
    · exact absurd (List.of_mem_zip ha).1 (by rw [e]; exact n1)
    · exact zip_inj n2 ha hb e
theorem sortT_eq {Z Z' : List Z5} (nd : (Z.map (·.k)).Nodup) (p : Z'.Perm Z) (o : Z'.Pairwise fun a b => leTel a.k b.k = true) : Z'.map (·.p) = sortT (Z.map (·.k)) (Z.map (·.p)) := by
  unfold sortT
  have e0 : (Z.map (·.k)).zip (Z.map (·.p)) = Z.map fun z => (z.k, z.p) := by
    clear nd p o
    induction Z with
    | nil => rfl
    | cons z Z ih => simp [ih]
  have e1 : Z'.map (fun z => (z.k, z.p)) = ((Z.map (·.k)).zip (Z.map (·.p))).mergeSort fun p q => leTel p.1 q.1 := by
    refine ((p.map _).trans (by rw [e0]; exact (List.mergeSort_perm _ _).symm)).eq_of_pairwise (le := fun p q : (Int × Str) × PV => leTel p.1 q.1 = true) (fun a b ha hb h1 h2 => ?_) (by rw [List.pairwise_map]; exact o) (List.pairwise_mergeSort (le := fun p q : (Int × Str) × PV => leTel p.1 q.1) (fun a b c => leTel_trans a.1 b.1 c.1) (fun a b => leTel_total a.1 b.1) _)
    refine zip_inj nd ?_ ((List.mergeSort_perm _ _).mem_iff.mp hb) (leTel_anti h1 h2)
    rw [e0]
    exact (p.map _).mem_iff.mp ha
  rw [← e1, List.map_map]
  rfl
/-- the shape of a key: an int, a text -/
def shK : Nat → Bool := fun i => i == 1
abbrev itK (k : Int × Str) : List (Int ⊕ List Nat) := [Sum.inl (-k.1), Sum.inr k.2.cps.toList]
theorem kle_tel {a b : Int × Str} (h : lexLt itemOrd (itK b) (itK a) = false) : leTel a b = true := by
  obtain ⟨h1, h2⟩ := lex_false.mp h
  unfold leTel
  simp only [Bool.or_eq_true, Bool.and_eq_true, decide_eq_true_eq]
  have h1' : decide (-b.1 < -a.1) = false := h1
  rw [decide_eq_false_iff_not] at h1'
  by_cases e : a.1 = b.1
  · refine .inr ⟨e, ?_⟩
    rcases h2 with h2 | h2
    · have h2' : decide (-a.1 < -b.1) = true := h2
      rw [decide_eq_true_eq] at h2'
      omega
    · obtain ⟨h3, _⟩ := lex_false.mp h2
      have h3' : decide (b.2.cps.toList < a.2.cps.toList) = false := h3
      rw [leStr_iff]
      exact of_decide_eq_false h3'
  · exact .inl (by omega)
section
variable {X : Cx} {pins : List (Addr × Obj)} {σ : L2.St} {H : Hp} {s : Shared} {φ : List Addr}
theorem key_at {k : Int × Str} {kv : V} {u : Value} (I : Inv X pins σ H s) (r : RV (zOf X) φ H (keyTup k) kv) (ru : RelV kv u) : ∃ a t1 t2, u = .ref a ∧ IsTup s.heap a #[.int (-k.1) t1, .str k.2 t2] := by
  obtain ⟨a, vs, e, q, rs⟩ := r
  obtain ⟨w1, w2, e2, r1, r2⟩ := rs.two
  have e3 : w1 = .int (-k.1) := r1
  have e4 : w2 = .str k.2 := r2
  subst e e2 e3 e4
  obtain rfl : u = Value.ref a := ru
  obtain ⟨its, rv, ht, hz⟩ := I.tuple q.sq
  obtain ⟨u1, u2, e5, q1, q2⟩ := vals2' rv
  obtain ⟨t1, rfl⟩ := q1
  obtain ⟨t2, rfl⟩ := q2
  subst e5
  exact ⟨a, t1, t2, rfl, ht⟩
theorem key_tupC {k : Int × Str} {u : Value} {h : Heap} (e : ∃ a t1 t2, u = .ref a ∧ IsTup h a #[.int (-k.1) t1, .str k.2 t2]) : G.tupKeyC h shK u = some (itK k) ∧ ∃ f, TupOf h shK u f := by
  obtain ⟨a, t1, t2, rfl, o, ho, hc, n, hd⟩ := e
  constructor
  · unfold G.tupKeyC
    rw [if_pos (by simp only [G.isTupObj, ho, hc]; rfl)]
    simp only [tupKey, ho, hd]
    simp [tupItems, shK]
  · exact ⟨.int (-k.1) t1, a, o, _, n, rfl, ho, hc, hd, rfl, fun _ => ⟨_, _, rfl⟩, fun z => by cases z⟩
theorem tups_all {h : Heap} : ∀ {us : List Value}, (∀ u ∈ us, ∃ f, TupOf h shK u f) → ∃ fs, TupsOf h shK us fs ∧ fs.length = us.length
  | [], _ => ⟨[], .nil, rfl⟩
  | u :: us, hh => by
    obtain ⟨f, hf⟩ := hh u List.mem_cons_self
    obtain ⟨fs, h1, h2⟩ := tups_all (us := us) fun u hu => hh u (List.mem_cons_of_mem _ hu)
    exact ⟨f :: fs, .cons hf h1, by simp [h2]⟩
end
def kyA (Z : List Z5) : Array Value := (Z.map (·.ky)).toArray
def usA (Z : List Z5) : Array Value := (Z.map (·.u)).toArray
theorem kyA_size (Z : List Z5) : (kyA Z).size = Z.length := by simp [kyA]
theorem usA_size (Z : List Z5) : (usA Z).size = Z.length := by simp [usA]
theorem zipA (Z : List Z5) : ((kyA Z).zip (usA Z)).toList = Z.map fun z => (z.ky, z.u) := by
  rw [Array.toList_zip]
  show (Z.map (·.ky)).zip (Z.map (·.u)) = _
  induction Z with
  | nil => rfl
  | cons z Z ih => simp [ih]
theorem zipA_size (Z : List Z5) : ((kyA Z).zip (usA Z)).size = Z.length := by rw [Array.size_zip, kyA_size, usA_size, Nat.min_self]
/-- what the sort's end gives -/
theorem sorted_out {h : Heap} {Z : List Z5} {xs : Array Keyed} (hp : xs.Perm ((kyA Z).zip (usA Z))) (hk : ∀ z ∈ Z, G.tupKeyC h shK z.ky = some (itK z.k)) (hs : SortedToK (G.tupKindC h shK) xs xs.size) :
    ∃ Z' : List Z5, Z'.Perm Z ∧ Z'.map (fun z => (z.ky, z.u)) = xs.toList ∧ Z'.Pairwise fun a b => leTel a.k b.k = true := by
  have hl : xs.toList.Perm (Z.map fun z => (z.ky, z.u)) := by
    rw [← zipA]
    exact Array.perm_iff_toList_perm.mp hp
  obtain ⟨Z', p, e⟩ := perm_lift hl.symm Z rfl
  refine ⟨Z', p, e, ?_⟩
  rw [List.pairwise_iff_getElem]
  intro i j hi hj hij
  have len : xs.size = Z'.length := by
    have := congrArg List.length e
    simpa using this.symm
  have q := hs i j (Nat.le_of_lt hij) (by omega)
  have at_ : ∀ (m : Nat) (hm : m < Z'.length), KK (G.tupKindC h shK) xs m = itK (Z'[m].k) := fun m hm => by
    have e1 : xs[m]? = some (Z'[m].ky, Z'[m].u) := by
      rw [← Array.getElem?_toList, ← e, List.getElem?_map, List.getElem?_eq_getElem hm]
      rfl
    unfold KK
    rw [e1]
    show (G.tupKeyC h shK Z'[m].ky).getD [] = _
    rw [hk _ (p.mem_iff.mp (List.getElem_mem hm))]
    rfl
  rw [at_ i hi, at_ j hj] at q
  exact kle_tel q
theorem sort_end {prog : Program} {w : World} {A : Around} {E : Value → Shared → Prop} {s : Shared} {D kS : Addr} {Z : List Z5} {e e1 : Nat} {P : PySem.Fin → Shared → Prop} (hne : kS ≠ D) (hD : s.heap.get? D = some (seqObj "list" #[] e1)) (hK : s.heap.get? kS = some (seqObj "list" (kyA Z) e)) (hz : Z.length ≤ 1000)
    (hk : ∀ z ∈ Z, ∃ a t1 t2, z.ky = .ref a ∧ IsTup s.heap a #[.int (-z.k.1) t1, .str z.k.2 t2])
    (h : ∀ (Z' : List Z5) (h' : Heap) (c : Nat), Z'.Perm Z → (Z'.Pairwise fun a b => leTel a.k b.k = true) → (∀ b o, b ≠ D → b ≠ kS → s.heap.get? b = some o → h'.get? b = some o) → h'.get? D = some (seqObj "list" (usA Z') c) → P (.done (.ret .none)) { s with heap := h' }) :
    wpAny (model prog w) A (ksk_end D false (usA Z) e1 (.ref kS) (kyA Z)) P E s := by
  have hsl := sizeLine_eq
  have hkk : ∀ z ∈ Z, G.tupKeyC s.heap shK z.ky = some (itK z.k) := fun z hz => (key_tupC (hk z hz)).1
  -- the tail
  have tail : ∀ st : SortSt, (arrOf st).Perm ((kyA Z).zip (usA Z)) → SortedToK (G.tupKindC s.heap shK) (arrOf st) (arrOf st).size → failedOf st = none → wpAny (model prog w) A (ksk_tail D false e1 (.ref kS) st) P E s := by
    intro st hp hs hfl
    obtain ⟨Z', p, eq, o⟩ := sorted_out hp hkk hs
    have hsz : (arrOf st).size = Z'.length := by
      have := congrArg List.length eq
      simpa using this.symm
    have hlen := p.length_eq
    have s1 := Heap.SameBut.update s.heap kS (Obj.mapSeq fun _ => (#[] : Array Value))
    have hD1 : (s.heap.update kS (Obj.mapSeq fun _ => (#[] : Array Value))).get? D = some (seqObj "list" #[] e1) := (s1.2 D (Ne.symm hne)).trans hD
    obtain ⟨out, eout⟩ : ∃ out, out = (arrOf st).map (·.2) := ⟨_, rfl⟩
    have eo : out = usA Z' := by
      rw [eout]
      apply Array.toList_inj.mp
      rw [Array.toList_map, ← eq, List.map_map]
      rfl
    have s2 := Heap.SameBut.update (s.heap.update kS (Obj.mapSeq fun _ => (#[] : Array Value))) D (Obj.mapSeq fun _ => out)
    have hc2 := get?_update_seq hD1 fun _ => out
    unfold ksk_tail
    simp only [Bool.false_eq_true, if_false, ← eout]
    refine wpAny_bind (listUpdate_at hK rfl ?_ (by rw [kyA_size]; omega) (Nat.zero_le _))
    refine wpAny_bind (wpAny_letGo ?_)
    refine wpAny_bind (seqEpoch_at hD1 rfl ?_)
    refine wpAny_bind (listUpdate_at hD1 rfl ?_ (Nat.zero_le _) (by rw [eo, usA_size]; omega))
    rw [hfl]
    simp only [bne_self_eq_false, Bool.false_eq_true, if_false]
    refine wpAny_pure (h Z' _ _ p o (fun b u h1 h2 e => (s2.2 b h1).trans ((s1.2 b h2).trans e)) (hc2.trans (by rw [eo])))
  have step : ∀ t : Sem PySem.Fin, wpAny (model prog w) A t P E s → wpAny (model prog w) A (if false = true then (do let _ ← rule "list.sort.reverse"; t) else t) P E s := by
    intro t ht
    rw [if_neg Bool.false_ne_true]
    exact ht
  have hzs := zipA_size Z
  unfold ksk_end
  try dsimp only
  refine step _ ?_
  rw [if_neg Bool.false_ne_true]
  by_cases h2 : (usA Z).size < 2
  · rw [if_pos h2, if_pos h2]
    refine wpAny_bind (wpAny_pure ?_)
    rw [StateT.run_pure]
    refine wpAny_bind (wpAny_pure ?_)
    try dsimp only
    refine tail (SortSt.mk' general' ((kyA Z).zip (usA Z)) #[] 7 none) (Array.Perm.refl _) ?_ rfl
    intro i j hij hj
    have hj2 : j < ((kyA Z).zip (usA Z)).size := hj
    rw [hzs] at hj2
    rw [usA_size] at h2
    have : i = j := by omega
    subst this
    exact KeyOrd.kle_refl _
  · rw [if_neg h2, if_neg h2]
    rw [usA_size] at h2
    obtain ⟨fs, ht, hfl⟩ := tups_all (h := s.heap) (us := Z.map (·.ky)) fun u hu => by
      obtain ⟨z, hz, rfl⟩ := List.mem_map.mp hu
      exact (key_tupC (hk z hz)).2
    refine wpAny_bind (tup_kind (by rw [hfl, List.length_map]; omega) ht ?_)
    refine wpAny_bind (wpAny_mono (G.wpS_sortRunsSt (κ := G.tupKindC s.heap shK) (kd := tuples' true) (a₀ := (kyA Z).zip (usA Z)) (st := SortSt.mk' (tuples' true) ((kyA Z).zip (usA Z)) #[] 7 none)
      (Q := fun _ st' => (arrOf st').Perm ((kyA Z).zip (usA Z)) ∧ failedOf st' = none ∧ SortedToK (G.tupKindC s.heap shK) (arrOf st') ((kyA Z).zip (usA Z)).size)
      (G.tupC_ltAt true (G.KeepsTups.refl _)) (fun p hp => ?_) ⟨Array.Perm.refl _, rfl, rfl⟩ rfl (Stable.refl _) (by rw [hzs]; omega) fun st' a1 a2 a3 _ => ⟨a1, a2, a3⟩) ?_ fun _ _ e => e)
    · rw [zipA] at hp
      obtain ⟨z, hz, e⟩ := List.mem_map.mp hp
      exact ⟨_, by rw [← e]; exact hkk z hz⟩
    · rintro ⟨⟨⟩, st'⟩ s' ⟨rfl, hp, hf, hs⟩
      try dsimp only
      exact tail st' hp (by rw [hp.size_eq]; exact hs) hf
end Sb
set_option Elab.async false
set_option linter.all false
set_option maxRecDepth 100000
set_option maxHeartbeats 4000000
namespace Sb
open PySem PySem.Spec PyProof.Rows L2
/-- what is known of the lambda -/
structure LamI (X : Cx) (C : Calls) (ek : E) (f c' : Addr) (qual : Str) (params : Arguments) (body : Expr) (scope : Scope) (p : Str) (pm ctv : Value) : Prop where
  S : FnScope [p] [p] scope
  bind : ∀ u, bindArgs (PySem.W.kla_fn "<lambda>" qual params body scope [] pm (.ref c') ctv) ⟨[u], []⟩ = pure [(p, u)]
  je : ∀ (A : Around) (outer : List PySem.Env) (s : Shared) (H : Hp), Room 0 (A.deeper (envOfC qual scope s.heap.objs.size f (.ref c'))) → JE (cxOf (L2N.CX X.prog X.w) X.prog X.w X.K X.mg X.base [p] qual scope f (.ref c') A outer s H (fun _ _ _ => False)) W0 C body ek
  ev : ∀ (item : PV) (k : Int × Str) (hh : PH), sortKey item = some k → evG C ek false [some item] hh = .ok (keyTup k) hh
section
variable {X : Cx} {pins : List (Addr × Obj)} {σ : L2.St} {φ : List Addr} {h : PH} {H : Hp} {s : Shared} {C : Calls} {ek : E} {f c' : Addr} {qual : Str} {params : Arguments} {body : Expr} {scope : Scope} {p : Str} {pm ctv : Value}
theorem key_call (L : LamI X C ek f c' qual params body scope p pm ctv) (hcalm : X.calm = true) (hr : Room 1 X.A.in1.in1) (I : Inv X pins σ H s) (hf : s.heap.get? f = some (PySem.W.kla_obj "<lambda>" qual params body scope [] pm c' ctv)) (hc : H c' = some (LamX.CodeO c' qual)) (sm : Sim (zOf X) φ h H)
    {it : PV} {x : V} {u : Value} {k : Int × Str} (ri : RV (zOf X) φ H it x) (ru : RelV x u) (hk : sortKey it = some k) :
    wpAny (model X.prog X.w) X.A.in1.in1 (PySem.call (.ref f) [u]) (EP X pins σ fun v H' => ∃ φ', Ext φ φ' H H' ∧ Sim (zOf X) φ' h H' ∧ RV (zOf X) φ' H' (keyTup k) v) (fun _ _ => False) s := by
  have e0 : Env0 X.prog X.w X.K X.mg X.base X.A.in1.in1 X.stack s H := ⟨I.ok.frames, I.ok.mod, I.bs, Nat.le_trans I.ok.bsz I.sz, I.stack, I.stkFree, I.hok, I.bare⟩
  have hz : zOf X = ⟨X.K, [], X.prog, X.w⟩ := z_calm hcalm
  have rc := run_lam (CX := L2N.CX X.prog X.w) (k := 0) (args := ⟨[u], []⟩) (us := [u]) (vs := [x]) (Q := fun v H' => ∃ φ', Ext φ φ' H H' ∧ Sim (zOf X) φ' h H' ∧ RV (zOf X) φ' H' (keyTup k) v) (E := fun _ _ _ => False) hf hc L.S hr e0 (.of_eq (L.bind u)) (.cons ru .nil) rfl fun hr' => ⟨_, L.je _ _ _ _ hr', by
    rw [hz] at sm ri ⊢
    refine ⟨[some it], φ, h, sm, ⟨some x, [], rfl, fun y e => ⟨x, rfl, by cases e; exact ri⟩, rfl⟩, ?_⟩
    rw [L.ev it k h hk]
    exact fun φ' H' b xx ss rr => ⟨φ', xx, ss, rr⟩⟩
  refine wpAny_call (codeAny_mono rc fun r s' hq => ?_)
  cases r with
  | error e => exact (cxN_false hq).elim
  | ok fl =>
    cases fl with
    | ret u => exact I.after hq
    | next => exact False.elim hq
    | brk => exact False.elim hq
    | cont => exact False.elim hq
theorem codeO_ntbl {c : Addr} {q : Str} : ∀ ps, LamX.CodeO c q ≠ .tbl ps := fun ps => LamX.codeO_ne ps
theorem code_keep {φ' : List Addr} {H' : Hp} (sm : Sim (zOf X) φ h H) (x : Ext φ φ' H H') (hc : H c' = some (LamX.CodeO c' qual)) : H' c' = some (LamX.CodeO c' qual) :=
  x.keep c' _ hc (fun m => (sm.plain m _ hc).2 _ rfl) codeO_ntbl
/-- the keys are made, one behind another -/
theorem key_rest {D kS : Addr} {e1 : Nat} {l : List PV} {ks : List (Int × Str)} {xs : List V} {its : List Value} {P : PySem.Fin → Shared → Prop} {E : Value → Shared → Prop}
    (L : LamI X C ek f c' qual params body scope p pm ctv) (hcalm : X.calm = true) (hr : Room 1 X.A.in1.in1) (I : Inv X pins σ H s) (hfp : (f, PySem.W.kla_obj "<lambda>" qual params body scope [] pm c' ctv) ∈ pins) (hc : H c' = some (LamX.CodeO c' qual)) (sm : Sim (zOf X) φ h H)
    (hne : kS ≠ D) (fD : FpOk X pins H D) (fK : FpOk X pins H kS) (hD : s.heap.get? D = some (seqObj "list" #[] e1)) (hK : s.heap.get? kS = some (seqObj "list" #[] 0))
    (hk : mapO sortKey l = some ks) (nd : ks.Nodup) (hl : l.length ≤ 1000) (r : RVs (zOf X) φ H l xs) (rv : Vals xs its)
    (fin : ∀ φ' H' s' outV, Inv X pins σ (upd H' D (.lst outV)) s' → Ext φ φ' H H' → Sim (zOf X) φ' h H' → H' D = none → RVs (zOf X) φ' H' (sortT ks l) outV → P (.done (.ret .none)) s') :
    wpAny (model X.prog X.w) X.A.in1.in1 (ksk_rest D (.ref f) false its.toArray e1 (.ref kS)) P E s := by
  have hsl := sizeLine_eq
  have lx := r.length
  have lv := rv.length
  have mapO_get : ∀ {l : List PV} {ks : List (Int × Str)}, mapO sortKey l = some ks → ks.length = l.length ∧ ∀ (i : Nat) q, l[i]? = some q → ∃ k, ks[i]? = some k ∧ sortKey q = some k := by
    intro l
    induction l with
    | nil => intro ks e; cases e; exact ⟨rfl, fun i q e => by simp at e⟩
    | cons a l ih =>
      intro ks e
      unfold mapO at e
      cases z1 : sortKey a with
      | none => simp only [z1] at e; cases e
      | some k1 =>
        cases z2 : mapO sortKey l with
        | none => simp only [z1, z2] at e; cases e
        | some k2 =>
          simp only [z1, z2] at e
          cases e
          obtain ⟨h1, h2⟩ := ih z2
          refine ⟨by simp [h1], fun i q e => ?_⟩
          cases i with
          | zero => simp at e; subst e; exact ⟨k1, rfl, z1⟩
          | succ i => simpa using h2 i q (by simpa using e)
  obtain ⟨lk, gk⟩ := mapO_get hk
  unfold ksk_rest
  refine wpAny_bind (wpAny_rule ?_)
  first
    | rw [List.forIn_toArray]
    | (rw [← Array.forIn_toList]; simp only [List.toList_toArray])
    | rw [← Array.forIn_toList]
  refine wpAny_bind (ksk_fold (fun i s' => ∃ Hi φi kA e kv, Inv X pins σ Hi s' ∧ FpOk X pins Hi D ∧ FpOk X pins Hi kS ∧ s'.heap.get? D = some (seqObj "list" #[] e1) ∧ s'.heap.get? kS = some (seqObj "list" kA e) ∧ Ext φ φi H Hi ∧ Sim (zOf X) φi h Hi ∧ Vals kv kA.toList ∧ RVs (zOf X) φi Hi ((ks.take i).map keyTup) kv) its 0 s
    ⟨H, φ, #[], 0, [], I, fD, fK, hD, hK, Ext.refl _ _, sm, .nil, by rw [List.take_zero]; exact rfl⟩ ?step ?done)
  case step =>
    rintro j u s' hu ⟨Hi, φi, kA, e, kv, Ii, fDi, fKi, hDi, hKi, xi, si, rvk, rk⟩
    simp only [Nat.zero_add] at rk ⊢
    have hj : j < its.length := (List.getElem?_eq_some_iff.mp hu).1
    obtain ⟨it, hit⟩ : ∃ it, l[j]? = some it := ⟨_, List.getElem?_eq_getElem (by omega)⟩
    obtain ⟨x, hx, rx⟩ := r.get hit
    obtain ⟨k, hkj, hsk⟩ := gk j it hit
    obtain ⟨u', hu', ru⟩ := rv.get hx
    rw [hu] at hu'
    cases hu'
    have hz : kA.size ≤ its.length := by
      have h1 := rk.length
      have h2 : kv.length = kA.size := rvk.length.trans Array.length_toList
      rw [List.length_map, List.length_take] at h1
      omega
    have Ip := Ii.pinned (fp := [D, kS]) (fun b hb => by
      rcases List.mem_cons.mp hb with rfl | hb
      · exact fDi
      · rw [List.mem_singleton.mp hb]; exact fKi) (fun b hb => by
      rcases List.mem_cons.mp hb with rfl | hb
      · exact ⟨_, hDi, fun v z => by cases z⟩
      · rw [List.mem_singleton.mp hb]; exact ⟨_, hKi, fun v z => by cases z⟩)
    have hfi : s'.heap.get? f = some (PySem.W.kla_obj "<lambda>" qual params body scope [] pm c' ctv) := (Ii.pin _ (List.mem_append_right _ hfp)).1
    refine wpAny_bind (wpAny_attempt (wpAny_mono (key_call L hcalm hr Ip hfi (code_keep sm xi hc) si (rx.mono xi) ru hsk) (fun v s'' he => ?_) fun _ _ hF => hF.elim))
    obtain ⟨kvv, H2, I2, rkv, φ2, x2, s2, rk2⟩ := he
    have pD := I2.pin (D, seqObj "list" #[] e1) (List.mem_append_right _ (List.mem_append_right _ (mem_pinsAt (by simp) hDi)))
    have pK := I2.pin (kS, seqObj "list" kA e) (List.mem_append_right _ (List.mem_append_right _ (mem_pinsAt (by simp) hKi)))
    have I3 : Inv X pins σ H2 s'' := I2.unpinned
    have fD2 : FpOk X pins H2 D := ⟨pD.2.1, fDi.2⟩
    have fK2 : FpOk X pins H2 kS := ⟨pK.2.1, fKi.2⟩
    try dsimp only
    have s1 := Heap.SameBut.update s''.heap kS (Obj.mapSeq (·.push v))
    have hc2 := get?_update_seq pK.1 (·.push v)
    refine wpAny_bind (listUpdate_at pK.1 rfl ?_ (by omega) (Nat.le_trans (Nat.le_of_eq (Array.size_push ..)) (by omega)))
    refine wpAny_pure ⟨rfl, H2, φ2, kA.push v, _, kv ++ [kvv], ?_, fD2, fK2, (s1.2 D (Ne.symm hne)).trans pD.1, hc2, xi.trans x2, s2, ?_, ?_⟩
    · exact I3.turned (t' := s''.toks) (fun b o hb e => (s1.2 b hb).trans e) fK2.1 fK2.2.1 fK2.2.2.2.1 fK2.2.2.2.2.1 fK2.2.2.2.2.2
    · have ea : (kA.push v).toList = kA.toList ++ [v] := by simp
      rw [ea]
      exact rvk.append (.cons rkv .nil)
    · have ek : ks.take (j + 1) = ks.take j ++ [k] := by rw [List.take_add_one, hkj]; simp
      rw [ek, List.map_append]
      exact (rk.mono x2).append (RVs.cons rk2 RVs.nil)
  case done =>
    rintro s' ⟨Hi, φi, kA, e, kv, Ii, fDi, fKi, hDi, hKi, xi, si, rvk, rk⟩
    have et : ks.take (0 + its.length) = ks := List.take_of_length_le (by omega)
    rw [et] at rk
    try dsimp only
    refine wpAny_bind (listItems_at hKi rfl ?_)
    obtain ⟨Z, z1, z2, z3, z4, z5, z6⟩ := rows_of hk (r.mono xi) rv rk rvk
    have eK : kA = kyA Z := by
      unfold kyA
      rw [z4, Array.toArray_toList]
    have eU : its.toArray = usA Z := by
      unfold usA
      rw [z5]
    rw [eK] at hKi
    rw [eK, eU]
    have lz : Z.length = l.length := by rw [← z2, List.length_map]
    refine sort_end hne hDi hKi (by omega) (fun z hz => ?_) fun Z' h' c p o k hD' => ?_
    · obtain ⟨_, _, kvz, q1, q2⟩ := z6 z hz
      exact key_at Ii q1 q2
    · have I4 : Inv X pins σ Hi { s' with heap := h' } := Ii.turnedL (t' := s'.toks) (ch := [D, kS]) (fun b o hb e => k b o (fun z => hb (by simp [z])) (fun z => hb (by simp [z])) e) (fun b hb => by
        rcases List.mem_cons.mp hb with rfl | hb
        · exact fDi
        · rw [List.mem_singleton.mp hb]; exact fKi)
      have hm : ∀ z ∈ Z', z ∈ Z := fun z hz => p.mem_iff.mp hz
      have rvo : Vals (Z'.map (·.v)) (Z'.map (·.u)) := by
        clear hD' o p
        induction Z' with
        | nil => exact .nil
        | cons z Z' ih => exact .cons (z6 z (hm z List.mem_cons_self)).2.1 (ih fun y hy => hm y (List.mem_cons_of_mem _ hy))
      have rp : RVs (zOf X) φi Hi (Z'.map (·.p)) (Z'.map (·.v)) := by
        clear hD' o p rvo
        induction Z' with
        | nil => exact rfl
        | cons z Z' ih => exact RVs.cons (z6 z (hm z List.mem_cons_self)).1 (ih fun y hy => hm y (List.mem_cons_of_mem _ hy))
      have es : Z'.map (·.p) = sortT ks l := by
        rw [← z1, ← z2]
        exact sortT_eq (by rw [z1]; exact nd) p o
      rw [es] at rp
      refine fin φi Hi _ (Z'.map (·.v)) (inv_adopt I4 fDi ⟨?_, Z'.map (fun z => z.u), c, rvo, (show h'.get? D = some (seqObj "list" (Z'.map (fun z => z.u)).toArray c) from hD')⟩) xi si fDi.1 rp
      rw [List.length_map, p.length_eq]
      omega
/-- sorted(xs, key=f) -/
theorem key_sorted {a : Addr} {l : List PV} {ks : List (Int × Str)} {xs : List V} {Q : VK}
    (L : LamI X C ek f c' qual params body scope p pm ctv) (hcalm : X.calm = true) (hr : Room 1 X.A.in1.in1) (I : Inv X pins σ H s) (hfp : (f, PySem.W.kla_obj "<lambda>" qual params body scope [] pm c' ctv) ∈ pins) (hc : H c' = some (LamX.CodeO c' qual)) (sm : Sim (zOf X) φ h H)
    (ha : SqL X.K H a xs ∨ SqT X.K H a xs) (hk : mapO sortKey l = some ks) (nd : ks.Nodup) (hl : l.length ≤ 1000) (r : RVs (zOf X) φ H l xs)
    (fin : ∀ φ' H' D outV, Ext φ φ' H H' → Sim (zOf X) φ' h H' → H' D = none → RVs (zOf X) φ' H' (sortT ks l) outV → Q (.ref D) (upd H' D (.lst outV))) :
    wpAny (model X.prog X.w) X.A (PySem.call (.builtin "sorted") [.ref a] [(Str.ofString "key", .ref f)]) (EP X pins σ Q) X.xe s := by
  have hsl := sizeLine_eq
  obtain ⟨its, rv, hq, hz⟩ : ∃ its, Vals xs its ∧ (s.heap.IsList a its.toArray ∨ IsTup s.heap a its.toArray) ∧ its.length ≤ sizeLine := by
    rcases ha with ha | ha
    · obtain ⟨its, rv, hl, hz⟩ := I.list ha
      exact ⟨its, rv, .inl hl.isList, by rw [← rv.length]; exact hz⟩
    · obtain ⟨its, rv, hl, hz⟩ := I.tuple ha
      exact ⟨its, rv, .inr hl, by rw [← rv.length]; exact hz⟩
  refine call_function_entry_kw kind_sorted plain_sorted entry_sorted (ksk_s1 _ _) ?_
  unfold Builtin.«sorted»
  refine wpAny_bind (m := checkCount "sorted" 1 1 _) (wpAny_pure ?_)
  refine wpAny_bind (collect_seq hq ?_ hz)
  refine wpAny_bind (wpAny_newList ?_ hz)
  have hsz : ((s.heap.push (seqObj "list" #[] 0)).update s.heap.objs.size (Obj.mapSeq (· ++ its.toArray))).objs.size = s.heap.objs.size + 1 := by
    rw [Heap.size_update, size_push']
  have hoL : (((s.heap.push (seqObj "list" #[] 0)).update s.heap.objs.size (Obj.mapSeq (· ++ its.toArray))).push (seqObj "list" its.toArray 0)).get? (s.heap.objs.size + 1) = some (seqObj "list" its.toArray 0) := by
    rw [← hsz]; exact Heap.get?_push_size _ rfl
  have keep : ∀ b o, s.heap.get? b = some o → (((s.heap.push (seqObj "list" #[] 0)).update s.heap.objs.size (Obj.mapSeq (· ++ its.toArray))).push (seqObj "list" its.toArray 0)).get? b = some o := fun b o q => by
    have hlt : b < s.heap.objs.size := Heap.lt_size q
    refine Heap.get?_push_of_some _ ?_
    rw [Heap.get?_update_ne _ _ _ _ (Nat.ne_of_lt hlt)]
    exact Heap.get?_push_of_some _ q
  show wpAny _ _ _ _ _ { s with heap := ((s.heap.push (seqObj "list" #[] 0)).update s.heap.objs.size (Obj.mapSeq (· ++ its.toArray))).push (seqObj "list" its.toArray 0) }
  rw [hsz]
  generalize hh1 : (((s.heap.push (seqObj "list" #[] 0)).update s.heap.objs.size (Obj.mapSeq (· ++ its.toArray))).push (seqObj "list" its.toArray 0)) = h1 at hoL keep ⊢
  generalize hD0 : s.heap.objs.size + 1 = D at hoL ⊢
  have I1 : Inv X pins σ H { s with heap := h1 } := I.kept (t' := s.toks) keep
  have fD : FpOk X pins H D := I.fpOk (by omega) (I.hok.fresh (by omega))
  refine wpAny_bind (wpAny_holding (wpAny_call_entry_kw slot_list_sort ⟨_, hoL, rfl⟩ entry_list_sort ?body (ksk_l1 _ _)))
  case body =>
    show wpAny (model X.prog X.w) X.A.in1.in1 (Builtin.«list.sort» ⟨[.ref D], [(Str.ofString "key", .ref f)]⟩) _ _ _
    rw [ksk_t1]
    unfold ksk_tree
    refine wpAny_bind (listItems_at hoL rfl ?_)
    refine wpAny_bind (listUpdate_at hoL rfl ?_ (by rw [List.size_toArray]; exact hz) (Nat.zero_le _))
    have s1 := Heap.SameBut.update h1 D (Obj.mapSeq fun _ => (#[] : Array Value))
    have ho1 := get?_update_seq hoL fun _ => (#[] : Array Value)
    generalize hg1 : h1.update D (Obj.mapSeq fun _ => (#[] : Array Value)) = g1 at s1 ho1 ⊢
    refine wpAny_bind (seqEpoch_at ho1 rfl ?_)
    refine wpAny_bind (wpAny_newTuple ?_ (by simpa using hz))
    refine wpAny_bind (wpAny_newList ?_ (Nat.zero_le _))
    refine wpAny_holding ?_
    have J1 : Inv X pins σ H { s with heap := g1 } := I1.turned (t' := s.toks) (fun b o hb e => (s1.2 b hb).trans e) fD.1 fD.2.1 fD.2.2.2.1 fD.2.2.2.2.1 fD.2.2.2.2.2
    have J2 : Inv X pins σ H { s with heap := g1.push (seqObj "tuple" its.toArray.toList.toArray 0) } := J1.kept (t' := s.toks) fun b u e => Heap.get?_push_of_some _ e
    have fK : FpOk X pins H (g1.push (seqObj "tuple" its.toArray.toList.toArray 0)).objs.size := J2.fpOk (Nat.le_refl _) (J2.hok.fresh (Nat.le_refl _))
    have J3 : Inv X pins σ H { s with heap := (g1.push (seqObj "tuple" its.toArray.toList.toArray 0)).push (seqObj "list" #[] 0) } := J2.kept (t' := s.toks) fun b u e => Heap.get?_push_of_some _ e
    have hD3 := Heap.get?_push_of_some (seqObj "list" #[] 0) (Heap.get?_push_of_some (seqObj "tuple" its.toArray.toList.toArray 0) ho1)
    have hne : (g1.push (seqObj "tuple" its.toArray.toList.toArray 0)).objs.size ≠ D := fun z => by
      have := Heap.lt_size (Heap.get?_push_of_some (seqObj "tuple" its.toArray.toList.toArray 0) ho1)
      rw [z] at this
      exact Nat.lt_irrefl _ this
    refine key_rest (s := { s with heap := (g1.push (seqObj "tuple" its.toArray.toList.toArray 0)).push (seqObj "list" #[] 0) }) L hcalm hr J3 hfp hc sm hne fD fK hD3 (Heap.get?_push_size _ rfl) hk nd hl r rv fun φ' H' s' outV I' x' s2 nD ro => ?_
    exact ⟨_, rfl, wpAny_pure ⟨_, rfl, .ref D, _, I', rfl, fin φ' H' D outV x' s2 nD ro⟩⟩
end
end Sb
set_option Elab.async false
set_option linter.all false
set_option maxRecDepth 100000
set_option maxHeartbeats 4000000
namespace Sb
open PySem PySem.Spec PyProof.Rows L2
section
variable {X : Cx} {W : WX} {C : Calls} {e : Expr} {ea : E} {k : Nat}
/-- a lambda's two forms -/
def ekNeg : E := .tup [.neg (.idx (.var 0) (.lit (.int 4))), .idx (.var 0) (.lit (.int 0))]
theorem sortKey_inv {it : PV} {k : Int × Str} (h : sortKey it = some k) : ∃ l : List PV, it = .tup l ∧ l[4]? = some (.int k.1) ∧ l[0]? = some (.str k.2) := by
  unfold sortKey at h
  split at h
  · rename_i l
    split at h
    · rename_i t n h1 h2
      cases h
      exact ⟨l, rfl, h1, h2⟩
    · cases h
  · cases h
theorem atI_of {l : List PV} {n : Nat} {v : PV} (e : l[n]? = some v) : L2.atI l (n : Int) = some v := by
  unfold L2.atI L2.ixN
  have := (List.getElem?_eq_some_iff.mp e).1
  rw [if_pos (by omega), if_pos (by omega)]
  simpa using e
theorem ev_neg (it : PV) (k : Int × Str) (hh : PH) (h : sortKey it = some k) : evG C ekNeg false [some it] hh = .ok (keyTup k) hh := by
  obtain ⟨l, rfl, h4, h0⟩ := sortKey_inv h
  have a4 := atI_of h4
  have a0 := atI_of h0
  have i4 : idxop (.tup l) (.int 4) hh = .ok (.int k.1) hh := by
    show ofO (L2.atI l 4) hh = _
    rw [show ((4 : Nat) : Int) = 4 from rfl] at a4
    rw [a4]
    rfl
  have i0 : idxop (.tup l) (.int 0) hh = .ok (.str k.2) hh := by
    show ofO (L2.atI l 0) hh = _
    rw [show ((0 : Nat) : Int) = 0 from rfl] at a0
    rw [a0]
    rfl
  show (evGs C [.neg (.idx (.var 0) (.lit (.int 4))), .idx (.var 0) (.lit (.int 0))] [some (.tup l)] hh).bind (fun l h1 => tupO l h1) = _
  show ((((idxop (.tup l) (.int 4) hh).bind fun x h1 => (match x with | .int i => R.ok (PV.int (-i)) h1 | _ => .no)).bind fun x h1 => ((idxop (.tup l) (.int 0) h1).bind fun x h1 => R.ok [x] h1).bind fun l h2 => R.ok (x :: l) h2).bind fun l h1 => tupO l h1) = _
  rw [i4]
  show (((idxop (.tup l) (.int 0) hh).bind fun x h1 => R.ok [x] h1).bind fun l h2 => R.ok (PV.int (-k.1) :: l) h2).bind (fun l h1 => tupO l h1) = _
  rw [i0]
  rfl
/-- what a def that makes such a lambda knows: its code object, its table -/
structure TbI (X : Cx) (c P : Addr) : Prop where
  TB : LamX.TabB X.base X.mg c P
  code : X.env.code = .ref c
  mem : (P, X.env.qual ++ "<lambda>") ∈ tabsOf X.K
  uniq : ∀ q ∈ tabsOf X.K, q.1 = P → q.2 = X.env.qual ++ "<lambda>"
theorem je_srt {ek : E} {c P : Addr} {params : Arguments} {body : Expr} {scope : Scope} {lpos kpos p pos : Pos} {q : Str} (T : TbI X c P) (hcalm : X.calm = true) (hr : Room (k + 3) X.A) (hm : X.mg "sorted" = none) (he : JE X W C e ea)
    (S : FnScope [q] [q] scope) (hbind : ∀ (qual : Str) (pm cv ctv u : Value), bindArgs (PySem.W.kla_fn "<lambda>" qual params body scope [] pm cv ctv) ⟨[u], []⟩ = pure [(q, u)])
    (hje : ∀ (f c' : Addr) (A : Around) (outer : List PySem.Env) (s : Shared) (H : Hp), Room 0 (A.deeper (envOfC (X.env.qual ++ "<lambda>") scope s.heap.objs.size f (.ref c'))) → JE (cxOf (L2N.CX X.prog X.w) X.prog X.w X.K X.mg X.base [q] (X.env.qual ++ "<lambda>") scope f (.ref c') A outer s H (fun _ _ _ => False)) W0 C body ek)
    (hev : ∀ (item : PV) (k : Int × Str) (hh : PH), sortKey item = some k → evG C ek false [some item] hh = .ok (keyTup k) hh)
    (hdef : defaultsOf params X.env = ([], []) := by rfl) (hcl : cloFrom X.env.cells scope.names [] = [] := by rfl) (hg : Gl X "sorted" := by rfl)
    (hall : (backToKw pos (keywordEach [⟨some "key", .Lambda params body scope lpos, kpos⟩] X.env)).all (·.1.isSome) = true := by rfl) (hnone : (backToKw pos (keywordEach [⟨some "key", .Lambda params body scope lpos, kpos⟩] X.env)).any (·.1.isNone) = false := by rfl)
    (hks : (backToKw pos (keywordEach [⟨some "key", .Lambda params body scope lpos, kpos⟩] X.env)).filterMap (·.1) = [Str.ofString "key"] := by rfl)
    (hae : backTo pos (starEach [e] X.env) = (false, eval e X.env) :: backTo pos (starEach [] X.env) := by rfl) (hpl : (backTo pos (starEach [e] X.env)).any (·.1) = false := by rfl) (hs : starEach [e] X.env = (false, eval e X.env) :: starEach [] X.env := by rfl) :
    JE X W C (.Call (.Name "sorted" p) [e] [⟨some "key", .Lambda params body scope lpos, kpos⟩] pos) (.srt ea) := by
  refine ⟨fun pins s σ H Q I t => ?_⟩
  obtain ⟨ρ, φ, h, sm, re, o⟩ := t
  have o' : Out (zOf X) X.mg (RV (zOf X)) φ H (atS W σ) Q ((evG C ea false ρ h).bind fun x h1 => srtop x h1) := o
  have hr1 : Room 1 X.A.in1.in1 := (hr.mono (by omega : 3 ≤ k + 3)).in1.in1
  refine wpAny_Call_Name_kw (ld_blt I hg hm (show bootBuiltins "sorted" = some (.builtin "sorted") by decide +kernel) ?_ (by decide) (by decide))
  refine PyProof.Rows.callWith_kw (thn ((pa_cons he pa_nil hs).run pos pins s σ H (fun vs H1 => ∃ x, vs = [x] ∧ ∃ φ1 va h1, Ext φ φ1 H H1 ∧ Sim (zOf X) φ1 h1 H1 ∧ RV (zOf X) φ1 H1 va x ∧ Out (zOf X) X.mg (RV (zOf X)) φ1 H1 (atS W σ) Q (srtop va h1)) I
    ⟨ρ, φ, h, sm, re, (Out.bind (rel2 := RV (zOf X)) o').imp fun x H1 z => ⟨x, rfl, z⟩⟩) fun us s1 ⟨vs, H1, I1, r1, q1⟩ => ?_) hae hpl hall hnone
  obtain ⟨x, ev, φ1, va, h1, x1, sm1, ra, o1⟩ := q1
  subst ev
  obtain ⟨u, eu, ru⟩ := vals1' r1
  subst eu
  show wpAny _ _ (evalAll [(do let v ← eval (.Lambda params body scope lpos) X.env; standAt pos; pure v)]) _ _ s1
  refine wpAny_evalAll_cons (wpAny_bind (LamX.lam_make2 I1 T.TB T.code T.mem T.uniq sm1.tb hdef (fun y hy ef => absurd ef (S.nofree y hy)) fun f c' pm ctv H2 s2 I2 eN tb hf hfn hfr hco => wpAny_bind (wpAny_standAt (wpAny_pure (wpAny_evalAll_nil ?_)))))
  rw [hks]
  show wpAny _ _ (PySem.call (.builtin "sorted") [u] [(Str.ofString "key", .ref f)]) _ _ s2
  rw [hcl] at hf
  have sm2 := sm1.tabs eN tb
  have ra2 := ra.mono (Ext.tabs (φ := φ1) eN)
  have x2 : Ext φ1 φ1 H1 H2 := Ext.tabs eN
  unfold srtop at o1
  split at o1
  · rename_i l el
    split at o1
    · rename_i ks ek2
      split at o1
      · rename_i hd
        obtain ⟨hd1, hd2⟩ := Bool.and_eq_true_iff.mp hd
        obtain ⟨a, xs, ex, hq, rl⟩ := sm2.seqV ra2 el
        subst ex
        obtain rfl : u = Value.ref a := ru
        have hL : f ≠ X.env.locals := fun z => by
          obtain ⟨m, ⟨oo, es, ep, ho, hd, _⟩, _⟩ := I2.loc
          rw [z, ho] at hf
          cases hf
          cases hd
        have hF : f ∉ X.fs := fun z => hfr (by
          rcases I2.ok.stk with e | ⟨e, _⟩
          · rw [e]; exact z
          · rw [e]
            unfold frs
            rw [List.filterMap_cons]
            split
            · exact z
            · exact List.mem_cons_of_mem _ z)
        have Ip : Inv X (pins ++ [(f, PySem.W.kla_obj "<lambda>" (X.env.qual ++ "<lambda>") params body scope [] pm c' ctv)]) σ H2 s2 := I2.pins_of fun y hy => by
          rcases List.mem_append.mp hy with hy | hy
          · exact I2.pin y (List.mem_append_right _ hy)
          · rw [List.mem_singleton.mp hy]
            exact ⟨hf, hfn, hL, hF, fun v z => by cases z⟩
        have L : LamI X C ek f c' (X.env.qual ++ "<lambda>") params body scope q pm ctv := ⟨S, fun u => hbind _ _ _ _ u, fun A outer s H hr => hje f c' A outer s H hr, hev⟩
        have key := key_sorted (Q := Q) L hcalm hr1 Ip (List.mem_append_right _ (by simp)) hco sm2 hq ek2 (of_decide_eq_true hd1) (of_decide_eq_true hd2) rl fun φ' H' D outV xx ss nD ro => by
          refine o1 (φ' ++ [D]) _ (.ref D) ((x2.trans xx).trans (Ext.push nD)) (ss.push nD ro) ⟨D, rfl, ?_⟩
          rw [← ss.len, List.getElem?_append_right (Nat.le_refl _), Nat.sub_self]
          rfl
        exact thn key fun v s3 ⟨w, H3, I3, r3, q3⟩ => ⟨w, H3, I3.unpinned, r3, q3⟩
      · exact o1.elim
    · exact o1.elim
  · exact o1.elim
theorem je_srtNeg {c P : Addr} {params : Arguments} {scope : Scope} {lpos kpos p pos p1 p2 p3 p4 p5 p6 p7 p8 : Pos} {j1 j2 kk : Nat} {q : Str} (T : TbI X c P) (hcalm : X.calm = true) (hr : Room (k + 3) X.A) (hm : X.mg "sorted" = none) (he : JE X W C e ea)
    (S : FnScope [q] [q] scope) (hq : scope.names.lookup q = some .local) (hqd : (q == ("__debug__" : Str)) = false) (hqc : (q == ("__classdict__" : Str)) = false)
    (hbind : ∀ (qual : Str) (pm cv ctv u : Value), bindArgs (PySem.W.kla_fn "<lambda>" qual params (.Tuple [.UnaryOp .USub (.Subscript (.Name q p1) (.Constant (.int 4) j1 p2) p3) p4, .Subscript (.Name q p5) (.Constant (.int 0) j2 p6) p7] kk p8) scope [] pm cv ctv) ⟨[u], []⟩ = pure [(q, u)])
    (hdef : defaultsOf params X.env = ([], []) := by rfl) (hcl : cloFrom X.env.cells scope.names [] = [] := by rfl) (hg : Gl X "sorted" := by rfl)
    (hs : starEach [e] X.env = (false, eval e X.env) :: starEach [] X.env := by rfl) :
    JE X W C (.Call (.Name "sorted" p) [e] [⟨some "key", .Lambda params (.Tuple [.UnaryOp .USub (.Subscript (.Name q p1) (.Constant (.int 4) j1 p2) p3) p4, .Subscript (.Name q p5) (.Constant (.int 0) j2 p6) p7] kk p8) scope lpos, kpos⟩] pos) (.srt ea) := by
  refine je_srt (ek := ekNeg) T hcalm hr hm he S hbind (fun f c' A outer s H hr0 => ?_) ev_neg hdef hcl hg rfl rfl rfl (by rw [hs]; rfl) (by rw [hs]; rfl) hs
  have hu : (A.deeper (envOfC (X.env.qual ++ "<lambda>") scope s.heap.objs.size f (.ref c'))).units + 66 < cLine := hr0.u66
  have v0 : ∀ p, JE (cxOf (L2N.CX X.prog X.w) X.prog X.w X.K X.mg X.base [q] (X.env.qual ++ "<lambda>") scope f (.ref c') A outer s H (fun _ _ _ => False)) W0 C (.Name q p) (.var 0) := fun p => je_var 0 rfl (.inl hq) hqd hqc
  exact je_tup (ja_cons (je_neg (je_idx hu (v0 _) je_int)) (ja_cons (je_idx hu (v0 _) je_int) ja_nil))
end
end Sb
set_option Elab.async false
set_option linter.all false
set_option maxRecDepth 100000
set_option maxHeartbeats 4000000
namespace Sb
open PySem PySem.Spec PyProof.Rows L2
/-- nothing but tables and locked lists -/
def OnlyT (H : Hp) : Prop := ∀ b, H b = none ∨ (∃ ps, H b = some (.tbl ps)) ∨ ∃ o xs, H b = some (.frz o (.lst xs))
section
variable {P : Program} {w : World} {K : PySem.W.Frag} {mg mb : Str → Option Value} {CX : CXT} {k : Nat} {fa a : Addr} {cs : List (Addr × Addr)} {fd : FuncData} {x : Str} {sp : Sp} {s₁ : Shared} {vs : List Value} {ns : List Int}
theorem law_callT (KX : K.In s₁.heap) (hns : s₁.heap.Ns mainGlobals mg) (hb : s₁.heap.Ns builtinsNs mb) (hbb : ∀ x : Str, x ≠ "__name__" → mb x = bootBuiltins x) (hlim : s₁.heap.NoLimit) (hg : s₁.gens = #[])
    (hT : ∀ p ∈ cs, s₁.heap.get? p.2 = some (PySem.W.tabObj #[])) (nT : ∀ p ∈ cs, K.lookup p.2 = none) (cd : ∀ p ∈ cs, PySem.W.CodeHd s₁.heap p.1 p.2)
    (hbm : ∃ (bm : Addr) (ob : Obj), mg "__builtins__" = some (.ref bm) ∧ bm ≠ builtinsNs ∧ s₁.heap.get? bm = some ob ∧ ob.cls = .type "module" ∧ ob.dict = some builtinsNs ∧ ob.data = .plain)
    (ha : s₁.heap.get? a = some { cls := .type "list", data := .seq vs.toArray }) (hi : IntsAre vs ns) (hl : ns.length ≤ sizeLine) (hr : Room k callerA)
    (F : ∀ base : Heap, K.In base → base.Ns mainGlobals mg → (∀ p ∈ cs, LamX.TabB base mg p.1 p.2) → FnOk P w K mg base CX k fa fd [x] sp) (hbind : ∀ (s : Shared) (u : Value), BindsTo s fd ⟨[u], []⟩ [(x, u)])
    (hsp : ∀ H : Hp, OnlyT H → (∀ p ∈ cs, H p.2 = some (.tbl #[])) → SqL K H a (ns.map V.int) → sp [.ref a] H (fun v _ => v = .bl true) fun _ _ _ => False)
    (hCX : ∀ H e s', CX [] H s₁ (fun _ _ _ => False) e s' → False) :
    codeAny (model P w) callerA (.call (.ref fa) ⟨[.ref a], []⟩) (fun r s' => r = .ok (.ret (.bool true)) ∧ OldK s₁.heap s'.heap ∧ s'.os = s₁.os ∧ AllBare s'.gens) s₁ := by
  have rv := vals_ints hi
  have lenV := hi.length
  obtain ⟨T, eT⟩ : ∃ T, T = cs.map (·.2) := ⟨_, rfl⟩
  have memT : ∀ p ∈ cs, p.2 ∈ T := fun p hp => by rw [eT]; exact List.mem_map.mpr ⟨p, hp, rfl⟩
  have ofT : ∀ b ∈ T, ∃ p ∈ cs, p.2 = b := fun b hb => by
    rw [eT] at hb
    exact List.mem_map.mp hb
  have isT : ∀ b ∈ T, s₁.heap.get? b = some (PySem.W.tabObj #[]) := fun b hb => by
    obtain ⟨p, hp, rfl⟩ := ofT b hb
    exact hT p hp
  have aT : a ∉ T := fun z => by
    have q := isT a z
    rw [ha] at q
    cases q
  obtain ⟨H, hH⟩ : ∃ H : Hp, H = fun b => if b ∈ T then some (.tbl #[]) else if b = a ∧ K.lookup a = none then some (.frz { cls := .type "list", data := .seq vs.toArray } (.lst (ns.map V.int))) else none := ⟨_, rfl⟩
  have hHT : ∀ b ∈ T, H b = some (.tbl #[]) := fun b hb => by rw [hH]; exact if_pos hb
  have hHa : K.lookup a = none → H a = some (.frz { cls := .type "list", data := .seq vs.toArray } (.lst (ns.map V.int))) := fun e => by
    rw [hH]
    show (if a ∈ T then _ else _) = _
    rw [if_neg aT, if_pos ⟨rfl, e⟩]
  have hHn : ∀ b, b ∉ T → ¬ (b = a ∧ K.lookup a = none) → H b = none := fun b h1 h2 => by
    rw [hH]
    show (if b ∈ T then _ else _) = _
    rw [if_neg h1, if_neg h2]
  have hO : OnlyT H := fun b => by
    by_cases h1 : b ∈ T
    · exact .inr (.inl ⟨_, hHT b h1⟩)
    · by_cases h2 : b = a ∧ K.lookup a = none
      · exact .inr (.inr ⟨_, _, by rw [h2.1]; exact hHa h2.2⟩)
      · exact .inl (hHn b h1 h2)
  have hok : HOk P w H s₁.heap := fun b u e => by
    by_cases h1 : b ∈ T
    · rw [hHT b h1] at e
      cases e
      exact isT b h1
    · by_cases h2 : b = a ∧ K.lookup a = none
      · obtain ⟨rfl, h2⟩ := h2
        rw [hHa h2] at e
        cases e
        exact ⟨ha, by rw [List.length_map]; exact hl, vs, _, rv, ha⟩
      · rw [hHn b h1 h2] at e
        cases e
  have hS : SqL K H a (ns.map V.int) := by
    cases hk : K.lookup a with
    | none => exact .inl (.inr ⟨_, hHa hk⟩)
    | some o =>
      have e := KX a o hk
      rw [ha] at e
      cases e
      exact .inr ⟨_, vs.toArray, _, hk, rfl, rfl, rfl, by rw [List.size_toArray, lenV]; exact hl, by simpa using rv⟩
  have free : ∀ {b : Addr} {o : Obj}, s₁.heap.get? b = some o → (∀ vs n, o.data ≠ .seq vs n) → o.data ≠ .fields #[] → H b = none := fun {b o} e n1 n2 => by
    refine hHn b (fun z => ?_) fun z => ?_
    · rw [isT b z] at e
      cases e
      exact n2 rfl
    · rw [z.1, ha] at e
      cases e
      exact n1 _ _ rfl
  have freeD : ∀ {b : Addr} {o : Obj} {es : Array DictEntry} {ep : Nat}, s₁.heap.get? b = some o → o.data = .dict es ep → H b = none := fun {b o es ep} e d => by
    refine free e (fun vs n z => ?_) fun z => ?_
    · rw [d] at z; cases z
    · rw [d] at z; cases z
  have nsK : ∀ {b : Addr} {m : Str → Option Value}, s₁.heap.Ns b m → (hidT s₁.heap H).Ns b m := fun {b m} ⟨o, es, ep, e, d, r⟩ => ⟨o, es, ep, hidT_get e (freeD e d), d, r⟩
  have hKb : K.In (hidT s₁.heap H) := fun b o e => hidT_get (KX b o e) (hHn b (fun z => by
    obtain ⟨p, hp, rfl⟩ := ofT b z
    rw [nT p hp] at e
    cases e) fun z => by
    rw [z.1, z.2] at e
    cases e)
  have hM : L2.Mod K mg (hidT s₁.heap H) := ⟨hKb, nsK hns, ⟨mb, nsK hb, hbb⟩, let ⟨mc, h1, h2⟩ := hlim; ⟨mc, nsK h1, h2⟩⟩
  have TB : ∀ p ∈ cs, LamX.TabB (hidT s₁.heap H) mg p.1 p.2 := fun p hp => by
    have hTp := hT p hp
    obtain ⟨go, ges, gep, ge, gd, _⟩ := id hns
    refine ⟨?_, ?_, fun z => ?_⟩
    · obtain ⟨o, us, file, tf, flags, tg, inF, text, tt, c1, c2, c3, c4, c5⟩ := cd p hp
      refine ⟨o, us, file, tf, flags, tg, inF, text, tt, hidT_get c1 (free c1 (fun vs n z => ?_) fun z => ?_), c2, c3, c4, c5⟩
      · rw [c3] at z; cases z
      · rw [c3] at z
        cases z
        simp at c4
    · obtain ⟨bm, ob, b1, b2, b3, b4, b5, b6⟩ := hbm
      refine ⟨bm, ob, b1, b2, fun q => ?_, fun q => ?_, hidT_get b3 (free b3 (fun vs n z => ?_) fun z => ?_), b4, b5, b6⟩
      · rw [q, ge] at b3
        cases b3
        rw [gd] at b6
        cases b6
      · rw [q, hTp] at b3
        cases b3
        cases b6
      · rw [b6] at z; cases z
      · rw [b6] at z; cases z
    · rw [z, hTp] at ge
      cases ge
      cases gd
  have e0 : Env0 P w K mg (hidT s₁.heap H) callerA [] s₁ H := ⟨rfl, hM, fun b o e => of_hidT e, Nat.le_of_eq (hidT_size _ _), trivial, fun b hb => absurd (show b ∈ ([] : List Addr) from hb) (by simp), hok, .of_eq hg⟩
  refine codeAny_mono ((F _ hKb (nsK hns) TB).run callerA [] s₁ H ⟨[.ref a], []⟩ [.ref a] [.ref a] _ _ hr e0 (hbind s₁ (.ref a)) (.cons rfl .nil) (hsp H hO (fun p hp => hHT _ (memT p hp)) hS)) fun r s' h => ?_
  cases r with
  | error e => exact (hCX H e s' h).elim
  | ok fl =>
    cases fl with
    | next => exact False.elim h
    | brk => exact False.elim h
    | cont => exact False.elim h
    | ret u =>
      obtain ⟨v, H', os, bare, un, hok', r', q⟩ := h
      have q' : v = .bl true := q
      subst q'
      obtain rfl : u = Value.bool true := r'
      have same : ∀ b o, b ∉ T → s₁.heap.get? b = some o → s'.heap.get? b = some o := fun b o nb e => by
        rcases hO b with z | ⟨ps, z⟩ | ⟨ob, xs, z⟩
        · exact un.keep b o e z (fun y => nomatch (show b ∈ ([] : List Addr) from y)) (fun y => nomatch y)
        · exfalso
          by_cases h2 : b = a ∧ K.lookup a = none
          · rw [h2.1, hHa h2.2] at z
            cases z
          · rw [hHn b nb h2] at z
            cases z
        · obtain ⟨e1, _⟩ := hok b _ z
          obtain ⟨e2, _⟩ := hok' b _ (un.frzs b ob _ z)
          rw [e] at e1
          cases e1
          exact e2
      have grown : ∀ p ∈ cs, ∃ more : Array Value, s'.heap.get? p.2 = some (PySem.W.tabObj more) := fun p hp => by
        obtain ⟨more, z⟩ := un.tbls p.2 #[] (hHT _ (memT p hp))
        exact ⟨_, hok' p.2 _ z⟩
      refine ⟨rfl, ⟨fun b o e => ?_, fun b o e => ?_⟩, os, bare⟩
      · by_cases nb : b ∈ T
        · obtain ⟨p, hp, rfl⟩ := ofT b nb
          obtain ⟨more, hm⟩ := grown p hp
          rw [hT p hp] at e
          cases e
          exact .inr (.inl ⟨((cd p hp).tab (hT p hp)).isCodeTable, rfl, #[], more, rfl, by rw [Array.empty_append]; exact hm⟩)
        · exact .inl (same b o nb e)
      · by_cases nb : b ∈ T
        · obtain ⟨p, hp, rfl⟩ := ofT b nb
          obtain ⟨more, hm⟩ := grown p hp
          exact ⟨_, hm⟩
        · exact ⟨o, same b o nb e⟩
end
/-- a law's end: F gives the written part, the tables and the law's promise -/
theorem walk_ofT {l : PySem.W.OpenLaw} {n k : Nat} {q : Program} {loose : List Str} {XP : (Str → Option Value) → Heap → Prop} {YP : World → Heap → Prop} {d : DefRec} {x : Str}
    (hn : l.most = some n) (hn2 : n ≤ sizeLine) (hdf : d.params.defaults = []) (hr : Room k callerA)
    (F : ∀ (w : World) (mg mb : Str → Option Value) (mean : ExcName → Option Value) (fa : Addr) (h : Heap), YP w h → PyProof.Rows.Top q (PySem.W.looseW q loose) mean mg mb h → mg d.name = some (.ref fa) →
      ∃ (K : PySem.W.Frag) (fd : FuncData) (sp : Sp) (cs : List (Addr × Addr)), K.In h ∧ (∀ p ∈ cs, h.get? p.2 = some (PySem.W.tabObj #[])) ∧ (∀ p ∈ cs, K.lookup p.2 = none) ∧ (∀ p ∈ cs, PySem.W.CodeHd h p.1 p.2) ∧ (∀ (s : Shared) (u : Value), BindsTo s fd ⟨[u], []⟩ [(x, u)]) ∧
        (∀ (H : Hp) (a : Addr) (ns : List Int), ns.length ≤ n → OnlyT H → (∀ p ∈ cs, H p.2 = some (.tbl #[])) → SqL K H a (ns.map V.int) → sp [.ref a] H (fun v _ => v = .bl true) fun _ _ _ => False) ∧
        ∀ base : Heap, K.In base → base.Ns mainGlobals mg → (∀ p ∈ cs, LamX.TabB base mg p.1 p.2) → FnOk l.prog w K mg base (L2N.CX l.prog w) k fa fd [x] sp) :
    PySem.W.WalkO q loose XP YP l.row.toRowW d [] (fun f vs => PySem.call f vs) := by
  refine Att.attach_call hn hdf fun w s₀ s₁ mg mb fa o pm cd doc a vs ns G Y ho hd hcd hmg hobj hints hlen hg => ?_
  obtain ⟨K, fd, sp, cs, KX, hT, nT, cd', hb, hsp, hF⟩ := F w mg mb _ fa _ Y G.T hmg
  exact law_callT KX G.T.g G.T.b G.T.builtins G.T.nolimit hg hT nT cd' G.T.bmain hobj hints (Nat.le_trans hlen hn2) hr hF hb (fun H hO hH hS => hsp H a ns hlen hO hH hS) fun H e s' => cx_false
/-- the tables stand apart and are not of the written part; the names' tables are there -/
theorem tabsOf_mem {K : PySem.W.Frag} {p : Addr × Str} (h : p ∈ tabsOf K) : ∃ x ∈ lamNames, ∃ c, PySem.W.tabIn K x = some (c, p.1) ∧ p.2 = x ++ ".<locals>." ++ "<lambda>" := by
  obtain ⟨x, hx, e⟩ := List.mem_filterMap.mp h
  obtain ⟨q, e1, e2⟩ := Option.map_eq_some_iff.mp e
  subst e2
  exact ⟨x, hx, q.1, e1, rfl⟩
theorem tabCs_tab {K : PySem.W.Frag} {p : Addr × Addr} (h : p ∈ tabCs K) : ∃ x ∈ lamNames, PySem.W.tabIn K x = some p := List.mem_filterMap.mp h
theorem tabCs_mem {K : PySem.W.Frag} {x : Str} {p : Addr × Addr} (hx : x ∈ lamNames) (e : PySem.W.tabIn K x = some p) : p ∈ tabCs K ∧ (p.2, x ++ ".<locals>." ++ "<lambda>") ∈ tabsOf K :=
  ⟨List.mem_filterMap.mpr ⟨x, hx, e⟩, List.mem_filterMap.mpr ⟨x, hx, by rw [e]; rfl⟩⟩
theorem nodup_fst {α β : Type} : ∀ {l : List (α × β)}, (l.map (·.1)).Nodup → ∀ {p q : α × β}, p ∈ l → q ∈ l → p.1 = q.1 → p = q
  | [], _, _, _, hp, _, _ => by cases hp
  | y :: l, nd, p, q, hp, hq, e => by
    rw [List.map_cons, List.nodup_cons] at nd
    rcases List.mem_cons.mp hp with h1 | h1 <;> rcases List.mem_cons.mp hq with h2 | h2
    · rw [h1, h2]
    · exact (nd.1 (List.mem_map.mpr ⟨q, h2, by rw [← e, h1]⟩)).elim
    · exact (nd.1 (List.mem_map.mpr ⟨p, h1, by rw [e, h2]⟩)).elim
    · exact nodup_fst nd.2 h1 h2 e
section
variable {K : PySem.W.Frag} {xs : List Str}
theorem tabB_parts (b : tabB K xs = true) : ((tabsOf K).map (·.1)).Nodup ∧ (∀ p ∈ tabsOf K, K.lookup p.1 = none) ∧ (∀ x ∈ xs, ∃ p, PySem.W.tabIn K x = some p) ∧ ∀ x ∈ lamNames, x ∈ xs ∨ PySem.W.tabIn K x = none := by
  unfold tabB at b
  simp only [Bool.and_eq_true, decide_eq_true_eq, List.all_eq_true] at b
  obtain ⟨⟨⟨b1, b2⟩, b3⟩, b4⟩ := b
  refine ⟨b1, fun p hp => Option.isNone_iff_eq_none.mp (b2 p hp), fun x hx => Option.isSome_iff_exists.mp (b3 x hx), fun x hx => ?_⟩
  rcases Bool.or_eq_true_iff.mp (b4 x hx) with z | z
  · exact .inl (List.contains_iff_mem.mp z)
  · exact .inr (Option.isNone_iff_eq_none.mp z)
theorem tabB_none (b : tabB K xs = true) : ∀ p ∈ tabCs K, K.lookup p.2 = none := fun p hp => by
  obtain ⟨x, hx, e⟩ := tabCs_tab hp
  exact (tabB_parts b).2.1 _ (tabCs_mem hx e).2
/-- a def's lambda in its context -/
theorem tbI_of {P : Program} {w : World} {mg : Str → Option Value} {base h : Heap} {x : Str} {params : Arguments} {body : List Stmt} {scope : Scope} {dvs : List V} {kws : List (Str × V)} {fd : FuncData} {N : List Str} {cdv : Value} {A : Around} {outer : List PySem.Env} {s : Shared} {H : Hp} {E : XK} {CX : CXT}
    (b : tabB K xs = true) (hx : x ∈ xs) (hxl : x ∈ lamNames) (F : FunD K x x params body scope dvs kws (He.ga K x) fd) (g : (He.Fa.glo x).ok K = true) (hcd : fd.code = cdv) (TB : ∀ p ∈ tabCs K, LamX.TabB base mg p.1 p.2) :
    ∃ c P', TbI (cxOf CX P w K mg base N x scope (He.ga K x) cdv A outer s H E) c P' := by
  obtain ⟨b1, b2, b3, _⟩ := tabB_parts b
  obtain ⟨⟨c, P'⟩, e⟩ := b3 x hx
  obtain ⟨m1, m2⟩ := tabCs_mem hxl e
  refine ⟨c, P', TB _ m1, ?_, m2, fun q hq eq => ?_⟩
  · have gg := He.eqO_ok g
    obtain ⟨oc, od, dV, kV, doc, pm, an, cd2, ct, osl, rfl, lk, _⟩ := F.ex
    unfold PySem.W.tabIn at e
    rw [gg] at e
    simp only [lk] at e
    show cdv = .ref c
    rw [← hcd]
    split at e
    · rename_i c2 hc2
      split at e
      · split at e
        · cases e
          first
            | exact hc2
            | rfl
        · cases e
      · cases e
    · cases e
  · exact congrArg Prod.snd (nodup_fst b1 hq m2 eq)
end
theorem script_rvT {P : Program} {w : World} {K : PySem.W.Frag} {H : Hp} {a : Addr} {ns : List Int} (hO : OnlyT H) (hS : SqL K H a (ns.map V.int)) : RV ⟨K, [], P, w⟩ [] H (.cl (ns.map PV.int)) (.ref a) := by
  rcases hS with (h | ⟨o, h⟩) | h
  · rcases hO a with z | ⟨ps, z⟩ | ⟨o, xs, z⟩
    · rw [z] at h; cases h
    · rw [z] at h; cases h
    · rw [z] at h; cases h
  · exact ⟨a, _, rfl, .inl ⟨⟨o, h⟩, by simp⟩, ints_rv ns⟩
  · exact ⟨a, _, rfl, .inr h, ints_rv ns⟩
theorem law_endT {P : Program} {w : World} {K : PySem.W.Frag} {mg : Str → Option Value} {C : Calls} {fi : Nat} (hl : ∀ ns : List Int, ns.length ≤ 63 → ∃ h, C fi [.cl (ns.map PV.int)] [] = .ok (.bl true) h) (H : Hp) (a : Addr) (ns : List Int) (hn : ns.length ≤ 63) (hO : OnlyT H) (hT : ∀ p ∈ tabCs K, H p.2 = some (.tbl #[])) (hS : SqL K H a (ns.map V.int)) :
    spF ⟨K, [], P, w⟩ mg C fi 1 [.ref a] H (fun v _ => v = .bl true) fun _ _ _ => False := by
  obtain ⟨h, e⟩ := hl ns hn
  refine ⟨rfl, [], [], [.cl (ns.map PV.int)], ⟨rfl, List.nodup_nil, fun n o e => (by simp at e), fun p hp => ?_⟩, RVs.cons (script_rvT hO hS) RVs.nil, ?_⟩
  · obtain ⟨x, hx, c, e1, e2⟩ := tabsOf_mem hp
    exact LamX.TabS.nil (hT _ (tabCs_mem hx e1).1)
  · rw [e]
    intro φ' H' b x s r
    exact r
theorem obsT_eq {n : Nat} {fa : List He.Fa} {fn : List He.DefD} {ex : PySem.W.Frag → Bool} (s : PySem.W.SharedT) : obsT n fa fn ex s = (hookT n fa fn ex).obs s.abs := by
  have e : HandSHeadRun.getT s = s.abs.heap.get? := funext (HandSHeadRun.getT_eq s)
  unfold obsT
  rw [e]
  rfl
end Sb
set_option Elab.async false
set_option linter.all false
set_option maxRecDepth 100000
set_option maxHeartbeats 4000000
namespace Sb
open PySem PySem.Spec PyProof.Rows L2
section
variable {K : ZZ} {φ φ' : List Addr} {H H' : Hp}
/-- a dict aside: it is written at, then taken in -/
theorem Kp.asideD {D : Addr} {ws ws' : List (Key × V)} (e : H D = some (.dK ws)) : Kp φ φ H (upd H D (.dK ws')) := ⟨fun _ _ q => q, fun a o f q n => ⟨by
  rw [upd_ne (fun z => by
    subst z
    rw [e] at q
    cases q
    cases f)]
  exact q, n⟩⟩
theorem Sim.asideD {h : PH} {D : Addr} {ws ws' : List (Key × V)} (s : Sim K φ h H) (e : H D = some (.dK ws)) (n : D ∉ φ) : Sim K φ h (upd H D (.dK ws')) := ⟨s.len, s.nd, fun m u q => by
  obtain ⟨a, ho, e1, e2, r⟩ := s.ob m u q
  refine ⟨a, ho, e1, ?_, r.monoK (Kp.asideD e)⟩
  rw [upd_ne (fun z => n (by rw [← z]; exact List.mem_of_getElem? e1))]
  exact e2, tabs_upd (dK_plain e) s.tb⟩
theorem Kp.adoptD {D : Addr} {ws : List (Key × V)} (e : H D = some (.dK ws)) : Kp φ (φ ++ [D]) H H := ⟨fun n a q => by
  rw [List.getElem?_append_left (List.getElem?_eq_some_iff.mp q).1]
  exact q, fun a o f q n => ⟨q, fun m => by
  rcases List.mem_append.mp m with z | z
  · exact n z
  · rw [List.mem_singleton.mp z, e] at q
    cases q
    cases f⟩⟩
theorem Sim.adoptD {h : PH} {D : Addr} {l : List (Key × PV)} {ws : List (Key × V)} (s : Sim K φ h H) (e : H D = some (.dK ws)) (n : D ∉ φ) (r : RD K φ H l ws) : Sim K (φ ++ [D]) (h ++ [.dct l]) H := by
  have x : Kp φ (φ ++ [D]) H H := Kp.adoptD e
  refine ⟨by rw [List.length_append, List.length_append, s.len]; rfl, ?_, fun m u q => ?_, s.tb⟩
  · rw [List.nodup_append]
    refine ⟨s.nd, by simp, fun a ha b hb => ?_⟩
    rw [List.mem_singleton.mp hb]
    intro z
    exact n (z ▸ ha)
  · by_cases hm : m < h.length
    · rw [List.getElem?_append_left hm] at q
      obtain ⟨a, ho, e1, e2, r'⟩ := s.ob m u q
      exact ⟨a, ho, x.pl m a e1, e2, r'.monoK x⟩
    · have em : m = h.length := by
        have := (List.getElem?_eq_some_iff.mp q).1
        rw [List.length_append] at this
        simp at this
        omega
      subst em
      rw [List.getElem?_append_right (Nat.le_refl _), Nat.sub_self] at q
      have eu : PO.dct l = u := Option.some.inj q
      subst eu
      refine ⟨D, .dK ws, ?_, e, ws, rfl, r.monoK x⟩
      rw [List.getElem?_append_right (by rw [s.len]; exact Nat.le_refl _), s.len, Nat.sub_self]
      rfl
theorem keyOf_rel {p : PV} {v : V} {k : Key} (r : RV K φ H p v) (e : keyOf p = some k) : v = kV k := by
  cases p with
  | int i =>
    have : v = .int i := r
    cases e
    rw [this]
    rfl
  | str x =>
    have : v = .str x := r
    cases e
    rw [this]
    rfl
  | _ => cases e
end
/-- one thing after another, where the answer is asked of an earlier state -/
theorem Out.bindAt {K : ZZ} {mg : Str → Option Value} {α β γ δ : Type} {rel : List Addr → Hp → α → β → Prop} {rel2 : List Addr → Hp → γ → δ → Prop} {φ0 φ : List Addr} {H0 H : Hp} {W : XK} {Q : β → Hp → Prop} {m : R γ} {f : γ → PH → R α} (x : Ext φ0 φ H0 H) (h : Out K mg rel φ0 H0 W Q (m.bind f)) :
    Out K mg rel2 φ H W (fun b H' => ∃ φ' a h1, Ext φ φ' H H' ∧ Sim K φ' h1 H' ∧ rel2 φ' H' a b ∧ Out K mg rel φ0 H0 W Q (f a h1)) m := by
  cases m with
  | ok a h1 => exact fun φ' H' b x s r => ⟨φ', a, h1, x, s, r, h⟩
  | ex e h1 => exact fun φ2 H2 c d y s r => (show Out K mg rel φ0 H0 W Q (.ex e h1) from h) φ2 H2 c d (x.trans y) s r
  | no => exact h
section
variable {X : Cx} {W : WX} {C : Calls} {pos : Pos}
theorem je_dct0 : JE X W C (.Dict [] [] pos) (.dct []) := pe_imp pe_dnewK fun σ H Q ⟨ρ, φ, h, sm, re, o⟩ => by
  have o' : Out (zOf X) X.mg (RV (zOf X)) φ H (atS W σ) Q (allocD [] h) := o
  exact o'.allocD sm RD.nil
/-- {k: v} -/
theorem je_dct1 {a b : Expr} {ea eb : E} (ha : JE X W C a ea) (hb : JE X W C b eb) : JE X W C (.Dict [some a] [b] pos) (.dct [ea, eb]) := pe_imp (pe_disp (pps_cons ha hb pps_nil) rfl rfl (by simp) (Nat.le_of_ble_eq_true rfl)) fun σ H Q ⟨ρ, φ, h, sm, re, o⟩ => by
  intro p hp
  have o' : Out (zOf X) X.mg (RV (zOf X)) φ H (atS W σ) Q ((evG C ea false ρ h).bind fun x h1 => (evG C eb false ρ h1).bind fun y h2 => match keyOf x with | some k => allocD (mergeP [] [(k, y)]) h2 | none => .no) := by
    have e : evG C (.dct [ea, eb]) false ρ h = (evG C ea false ρ h).bind fun x h1 => (evG C eb false ρ h1).bind fun y h2 => match keyOf x with | some k => allocD (mergeP [] [(k, y)]) h2 | none => .no := by
      have e0 : evG C (.dct [ea, eb]) false ρ h = (evGs C [ea, eb] ρ h).bind fun l h1 => match pairUp l with | some l => allocD (mergeP [] l) h1 | none => .no := rfl
      have e1 : evGs C [ea, eb] ρ h = (evG C ea false ρ h).bind fun x h1 => ((evG C eb false ρ h1).bind fun y h2 => .ok [y] h2).bind fun l h2 => .ok (x :: l) h2 := rfl
      rw [e0, e1]
      simp only [R.bind_bind, R.bind_ok]
      congr 1
      funext x h1
      congr 1
      funext y h2
      unfold pairUp
      cases keyOf x <;> rfl
    rw [← e]
    exact o
  have x0 : Ext φ φ H (upd H p (.dK [])) := Ext.new hp
  refine ⟨ρ, φ, h, sm.new hp, re.mono x0, (Out.bindAt (rel2 := RV (zOf X)) x0 o').imp fun x H1 ⟨φ1, a1, h1, x1, s1, r1, o1⟩ => ?_⟩
  refine ⟨ρ, φ1, h1, s1, (re.mono x0).mono x1, (Out.bindAt (rel2 := RV (zOf X)) (x0.trans x1) o1).imp fun y H2 ⟨φ2, a2, h2, x2, s2, r2, o2⟩ => ?_⟩
  have nD0 : p ∉ φ := sm.out hp
  have hD1 : H1 p = some (.dK []) := x1.keep p _ upd_same nD0 (fun ps z => by cases z)
  have nD1 : p ∉ φ1 := fun z => by
    obtain ⟨ps, e⟩ := x1.fresh p z nD0 _ upd_same
    cases e
  have hD2 : H2 p = some (.dK []) := x2.keep p _ hD1 nD1 (fun ps z => by cases z)
  have nD2 : p ∉ φ2 := fun z => by
    obtain ⟨ps, e⟩ := x2.fresh p z nD1 _ hD1
    cases e
  cases ek : keyOf a1 with
  | none =>
    rw [ek] at o2
    exact (show False from o2).elim
  | some k =>
    rw [ek] at o2
    have ex := keyOf_rel (r1.mono x2) ek
    have o3 : Out (zOf X) X.mg (RV (zOf X)) φ H (atS W σ) Q (.ok (.ref h2.length) (h2 ++ [.dct (mergeP [] [(k, a2)])])) := o2
    refine ⟨hD2, [(k, y)], by rw [ex]; rfl, Nat.le_of_ble_eq_true rfl, ?_⟩
    have rd : RD (zOf X) φ2 H2 (mergeP [] [(k, a2)]) (mergeK [] [(k, y)]) := RD.merge (RD.cons r2 RD.nil) RD.nil
    have s3 : Sim (zOf X) φ2 h2 (upd H2 p (.dK (mergeK [] [(k, y)]))) := s2.asideD hD2 nD2
    refine o3 (φ2 ++ [p]) _ (.ref p) ((((x0.trans x1).trans x2).aside hp).adopt hp) (s3.adoptD upd_same nD2 (rd.monoK (Kp.asideD hD2))) ⟨p, rfl, ?_⟩
    rw [← s2.len, List.getElem?_append_right (Nat.le_refl _), Nat.sub_self]
    rfl
end
/-- the loop of a dict comprehension, as the layer reads it -/
theorem dcomp_red {K : ZZ} {mg : Str → Option Value} {W : WX} {C : Calls} {ke ve : E} {is : List Nat} {one : TgK} {k : ITK} {its : List E} {cond : Option E} {own : List Nat} (his : ∀ i ∈ is, i ∈ own) {σ : L2.St} {H : Hp} {Q : VK} (t : tE K mg W C (.dcomp ke ve is one k its cond own) σ H Q) :
    tDc (tI K mg W C k its) (gT K.K is one) (tCond K mg C cond) (tE K mg W0 C ke) (tE K mg W0 C ve) own σ H Q := by
  obtain ⟨ρ, φ, h, sm, re, o⟩ := t
  have o' : Out K mg (RV K) φ H (atS W σ) Q ((evI C k its ρ h).bind fun w h1 => (dcompLoop w.2 (fun x => setTg (wipeP ρ own) is one x) (fun ρ1 h2 => (evGc C cond ρ1 h2).calm) (fun ρ1 h2 => (evG C ke false ρ1 h2).calm) (fun ρ1 h2 => (evG C ve false ρ1 h2).calm) w.1 [] h1).bind fun l h2 => allocD l h2) := by
    have e : evG C (.dcomp ke ve is one k its cond own) false ρ h = (evI C k its ρ h).bind fun w h1 => (dcompLoop w.2 (fun x => setTg (wipeP ρ own) is one x) (fun ρ1 h2 => (evGc C cond ρ1 h2).calm) (fun ρ1 h2 => (evG C ke false ρ1 h2).calm) (fun ρ1 h2 => (evG C ve false ρ1 h2).calm) w.1 [] h1).bind fun l h2 => allocD l h2 := by
      unfold evI
      rw [R.bind_bind]
      show ((evGs C its ρ h).bind _) = _
      congr 1
      funext l h1
      cases walkF k l h1 with
      | none => rfl
      | some w => rfl
    rw [← e]
    exact o
  refine ⟨ρ, φ, h, sm, re, (Out.bind (rel2 := relW K) o').imp fun J H1 ⟨φ1, w, h1, x1, s1, wk, o1⟩ => ?_⟩
  obtain ⟨items, kp⟩ := w
  intro D hD
  have wk : WalkOk K J φ1 H1 items kp := wk
  have re1 := (re.mono x1).wipe own
  refine ⟨fun i m H2 => ∃ φ2 h2 acc ws, m = (items.drop i).length ∧ Ext φ1 φ2 H1 H2 ∧ Sim K φ2 h2 H2 ∧ D ∉ φ2 ∧ H2 D = some (.dK ws) ∧ RD K φ2 H2 acc ws ∧
    Out K mg (RV K) φ1 H1 (atS W σ) Q ((dcompLoop kp (fun x => setTg (wipeP ρ own) is one x) (fun ρ1 h2 => (evGc C cond ρ1 h2).calm) (fun ρ1 h2 => (evG C ke false ρ1 h2).calm) (fun ρ1 h2 => (evG C ve false ρ1 h2).calm) (items.drop i) acc h2).bind fun l h2 => allocD l h2),
    ⟨items.length, φ1, h1, [], [], rfl, Ext.new hD, s1.new hD, s1.out hD, upd_same, RD.nil, o1⟩, ?_⟩
  rintro i m H2 ⟨φ2, h2, acc, ws, hm, x2, s2, nD, hDl, ra, o2⟩
  cases e : items.drop i with
  | nil =>
    rw [e] at o2
    unfold dcompLoop at o2
    split at o2
    · rename_i hs
      refine .inl ⟨wk.stop i φ2 h2 H2 x2 s2 hs (List.drop_eq_nil_iff.mp e), ?_⟩
      have o3 : Out K mg (RV K) φ1 H1 (atS W σ) Q (.ok (.ref h2.length) (h2 ++ [.dct acc])) := o2
      refine o3 (φ2 ++ [D]) H2 (.ref D) (x2.adopt hD) (s2.adoptD hDl nD ra) ⟨D, rfl, ?_⟩
      rw [← s2.len, List.getElem?_append_right (Nat.le_refl _), Nat.sub_self]
      rfl
    · exact (show False from o2).elim
  | cons p rest =>
    have ei : items[i]? = some p := by
      have := congrArg (·[0]?) e
      simpa using this
    have er : items.drop (i + 1) = rest := by
      rw [← List.drop_drop, e]
      rfl
    rw [e] at o2
    unfold dcompLoop at o2
    split at o2
    · rename_i hs
      obtain ⟨hgo, hy⟩ := wk.go i φ2 h2 H2 p x2 s2 hs ei
      refine .inr ⟨hgo, fun H3 => ∃ φ2 h2 acc ws, Ext φ1 φ2 H1 H3 ∧ Sim K φ2 h2 H3 ∧ D ∉ φ2 ∧ H3 D = some (.dK ws) ∧ RD K φ2 H3 acc ws ∧
        Out K mg (RV K) φ1 H1 (atS W σ) Q ((dcompLoop kp (fun x => setTg (wipeP ρ own) is one x) (fun ρ1 h2 => (evGc C cond ρ1 h2).calm) (fun ρ1 h2 => (evG C ke false ρ1 h2).calm) (fun ρ1 h2 => (evG C ve false ρ1 h2).calm) rest acc h2).bind fun l h2 => allocD l h2), fun H3 z => ?_, fun v H3 y => ?_⟩
      · obtain ⟨φ3, h3, acc3, ws3, z1, z2, z3, z4, z5, z6⟩ := z
        refine ⟨rest.length, by rw [hm, e, List.length_cons]; omega, φ3, h3, acc3, ws3, by rw [er], z1, z2, z3, z4, z5, ?_⟩
        rw [er]
        exact z6
      · obtain ⟨ex, sx, rx⟩ := hy v H3 y
        cases eb : setTg (wipeP ρ own) is one p with
        | none => simp only [eb] at o2; exact (show False from o2).elim
        | some ρ1 =>
          simp only [eb] at o2
          have xx := x2.trans ex
          have hD3 : H3 D = some (.dK ws) := ex.keep D _ hDl nD (fun ps z => by cases z)
          refine gT_ok (re1.mono xx) rx eb fun σ2 re2 wp => ⟨by rw [wp own his, wipe_wipe own fun _ z => z], ?_⟩
          have o3 := o2
          rw [R.bind_bind] at o3
          refine cond_ok sx re2 ((Out.calm_bind (rel2 := RI) (W' := fun _ _ _ => False) o3).imp fun b H4 ⟨φ4, b1, h4, x4, s4, r4, o4⟩ => ?_)
          have r4' : b1 = b := r4
          subst r4'
          have hD4 : H4 D = some (.dK ws) := x4.keep D _ hD3 nD (fun ps z => by cases z)
          have nD4 : D ∉ φ4 := fun z => by
            obtain ⟨ps, e⟩ := x4.fresh D z nD _ hD3
            cases e
          cases b1 with
          | false =>
            simp only [Bool.false_eq_true, if_false] at o4 ⊢
            exact ⟨φ4, h4, acc, ws, xx.trans x4, s4, nD4, hD4, (ra.mono ex).mono x4, o4⟩
          | true =>
            simp only [if_true] at o4 ⊢
            rw [R.bind_bind] at o4
            refine ⟨ρ1, φ4, h4, s4, re2.mono x4, (Out.calm_bind (rel2 := RV K) (W' := fun _ _ _ => False) o4).imp fun yk H5 ⟨φ5, v5, h5, x5, s5, r5, o5⟩ => ?_⟩
            have hD5 : H5 D = some (.dK ws) := x5.keep D _ hD4 nD4 (fun ps z => by cases z)
            have nD5 : D ∉ φ5 := fun z => by
              obtain ⟨ps, e⟩ := x5.fresh D z nD4 _ hD4
              cases e
            rw [R.bind_bind] at o5
            refine ⟨ρ1, φ5, h5, s5, (re2.mono x4).mono x5, (Out.calm_bind (rel2 := RV K) (W' := fun _ _ _ => False) o5).imp fun y H6 ⟨φ6, v6, h6, x6, s6, r6, o6⟩ => ?_⟩
            have hD6 : H6 D = some (.dK ws) := x6.keep D _ hD5 nD5 (fun ps z => by cases z)
            have nD6 : D ∉ φ6 := fun z => by
              obtain ⟨ps, e⟩ := x6.fresh D z nD5 _ hD5
              cases e
            have ra6 := (((ra.mono ex).mono x4).mono x5).mono x6
            cases ek : keyOf v5 with
            | none =>
              rw [ek] at o6
              exact (show False from o6).elim
            | some kk =>
              rw [ek] at o6
              have o7 : Out K mg (RV K) φ1 H1 (atS W σ) Q ((if lineOk (acc.length + 1) = true then dcompLoop kp (fun x => setTg (wipeP ρ own) is one x) (fun ρ1 h2 => (evGc C cond ρ1 h2).calm) (fun ρ1 h2 => (evG C ke false ρ1 h2).calm) (fun ρ1 h2 => (evG C ve false ρ1 h2).calm) rest (putP acc kk v6) h6 else .no).bind fun l h2 => allocD l h2) := o6
              split at o7
              · rename_i hl
                refine ⟨ws, kk, keyOf_rel r5 ek, hD6, by rw [← ra.length]; exact line_lt hl, φ6, h6, putP acc kk v6, putK ws kk y, (((xx.trans x4).trans x5).trans x6).aside hD, s6.asideD hD6 nD6, nD6, upd_same, ?_, o7⟩
                exact (ra6.put kk r6).monoK (Kp.asideD hD6)
              · exact (show False from o7).elim
    · exact (show False from o2).elim
section
variable {X : Cx} {W : WX} {C : Calls}
theorem je_dcomp {kx vx tg iter : Expr} {ifs : List Expr} {scope : Scope} {own : List (Str × Nat)} {pos : Pos} {ke ve : E} {is : List Nat} {one : TgK} {k : ITK} {its : List E} {cond : Option E} (hc : X.calm = true) (hN : X.N.Nodup) (hi : JI X W C tg iter k its) (ok : BlkOk X.N X.env.scope scope own)
    (hg : ∀ (s : Shared) (H : Hp) (C : Addr) (cl : List (Str × Addr)) (fp : List Addr), PG (X.blk s H scope (compEnvC scope cl C X.env) fp) tg (gT X.K is one)) (ht : ∀ (s : Shared) (H : Hp) (C' : Addr) (cl : List (Str × Addr)) (fp : List Addr), PTs (X.blk s H scope (compEnvC scope cl C' X.env) fp) ifs (tCond (zOf (X.blk s H scope (compEnvC scope cl C' X.env) fp)) X.mg C cond))
    (hk : ∀ (s : Shared) (H : Hp) (C' : Addr) (cl : List (Str × Addr)) (fp : List Addr), JE (X.blk s H scope (compEnvC scope cl C' X.env) fp) W0 C kx ke)
    (he : ∀ (s : Shared) (H : Hp) (C' : Addr) (cl : List (Str × Addr)) (fp : List Addr), JE (X.blk s H scope (compEnvC scope cl C' X.env) fp) W0 C vx ve) (his : ∀ i ∈ is, i ∈ own.map (·.2) := by decide) (hs : ∀ x, foldedSetIterable iter X.env x = pure x := by intro _; rfl) :
    JE X W C (.DictComp kx vx [⟨tg, iter, ifs, 0⟩] scope pos) (.dcomp ke ve is one k its cond (own.map (·.2))) := by
  have hz : zOf X = ⟨X.K, [], X.prog, X.w⟩ := z_calm hc
  have hzb : ∀ (s : Shared) (H : Hp) (cenv : PySem.Env) (fp : List Addr), zOf (X.blk s H scope cenv fp) = ⟨X.K, [], X.prog, X.w⟩ := fun s H cenv fp => z_calm (X := X.blk s H scope cenv fp) hc
  have ht' : ∀ (s : Shared) (H : Hp) (C' : Addr) (cl : List (Str × Addr)) (fp : List Addr), PTs (X.blk s H scope (compEnvC scope cl C' X.env) fp) ifs (tCond ⟨X.K, [], X.prog, X.w⟩ X.mg C cond) := fun s H C' cl fp => by
    have z := ht s H C' cl fp
    rw [hzb] at z
    exact z
  have hk' : ∀ (s : Shared) (H : Hp) (C' : Addr) (cl : List (Str × Addr)) (fp : List Addr), PE (X.blk s H scope (compEnvC scope cl C' X.env) fp) kx (tE ⟨X.K, [], X.prog, X.w⟩ X.mg W0 C ke) := fun s H C' cl fp => by
    have z := hk s H C' cl fp
    unfold JE at z
    rw [hzb] at z
    exact z
  have he' : ∀ (s : Shared) (H : Hp) (C' : Addr) (cl : List (Str × Addr)) (fp : List Addr), PE (X.blk s H scope (compEnvC scope cl C' X.env) fp) vx (tE ⟨X.K, [], X.prog, X.w⟩ X.mg W0 C ve) := fun s H C' cl fp => by
    have z := he s H C' cl fp
    unfold JE at z
    rw [hzb] at z
    exact z
  exact pe_imp (pe_dc (tk := tE ⟨X.K, [], X.prog, X.w⟩ X.mg W0 C ke) (tv := tE ⟨X.K, [], X.prog, X.w⟩ X.mg W0 C ve) hc hN hi ok hg ht' hk' he' hs) fun σ H Q t => by
    have t' := dcomp_red his t
    rw [← hz]
    exact t'
end
end Sb
set_option Elab.async false
set_option linter.all false
set_option maxRecDepth 100000
set_option maxHeartbeats 4000000
namespace Sb
open PySem PySem.Spec PyProof.Rows L2
section
variable {prog : Program} {w : World} {A : Around} {E : Value → Shared → Prop} {s : Shared}
/-- the items of a tuple for n names and a starred one -/
theorem star_items {t : Addr} {xs : Array Value} {n : Nat} {Q : List Value → Shared → Prop} (ht : IsTup s.heap t xs) (hh : A.handled = none) (hn : n ≤ xs.size) (hz : xs.size ≤ 1000)
    (q : ∀ D h' tk, (∀ b o, s.heap.get? b = some o → h'.get? b = some o) → Q (xs.toList.take n ++ [.ref D]) { s with heap := h', toks := tk }) : wpAny (model prog w) A (unpackItems (.ref t) (n + 1) (some n)) Q E s := by
  obtain ⟨o0, ho0, _⟩ := id ht
  have lt0 := Heap.lt_size ho0
  have ne0 : t ≠ s.heap.objs.size := Nat.ne_of_lt lt0
  unfold unpackItems notIterableAtAll
  refine wpAny_bind (wpAny_bind (wpAny_specialOf ht.typeIs slot_tuple_iter.lookup (wpAny_pure ?_)))
  rw [if_neg Bool.false_ne_true]
  refine wpAny_bind (wpAny_holding (iter_tuple ht (wpAny_bind (wpAny_holding
    (draw_tuple ne0 n 0 _ _ ⟨_, Heap.get?_push_size _ rfl, rfl, rfl⟩ (ht.push _) (by omega) fun g1 i1 sb1 => ?_)))))
  have t1 : IsTup g1 t xs := (ht.push _).extBut sb1.extBut ne0
  rw [Nat.zero_add] at i1
  obtain ⟨oi, hoi, _⟩ := id i1
  obtain ⟨ot, hot, _⟩ := id t1
  have l1 : (xs.toList.take n).length = n := by
    rw [List.length_take, Array.length_toList]
    omega
  rw [List.drop_zero, if_neg (by rw [l1]; omega)]
  have W := Walks.tuple (prog := prog) (w := w) (A := A.in1) hh s.heap.objs.size t ne0 xs
  have l2 : (xs.toList.drop n).length = xs.size - n := by rw [List.length_drop, Array.length_toList]
  refine wpAny_bind (wpAny_holding (PySem.W.kun_collect (s := { s with heap := g1 }) (T := "tuple_iterator") (.inr (.inr (.inr rfl))) W (fun j u z => z.1.typeIs) hn ⟨i1, t1⟩ (Heap.lt_size hoi) (Heap.lt_size hot) (fun g2 tk hk => ?_) (by rw [sizeLine_eq]; omega)))
  have e0 : n + 1 - 1 - n = 0 := by omega
  rw [if_neg (by rw [l2]; omega), e0, Nat.sub_zero]
  show wpAny (model prog w) A (newList ((xs.toList.drop n).take (xs.toList.drop n).length) >>= fun d => pure (xs.toList.take n ++ [d] ++ (xs.toList.drop n).drop (xs.toList.drop n).length)) Q E { s with heap := g2, toks := tk }
  rw [List.take_length, List.drop_length]
  have kp : ∀ b o, s.heap.get? b = some o → g2.get? b = some o := fun b o e => by
    have nb : b ≠ s.heap.objs.size := Nat.ne_of_lt (Heap.lt_size e)
    exact hk b o nb (sb1.extBut b o nb (Heap.get?_push_of_some _ e))
  refine wpAny_bind (wpAny_newList (s := { s with heap := g2, toks := tk }) (wpAny_pure ?_) (by rw [l2, sizeLine_eq]; omega))
  rw [List.append_nil]
  exact q _ _ tk fun b o e => Heap.get?_push_of_some _ (kp b o e)
end
section
variable {X : Cx} {pos : Pos}
theorem pg_star {es : List Expr} {k n : Nat} {t : TGs} (hc : X.calm = true) (h : PGs X es t)
    (hn : (assignEach es X.env).length = n + 1 := by rfl) (hst : (assignEach es X.env).findIdx? (·.1) = some n := by rfl) : PG X (.Tuple es k pos) (gStar X.K (n + 1) t) := by
  refine ⟨fun pins s σ H v u Q I r z => ?_⟩
  obtain ⟨a, xs, e1, sq, l1, _, l2, tt⟩ := z
  subst e1
  cases r
  obtain ⟨its, rv, it, hz⟩ := I.tuple sq
  have ls := rv.length
  rw [assign_Tuple]
  refine wpAny_bind (wpAny_standAt ?_)
  unfold unpack
  rw [hn, hst]
  have sz : its.toArray.size = xs.length := by simpa using ls.symm
  refine wpAny_bind (wpAny_holding (star_items it (I.ok.hd hc) (by omega) (by omega) fun D h' tk kp => ?_))
  have I1 : Inv X pins σ H { s with heap := h', toks := tk } := I.kept kp
  refine h.run pins _ σ H _ _ Q I1 ?_ (tt D)
  show Vals (xs.take n ++ [.ref D]) (its.take n ++ [.ref D])
  exact (rv.take n).append (.cons (by constructor) .nil)
theorem pgs_star {e : Expr} {es : List Expr} {sp : Pos} {t : TG} {u : TGs} (h1 : PG X e t) (h2 : PGs X es u)
    (hs : (assignEach (.Starred e sp :: es) X.env).map (·.2) = assign e X.env :: (assignEach es X.env).map (·.2) := by rfl) : PGs X (.Starred e sp :: es) (gCons t u) := by
  refine ⟨fun pins s σ H vs us Q I r h => ?_⟩
  obtain ⟨v, vr, e1, h⟩ := h
  subst e1
  cases r with
  | cons r rr =>
    rw [hs]
    exact assignInOrder_cons (thn (h1.run pins s σ H _ _ _ I r h) fun _ s1 ⟨σ1, H1, I1, q1⟩ => h2.run pins s1 σ1 H1 _ _ Q I1 rr q1)
end
end Sb
set_option Elab.async false
set_option linter.all false
set_option maxRecDepth 100000
set_option maxHeartbeats 4000000
namespace Sb
open PySem PySem.Spec PyProof.Rows L2
section
variable {K : ZZ} {φ : List Addr} {H H' : Hp}
/-- nothing but tables may have changed -/
abbrev Grow (H H' : Hp) : Prop := ∀ a o, (∀ ps, o ≠ .tbl ps) → H a = some o → H' a = some o
theorem Grow.kp (g : Grow H H') : Kp φ φ H H' := ⟨fun _ _ q => q, fun a o f e n => ⟨g a o (fix_ntbl f) e, n⟩⟩
theorem Grow.ext (g : Grow H H') : Ext φ φ H H' := ⟨⟨[], by simp⟩, fun a o e _ nt => g a o nt e, fun _ h n => absurd h n⟩
theorem Grow.sim {h : PH} (g : Grow H H') (s : Sim K φ h H) (t : LamX.Tabs (tabsOf K.K) H') : Sim K φ h H' := ⟨s.len, s.nd, fun m u q => by
  obtain ⟨a, ho, e1, e2, r⟩ := s.ob m u q
  exact ⟨a, ho, e1, g a ho (s.plain (List.mem_of_getElem? e1) ho e2).1 e2, r.monoK g.kp⟩, t⟩
def reK (a b : Str) (kvs : List (Key × V)) : List (Key × V) := kvs.map fun kv => (kv.1, match kv.2 with | .str m => .str (if m = b then a else m) | v => v)
theorem RD.re {a b : Str} : ∀ {l : List (Key × PV)} {kvs : List (Key × V)}, RD K φ H l kvs → (strsOf (l.map (·.2))).isSome = true → RD K φ H (remarkL a b l) (reK a b kvs) ∧ ∀ kv ∈ kvs, ∃ m, kv.2 = .str m
  | [], kvs, r, _ => by
    rw [r.empty]
    exact ⟨RD.nil, fun _ h => (by cases h)⟩
  | (k, p) :: l, kvs, r, hs => by
    obtain ⟨v, t, rfl, q, s⟩ := r.inv
    cases p with
    | str m =>
      have ev : v = .str m := q
      subst ev
      have hs' : (strsOf (l.map (·.2))).isSome = true := by
        have : (strsOf (PV.str m :: l.map (·.2))).isSome = true := hs
        simpa [strsOf] using this
      obtain ⟨r1, r2⟩ := RD.re s hs'
      refine ⟨RD.cons (k := k) (p := .str (if m = b then a else m)) (v := .str (if m = b then a else m)) rfl r1, fun kv hkv => ?_⟩
      rcases List.mem_cons.mp hkv with rfl | z
      · exact ⟨m, rfl⟩
      · exact r2 kv z
    | _ => simp [strsOf] at hs
theorem wipe_at {σ : L2.St} {i : Nat} : ∀ {vs : List Nat}, i ∉ vs → (L2.wipe σ vs)[i]? = σ[i]?
  | [], _ => rfl
  | v :: vs, h => by
    show ((L2.wipe σ vs).set v none)[i]? = _
    rw [List.getElem?_set_ne (fun z => h (by rw [z]; exact List.mem_cons_self)), wipe_at fun z => h (List.mem_cons_of_mem _ z)]
theorem merge_snoc (l : List (Key × V)) (k : Key) (v : V) (kvs : List (Key × V)) : mergeK l (kvs ++ [(k, v)]) = putK (mergeK l kvs) k v := by
  unfold mergeK
  rw [List.foldl_append]
  rfl
theorem tabs_at {T : List (Addr × Str)} {a : Addr} {kvs : List (Key × V)} {u : HO} (e : H a = some (.dK kvs)) (t : LamX.Tabs T H) : LamX.Tabs T (upd H a u) := tabs_upd (dK_plain e) t
theorem remark_red {mg : Str → Option Value} {W : WX} {C : Calls} {d nr fr is im : Nat} {ow : List Nat} (h1 : is ∈ ow) (h2 : im ∈ ow) (h3 : nr ∉ ow) (h4 : fr ∉ ow) (h5 : is ≠ im) {σ : L2.St} {Q : VK} (l1 : is < σ.length) (l2 : im < σ.length) (t : tE K mg W C (.remark d nr fr) σ H Q) :
    tLockE (tDc (iItems (tVar d)) (gT K.K [is, im] .tup) tYes (tVar is) (tIf (tTest (tOp (fun x y H Q => ∃ W', rOp K mg W' (cmpop .Eq) x y H Q) (tVar im) (tVar fr))) (tVar nr) (tVar im)) ow) σ H Q := by
  obtain ⟨ρ, φ, h, sm, re, o⟩ := t
  have o' : Out K mg (RV K) φ H (atS W σ) Q (remarkP (ρ.get d) (ρ.get nr) (ρ.get fr) h) := o
  unfold remarkP at o'
  split at o'
  rotate_left
  · exact o'.elim
  rename_i n a b g1 g2 g3
  split at o'
  rotate_left
  · exact o'.elim
  rename_i l hl
  split at o'
  rotate_left
  · exact o'.elim
  rename_i xs hx
  split at o'
  rotate_left
  · exact o'.elim
  rename_i hz
  have var : ∀ {i : Nat} {p : PV}, ρ.get i = some p → ∃ v, σ[i]? = some (some v) ∧ RV K φ H p v := fun {i p} e => by
    have e' : ρ[i]? = some (some p) := by
      unfold Env.get at e
      split at e
      · rename_i q hq
        cases e
        exact hq
      · cases e
    exact re.get e'
  obtain ⟨vd, s1, ad, rfl, ha⟩ := var g1
  obtain ⟨vn, s2, rn⟩ := var g2
  obtain ⟨vf, s3, rf⟩ := var g3
  have rn' : vn = .str a := rn
  have rf' : vf = .str b := rf
  subst rn' rf'
  obtain ⟨ad', ho, e1, e2, kvs, e3, rk⟩ := sm.ob n _ hl
  have ea : ad' = ad := Option.some.inj (e1.symm.trans ha)
  subst ea
  subst e3
  have rd : RD K φ H l kvs := rk
  obtain ⟨rre, str⟩ := rd.re (a := a) (b := b) (by rw [hx]; rfl)
  have lk := rd.length
  have nad : ad' ∈ φ := List.mem_of_getElem? ha
  refine ⟨ad', .dK kvs, e2, True.intro, fun od => ?_⟩
  refine ⟨_, s1, ad', od, kvs, rfl, upd_same, fun D hD => ?_⟩
  have Dne : D ≠ ad' := fun z => by
    rw [z, upd_same] at hD
    cases hD
  have hD0 : H D = none := by rwa [upd_ne Dne] at hD
  have lr : (reK a b kvs).length = kvs.length := by unfold reK; rw [List.length_map]
  refine ⟨fun i m G => m = kvs.length - i ∧ i ≤ kvs.length ∧ G ad' = some (.frz od (.dK kvs)) ∧ (∀ c u, c ≠ ad' → (∀ ps, u ≠ .tbl ps) → H c = some u → G c = some u) ∧ LamX.Tabs (tabsOf K.K) G ∧ G D = some (.dK (mergeK [] ((reK a b kvs).take i))), ⟨kvs.length, rfl, Nat.zero_le _, ?_, ?_, ?_, upd_same⟩, ?_⟩
  · rw [upd_ne (Ne.symm Dne)]
    exact upd_same
  · intro c u hc _ e
    rw [upd_ne (fun z => by rw [z, hD0] at e; cases e), upd_ne hc]
    exact e
  · exact tabs_upd (none_plain hD) (tabs_at e2 sm.tb)
  · rintro i m G ⟨rfl, hi, gf, gk, gt, gd⟩
    by_cases hlt : i < kvs.length
    · refine .inr ⟨⟨gf, hlt⟩, fun G' => G' ad' = some (.frz od (.dK kvs)) ∧ (∀ c u, c ≠ ad' → (∀ ps, u ≠ .tbl ps) → H c = some u → G' c = some u) ∧ LamX.Tabs (tabsOf K.K) G' ∧ G' D = some (.dK (mergeK [] ((reK a b kvs).take (i + 1)))), fun G' z => ⟨kvs.length - (i + 1), by omega, rfl, hlt, z⟩, ?_⟩
      rintro x G' ⟨T, k, v, ek, rfl, hT, rfl⟩
      obtain ⟨mk, emk⟩ := str (k, v) (List.mem_of_getElem? ek)
      have emk' : v = .str mk := emk
      subst emk'
      have Tad : T ≠ ad' := fun z => by rw [z, gf] at hT; cases hT
      have TD : T ≠ D := fun z => by rw [z, gd] at hT; cases hT
      refine ⟨T, [kV k, .str mk], rfl, .inl (.inl upd_same), rfl, gNs_ok rfl ?_⟩
      have wl : (L2.wipe σ ow).length = σ.length := wipe_length σ ow
      have si : (setV [is, im] [kV k, .str mk] (L2.wipe σ ow))[is]? = some (some (kV k)) := by
        show (((L2.wipe σ ow).set is (some (kV k))).set im (some (.str mk)))[is]? = _
        rw [List.getElem?_set_ne (Ne.symm h5), List.getElem?_set_self (by omega)]
      have sj : (setV [is, im] [kV k, .str mk] (L2.wipe σ ow))[im]? = some (some (.str mk)) := by
        show (((L2.wipe σ ow).set is (some (kV k))).set im (some (.str mk)))[im]? = _
        rw [List.getElem?_set_self (by rw [List.length_set]; omega)]
      have sk : ∀ j, j ∉ ow → (setV [is, im] [kV k, .str mk] (L2.wipe σ ow))[j]? = σ[j]? := fun j hj => by
        show (((L2.wipe σ ow).set is (some (kV k))).set im (some (.str mk)))[j]? = _
        rw [List.getElem?_set_ne (fun z => hj (by rw [← z]; exact h2)), List.getElem?_set_ne (fun z => hj (by rw [← z]; exact h1)), wipe_at hj]
      have w0 : L2.wipe (setV [is, im] [kV k, .str mk] (L2.wipe σ ow)) ow = L2.wipe σ ow := by
        show L2.wipe (((L2.wipe σ ow).set is (some (kV k))).set im (some (.str mk))) ow = _
        rw [wipe_set h2, wipe_set h1, wipe_wipe ow fun _ z => z]
      refine ⟨w0, ?_⟩
      have tb' : LamX.Tabs (tabsOf K.K) (upd G T (.tup [kV k, .str mk])) := tabs_upd (none_plain hT) gt
      unfold tYes
      simp only [if_true]
      refine ⟨_, si, ⟨_, sj, _, (sk fr h4).trans s3, fun _ _ _ => False, [], [], .str mk, .str b, ⟨rfl, List.nodup_nil, fun _ _ e => (by simp at e), tb'⟩, rfl, rfl, ?_⟩⟩
      show Out K mg (RV K) [] _ _ _ (R.ok (PV.bl (decide (mk = b))) [])
      intro φ' G2 bb ex sx rb
      have rb' : bb = .bl (decide (mk = b)) := rb
      subst rb'
      have kp : ∀ c u, (∀ ps, u ≠ .tbl ps) → upd G T (.tup [kV k, .str mk]) c = some u → G2 c = some u := fun c u nt e => ex.keep c u e (by simp) nt
      have gf2 : G2 ad' = some (.frz od (.dK kvs)) := kp _ _ (fun _ z => by cases z) (by rw [upd_ne (Ne.symm Tad)]; exact gf)
      have gd2 : G2 D = some (.dK (mergeK [] ((reK a b kvs).take i))) := kp _ _ (fun _ z => by cases z) (by rw [upd_ne (Ne.symm TD)]; exact gd)
      -- the mark that is kept
      have en : ∀ z : Str, (z = if mk = b then a else mk) → ∃ kvs' k', kV k = kV k' ∧ G2 D = some (.dK kvs') ∧ kvs'.length < sizeLine ∧ (upd G2 D (.dK (putK kvs' k' (.str z)))) ad' = some (.frz od (.dK kvs)) ∧ (∀ c u, c ≠ ad' → (∀ ps, u ≠ .tbl ps) → H c = some u → (upd G2 D (.dK (putK kvs' k' (.str z)))) c = some u) ∧ LamX.Tabs (tabsOf K.K) (upd G2 D (.dK (putK kvs' k' (.str z)))) ∧ (upd G2 D (.dK (putK kvs' k' (.str z)))) D = some (.dK (mergeK [] ((reK a b kvs).take (i + 1)))) := fun z ez => by
        refine ⟨_, k, rfl, gd2, ?_, ?_, fun c u hc nt e => ?_, tabs_at gd2 sx.tb, ?_⟩
        · have q1 := length_mergeK ((reK a b kvs).take i) []
          rw [List.length_take, List.length_nil] at q1
          have q2 : l.length + 1 ≤ 1000000 := of_decide_eq_true hz
          have := sizeLine_eq
          omega
        · rw [upd_ne (Ne.symm Dne)]
          exact gf2
        · rw [upd_ne (fun y => by rw [y, hD0] at e; cases e)]
          refine kp c u nt ?_
          rw [upd_ne (fun y => ?_)]
          · exact gk c u hc nt e
          · have := gk c u hc nt e
            rw [y, hT] at this
            cases this
        · rw [upd_same]
          have er : (reK a b kvs)[i]? = some (k, .str z) := by
            unfold reK
            rw [List.getElem?_map, ek, ez]
            rfl
          rw [List.take_add_one, er]
          show _ = some (HO.dK (mergeK [] ((reK a b kvs).take i ++ [(k, .str z)])))
          rw [merge_snoc]
      refine ⟨_, rfl, ?_⟩
      dsimp only
      by_cases hm : mk = b
      · rw [if_pos (decide_eq_true hm)]
        exact ⟨_, (sk nr h3).trans s2, en a (by rw [if_pos hm])⟩
      · rw [if_neg (by simpa using hm)]
        exact ⟨_, sj, en mk (by rw [if_neg hm])⟩
    · refine .inl ⟨⟨gf, by omega⟩, gf, ?_⟩
      have ei : i = kvs.length := by omega
      subst ei
      rw [← lr, List.take_length] at gd
      have gr : Grow H (upd G ad' (.dK kvs)) := fun c u nt e => by
        by_cases hc : c = ad'
        · subst hc
          rw [upd_same, ← e, e2]
        · rw [upd_ne hc]
          exact gk c u hc nt e
      have tb2 : LamX.Tabs (tabsOf K.K) (upd G ad' (.dK kvs)) := tabs_upd (fun u e => by
        rw [gf] at e
        cases e
        exact ⟨fun _ z => (by cases z), fun _ z => (by cases z)⟩) gt
      have sm2 := gr.sim sm tb2
      have gd2 : upd G ad' (.dK kvs) D = some (.dK (mergeK [] (reK a b kvs))) := by rw [upd_ne Dne]; exact gd
      have nD : D ∉ φ := sm.out hD0
      refine o' (φ ++ [D]) _ (.ref D) (gr.ext.adopt hD0) (sm2.adoptD gd2 nD ((RD.merge rre RD.nil).monoK gr.kp)) ⟨D, rfl, ?_⟩
      rw [← sm.len, List.getElem?_append_right (Nat.le_refl _), Nat.sub_self]
      rfl
end
end Sb
set_option Elab.async false
set_option linter.all false
set_option maxRecDepth 100000
set_option maxHeartbeats 4000000
namespace Sb
open PySem PySem.Spec PyProof.Rows L2
section
variable {X : Cx}
/-- {elt for target in iter if ..}, the members ints or texts: D the new set -/
def tScK (P : Program) (w : World) (wi : TI) (g : TG) (tt : TT) (te : TE) (vs : List Nat) : TE := fun σ H Q => wi σ H fun J H1 => ∀ D, H1 D = none → ∃ W : Nat → Nat → Hp → Prop, (∃ m, W 0 m (upd H1 D (SetK P w D (fun _ => false) 0))) ∧ ∀ i m H, W i m H →
  (J.stop i H ∧ Q (.ref D) H) ∨ (J.go i H ∧ ∃ Nx : Hp → Prop, (∀ H', Nx H' → ∃ m', m' < m ∧ W (i + 1) m' H') ∧ ∀ x H', J.yld i H x H' → g x (wipe σ vs) H' fun σ2 H2 => wipe σ2 vs = wipe σ vs ∧ tt σ2 H2 fun b H3 =>
    if b = true then te σ2 H3 fun y H4 => ∃ (c : Key) (S : Key → Bool) (n : Nat), y = kV c ∧ H4 D = some (SetK P w D S n) ∧ n + 1 < scanBound ∧ Nx (upd H4 D (SetK P w D (fun j => S j || decide (j = c)) (if S c = true then n else n + 1))) else Nx H3)
theorem set_empty {h : Heap} {P : Program} {w : World} : (h.push { cls := .type "set", dict := none, data := .set #[] 0 (.fresh 0 0 (!w.params.followText "set-order")) }).SetOf (mixKind P w) h.objs.size (fun _ => false) 0 :=
  ⟨_, #[], 0, _, Heap.get?_push_size _ rfl, ⟨rfl, rfl, rfl⟩, rfl, (fun e he => by simp at he), (fun k => by simp), by decide, by rfl, rfl⟩
theorem scK_core {pins : List (Addr × Obj)} {s : Shared} {σ : L2.St} {H : Hp} {Q : VK} {elt tg iter : Expr} {ifs : List Expr} {scope : Scope} {own : List (Str × Nat)} {pos pos' : Pos} {wi : TI} {g : TG} {tt : TT} {te : TE} {use : Option (Value → Sem Unit)} {Qf : Value → Shared → Prop} (hc : X.calm = true) (hN : X.N.Nodup) (I : Inv X pins σ H s) (hi : PI X tg iter wi) (ok : BlkOk X.N X.env.scope scope own)
    (hg : ∀ (s : Shared) (H : Hp) (C : Addr) (cl : List (Str × Addr)) (fp : List Addr), PG (X.blk s H scope (compEnvC scope cl C X.env) fp) tg g) (ht : ∀ (s : Shared) (H : Hp) (C : Addr) (cl : List (Str × Addr)) (fp : List Addr), PTs (X.blk s H scope (compEnvC scope cl C X.env) fp) ifs tt)
    (he : ∀ (s : Shared) (H : Hp) (C : Addr) (cl : List (Str × Addr)) (fp : List Addr), PE (X.blk s H scope (compEnvC scope cl C X.env) fp) elt te) (hs : ∀ x, foldedSetIterable iter X.env x = pure x)
    (t : tScK X.prog X.w wi g tt te (own.map (·.2)) σ H Q)
    (hR : ∀ D C s' m G, Inv X pins σ G s' → Q (.ref D) G → s'.heap.Ns C m → FpOk X pins G C → compPost (model X.prog X.w) X.A X.xe use Qf (.ref D) C (.ok .next) s') :
    wpAny (model X.prog X.w) X.A (comprehension (.SetComp elt [⟨tg, iter, ifs, 0⟩] scope pos) scope X.env pos' (newSet (.type "set")) false (eval iter X.env) use) Qf X.xe s := by
  have clo : ∀ y ∈ scope.names, y.2 = .free → ∃ c, X.env.cells.lookup y.1 = some c := fun y hy e => (ok.free y hy e).elim (fun k => I.ok.has _ (.inl k)) fun k => I.ok.has _ (.inr k)
  refine wpAny_comprehension_free rfl hs (closure_ok clo) ok.kind (fun y hy e => by rw [ok.uniq y hy, e]) (thn (hi.run pins s σ H _ I t) fun xv s1 p1 => thn p1 fun iv s2 p2 => ?_)
  obtain ⟨it, fp, tn, J, G0, rfl, J0, T, at0, own0, q⟩ := p2
  refine PpSet.newSet_ok (newEnv_comp ?_)
  obtain ⟨D, eD⟩ : ∃ D, D = s2.heap.objs.size := ⟨_, rfl⟩
  have fD : G0 D = none := J0.hok.fresh (Nat.le_of_eq eD.symm)
  obtain ⟨W, ⟨m0, wW⟩, turn⟩ := q D fD
  rw [← eD]
  -- the new set
  obtain ⟨o3, eo3⟩ : ∃ o3 : Obj, o3 = { cls := .type "set", dict := none, data := .set #[] 0 (.fresh 0 0 (!X.w.params.followText "set-order")) } := ⟨_, rfl⟩
  rw [← eo3]
  obtain ⟨s3, es3⟩ : ∃ s3 : Shared, s3 = { s2 with heap := s2.heap.push o3 } := ⟨_, rfl⟩
  have hp3 : s3.heap = s2.heap.push o3 := by rw [es3]
  obtain ⟨G1, eG1⟩ : ∃ G1, G1 = upd G0 D (SetK X.prog X.w D (fun _ => false) 0) := ⟨_, rfl⟩
  have J1 : Inv X pins σ G1 s3 := by
    rw [es3, eG1]
    refine J0.laid (t' := s2.toks) (fun b o e => Heap.get?_push_of_some _ e) (Nat.le_of_eq eD.symm) (setK_new ?_)
    rw [eD, eo3]
    exact set_empty
  have lt0 : ∀ b ∈ fp, b < s2.heap.objs.size := fun b hb => let ⟨_, e, _⟩ := T.obj _ _ at0 b hb; Heap.lt_size e
  have own1 : ∀ b ∈ fp, FpOk X pins G1 b ∧ b < s3.heap.objs.size := fun b hb => by
    have l := lt0 b hb
    refine ⟨⟨?_, (own0 b hb).2⟩, by rw [hp3, Heap.size_push]; exact Nat.lt_succ_of_lt l⟩
    rw [eG1, upd_ne (by rw [eD]; exact Nat.ne_of_lt l)]
    exact (own0 b hb).1
  have at1 : tn 0 s3.heap := T.keep _ _ _ at0 fun b _ o e => by rw [hp3]; exact Heap.get?_push_of_some _ e
  have J2 := block_start J1 ok hN own1
  obtain ⟨cl, ecl⟩ : ∃ cl, cl = cellsFrom (s3.heap.objs.size + 1) scope.names (cloFrom X.env.cells scope.names []) := ⟨_, rfl⟩
  have pg := hg s3 G1 s3.heap.objs.size cl fp
  have pt := ht s3 G1 s3.heap.objs.size cl fp
  have pe := he s3 G1 s3.heap.objs.size cl fp
  rw [← ecl] at J2
  obtain ⟨ce, ece⟩ : ∃ ce, ce = compEnvC scope cl s3.heap.objs.size X.env := ⟨_, rfl⟩
  rw [← ece] at J2 pg pt pe
  have ceL : ce.locals = s3.heap.objs.size := by rw [ece]; rfl
  have none1 : ∀ b ∈ fp, G1 b = none := fun b hb => (own1 b hb).1.1
  rw [← eG1] at wW
  obtain ⟨s4, es4⟩ : ∃ s4 : Shared, s4 = { s3 with heap := pushCells (s3.heap.push { cls := .type "dict", data := .dict #[] }) scope.names } := ⟨_, rfl⟩
  rw [← es4] at J2
  have at2 : tn 0 s4.heap := T.keep _ _ _ at1 fun b _ o e => by rw [es4]; exact pushCells_keeps _ _ _ _ (Heap.get?_push_of_some _ e)
  have fpk : ∀ {σ' : L2.St} {G : Hp} {s' : Shared}, Inv (X.blk s3 G1 scope ce fp) [] σ' G s' → (∀ b ∈ fp, G b = none) → ∀ b ∈ fp, FpOk (X.blk s3 G1 scope ce fp) [] G b := fun {σ' G s'} I' hn b hb =>
    ⟨hn b hb, (I'.ok.exf b hb).1, I'.ok.exfs b hb, .inl hb, fun x c e => (I'.ok.exf b hb).2 x c e, fun p hp => by cases (show p ∈ ([] : List (Addr × Obj)) from hp)⟩
  have loop : codeAny (model X.prog X.w) X.A (.compLoop (.SetComp elt [⟨tg, iter, ifs, 0⟩] scope pos) 0 (.ref it) (.ref D) ce) (compPost (model X.prog X.w) X.A X.xe use Qf (.ref D) s3.heap.objs.size) s4 := by
    refine PpSet.compLoopS_any (fun n s' => ∃ i G, Inv (X.blk s3 G1 scope ce fp) [] (wipe σ (own.map (·.2))) G s' ∧ tn i s'.heap ∧ (∀ b ∈ fp, G b = none) ∧ W i n G) ?_ m0 ⟨0, G1, J2, at2, none1, wW⟩
    rintro n s5 ⟨i, G, I5, at5, none5, w5⟩
    rcases turn i n G w5 with ⟨stop, qq⟩ | ⟨go, Nx, hNx, step⟩
    · refine thnF (T.done (X.blk s3 G1 scope ce fp) rfl rfl rfl hc i [] s5 _ G (fun _ _ => False) I5 (fpk I5 none5) at5 stop) fun r s6 ⟨hr, I6⟩ => ?_
      subst hr
      have I7 : Inv X pins σ G s6 := J1.call' (ch := fp) I6.os I6.base I6.hok I6.bare fun b hb => let z := (own1 b hb).1.2; ⟨z.2.2.1, z.1, z.2.2.2.1, z.2.2.2.2⟩
      have free6 : G s3.heap.objs.size = none := by
        rw [← ceL]
        exact I6.free
      obtain ⟨m, hn, _⟩ := I6.loc
      have hn : s6.heap.Ns ce.locals m := hn
      rw [ceL] at hn
      exact hR D s3.heap.objs.size s6 m G I7 qq hn (J1.fpOk (Nat.le_refl _) free6)
    · refine thnF (T.item (X.blk s3 G1 scope ce fp) rfl rfl rfl hc i [] s5 _ G (fun _ _ => False) I5 (fpk I5 none5) at5 go) fun r s6 ⟨u, hr, h6⟩ => ?_
      subst hr
      refine thnF h6 fun _ s7 ⟨x, G7, I7, r7, y7, at7, none7⟩ => ?_
      have P7 := I7.pinned (fpk I7 none7) (T.obj _ _ at7)
      refine thnF (pg.run _ s7 _ G7 x u _ P7 r7 (step x G7 y7)) fun _ s8 ⟨σ8, G8, I8, w8, q8⟩ => ?_
      refine thnF (pt.run _ s8 σ8 G8 _ I8 q8) fun b s9 ⟨G9, I9, q9⟩ => ?_
      have next : ∀ {s' : Shared} {G' : Hp}, Inv (X.blk s3 G1 scope ce fp) ([] ++ pinsAt fp s7.heap) σ8 G' s' → Nx G' → ∃ m, m < n ∧ ∃ i G, Inv (X.blk s3 G1 scope ce fp) [] (wipe σ (own.map (·.2))) G s' ∧ tn i s'.heap ∧ (∀ b ∈ fp, G b = none) ∧ W i m G := fun {s' G'} I' nx => by
        obtain ⟨m', lt, w'⟩ := hNx G' nx
        have pn : ∀ b ∈ fp, ∀ o, s7.heap.get? b = some o → s'.heap.get? b = some o ∧ G' b = none := fun b hb o e => by
          obtain ⟨z1, z2, _⟩ := I'.pin (b, o) (List.mem_append_right _ (List.mem_append_right _ (mem_pinsAt hb e)))
          exact ⟨z1, z2⟩
        refine ⟨m', lt, i + 1, G', (I'.unpinned (pins := [])).weak (by rw [← w8, wipe_length]) (fun j v e => ?_), T.keep _ _ _ at7 fun b hb o e => (pn b hb o e).1, fun b hb => ?_, w'⟩
        · rw [← w8] at e
          exact (wipe_some e).1
        · obtain ⟨o, e, _⟩ := T.obj _ _ at7 b hb
          exact (pn b hb o e).2
      cases b with
      | false =>
        rw [if_neg Bool.false_ne_true] at q9 ⊢
        exact next I9 q9
      | true =>
        rw [if_pos rfl] at q9 ⊢
        refine thnF (pe.run _ s9 σ8 G9 _ I9 q9) fun z s10 ⟨y, G10, I10, r10, c, S, k, ey, hD, rm, nx⟩ => ?_
        subst ey
        have ad := mt_saddK (X := X.blk s3 G1 scope ce fp) ([] ++ pinsAt fp s7.heap) s10 σ8 G10 (.ref D) [kV c] (.ref D) [z] (fun _ G => Nx G) I10 rfl (.cons r10 .nil) ⟨D, c, S, k, rfl, rfl, hD, rm, nx⟩
        exact thnF ad fun _ s11 ⟨_, G11, I11, _, nx⟩ => next I11 nx
  have fin := PpSet.codeAny_compStart_set loop (T.self X.A 0 _ _ _ at2 loop)
  rw [es4, ece, ecl] at fin
  rw [← es3]
  exact fin
theorem pe_scK {elt tg iter : Expr} {ifs : List Expr} {scope : Scope} {own : List (Str × Nat)} {pos : Pos} {wi : TI} {g : TG} {tt : TT} {te : TE} (hc : X.calm = true) (hN : X.N.Nodup) (hi : PI X tg iter wi) (ok : BlkOk X.N X.env.scope scope own)
    (hg : ∀ (s : Shared) (H : Hp) (C : Addr) (cl : List (Str × Addr)) (fp : List Addr), PG (X.blk s H scope (compEnvC scope cl C X.env) fp) tg g) (ht : ∀ (s : Shared) (H : Hp) (C : Addr) (cl : List (Str × Addr)) (fp : List Addr), PTs (X.blk s H scope (compEnvC scope cl C X.env) fp) ifs tt)
    (he : ∀ (s : Shared) (H : Hp) (C : Addr) (cl : List (Str × Addr)) (fp : List Addr), PE (X.blk s H scope (compEnvC scope cl C X.env) fp) elt te) (hs : ∀ x, foldedSetIterable iter X.env x = pure x := by intro _; rfl) :
    PE X (.SetComp elt [⟨tg, iter, ifs, 0⟩] scope pos) (tScK X.prog X.w wi g tt te (own.map (·.2))) := by
  refine ⟨fun pins s σ H Q I t => ?_⟩
  rw [PpSet.eval_SetComp]
  refine scK_core hc hN I hi ok hg ht he hs t fun D C s' m G I' qq hn f => ⟨m, hn, fun h'' sb => ?_⟩
  obtain ⟨f0, f1, f2, f3, f4, f5⟩ := f
  exact ⟨.ref D, G, I'.turned (t' := s'.toks) (fun b o hb e => (sb.2 b hb).trans e) f0 f1 f3 f4 f5, rfl, qq⟩
end
section
variable {K : ZZ} {φ : List Addr} {H : Hp}
abbrev MemK (l : List Key) : Key → Bool := fun k => l.any fun j => decide (j = k)
theorem mem_addK (l : List Key) (k : Key) : MemK (addK l k) = fun j => MemK l j || decide (j = k) := by
  funext j
  show (addK l k).any (fun i => decide (i = j)) = (l.any (fun i => decide (i = j)) || decide (j = k))
  unfold addK
  split
  · rename_i e
    by_cases z : j = k
    · subst z
      rw [e]
      rfl
    · rw [decide_eq_false z, Bool.or_false]
  · rw [List.any_append]
    congr 1
    show (decide (k = j) || false) = _
    rw [Bool.or_false]
    exact decide_eq_decide.mpr eq_comm
theorem len_addK (l : List Key) (k : Key) : (addK l k).length = if MemK l k = true then l.length else l.length + 1 := by
  unfold addK
  split
  · rfl
  · simp
theorem nd_addK {l : List Key} {k : Key} (h : l.Nodup) : (addK l k).Nodup := by
  unfold addK
  split
  · exact h
  · rename_i e
    rw [List.nodup_append]
    refine ⟨h, by simp, fun a ha b hb z => e ?_⟩
    rw [List.mem_singleton.mp hb] at z
    exact List.any_eq_true.mpr ⟨a, ha, decide_eq_true z⟩
theorem len_addK_le (l : List Key) (k : Key) : (addK l k).length ≤ l.length + 1 := by
  rw [len_addK]
  split <;> omega
theorem fold_nd : ∀ (ks l : List Key), l.Nodup → (ks.foldl addK l).Nodup
  | [], _, h => h
  | k :: ks, l, h => fold_nd ks _ (nd_addK h)
theorem fold_len : ∀ (ks l : List Key), (ks.foldl addK l).length ≤ l.length + ks.length
  | [], l => Nat.le_refl _
  | k :: ks, l => by
    have h1 := fold_len ks (addK l k)
    have h2 := len_addK_le l k
    rw [List.foldl_cons, List.length_cons]
    omega
theorem mapO_get {α β : Type} {f : α → Option β} : ∀ {l : List α} {r : List β}, mapO f l = some r → l.length = r.length ∧ ∀ (i : Nat) x, l[i]? = some x → ∃ y, r[i]? = some y ∧ f x = some y
  | [], r, e => by
    cases e
    exact ⟨rfl, fun i x h => by simp at h⟩
  | a :: l, r, e => by
    unfold mapO at e
    split at e
    · rename_i b s e1 e2
      cases e
      obtain ⟨h1, h2⟩ := mapO_get e2
      refine ⟨by simp [h1], fun i x h => ?_⟩
      cases i with
      | zero =>
        simp at h
        subst h
        exact ⟨b, rfl, e1⟩
      | succ i => exact h2 i x (by simpa using h)
    · cases e
theorem firsts_red {mg : Str → Option Value} {W : WX} {C : Calls} {j it : Nat} {ow : List Nat} (h1 : it ∈ ow) {σ : L2.St} {Q : VK} (l1 : it < σ.length) (t : tE K mg W C (.firsts j) σ H Q) :
    tScK K.P K.w (iSeq K.K (tVar j)) (gName it) tYes (tOp (rIxT K.K) (tVar it) (tC (.int 0))) ow σ H Q := by
  obtain ⟨ρ, φ, h, sm, re, o⟩ := t
  have o' : Out K mg (RV K) φ H (atS W σ) Q (firstsP (ρ.get j) h) := o
  unfold firstsP at o'
  split at o'
  rotate_left
  · exact o'.elim
  rename_i n g1
  split at o'
  rotate_left
  · exact o'.elim
  rename_i l hl
  split at o'
  rotate_left
  · exact o'.elim
  rename_i ks hk
  split at o'
  rotate_left
  · exact o'.elim
  rename_i hz
  have e' : ρ[j]? = some (some (.ref n)) := by
    unfold Env.get at g1
    split at g1
    · rename_i q hq
      cases g1
      exact hq
    · cases g1
  obtain ⟨v, s1, a, rfl, ha⟩ := re.get e'
  obtain ⟨a', ho, e1, e2, vs, e3, rv⟩ := sm.ob n _ hl
  have ea : a' = a := Option.some.inj (e1.symm.trans ha)
  subst ea
  subst e3
  obtain ⟨lk, gk⟩ := mapO_get hk
  have lv := rv.length
  refine ⟨_, s1, a', rfl, .inl ⟨⟨vs, .inl (.inl e2)⟩, fun D hD => ?_⟩⟩
  have Dne : a' ≠ D := fun z => by
    rw [z, hD] at e2
    cases e2
  have at_ : ∀ u, SqL K.K (upd H D u) a' vs := fun u => .inl (.inl (by rw [upd_ne Dne]; exact e2))
  refine ⟨fun i m G => m = vs.length - i ∧ i ≤ vs.length ∧ G = upd H D (SetK K.P K.w D (MemK ((ks.take i).foldl addK [])) ((ks.take i).foldl addK []).length), ⟨vs.length, rfl, Nat.zero_le _, rfl⟩, ?_⟩
  rintro i m G ⟨rfl, hi, rfl⟩
  by_cases lt : i < vs.length
  · refine .inr ⟨⟨vs, vs[i], at_ _, List.getElem?_eq_getElem lt⟩, fun G => G = upd H D (SetK K.P K.w D (MemK ((ks.take (i + 1)).foldl addK [])) ((ks.take (i + 1)).foldl addK []).length), fun G' z => ⟨vs.length - (i + 1), by omega, rfl, lt, z⟩, ?_⟩
    rintro x G' ⟨rfl, hx⟩
    have hx := hx vs (at_ _)
    obtain ⟨p, hp⟩ : ∃ p, l[i]? = some p := ⟨_, List.getElem?_eq_getElem (by omega)⟩
    obtain ⟨v', e4, rp⟩ := rv.get hp
    have ev : v' = x := Option.some.inj (e4.symm.trans hx)
    subst ev
    obtain ⟨k, ek, fk⟩ := gk i p hp
    have rp := rp.mono (Ext.new (φ := φ) hD (o := SetK K.P K.w D (MemK ((ks.take i).foldl addK [])) ((ks.take i).foldl addK []).length))
    have wl : (L2.wipe σ ow).length = σ.length := wipe_length σ ow
    refine ⟨by rw [wipe_set h1, wipe_wipe ow fun _ z => z], ?_⟩
    unfold tYes
    simp only [if_true]
    refine ⟨_, List.getElem?_set_self (by omega), ?_⟩
    cases p with
    | tup ps =>
      cases ps with
      | nil => cases fk
      | cons p0 ps =>
        obtain ⟨ad, ws, rfl, hq, rr⟩ := rp
        obtain ⟨w0, ws', rfl, r0, rr'⟩ := rr
        have kw : w0 = kV k := keyOf_rel r0 fk
        subst kw
        have bl := fold_len (ks.take i) []
        rw [List.length_take, List.length_nil] at bl
        refine ⟨ad, kV k :: ws', 0, kV k, rfl, rfl, hq.sq, by simp [atI, ixN], k, _, _, rfl, upd_same, ?_, ?_⟩
        · show _ + 1 < 4096
          omega
        · have et : (ks.take (i + 1)).foldl addK [] = addK ((ks.take i).foldl addK []) k := by
            rw [List.take_add_one, ek, List.foldl_append]
            rfl
          rw [et, mem_addK, len_addK]
          funext c
          by_cases z : c = D
          · subst z
            rw [upd_same, upd_same]
          · rw [upd_ne z, upd_ne z, upd_ne z]
    | _ => cases fk
  · have ei : i = ks.length := by omega
    refine .inl ⟨⟨vs, at_ _, by omega⟩, ?_⟩
    rw [ei, List.take_length]
    have nd := fold_nd ks [] List.nodup_nil
    exact (show Out K mg (RV K) φ H (atS W σ) Q (.ok (.ste (ks.foldl addK [])) h) from o') φ _ (.ref D) (Ext.new hD) (sm.new hD) ⟨D, rfl, upd_same, sm.out hD, nd⟩
end
section
variable {X : Cx} {W : WX} {C : Calls}
theorem je_firsts {et e0 ed tg : Expr} {ps pos : Pos} {scope : Scope} {own : List (Str × Nat)} {j it : Nat} (hc : X.calm = true) (hN : X.N.Nodup) (hd : PE X ed (tVar j)) (ok : BlkOk X.N X.env.scope scope own)
    (hg : ∀ (s : Shared) (H : Hp) (C : Addr) (cl : List (Str × Addr)) (fp : List Addr), PG (X.blk s H scope (compEnvC scope cl C X.env) fp) tg (gName it))
    (ht : ∀ (s : Shared) (H : Hp) (C : Addr) (cl : List (Str × Addr)) (fp : List Addr), PE (X.blk s H scope (compEnvC scope cl C X.env) fp) et (tVar it))
    (hk : ∀ (s : Shared) (H : Hp) (C : Addr) (cl : List (Str × Addr)) (fp : List Addr), PE (X.blk s H scope (compEnvC scope cl C X.env) fp) e0 (tC (.int 0)))
    (hp : PlainIx e0 := by exact fun _ _ => rfl) (l1 : it < X.N.length := by exact Nat.le_of_ble_eq_true rfl) (h1 : it ∈ own.map (·.2) := by decide) (hs : ∀ x, foldedSetIterable ed X.env x = pure x := by intro _; rfl) :
    JE X W C (.SetComp (.Subscript et e0 ps) [⟨tg, ed, [], 0⟩] scope pos) (.firsts j) := by
  have hz : zOf X = ⟨X.K, [], X.prog, X.w⟩ := z_calm hc
  have he : ∀ (s : Shared) (H : Hp) (C : Addr) (cl : List (Str × Addr)) (fp : List Addr), PE (X.blk s H scope (compEnvC scope cl C X.env) fp) (.Subscript et e0 ps) (tOp (rIxT X.K) (tVar it) (tC (.int 0))) := fun s H C cl fp => pe_ix (X := X.blk s H scope (compEnvC scope cl C X.env) fp) ix_tup (ht s H C cl fp) (hk s H C cl fp) hp
  have P := pe_scK (pos := pos) hc hN (pi_seq (tg := tg) hd) ok hg (fun _ _ _ _ _ => pts_nil) he hs
  refine ⟨fun pins s σ H Q I t => P.run pins s σ H Q I ?_⟩
  have r := firsts_red (ow := own.map (·.2)) h1 (by rw [I.len]; exact l1) t
  rw [hz] at r
  exact r
end
end Sb
set_option Elab.async false
set_option linter.all false
set_option maxRecDepth 100000
set_option maxHeartbeats 4000000
namespace Sb
open PySem PySem.Spec PyProof.Rows L2
section
variable {X : Cx}
/-- the name is stored while the comprehension's block still stands -/
theorem used_store {pins : List (Addr × Obj)} {s' : Shared} {σ : L2.St} {G : Hp} {D : Ends} {L C : Addr} {m : Str → Option Value} {i : Nat} {y : Str} {py : Pos} (hN : X.N.Nodup) (hy : X.N[i]? = some y) (hyl : X.env.scope.names.lookup y = some .local)
    (I' : Inv X pins σ G s') (q : gName i (.ref L) σ G D.nx) (hn : s'.heap.Ns C m) (f : FpOk X pins G C) :
    compPost (model X.prog X.w) X.A X.xe (some (assign (.Name y py) X.env)) (fun _ s' => SP X pins D .next s') (.ref L) C (.ok .next) s' := by
  show wpAny _ _ (assign (.Name y py) X.env (.ref L)) _ _ _
  obtain ⟨f0, f1, f2, f3, f4, f5⟩ := f
  refine wpAny_assign_Name (store_ok2 (v := V.ref L) I' hN hy (.inl hyl) rfl (fun s2 I2 z => ?_) (.inr hyl))
  obtain ⟨a, sb, ha⟩ := z
  have ne : C ≠ a := ha.elim (fun e => by rw [e]; exact f1) fun e h => f4 y a e h.symm
  exact ⟨m, hn.sameBut sb ne, fun h3 sb3 => ⟨_, G, I2.turned (t' := s2.toks) (fun b o hb e => (sb3.2 b hb).trans e) f0 f1 f3 f4 f5, q⟩⟩
theorem ps_setDc {i : Nat} {y : Str} {py : Pos} {kx vx tg iter : Expr} {ifs : List Expr} {scope : Scope} {own : List (Str × Nat)} {pos spos : Pos} {wi : TI} {g : TG} {tt : TT} {tk tv : TE} (hc : X.calm = true) (hN : X.N.Nodup) (hy : X.N[i]? = some y) (hyl : X.env.scope.names.lookup y = some .local)
    (hsw : swapsWith (.DictComp kx vx [⟨tg, iter, ifs, 0⟩] scope pos) (some (.Name y py)) spos.line X.env = pure true) (hi : PI X tg iter wi) (ok : BlkOk X.N X.env.scope scope own)
    (hg : ∀ (s : Shared) (H : Hp) (C : Addr) (cl : List (Str × Addr)) (fp : List Addr), PG (X.blk s H scope (compEnvC scope cl C X.env) fp) tg g) (ht : ∀ (s : Shared) (H : Hp) (C : Addr) (cl : List (Str × Addr)) (fp : List Addr), PTs (X.blk s H scope (compEnvC scope cl C X.env) fp) ifs tt)
    (hk : ∀ (s : Shared) (H : Hp) (C : Addr) (cl : List (Str × Addr)) (fp : List Addr), PE (X.blk s H scope (compEnvC scope cl C X.env) fp) kx tk)
    (he : ∀ (s : Shared) (H : Hp) (C : Addr) (cl : List (Str × Addr)) (fp : List Addr), PE (X.blk s H scope (compEnvC scope cl C X.env) fp) vx tv) (hs : ∀ x, foldedSetIterable iter X.env x = pure x := by intro _; rfl) :
    PS X (.Assign [.Name y py] (.DictComp kx vx [⟨tg, iter, ifs, 0⟩] scope pos) spos) (tAsg (tDc wi g tt tk tv (own.map (·.2))) (gName i)) := by
  refine ⟨fun pins s σ H D I h => ?_⟩
  rw [exec_Assign_Name_used _ _ _ _ hsw]
  refine wpAny_bind (wpAny_standAt (wpAny_bind ?_))
  show wpAny _ X.A (do let _ ← comprehension (.DictComp kx vx [⟨tg, iter, ifs, 0⟩] scope pos) scope X.env (firstIterPos [⟨tg, iter, ifs, 0⟩] pos) newDict false (eval iter X.env) (some (assign (.Name y py) X.env))) _ _ s
  have h : tDc wi g tt tk tv (own.map (·.2)) σ H (fun x H1 => gName i x σ H1 D.nx) := h
  exact wpAny_bind (thn (dc_core (Qf := fun _ s' => SP X pins D .next s') hc hN I hi ok hg ht hk he hs h fun L C s' m G I' q hn f => used_store hN hy hyl I' q hn f) fun _ s' hq => wpAny_pure (wpAny_pure hq))
theorem swD {kx vx : Expr} {gs : List Comprehension} {scope : Scope} {pos py : Pos} {y : Str} {l : Nat} {env : PySem.Env} (hk : env.scope.kind = .function) (hy : env.scope.names.lookup y = some .local) (hl : (py.line == pos.line) = true)
    (ha : (scope.names.any fun (n, k) => n == y && (k == .local || k == .cell)) = false) : swapsWith (.DictComp kx vx gs scope pos) (some (.Name y py)) l env = pure true := by
  have ky : env.kindOf y = some .local := hy
  have hb : env.blockKind = .function := by unfold PySem.Env.blockKind; rw [hk]; rfl
  unfold swapsWith
  simp only [hb, ky, ha, Expr.pos, hl]
  rfl
/-- a name's value, as the layer reads it -/
theorem pr_var (i : Nat) {x : Str} {pos : Pos} (hN : X.N[i]? = some x := by rfl) (hv : Vis X.env.scope x := by first | exact Or.inl rfl | exact Or.inr (Or.inl rfl) | exact Or.inr (Or.inr rfl)) (hd : (x == ("__debug__" : Str)) = false := by decide)
    (hcd : (x == ("__classdict__" : Str)) = false := by decide) : PE X (.Name x pos) (tVar i) := pe_var hN hv hd hcd
theorem tgs_star {i : Nat} {x : Str} {pos sp : Pos} (hN : X.N.Nodup) (hi : X.N[i]? = some x := by rfl) (hx : Loc X.env.scope x := by first | exact .inl rfl | exact .inr rfl) (hf : X.fn x = true ∨ X.env.scope.names.lookup x = some .local := by first | exact .inl rfl | exact .inr rfl | assumption) : PGs X [.Starred (.Name x pos) sp] (gNs [i]) := pgs_star (pg_name hN hi hx hf) pgs_nil
theorem tg_star {es : List Expr} {kk : Nat} {pos : Pos} {is : List Nat} (n : Nat) (hc : X.calm = true) (h : PGs X es (gNs is)) (hl : is.length = n + 1 := by rfl) (hn : (assignEach es X.env).length = n + 1 := by rfl) (hst : (assignEach es X.env).findIdx? (·.1) = some n := by rfl) : PG X (.Tuple es kk pos) (gT X.K is .star) := by
  show PG X (.Tuple es kk pos) (gStar X.K is.length (gNs is))
  rw [hl]
  exact pg_star hc h hn hst
end
section
variable {X : Cx} {W : WX} {C : Calls}
theorem js_setD {i : Nat} {y : Str} {py : Pos} {kx vx tg iter : Expr} {ifs : List Expr} {scope : Scope} {own : List (Str × Nat)} {pos spos : Pos} {ke ve : E} {is : List Nat} {one : TgK} {k : ITK} {its : List E} {cond : Option E} (hc : X.calm = true) (hN : X.N.Nodup) (hi : JI X W C tg iter k its) (ok : BlkOk X.N X.env.scope scope own)
    (hg : ∀ (s : Shared) (H : Hp) (C : Addr) (cl : List (Str × Addr)) (fp : List Addr), PG (X.blk s H scope (compEnvC scope cl C X.env) fp) tg (gT X.K is one)) (ht : ∀ (s : Shared) (H : Hp) (C' : Addr) (cl : List (Str × Addr)) (fp : List Addr), PTs (X.blk s H scope (compEnvC scope cl C' X.env) fp) ifs (tCond (zOf (X.blk s H scope (compEnvC scope cl C' X.env) fp)) X.mg C cond))
    (hk : ∀ (s : Shared) (H : Hp) (C' : Addr) (cl : List (Str × Addr)) (fp : List Addr), JE (X.blk s H scope (compEnvC scope cl C' X.env) fp) W0 C kx ke)
    (he : ∀ (s : Shared) (H : Hp) (C' : Addr) (cl : List (Str × Addr)) (fp : List Addr), JE (X.blk s H scope (compEnvC scope cl C' X.env) fp) W0 C vx ve) (hy : X.N[i]? = some y := by rfl) (hyl : X.env.scope.names.lookup y = some .local := by rfl)
    (hsw : swapsWith (.DictComp kx vx [⟨tg, iter, ifs, 0⟩] scope pos) (some (.Name y py)) spos.line X.env = pure true := by exact swD rfl rfl rfl (by decide +kernel)) (his : ∀ i ∈ is, i ∈ own.map (·.2) := by decide) (hs : ∀ x, foldedSetIterable iter X.env x = pure x := by intro _; rfl) :
    JS X W C (.Assign [.Name y py] (.DictComp kx vx [⟨tg, iter, ifs, 0⟩] scope pos) spos) (.asg (.nm i) (.dcomp ke ve is one k its cond (own.map (·.2)))) := by
  have hz : zOf X = ⟨X.K, [], X.prog, X.w⟩ := z_calm hc
  have hzb : ∀ (s : Shared) (H : Hp) (cenv : PySem.Env) (fp : List Addr), zOf (X.blk s H scope cenv fp) = ⟨X.K, [], X.prog, X.w⟩ := fun s H cenv fp => z_calm (X := X.blk s H scope cenv fp) hc
  have ht' : ∀ (s : Shared) (H : Hp) (C' : Addr) (cl : List (Str × Addr)) (fp : List Addr), PTs (X.blk s H scope (compEnvC scope cl C' X.env) fp) ifs (tCond ⟨X.K, [], X.prog, X.w⟩ X.mg C cond) := fun s H C' cl fp => by
    have z := ht s H C' cl fp
    rw [hzb] at z
    exact z
  have hk' : ∀ (s : Shared) (H : Hp) (C' : Addr) (cl : List (Str × Addr)) (fp : List Addr), PE (X.blk s H scope (compEnvC scope cl C' X.env) fp) kx (tE ⟨X.K, [], X.prog, X.w⟩ X.mg W0 C ke) := fun s H C' cl fp => by
    have z := hk s H C' cl fp
    unfold JE at z
    rw [hzb] at z
    exact z
  have he' : ∀ (s : Shared) (H : Hp) (C' : Addr) (cl : List (Str × Addr)) (fp : List Addr), PE (X.blk s H scope (compEnvC scope cl C' X.env) fp) vx (tE ⟨X.K, [], X.prog, X.w⟩ X.mg W0 C ve) := fun s H C' cl fp => by
    have z := he s H C' cl fp
    unfold JE at z
    rw [hzb] at z
    exact z
  exact ps_imp (ps_setDc (tk := tE ⟨X.K, [], X.prog, X.w⟩ X.mg W0 C ke) (tv := tE ⟨X.K, [], X.prog, X.w⟩ X.mg W0 C ve) hc hN hy hyl hsw hi ok hg ht' hk' he' hs) fun D σ H t => by
    have t' := asg_red (X := X) (fun _ z => dcomp_red his z) t
    rw [← hz]
    exact t'
theorem js_setM {i : Nat} {y : Str} {py : Pos} {kx em ef en em2 ed : Expr} {elts : List Expr} {kk : Nat} {tpos apos cpos p1 p2 pos spos : Pos} {scope : Scope} {own : List (Str × Nat)} {d nr fr is im : Nat} (hu : X.A.units + 66 < cLine) (hc : X.calm = true) (hN : X.N.Nodup) (hd : PE X ed (tVar d)) (ok : BlkOk X.N X.env.scope scope own)
    (hg : ∀ (s : Shared) (H : Hp) (C : Addr) (cl : List (Str × Addr)) (fp : List Addr), PG (X.blk s H scope (compEnvC scope cl C X.env) fp) (.Tuple elts kk tpos) (gT X.K [is, im] .tup))
    (hk : ∀ (s : Shared) (H : Hp) (C : Addr) (cl : List (Str × Addr)) (fp : List Addr), PE (X.blk s H scope (compEnvC scope cl C X.env) fp) kx (tVar is))
    (hm : ∀ (s : Shared) (H : Hp) (C : Addr) (cl : List (Str × Addr)) (fp : List Addr), PE (X.blk s H scope (compEnvC scope cl C X.env) fp) em (tVar im))
    (hf : ∀ (s : Shared) (H : Hp) (C : Addr) (cl : List (Str × Addr)) (fp : List Addr), PE (X.blk s H scope (compEnvC scope cl C X.env) fp) ef (tVar fr))
    (hn : ∀ (s : Shared) (H : Hp) (C : Addr) (cl : List (Str × Addr)) (fp : List Addr), PE (X.blk s H scope (compEnvC scope cl C X.env) fp) en (tVar nr))
    (hm2 : ∀ (s : Shared) (H : Hp) (C : Addr) (cl : List (Str × Addr)) (fp : List Addr), PE (X.blk s H scope (compEnvC scope cl C X.env) fp) em2 (tVar im))
    (hy : X.N[i]? = some y := by rfl) (hyl : X.env.scope.names.lookup y = some .local := by rfl)
    (hsw : swapsWith (.DictComp kx (.IfExp (.Compare em [.Eq] [ef] p1) en em2 p2) [⟨.Tuple elts kk tpos, .Call (.Attribute ed "items" apos) [] [] cpos, [], 0⟩] scope pos) (some (.Name y py)) spos.line X.env = pure true := by exact swD rfl rfl rfl (by decide +kernel))
    (l1 : is < X.N.length := by exact Nat.le_of_ble_eq_true rfl) (l2 : im < X.N.length := by exact Nat.le_of_ble_eq_true rfl) (h1 : is ∈ own.map (·.2) := by decide) (h2 : im ∈ own.map (·.2) := by decide) (h3 : nr ∉ own.map (·.2) := by decide) (h4 : fr ∉ own.map (·.2) := by decide) (h5 : is ≠ im := by decide)
    (hb : attributeBase ed "items" X.env (eval ed X.env) = eval ed X.env := by rfl) (hl : (apos.endLine == cpos.line) = true := by rfl) (hbm : behindInMarks .Eq ef = false := by rfl)
    (hs : ∀ x, foldedSetIterable (.Call (.Attribute ed "items" apos) [] [] cpos) X.env x = pure x := by intro _; rfl) :
    JS X W C (.Assign [.Name y py] (.DictComp kx (.IfExp (.Compare em [.Eq] [ef] p1) en em2 p2) [⟨.Tuple elts kk tpos, .Call (.Attribute ed "items" apos) [] [] cpos, [], 0⟩] scope pos) spos) (.asg (.nm i) (.remark d nr fr)) := by
  have hz : zOf X = ⟨X.K, [], X.prog, X.w⟩ := z_calm hc
  have hzb : ∀ (s : Shared) (H : Hp) (cenv : PySem.Env) (fp : List Addr), zOf (X.blk s H scope cenv fp) = ⟨X.K, [], X.prog, X.w⟩ := fun s H cenv fp => z_calm (X := X.blk s H scope cenv fp) hc
  have hv : ∀ (s : Shared) (H : Hp) (C : Addr) (cl : List (Str × Addr)) (fp : List Addr), PE (X.blk s H scope (compEnvC scope cl C X.env) fp) (.IfExp (.Compare em [.Eq] [ef] p1) en em2 p2) (tIf (tTest (tOp (fun x y H Q => ∃ W', rOp (zOf X) X.mg W' (cmpop .Eq) x y H Q) (tVar im) (tVar fr))) (tVar nr) (tVar im)) := fun s H C cl fp => by
    have z := pt_cmpR (pos := p1) (opr_any fun W' => cmp_ok (X := X.blk s H scope (compEnvC scope cl C X.env) fp) (W := W') hu .Eq) (hm s H C cl fp) (hf s H C cl fp) hbm
    rw [hzb, ← hz] at z
    exact pe_ifExp z (hn s H C cl fp) (hm2 s H C cl fp)
  have P := ps_lock (ps_setDc (spos := spos) (py := py) (pos := pos) hc hN hy hyl hsw (pi_items (elts := elts) (kk := kk) (tpos := tpos) (apos := apos) (cpos := cpos) hd hb hl) ok hg (fun _ _ _ _ _ => pts_nil) hk hv hs)
  refine ⟨fun pins s σ H D I t => P.run pins s σ H D I ?_⟩
  have e : (zOf X).K = X.K := by rw [hz]
  have r := asg_red (X := X) (te := tLockE (tDc (iItems (tVar d)) (gT (zOf X).K [is, im] .tup) tYes (tVar is) (tIf (tTest (tOp (fun x y H Q => ∃ W', rOp (zOf X) X.mg W' (cmpop .Eq) x y H Q) (tVar im) (tVar fr))) (tVar nr) (tVar im)) (own.map (·.2)))) (fun Q z => remark_red (ow := own.map (·.2)) h1 h2 h3 h4 h5 (by rw [I.len]; exact l1) (by rw [I.len]; exact l2) z) t
  rw [e] at r
  obtain ⟨d0, u, q1, q2, q3⟩ := r
  exact ⟨d0, u, q1, q2, q3⟩
end
end Sb
set_option Elab.async false
set_option linter.all false
set_option maxRecDepth 100000
set_option maxHeartbeats 4000000
namespace Sb
open PySem PySem.Spec PyProof.Rows L2
/-- the class BookError, as its name's attribute __init__ is read -/
structure BkI (K : PySem.W.Frag) (mg : Str → Option Value) (b : Str) : Prop where
  gl : mg b = some (.ref (He.ga K b))
  sp : PySem.W.specialIn K (.ref (He.ga K b)) "__getattribute__" = some (some (.builtin "type.__getattribute__"))
  rd : PySem.W.readsIn K (He.ga K b) (.type "type") = true
  fd : PySem.W.findCls K (.ref (He.ga K b)) (.type "type") "__init__" = some (.val (.builtin "ValueError.__init__"))
section
variable {X : Cx} {o e : Expr} {es : List Expr} {to te : TE} {ta : TA} {f b : Str} {p p' p1 p2 pos : Pos}
theorem pe_binit {pl : Sem Bool} (B : BkI X.K X.mg b) (ha : PA X (e :: es) ta) (hg : Gl X b := by rfl) (hdb : (b == ("__debug__" : Str)) = false := by decide)
    (hc : eval (.Call (.Attribute (.Name b p1) "__init__" p2) (e :: es) [] pos) X.env = (do
      let ov ← eval (.Name b p1) X.env
      standAt p2.atName
      let (f, first) ← holding [ov] (getMethod ov "__init__" pl)
      callWith pos f first (backTo pos (starEach (e :: es) X.env)) (backToKw pos (keywordEach [] X.env))) := by rfl)
    (he : starEach (e :: es) X.env = (false, eval e X.env) :: starEach es X.env := by rfl) (hpl : (backTo pos (starEach es X.env)).any (·.1) = false := by rfl) :
    PE X (.Call (.Attribute (.Name b p1) "__init__" p2) (e :: es) [] pos) (tVeI X.K ta) := by
  refine ⟨fun pins s σ H Q I h => ?_⟩
  refine PySem.W.methodCall_KW (ld_glob I hg B.gl ?_ hdb) hc
  refine PySem.W.method_cls I.kIn B.sp (PySem.W.cls_value I.kIn B.rd B.fd (by decide +kernel) ?_)
  show wpAny _ _ (callWith pos (Value.builtin "ValueError.__init__") [] (backTo pos (starEach (e :: es) X.env)) []) _ _ _
  refine PyProof.Rows.callWith_method1 (thn (ha.run pos pins _ σ H _ (I.tok _) h) fun us s1 ⟨vs, H1, I1, r1, a, C, ws, ev, hl, T, ea, q⟩ => ?_) he hpl
  subst ev
  cases r1 with
  | @cons _ u0 _ ur ra rw' =>
    obtain rfl : u0 = Value.ref a := ra
    have hlen : ur.length ≤ sizeLine := by
      rw [← Paired.length rw', sizeLine_eq]
      omega
    exact oinit_ok T I1 ea hlen fun s' J => ⟨.non, H1, J, rfl, q⟩
end
/-- what an own __init__ keeps -/
def spI (C : Addr) (fs : List Str) : Sp := fun vs H Q _ => ∃ (a : Addr) (ys : List V), vs = .ref a :: ys ∧ ys.length = fs.length ∧ H a = some (exo a C none) ∧ ∀ d, H d = none → d ≠ a → Q .non (upd (upd H d (exd d (fs.zip ys).reverse)) a (exo a C (some d)))
theorem upd_swap3 {H : Hp} {a d : Addr} {A B E : HO} (h : d ≠ a) : upd (upd (upd H d A) a E) d B = upd (upd H d B) a E := by
  funext b
  by_cases h1 : b = d
  · rw [h1, upd_same, upd_ne h, upd_same]
  · by_cases h2 : b = a
    · rw [h2, upd_ne (Ne.symm h), upd_same, upd_same]
    · rw [upd_ne h1, upd_ne h2, upd_ne h1, upd_ne h2, upd_ne h1]
abbrev tI0 (K : PySem.W.Frag) (txt : Str) : TS := tDrop (tVeI K (tCons (tVar 0) (tCons (tC (.str txt)) tNil)))
section
variable {P : Program} {w : World} {K : PySem.W.Frag} {mg : Str → Option Value} {base : Heap} {b qual txt f1 f2 q1 q2 : Str} {params : Arguments} {body : List Stmt} {scope : Scope} {fa C : Addr} {fd : FuncData}
/-- __init__(self, q1): BookError.__init__(self, text); self.f1 = q1 -/
theorem init1 (F : FunD K "__init__" qual params body scope [] [] fa fd) (S : FnScope ["self", q1] ["self", q1] scope) (T : OexC K C) (hn : PySem.W.findIn K (.ref C) f1 = some none)
    (hb : ∀ (cdv : Value) (A : Around) (outer : List PySem.Env) (s : Shared) (H : Hp) (E : XK), PSs (cxOf (L2N.CX P w) P w K mg base ["self", q1] qual scope fa cdv A outer s H E) body (tSeq (tI0 K txt) (tSeq (tOst K f1 (tVar 0) (tVar 1)) tNext))) :
    FnOk P w K mg base (L2N.CX P w) (0 + 1) fa fd ["self", q1] (spI C [f1]) := by
  refine FunD.okC F S (fun vs H Q E h => ?_) fun cdv A outer s H vs Q E hcd hr h => ?_
  · obtain ⟨a, ys, rfl, hl, _⟩ := h
    simp [hl]
  · obtain ⟨a, ys, rfl, hl, ha, q⟩ := h
    obtain ⟨y, rfl⟩ : ∃ y, ys = [y] := by
      match ys, hl with
      | [y], _ => exact ⟨y, rfl⟩
    refine ⟨_, hb cdv A outer s H E, ?_⟩
    refine ⟨.ref a, rfl, a, C, [.str txt], rfl, by simp, T, ha, ?_⟩
    refine ⟨y, rfl, .ref a, rfl, a, C, rfl, T, hn, .inl ⟨ha, fun dx n ne => ?_⟩⟩
    exact q dx n ne
theorem init2 (F : FunD K "__init__" qual params body scope [] [] fa fd) (S : FnScope ["self", q1, q2] ["self", q1, q2] scope) (T : OexC K C) (hn : PySem.W.findIn K (.ref C) f1 = some none) (hn2 : PySem.W.findIn K (.ref C) f2 = some none)
    (hb : ∀ (cdv : Value) (A : Around) (outer : List PySem.Env) (s : Shared) (H : Hp) (E : XK), PSs (cxOf (L2N.CX P w) P w K mg base ["self", q1, q2] qual scope fa cdv A outer s H E) body (tSeq (tI0 K txt) (tSeq (tOst K f1 (tVar 0) (tVar 1)) (tSeq (tOst K f2 (tVar 0) (tVar 2)) tNext)))) :
    FnOk P w K mg base (L2N.CX P w) (0 + 1) fa fd ["self", q1, q2] (spI C [f1, f2]) := by
  refine FunD.okC F S (fun vs H Q E h => ?_) fun cdv A outer s H vs Q E hcd hr h => ?_
  · obtain ⟨a, ys, rfl, hl, _⟩ := h
    simp [hl]
  · obtain ⟨a, ys, rfl, hl, ha, q⟩ := h
    obtain ⟨y, z, rfl⟩ : ∃ y z, ys = [y, z] := by
      match ys, hl with
      | [y, z], _ => exact ⟨y, z, rfl⟩
    refine ⟨_, hb cdv A outer s H E, ?_⟩
    refine ⟨.ref a, rfl, a, C, [.str txt], rfl, by simp, T, ha, ?_⟩
    refine ⟨y, rfl, .ref a, rfl, a, C, rfl, T, hn, .inl ⟨ha, fun dx n ne => ?_⟩⟩
    refine ⟨z, rfl, .ref a, rfl, a, C, rfl, T, hn2, .inr ⟨dx, [(f1, y)], upd_same, by rw [upd_ne ne, upd_same], by simp, ?_⟩⟩
    have := q dx n ne
    rw [← upd_swap3 (A := exd dx [(f1, y)]) ne] at this
    exact this
end
section
variable {X : Cx} {e : Expr} {es : List Expr} {ta : TA} {p pos : Pos}
/-- x(e, ..), x an own class with its own __init__ -/
theorem pmkN {x : Str} {C fI : Addr} {k : Nat} {fd : FuncData} {ps : List Str} {sp : Sp} (T : OexC X.K C) (iC : PySem.W.findIn X.K (.ref C) "__init__" = some (some (.ref fI))) (tI : PySem.W.typeIn X.K (.ref fI) = some (.type "function"))
    (F1 : FnOk X.prog X.w X.K X.mg X.base (L2N.CX X.prog X.w) k fI fd ps sp) (hr : Room (k + 1) X.A) (hb : Binds X.K fd ps []) (hm : X.mg x = some (.ref C)) (ha : PA X (e :: es) ta) (hg : Gl X x)
    (hdb : (x == ("__debug__" : Str)) = false) (he : starEach (e :: es) X.env = (false, eval e X.env) :: starEach es X.env) (hpl : (backTo pos (starEach es X.env)).any (·.1) = false) :
    L2N.PMk X (.Call (.Name x p) (e :: es) [] pos) (tMkO C sp [] ta) := by
  intro pins s σ H Q I h
  obtain ⟨nm, q, N, bs, bm, sn, sub, ab, col, dd, k0, k1, k2, k3, k5, hC, hbm⟩ := T.cls
  refine wpAny_Call_Name_kw (ld_glob I hg hm ?_ hdb)
  refine PySem.W.callWith_K (h₀ := X.base) I.ok.mod.kin T.kC (thn (ha.run pos pins s σ H _ I h) fun us s1 ⟨vs, H1, I1, r1, hz, q1⟩ => ⟨I1.kIn, ?_⟩) he hpl
  show wpAny _ _ (PySem.call (.ref C) us) _ _ _
  obtain ⟨hp, g, dr, tk, os⟩ := s1
  have hsz : hp.objs.size ≤ hp.objs.size + 1 := Nat.le_succ _
  have hn : H1 (hp.objs.size + 1) = none := I1.hok.fresh hsz
  have hq := q1 (hp.objs.size + 1) hn
  have kk : ∀ b o, hp.get? b = some o → ((hp.push (PySem.W.kdv_tup us)).push (PySem.HandSPX.excO C hp.objs.size)).get? b = some o := fun b o e => Heap.get?_push_of_some _ (Heap.get?_push_of_some _ e)
  have hget : ((hp.push (PySem.W.kdv_tup us)).push (PySem.HandSPX.excO C hp.objs.size)).get? (hp.objs.size + 1) = some (PySem.HandSPX.excO C hp.objs.size) := by heap_get
  have I2 : Inv X pins σ (upd H1 (hp.objs.size + 1) (exo (hp.objs.size + 1) C none)) ⟨(hp.push (PySem.W.kdv_tup us)).push (PySem.HandSPX.excO C hp.objs.size), g, dr, tk, os⟩ :=
    I1.laid (t' := tk) (a := hp.objs.size + 1) (o := exo (hp.objs.size + 1) C none) (h' := (hp.push (PySem.W.kdv_tup us)).push (PySem.HandSPX.excO C hp.objs.size)) kk hsz (exo_ok hget)
  have r2 : Vals (V.ref (hp.objs.size + 1) :: (vs ++ [])) (Value.ref (hp.objs.size + 1) :: (us ++ [])) := .cons rfl (r1.append .nil)
  have hl : (Value.ref (hp.objs.size + 1) :: us ++ []).length = ps.length := by
    have e := r2.length
    rw [F1.len _ _ _ _ hq] at e
    exact e.symm
  have hus : us.length ≤ sizeLine := by
    rw [← Paired.length r1, sizeLine_eq]
    omega
  refine wpAny_call (PySem.HandSPX.call_own F.excBase_ValueError (fun Y => PySem.HandSPX.refsVE_contains Y bm hbm) (I1.kIn _ _ hC) (PySem.W.looks_findIn I1.kIn iC) (fun self => PySem.W.bind_fn I1.kIn self tI) hus
    (codeAny_mono (F1.run _ X.stack _ _ ⟨Value.ref (hp.objs.size + 1) :: us, []⟩ (Value.ref (hp.objs.size + 1) :: (us ++ [])) _ _ (fun _ _ _ => False) (hr.make C us []) (I2.env0.make C us []) (show BindsTo _ fd ⟨Value.ref (hp.objs.size + 1) :: us, []⟩ (ps.zip (Value.ref (hp.objs.size + 1) :: (us ++ []))) from hb _ (Value.ref (hp.objs.size + 1) :: us) I2.kIn hl) r2 hq) fun r s' hq' => ?_))
  cases r with
  | error er => exact (cxN_false hq').elim
  | ok fl =>
    cases fl with
    | ret u =>
      obtain ⟨v, H2, os2, bare2, un2, hok2, rv, ev, d, fs, ea, ed, hd1, q2⟩ := hq'
      subst ev
      obtain ⟨h2, g2, d2, t2, os'⟩ := s'
      refine ⟨rv, ?_⟩
      obtain ⟨t0, G, J, kG, ge, hoe, na⟩ := mk_end0 (d2 := d2) (t2 := t2) I1 hsz kk un2 hok2 os2 bare2 ea ed hd1
      exact ⟨hp.objs.size + 1, _, _, ⟨G, g2, d2, t2, os'⟩, _, .ref C, some d, rfl, J, kG, ge, hoe, ⟨rfl, rfl, fun vs e => by cases e; rfl⟩, rfl, rfl, na, rfl, bare2, raises_own T.exC T.tyC, q2⟩
    | next => exact False.elim hq'
    | brk => exact False.elim hq'
    | cont => exact False.elim hq'
end
/-- all that is known of a class x whose exceptions have the fields fs -/
structure XcI (P : Program) (w : World) (K : PySem.W.Frag) (mg : Str → Option Value) (base : Heap) (x : Str) (fs : List Str) : Prop where
  T : OexC K (He.ga K x)
  gl : mg x = some (.ref (He.ga K x))
  ini : ∃ (fI : Addr) (fd : FuncData) (ps : List Str), PySem.W.findIn K (.ref (He.ga K x)) "__init__" = some (some (.ref fI)) ∧ PySem.W.typeIn K (.ref fI) = some (.type "function") ∧ FnOk P w K mg base (L2N.CX P w) (0 + 1) fI fd ps (spI (He.ga K x) fs) ∧ Binds K fd ps []
theorem zip_rev {fs : List Str} : ∀ {ys : List V}, ys.length = fs.length → ((fs.zip ys).reverse.map (·.1)) = fs.reverse ∧ ((fs.zip ys).reverse.map (·.2)) = ys.reverse := by
  intro ys hl
  rw [List.map_reverse, List.map_reverse, List.map_fst_zip (by omega), List.map_snd_zip (by omega)]
  exact ⟨rfl, rfl⟩
theorem RVs.rev {K : ZZ} {φ : List Addr} {H : Hp} : ∀ {ps : List PV} {vs : List V}, RVs K φ H ps vs → RVs K φ H ps.reverse vs.reverse
  | [], vs, r => by
    have : vs = [] := r
    subst this
    exact rfl
  | p :: ps, vs, r => by
    obtain ⟨v, t, e, q, s⟩ := r
    subst e
    rw [List.reverse_cons, List.reverse_cons]
    exact (RVs.rev s).append (RVs.cons q RVs.nil)
section
variable {X : Cx} {W : WX} {C : Calls} {e : Expr} {es : List Expr} {ees : List E} {p pos pos2 : Pos}
theorem js_raise {x : Str} {fs ns : List Str} (I : XcI X.prog X.w X.K X.mg X.base x fs) (hc : X.calm = true) (tk : L2N.Takes X W) (hr : Room 2 X.A) (ha : JA X W C (e :: es) ees) (hl : ees.length = fs.length := by rfl) (hns : ns = fs.reverse := by rfl) (hl9 : fs.length ≤ 9 := by decide) (hg : Gl X x := by rfl)
    (hdb : (x == ("__debug__" : Str)) = false := by decide) (he : starEach (e :: es) X.env = (false, eval e X.env) :: starEach es X.env := by rfl) (hpl : (backTo pos (starEach es X.env)).any (·.1) = false := by rfl) :
    JS X W C (.Raise (some (.Call (.Name x p) (e :: es) [] pos)) none pos2) (.raise x ns ees) := by
  obtain ⟨fI, fd, ps, i1, i2, i3, i4⟩ := I.ini
  refine ps_imp (L2N.ps_raise hc tk (pmkN I.T i1 i2 i3 hr i4 I.gl ha hg hdb he hpl)) fun D σ H ⟨ρ, φ, h, sm, re, o⟩ => ?_
  have o' : OutS (zOf X) X.mg φ H W D ((evGs C ees ρ h).st ρ fun l h1 => .ex ⟨x, ns, l.reverse⟩ ρ h1) := o
  have llen : ∀ (es : List E) (ρ : Env) (h : PH) l h1, evGs C es ρ h = .ok l h1 → l.length = es.length := by
    intro es
    induction es with
    | nil =>
      intro ρ h l h1 q
      cases q
      rfl
    | cons a r ih =>
      intro ρ h l h1 q
      have q' : ((evG C a false ρ h).bind fun x h1 => (evGs C r ρ h1).bind fun l h2 => R.ok (x :: l) h2) = .ok l h1 := q
      cases q1 : evG C a false ρ h with
      | no => rw [q1] at q'; cases q'
      | ex y hh => rw [q1] at q'; cases q'
      | ok v hh =>
        rw [q1, R.bind_ok] at q'
        cases q2 : evGs C r ρ hh with
        | no => rw [q2] at q'; cases q'
        | ex y hh => rw [q2] at q'; cases q'
        | ok l2 hh2 =>
          rw [q2, R.bind_ok] at q'
          cases q'
          rw [List.length_cons, List.length_cons, ih _ _ _ _ q2]
  refine ⟨ρ, φ, h, sm, re, ?_⟩
  have key := OutS.st (rel := RVs (zOf X)) re o'
  cases eq : evGs C ees ρ h with
  | no => rw [eq] at key; exact key
  | ex y h1 => rw [eq] at key; exact key
  | ok l h1 =>
    rw [eq] at key
    have ll := llen _ _ _ _ _ eq
    intro φ1 H1 vs x1 s1 r1
    have lv := r1.length
    have o1 : OutS (zOf X) X.mg φ H W D (.ex ⟨x, ns, l.reverse⟩ ρ h1) := by
      rw [eq] at o'
      exact o'
    refine ⟨by omega, fun a na => ?_⟩
    rw [List.append_nil]
    refine ⟨a, vs, rfl, by omega, upd_same, fun d dn dne => ?_⟩
    rw [upd_ne dne] at dn
    refine ⟨rfl, d, (fs.zip vs).reverse, upd_same, by rw [upd_ne dne, upd_same], dn, ?_⟩
    have eH : upd (del (upd (upd (upd H1 a (exo a (He.ga X.K x) none)) d (exd d (fs.zip vs).reverse)) a (exo a (He.ga X.K x) (some d))) a) d (.xd (fs.zip vs).reverse) = upd H1 d (.xd (fs.zip vs).reverse) := by
      funext b
      by_cases h1 : b = d
      · rw [h1, upd_same, upd_same]
      · rw [upd_ne h1, upd_ne h1]
        by_cases h2 : b = a
        · rw [h2, del_same, na]
        · rw [del_ne h2, upd_ne h2, upd_ne h1, upd_ne h2]
    rw [eH]
    have dφ : d ∉ φ1 := fun hm => by
      obtain ⟨n, hn⟩ := List.getElem?_of_mem hm
      have hlt : n < h1.length := by
        rw [← s1.len]
        exact (List.getElem?_eq_some_iff.mp hn).1
      obtain ⟨b, ho, z1, z2, _⟩ := s1.ob n _ (List.getElem?_eq_getElem hlt)
      rw [hn] at z1
      cases z1
      rw [dn] at z2
      cases z2
    have zr := zip_rev (fs := fs) (ys := vs) (by omega)
    refine o1 φ1 _ σ _ _ (x1.trans (Ext.new dn)) (s1.new dn) ((re.mono x1).mono (Ext.new dn)) ⟨rfl, (fs.zip vs).reverse, .inr ⟨d, rfl, upd_same, dφ⟩, ?_, ?_⟩
    · rw [zr.1, hns]
    · rw [zr.2]
      exact (RVs.rev r1).mono (Ext.new dn)
end
theorem bkB_ok {K : PySem.W.Frag} {h : Heap} {mg : Str → Option Value} (X : K.In h) (G : h.Ns mainGlobals mg) {b : Str} (c : bkB K b = true) : BkI K mg b := by
  obtain ⟨c1, c⟩ := He.ba c
  obtain ⟨c2, c⟩ := He.ba c
  obtain ⟨c3, c4⟩ := He.ba c
  refine ⟨He.glo_ok X G c1, He.eqO_ok c2, c3, ?_⟩
  split at c4
  · rename_i n e
    rw [e, of_decide_eq_true c4]
  · cases c4
theorem oexB_ok {K : PySem.W.Frag} {C : Addr} (c : oexB K C = true) : OexC K C := by
  obtain ⟨c1, c⟩ := He.ba c
  obtain ⟨c2, c⟩ := He.ba c
  obtain ⟨c3, c⟩ := He.ba c
  obtain ⟨c4, c5⟩ := He.ba c
  refine ⟨?_, He.eqO_ok c2, of_decide_eq_true c3, of_decide_eq_true c4, c5⟩
  split at c1
  · rename_i dd cd sl ho
    split at c1
    · rename_i C' bm k0 k1 k2 k3 n k5 hm hs
      simp only [Bool.and_eq_true, beq_iff_eq, Bool.not_eq_true'] at c1
      obtain ⟨⟨⟨⟨rfl, rfl⟩, hdel⟩, hd⟩, hv⟩ := c1
      obtain ⟨nm, bs, mro, ns, qn, hdd, sn, sub, ab, col, del⟩ := cd
      dsimp only at hm hdel hd
      subst hm hdel hd
      have hsl : sl = #[k0, k1, k2, k3, some (.builtin "ValueError.__new__"), k5] := by
        obtain ⟨l⟩ := sl
        simp only at hs
        rw [hs]
      subst hsl
      exact ⟨nm, qn, ns, bs, bm, sn, sub, ab, col, dd, k0, k1, k2, k3, k5, ho, hv⟩
    · cases c1
  · cases c1
/-- the class x, its __init__, no attribute of the fields' names -/
theorem xcB_ok {K : PySem.W.Frag} {h : Heap} {mg : Str → Option Value} (X : K.In h) (G : h.Ns mainGlobals mg) {x : Str} {fs : List Str} (c : xcB K x fs = true) : OexC K (He.ga K x) ∧ mg x = some (.ref (He.ga K x)) ∧ PySem.W.findIn K (.ref (He.ga K x)) "__init__" = some (some (.ref (He.ma K (He.ga K x) "__init__"))) ∧ PySem.W.typeIn K (.ref (He.ma K (He.ga K x) "__init__")) = some (.type "function") ∧ ∀ f ∈ fs, PySem.W.findIn K (.ref (He.ga K x)) f = some none := by
  obtain ⟨c1, c⟩ := He.ba c
  obtain ⟨c2, c⟩ := He.ba c
  obtain ⟨c3, c⟩ := He.ba c
  obtain ⟨c4, c5⟩ := He.ba c
  exact ⟨oexB_ok c1, He.glo_ok X G c2, He.eqO_ok c3, of_decide_eq_true c4, fun f hf => He.eqO_ok (List.all_eq_true.mp c5 f hf)⟩
end Sb
set_option Elab.async false
set_option linter.all false
set_option maxRecDepth 100000
set_option maxHeartbeats 4000000
namespace Sb
open PySem PySem.Spec PyProof.Rows L2
section
variable {X : Cx} {W : XK}
theorem hot_mem {p : Addr × Obj} (h : p ∈ hotPn X) : p ∈ X.pn := by
  unfold hotPn at h
  split at h
  · cases h
  · exact List.mem_of_mem_take h
end
theorem _root_.L2H.RoomH.u66 {k : Nat} {A : Around} (r : L2H.RoomH k A) : A.units + 66 < cLine := by have := r.un; omega
theorem RE.length {K : ZZ} {φ : List Addr} {H : Hp} : ∀ {ρ : Env} {σ : L2.St}, RE K φ H ρ σ → σ.length = ρ.length
  | [], σ, h => by rw [show σ = [] from h]; rfl
  | q :: ρ, σ, h => by
    obtain ⟨w, r, e1, k, s⟩ := h
    rw [e1, List.length_cons, List.length_cons, RE.length s]
theorem fl_lookup {K : ZZ} {φ : List Addr} {H : Hp} {f : Str} : ∀ {gs : List (Str × V)} {vs : List PV} {p : PV}, RVs K φ H vs (gs.map (·.2)) → ((gs.map (·.1)).zip vs).lookup f = some p → ∃ v, gs.lookup f = some v ∧ RV K φ H p v
  | [], vs, p, r, e => by
    have : vs = [] := by
      cases vs with
      | nil => rfl
      | cons a b =>
        obtain ⟨v, t, e', _⟩ := r
        cases e'
    subst this
    cases e
  | g :: gs, [], p, r, e => by cases e
  | g :: gs, q :: vs, p, r, e => by
    obtain ⟨v, t, e', rq, rs⟩ := r
    obtain ⟨g1, g2⟩ := g
    simp only [List.map_cons, List.cons.injEq] at e'
    obtain ⟨rfl, rfl⟩ := e'
    simp only [List.map_cons, List.zip_cons_cons, List.lookup_cons] at e
    rw [List.lookup_cons]
    cases h : f == g1 with
    | true =>
      rw [h] at e
      cases e
      exact ⟨_, rfl, rq⟩
    | false =>
      rw [h] at e
      exact fl_lookup rs e
end Sb
set_option Elab.async false
set_option linter.all false
set_option maxRecDepth 100000
set_option maxHeartbeats 4000000
namespace Sb
open PySem PySem.Spec L2
structure FnD (P : Program) (w : World) (K : PySem.W.Frag) (mg : Str → Option Value) (base : Heap) (C : Calls) (k : Nat) (x : Str) (fi : Nat) (np : Nat) (dvs : List V) : Prop where
  ex : ∃ dus, Vals dvs dus ∧ FnI P w K mg base C k x fi np dus
section
variable {X : Cx} {W : WX} {C : Calls} {k : Nat} {x : Str} {p pos : Pos} {a : Expr} {as : List Expr} {ees : List E}
theorem je_callD {fi np : Nat} {ds : List PV} {dvs : List V} (G : FnD X.prog X.w X.K X.mg X.base C k x fi np dvs) (hcalm : X.calm = true) (rd : ∀ φ H, RVs ⟨X.K, [], X.prog, X.w⟩ φ H ds dvs) (hr : Room (k + 3) X.A) (tk : L2N.Takes X W) (ha : JA X W C (a :: as) ees)
    (hl : ees.length + ds.length = np := by rfl) (hg : Gl X x := by rfl) (hdb : (x == ("__debug__" : Str)) = false := by decide) (he : starEach (a :: as) X.env = (false, eval a X.env) :: starEach as X.env := by rfl) (hpl : (backTo pos (starEach as X.env)).any (·.1) = false := by rfl) :
    JE X W C (.Call (.Name x p) (a :: as) [] pos) (.call fi ees ds) := by
  obtain ⟨dus, v, g⟩ := G.ex
  exact je_calld g hcalm v rd hr tk ha hl hg hdb he hpl
end
theorem rd_int {Z : ZZ} {φ : List Addr} {H : Hp} (i : Int) : RVs Z φ H [.int i] [.int i] := ⟨_, _, rfl, rfl, rfl⟩
end Sb
set_option Elab.async false
set_option linter.all false
set_option maxRecDepth 100000
set_option maxHeartbeats 4000000
set_option Elab.async false
set_option linter.all false
set_option maxRecDepth 100000
set_option maxHeartbeats 4000000
set_option Elab.async false
set_option linter.all false
set_option maxRecDepth 100000
set_option maxHeartbeats 4000000
namespace Sb
open PySem PySem.Spec PyProof.Rows L2
/-- a new set's object -/
abbrev eSet (w : World) : Obj := ⟨.type "set", none, .set #[] 0 (.fresh 0 0 (!w.params.followText "set-order")), #[]⟩
end Sb
set_option Elab.async false
set_option linter.all false
set_option maxRecDepth 100000
set_option maxHeartbeats 4000000
namespace Sb
open PySem PySem.Spec PyProof.Rows L2
section
variable {K : PySem.W.Frag} {P : Program} {w : World} {φ : List Addr} {H : Hp} {pn pn' : List (Addr × Obj)}
mutual
theorem RV.cold : ∀ {p : PV} {v : V}, RV ⟨K, [], P, w⟩ φ H p v → coldV p = true
  | .non, _, _ => rfl
  | .bl _, _, _ => rfl
  | .int _, _, _ => rfl
  | .str _, _, _ => rfl
  | .ty _, _, _ => rfl
  | .ref _, _, _ => rfl
  | .tup l, v, h => by
    obtain ⟨a, vs, e, q, r⟩ := h
    exact RVs.cold (p := l) r
  | .cl l, v, h => by
    obtain ⟨a, vs, e, q, r⟩ := h
    exact RVs.cold (p := l) r
  | .cls _, _, _ => rfl
  | .xc _ _ _, v, h => by
    obtain ⟨a, oe, e, q, _⟩ := h
    cases q
  | .ste _, _, _ => rfl
theorem RVs.cold : ∀ {p : List PV} {v : List V}, RVs ⟨K, [], P, w⟩ φ H p v → coldVs p = true
  | [], _, _ => rfl
  | p :: ps, vs, h => by
    obtain ⟨v, r, e, q, s⟩ := h
    exact Bool.and_eq_true_iff.mpr ⟨RV.cold q, RVs.cold (p := ps) s⟩
end
mutual
theorem RV.repin : ∀ {p : PV} {v : V}, coldV p = true → RV ⟨K, pn, P, w⟩ φ H p v → RV ⟨K, pn', P, w⟩ φ H p v
  | .non, _, _, h => h
  | .bl _, _, _, h => h
  | .int _, _, _, h => h
  | .str _, _, _, h => h
  | .ty _, _, _, h => h
  | .ref _, _, _, h => h
  | .tup l, v, c, h => by
    obtain ⟨a, vs, e, q, r⟩ := h
    exact ⟨a, vs, e, q, RVs.repin (p := l) c r⟩
  | .cl l, v, c, h => by
    obtain ⟨a, vs, e, q, r⟩ := h
    exact ⟨a, vs, e, q, RVs.repin (p := l) c r⟩
  | .cls _, _, _, h => h
  | .xc _ _ _, v, c, h => by cases c
  | .ste _, _, _, h => h
theorem RVs.repin : ∀ {p : List PV} {v : List V}, coldVs p = true → RVs ⟨K, pn, P, w⟩ φ H p v → RVs ⟨K, pn', P, w⟩ φ H p v
  | [], _, _, h => h
  | p :: ps, vs, c, h => by
    obtain ⟨v, r, e, q, s⟩ := h
    obtain ⟨c1, c2⟩ := Bool.and_eq_true_iff.mp c
    exact ⟨v, r, e, RV.repin c1 q, RVs.repin (p := ps) c2 s⟩
end
theorem RO.cold {o : PO} {ho : HO} (h : RO ⟨K, [], P, w⟩ φ H o ho) : coldO o = true := by
  cases o with
  | lst l =>
    obtain ⟨vs, e, r⟩ := h
    exact RVs.cold (p := l) r
  | dct l =>
    obtain ⟨kvs, e, k, r⟩ := h
    exact RVs.cold r
  | obj c fs => exact h.elim
theorem RO.repin {o : PO} {ho : HO} (c : coldO o = true) (h : RO ⟨K, pn, P, w⟩ φ H o ho) : RO ⟨K, pn', P, w⟩ φ H o ho := by
  cases o with
  | lst l =>
    obtain ⟨vs, e, r⟩ := h
    exact ⟨vs, e, RVs.repin (p := l) c r⟩
  | dct l =>
    obtain ⟨kvs, e, k, r⟩ := h
    exact ⟨kvs, e, k, RVs.repin c r⟩
  | obj c fs => exact h.elim
theorem Sim.cold {h : PH} (s : Sim ⟨K, [], P, w⟩ φ h H) {n : Nat} {o : PO} (e : h[n]? = some o) : coldO o = true := by
  obtain ⟨a, ho, _, _, r⟩ := s.ob n o e
  exact r.cold
theorem Sim.repin {h : PH} (s : Sim ⟨K, pn, P, w⟩ φ h H) (c : ∀ (n : Nat) (o : PO), h[n]? = some o → coldO o = true) : Sim ⟨K, pn', P, w⟩ φ h H :=
  ⟨s.len, s.nd, fun n o e => by
    obtain ⟨a, ho, e1, e2, r⟩ := s.ob n o e
    exact ⟨a, ho, e1, e2, r.repin (c n o e)⟩, s.tb⟩
theorem RE.cold : ∀ {ρ : Env} {σ : L2.St} {n : Nat} {p : PV}, RE ⟨K, [], P, w⟩ φ H ρ σ → ρ[n]? = some (some p) → coldV p = true := fun r e => by
  obtain ⟨v, _, q⟩ := r.get e
  exact q.cold
theorem RE.repin : ∀ {ρ : Env} {σ : L2.St}, RE ⟨K, pn, P, w⟩ φ H ρ σ → (∀ (n : Nat) (p : PV), ρ[n]? = some (some p) → coldV p = true) → RE ⟨K, pn', P, w⟩ φ H ρ σ
  | [], _, h, _ => h
  | q :: ρ, σ, h, c => by
    obtain ⟨v, r, e, k, s⟩ := h
    refine ⟨v, r, e, fun x z => ?_, RE.repin s fun n p z => c (n + 1) p (by simpa using z)⟩
    obtain ⟨y, e1, e2⟩ := k x z
    exact ⟨y, e1, e2.repin (c 0 x (by rw [z]; rfl))⟩
end
def offS (i : Option Nat) (σ : L2.St) : L2.St := match i with
  | some i => σ.set i none
  | none => σ
theorem setO_re {Z : ZZ} {φ : List Addr} {H : Hp} {ρ : Env} {σ : L2.St} {p : PV} {v : V} (i : Option Nat) (rp : RV Z φ H p v) (r : RE Z φ H ρ σ) : RE Z φ H (setO ρ i (some p)) (match i with | some i => σ.set i (some v) | none => σ) := by
  cases i with
  | none => exact r
  | some i => exact RE.set i rp r
theorem unsetO_re {Z : ZZ} {φ : List Addr} {H : Hp} {ρ : Env} {σ : L2.St} (i : Option Nat) (r : RE Z φ H ρ σ) : RE Z φ H (setO ρ i none) (offS i σ) := by
  cases i with
  | none => exact r
  | some i => exact RE.unset i r
abbrev HdT : Type := Value × Option Nat × (Addr → Value → Option Addr → TS)
def offE (i : Option Nat) (D : Ends) : Ends := match i with
  | none => D
  | some i => { nx := fun σ1 H1 => D.nx (σ1.set i none) H1, rt := D.rt, bk := fun σ1 H1 => D.bk (σ1.set i none) H1, ct := fun σ1 H1 => D.ct (σ1.set i none) H1 }
def onS (i : Option Nat) (a : Addr) (σ : L2.St) : L2.St := match i with
  | none => σ
  | some i => σ.set i (some (.ref a))
def wHd (K : PySem.W.Frag) (Wo : WX) (D : Ends) : List HdT → WX
  | [] => Wo
  | (c, i, ts) :: r => fun cls d σ H => ∃ b, PySem.W.exmOne K cls c = some b ∧ (b = true → ∀ a, H a = none → ts a cls d (offE i D) (onS i a σ) H) ∧ (b = false → wHd K Wo D r cls d σ H)
/-- the name under which a handler has the exception -/
inductive HdNm (X : Cx) : Option Str → Option Nat → Prop
  | no : HdNm X none none
  | at {n : Str} {i : Nat} (hi : X.N[i]? = some n) (hl : X.env.kindOf n = some .local) : HdNm X (some n) (some i)
inductive HdAll (X : Cx) : List ExceptHandler → List HdT → Prop
  | nil : HdAll X [] []
  | cons {x : Str} {c : Value} {on : Option Str} {oi : Option Nat} {ts : Addr → Value → Option Addr → TS} {s1 : Stmt} {sr : List Stmt} {pn ph : Pos} {hr : List ExceptHandler} {lr : List HdT}
      (hm : HdNm X on oi) (hc : Names X x c) (hsu : ∀ (a : Addr) (oe : Obj) (cls : Value) (d : Option Addr) (pl : List (Addr × Obj)), L2N.Zn cls d oe → (∃ us, oe.data = .fields us) → PSs (X.suite a ((a, oe) :: pl)) (s1 :: sr) (ts a cls d))
      (rest : HdAll X hr lr) : HdAll X (.ExceptHandler (some (.Name x pn)) on (s1 :: sr) ph :: hr) ((c, oi, ts) :: lr)
section
variable {X : Cx} {body : List Stmt} {hd1 : ExceptHandler} {hdr : List ExceptHandler} {lh : List HdT} {tpos : Pos} {tb : WX → TS} {Wo : WX}
theorem ps_tryAll (hs : X.stack = X.env :: X.outer) (hf : X.env.frame = some X.env.locals) (hN : X.N.Nodup) (tk : L2N.Takes X Wo)
    (hb : ∀ (W1 : WX) (pl : List (Addr × Obj)) (xe : Value → Shared → Prop), L2N.Takes (X.tr pl xe) W1 → PassesOwn (model X.prog X.w) X.A X.env xe → PSs (X.tr pl xe) body (tb W1))
    (hh : HdAll X (hd1 :: hdr) lh) : PS X (.Try body (hd1 :: hdr) [] [] tpos) (fun D σ H => tb (wHd X.K Wo D lh) D σ H) := by
  refine ⟨fun pp s σ H D J0 ht => ?_⟩
  have jok := J0.ok
  have hframes : X.A.frames = some (X.env :: X.outer) := jok.frames.trans (congrArg some hs)
  apply wpAny_Try_except
  refine wpAny_mono ((hb (wHd X.K Wo D lh) (X.pn ++ pp) (fun ev t1 => wpAny (model X.prog X.w) X.A (noteFrame ev X.env) (fun _ t2 => wpAny (model X.prog X.w) X.A (setFlight ev none) (fun _ t3 => wpAny (model X.prog X.w) X.A (handleBy ev X.env (hd1 :: hdr)) (SP X pp D) X.xe t3) X.xe t2) X.xe t1) (fun ev t0 caught => ?_) PassesOwn.looking).run [] s σ H D (J0.toTry _) ht) (fun fl t1 fin => ?_) (fun _ _ q => q)
  · obtain ⟨a, bs, sI, pI, σI, HI, cls, d, rfl, JI0, nbs, upI, skyI, naI, osI, agI, wI⟩ := caught
    have JI : Inv X pp σI HI sI := JI0.ofTry jok
    have skyJ : Sky bs (X.env :: X.outer) a (L2N.Zn cls d) X.env.locals t0.heap := hs ▸ skyI
    show wpAny (model X.prog X.w) X.A (noteFrame (.ref a) X.env) _ _ _
    refine L2N.Sky.land L2N.Zn.steady hframes hf skyJ fun hp3 fly3 up3 => ?_
    have J3 : Inv X pp σI HI { t0 with heap := hp3 } := JI.landed nbs fly3.1 (upI.trans up3) osI agI
    obtain ⟨ob3, fv3, get3, zn3, dat3⟩ := fly3.there
    have apart : a ∉ frs (X.env :: X.outer) := fun hm => by
      obtain ⟨_, ob', get', nf⟩ := fly3.2.2.1.mem hm
      cases get3.symm.trans get'
      exact nf _ dat3
    have aL : a ≠ X.env.locals := fun z => apart (List.mem_filterMap.mpr ⟨X.env, List.mem_cons_self, hf.trans (congrArg some z.symm)⟩)
    have aF : a ∉ X.fs := fun hm => by
      obtain ⟨ev, he, q⟩ := List.mem_filterMap.mp hm
      exact apart (List.mem_filterMap.mpr ⟨ev, List.mem_cons_of_mem _ he, q⟩)
    have suite3 := J3.suite get3 dat3 naI aL aF
    have walk : ∀ {hl : List ExceptHandler} {l2 : List HdT}, HdAll X hl l2 → wHd X.K Wo D l2 cls d σI HI → wpAny (model X.prog X.w) X.A (handleBy (.ref a) X.env hl) (SP X pp D) X.xe { t0 with heap := hp3 } := by
      intro hl l2 hk
      induction hk with
      | nil =>
        intro wq
        apply wpAny_handleBy_nil
        obtain ⟨z1, z2, z3, oq, vq, TT, oT, tsq, getq, znq, datq, h1q, hrq⟩ := id fly3
        unfold PySem.passOn
        refine wpAny_bind (wpAny_field getq datq h1q ?_)
        rw [if_neg (show ¬ (Value.ref TT == Value.none) = true by simp)]
        have on : wpAny (model X.prog X.w) X.A (setFlight (.ref a) X.env.frame) (fun _ t4 => wpAny (model X.prog X.w) X.A (throw (.ref a) : Sem Flow) (SP X pp D) X.xe t4) X.xe { t0 with heap := hp3 } := by
          rw [hf]
          exact HandSPX.setFlight_upZ fly3 fun hp4 held4 up4 => wpAny_throw (tk _ _ ⟨a, bs, sI, pp, σI, HI, cls, d, rfl, JI, nbs, (upI.trans up3).trans up4, .inr (.inr (hs.symm ▸ held4)), naI, osI, agI, wq⟩)
        first
          | exact wpAny_bind (wpAny_pure (wpAny_bind on))
          | exact wpAny_bind on
      | @cons xn c onm oi ts s1 sr pnm ph hr2 lr2 hm hc hsu rest ih =>
        intro wq
        obtain ⟨hit, em, yes, nay⟩ := wq
        refine wpAny_handleBy_cons (codeAny_handlers_test ?_) (by intro q; cases q)
        have lk : PySem.W.Looks (model X.prog X.w) hp3 (typeOf (.ref a)) cls := fun A1 Q1 E1 s1 k1 q1 => wpAny_typeOf_ref (k1 _ _ get3) (by rw [zn3.1]; exact q1)
        have lm := PySem.W.exm_one (M := model X.prog X.w) J3.kIn lk em
        have cread : ∀ {Q1 : Value → Shared → Prop} {E1 : Value → Shared → Prop}, Q1 c { t0 with heap := hp3 } → wpAny (model X.prog X.w) (X.A.mark (some (.ref a))) (eval (.Name xn pnm) X.env) Q1 E1 { t0 with heap := hp3 } := fun {Q1 E1} q1 => by
          obtain ⟨g1, g2, g3 | ⟨g3, g4, g5⟩⟩ := hc
          · exact ld_glob (X := X.suite a ((a, ob3) :: (X.pn ++ pp))) suite3 g1 g3 q1 g2
          · exact ld_blt (X := X.suite a ((a, ob3) :: (X.pn ++ pp))) suite3 g1 g3 g4 q1 g5 g2
        refine cread (lm.here ?_)
        cases hit with
        | false => exact ih (nay rfl)
        | true =>
          cases hm with
          | no =>
            apply codeAny_handlers_suite
            refine HandSPX.lands_againZ fly3 fun hp4 fly4 up4 => ?_
            obtain ⟨ob4, fv4, get4, zn4, dat4⟩ := fly4.there
            have land4 : Inv X pp σI HI { t0 with heap := hp4 } := JI.landed nbs fly4.1 ((upI.trans up3).trans up4) osI agI
            have suite4 := land4.suite get4 dat4 naI aL aF
            refine wpAny_mono ((hsu a ob4 cls d (X.pn ++ pp) zn4 ⟨_, dat4⟩).run [] _ _ HI _ suite4 (yes rfl a naI)) (fun fl t6 fin => ?_) (fun _ _ z => False.elim z)
            cases fl with
            | next =>
              obtain ⟨σ6, H6, in6, q6⟩ := fin
              exact ⟨_, _, in6.unsuite jok, q6⟩
            | brk =>
              obtain ⟨σ6, H6, in6, q6⟩ := fin
              exact ⟨_, _, in6.unsuite jok, q6⟩
            | cont =>
              obtain ⟨σ6, H6, in6, q6⟩ := fin
              exact ⟨_, _, in6.unsuite jok, q6⟩
            | ret u =>
              obtain ⟨v6, σ6, H6, in6, r6, q6⟩ := fin
              exact ⟨_, _, _, in6.unsuite jok, r6, q6⟩
          | @«at» n i hi hln =>
            apply codeAny_handlers_suite_as
            refine HandSPX.lands_againZ fly3 fun hp4 fly4 up4 => ?_
            obtain ⟨ob4, fv4, get4, zn4, dat4⟩ := fly4.there
            have land4 : Inv X pp σI HI { t0 with heap := hp4 } := JI.landed nbs fly4.1 ((upI.trans up3).trans up4) osI agI
            have suite4 := land4.suite get4 dat4 naI aL aF
            refine store_ok (X := X.suite a ((a, ob4) :: (X.pn ++ pp))) (v := .ref a) suite4 hN hi (.inl hln) rfl (fun t5 suite5 => ?_) (.inr hln)
            refine wpAny_mono ((hsu a ob4 cls d (X.pn ++ pp) zn4 ⟨_, dat4⟩).run [] t5 _ HI _ suite5 (yes rfl a naI)) (fun fl t6 fin => ?_) (fun _ _ z => False.elim z)
            have drop : ∀ {σ6 : L2.St} {H6 : Hp} {Q6 : Shared → Prop}, Inv (X.suite a ((a, ob4) :: (X.pn ++ pp))) [] σ6 H6 t6 → (∀ t7, Inv X pp (σ6.set i none) H6 t7 → Q6 t7) → wpAny (model X.prog X.w) X.A (do bindName X.env n .none; unbindBehindTheSuite X.env n ph) (fun _ t7 => Q6 t7) X.xe t6 := fun {_ _ _} in6 hq => gone_ok (in6.unsuite jok) hN hi hln hq
            cases fl with
            | next =>
              obtain ⟨σ6, H6, in6, q6⟩ := fin
              exact drop in6 fun t7 in7 => ⟨_, _, in7, q6⟩
            | brk =>
              obtain ⟨σ6, H6, in6, q6⟩ := fin
              exact drop in6 fun t7 in7 => ⟨_, _, in7, q6⟩
            | cont =>
              obtain ⟨σ6, H6, in6, q6⟩ := fin
              exact drop in6 fun t7 in7 => ⟨_, _, in7, q6⟩
            | ret u =>
              obtain ⟨v6, σ6, H6, in6, r6, q6⟩ := fin
              exact drop in6 fun t7 in7 => ⟨_, _, _, in7, r6, q6⟩
    exact walk hh wI
  · cases fl with
    | next =>
      obtain ⟨σ1, H1, in1, q1⟩ := fin
      exact wpAny_execs_nil ⟨σ1, H1, in1.ofTry jok, q1⟩
    | brk =>
      obtain ⟨σ1, H1, in1, q1⟩ := fin
      exact ⟨σ1, H1, in1.ofTry jok, q1⟩
    | cont =>
      obtain ⟨σ1, H1, in1, q1⟩ := fin
      exact ⟨σ1, H1, in1.ofTry jok, q1⟩
    | ret u =>
      obtain ⟨v1, σ1, H1, in1, r1, q1⟩ := fin
      exact ⟨v1, σ1, H1, in1.ofTry jok, r1, q1⟩
end
/-- its context; k: how deep calls may go -/
structure CqX (X : Cx) (W : WX) (k : Nat) : Prop where
  cold : X.calm = false
  nd : X.N.Nodup
  hr : L2H.RoomH k X.A
  tk : L2N.Takes X W
  hot : ∃ p r, X.pn = p :: r ∧ L2H.Hot1 X.A p
theorem CqX.u66 {X : Cx} {W : WX} {k : Nat} (c : CqX X W k) : X.A.units + 66 < cLine := c.hr.u66
theorem z_hot {X : Cx} {p : Addr × Obj} {r : List (Addr × Obj)} (c : X.calm = false) (e : X.pn = p :: r) : zOf X = ⟨X.K, [p], X.prog, X.w⟩ := by
  unfold zOf hotPn
  rw [c, e]
  rfl
/-- what is known of a class's name in a handler -/
structure HdJ (K : PySem.W.Frag) (mg : Str → Option Value) (c : Str) (xs : List Str) : Prop where
  gl : mg c = some (.ref (He.ga K c))
  mt : ∀ y ∈ xs, PySem.W.exmOne K (.ref (He.ga K y)) (.ref (He.ga K c)) = some (hitX y c)
inductive JHs (X : Cx) (C : Calls) (k : Nat) (xs : List Str) : List ExceptHandler → List S → Prop
  | nil : JHs X C k xs [] []
  | cons {c : Str} {on : Option Str} {oi : Option Nat} {s1 : Stmt} {sr : List Stmt} {sb : List S} {pn ph : Pos} {hr : List ExceptHandler} {lr : List S} (hd : HdJ X.K X.mg c xs) (hm : HdNm X on oi)
      (hsu : ∀ (a : Addr) (oe : Obj) (pl : List (Addr × Obj)), CqX (X.suite a ((a, oe) :: pl)) W0 k → JSs (X.suite a ((a, oe) :: pl)) W0 C (s1 :: sr) sb) (rest : JHs X C k xs hr lr) (hg : Gl X c := by rfl) (hdb : (c == ("__debug__" : Str)) = false := by decide) :
      JHs X C k xs (.ExceptHandler (some (.Name c pn)) on (s1 :: sr) ph :: hr) (.hd c oi sb :: lr)
section
variable {X : Cx} {W : WX} {C : Calls} {k : Nat} {xs : List Str} {body : List Stmt} {ss : List S} {pos : Pos}
theorem hds_of (cq : Cq X W k) {hl : List ExceptHandler} {hs : List S} (J : JHs X C k xs hl hs) : ∃ l : List HdT, HdAll X hl l ∧ ∀ (D : Ends) (x : Exn) (ρ : Env) (h : PH) (φ : List Addr) (H : Hp) (σ : L2.St) (cls : Value) (d : Option Addr), x.cls ∈ xs →
    OutS ⟨X.K, [], X.prog, X.w⟩ X.mg φ H W D (exH C hs x ρ h) → Sim ⟨X.K, [], X.prog, X.w⟩ φ h H → RE ⟨X.K, [], X.prog, X.w⟩ φ H ρ σ → RX ⟨X.K, [], X.prog, X.w⟩ X.mg φ H x cls d → wHd X.K W D l cls d σ H := by
  induction J with
  | nil => exact ⟨[], .nil, fun D x ρ h φ H σ cls d hx o sm re rx => o φ H σ cls d (Ext.refl _ _) sm re rx⟩
  | @cons c on oi s1 sr sb pn ph hr lr hd hm hsu rest hg hdb ih =>
    obtain ⟨l, hl, hw⟩ := ih
    refine ⟨(.ref (He.ga X.K c), oi, fun a cls d D σ H => ∀ oe, L2N.Zn cls d oe → (∃ us, oe.data = .fields us) → tSs ⟨X.K, [(a, oe)], X.prog, X.w⟩ X.mg W0 C sb D σ H) :: l, .cons hm ⟨hg, hdb, .inl hd.gl⟩ (fun a oe cls d pl zn zf => ?_) hl, fun D x ρ h φ H σ cls d hx o sm re rx => ?_⟩
    · obtain ⟨us, hus⟩ := id zf
      have ch : CqX (X.suite a ((a, oe) :: pl)) W0 k := ⟨rfl, cq.nd, (show L2H.RoomH (k + 3) (X.suite a ((a, oe) :: pl)).A from ⟨cq.hr.dp, cq.hr.un⟩).mono (by omega), takesN0, (a, oe), pl, rfl, rfl, us, hus, zn.2.2 us hus⟩
      have j := hsu a oe pl ch
      rw [JSs, z_hot (X := X.suite a ((a, oe) :: pl)) rfl rfl] at j
      exact pss_imp j fun D σ H t => t oe zn zf
    · obtain ⟨ec, gs, gd, gn, gr⟩ := id rx
      refine ⟨hitX x.cls c, by rw [ec]; exact hd.mt _ hx, fun hy a na oe zn zf => ?_, fun hn => ?_⟩
      · have o1 : OutS ⟨X.K, [], X.prog, X.w⟩ X.mg φ H W D (coolS oi ρ h (exSs C sb (setO ρ oi (some (.xc x.cls x.ns x.vs))) h)) := by
          have o2 := o
          unfold exH at o2
          rw [if_pos hy] at o2
          exact o2
        have cr : coldVs x.vs = true := RVs.cold gr
        have rxc : RV ⟨X.K, [(a, oe)], X.prog, X.w⟩ φ H (.xc x.cls x.ns x.vs) (.ref a) := by
          refine ⟨a, oe, rfl, List.mem_singleton.mpr rfl, zn.1.trans ec, zf, ?_⟩
          rcases gd with ⟨g1, g2⟩ | ⟨dd, g1, g2, g3⟩
          · exact .inl ⟨zn.2.1.trans g1, by rw [← gn, g2]; rfl⟩
          · exact .inr ⟨dd, gs, gs.map (·.2), zn.2.1.trans g1, g2, g3, .inr ⟨gn, rfl⟩, RVs.repin cr gr⟩
        have smh : Sim ⟨X.K, [(a, oe)], X.prog, X.w⟩ φ h H := sm.repin fun n o e => sm.cold e
        have reh : RE ⟨X.K, [(a, oe)], X.prog, X.w⟩ φ H (setO ρ oi (some (.xc x.cls x.ns x.vs))) (onS oi a σ) := by
          have := setO_re oi rxc (RE.repin (pn' := [(a, oe)]) re fun n p e => re.cold e)
          cases oi <;> exact this
        refine ⟨_, φ, h, smh, reh, ?_⟩
        generalize exSs C sb (setO ρ oi (some (.xc x.cls x.ns x.vs))) h = m at o1
        cases m with
        | nx ρ1 h1 =>
          simp only [coolS] at o1
          by_cases hc : coolE ρ (setO ρ1 oi none) ∧ coolH h h1
          · rw [if_pos hc] at o1
            intro φ2 H2 σ2 x2 s2 r2
            have hcold : ∀ (n : Nat) (o : PO), h1[n]? = some o → coldO o = true := fun n o e => (hc.2 n o e).elim (fun z => sm.cold z) id
            have fin := o1 φ2 H2 (offS oi σ2) x2 (s2.repin hcold) (RE.repin (unsetO_re oi r2) fun n p e => (hc.1 n p e).elim (fun z => re.cold z) id)
            cases oi <;> exact fin
          · rw [if_neg hc] at o1
            exact (show False from o1).elim
        | rt v h1 =>
          simp only [coolS] at o1
          by_cases hc : coldV v = true ∧ coolH h h1
          · rw [if_pos hc] at o1
            intro φ2 H2 y x2 s2 r2
            have hcold : ∀ (n : Nat) (o : PO), h1[n]? = some o → coldO o = true := fun n o e => (hc.2 n o e).elim (fun z => sm.cold z) id
            have fin := o1 φ2 H2 y x2 (s2.repin hcold) (r2.repin hc.1)
            cases oi <;> exact fin
          · rw [if_neg hc] at o1
            exact (show False from o1).elim
        | bk ρ1 h1 => exact (show False from o1).elim
        | ct ρ1 h1 => exact (show False from o1).elim
        | ex y ρ1 h1 => exact (show False from o1).elim
        | no => exact (show False from o1).elim
      · refine hw D x ρ h φ H σ cls d hx ?_ sm re rx
        have o2 := o
        unfold exH at o2
        rw [if_neg (by rw [hn]; decide)] at o2
        exact o2
theorem js_tryH {h1 : ExceptHandler} {hl : List ExceptHandler} {hs : List S} (cq : Cq X W k) (hb : ∀ (W : WX) (pn : List (Addr × Obj)) (xe : Value → Shared → Prop), Cq (X.tr pn xe) W k → JSs (X.tr pn xe) W C body ss) (J : JHs X C k xs (h1 :: hl) hs)
    (hst : X.stack = X.env :: X.outer := by rfl) (hf : X.env.frame = some X.env.locals := by rfl) : JS X W C (.Try body (h1 :: hl) [] [] pos) (.tryH ss xs hs) := by
  have hz : zOf X = ⟨X.K, [], X.prog, X.w⟩ := z_calm cq.calm
  have hzt : ∀ (pn : List (Addr × Obj)) (xe : Value → Shared → Prop), zOf (X.tr pn xe) = ⟨X.K, [], X.prog, X.w⟩ := fun pn xe => z_calm (X := X.tr pn xe) cq.calm
  obtain ⟨l, hall, hw⟩ := hds_of cq J
  refine ps_imp (ps_tryAll (tb := fun W' => tSs ⟨X.K, [], X.prog, X.w⟩ X.mg W' C ss) (Wo := W) hst hf cq.nd cq.tk (fun W' pn xe tk po => ?_) hall) fun D σ H ⟨ρ, φ, h, sm, re, o⟩ => ?_
  · have := hb W' pn xe ⟨cq.calm, cq.nd, cq.hr, tk, po⟩
    rw [JSs, hzt] at this
    exact this
  · rw [hz] at sm re o
    refine ⟨ρ, φ, h, sm, re, ?_⟩
    have o' : OutS ⟨X.K, [], X.prog, X.w⟩ X.mg φ H W D (match exSs C ss ρ h with
      | .ex x ρ1 h1 => if x.cls ∈ xs then exH C hs x ρ1 h1 else .no
      | r => r) := o
    cases e : exSs C ss ρ h with
    | nx ρ1 h1 => rw [e] at o'; exact o'
    | rt v h1 => rw [e] at o'; exact o'
    | bk ρ1 h1 => rw [e] at o'; exact o'
    | ct ρ1 h1 => rw [e] at o'; exact o'
    | no => rw [e] at o'; exact o'
    | ex x ρ1 h1 =>
      rw [e] at o'
      simp only at o'
      intro φ' H' σ' cls d x1 s1 r1 rx
      by_cases hm : x.cls ∈ xs
      · rw [if_pos hm] at o'
        exact hw D x ρ1 h1 φ' H' σ' cls d hm (o'.mono x1) s1 r1 rx
      · rw [if_neg hm] at o'
        exact (show False from o').elim
end
section
variable {X : Cx} {W : WX} {C : Calls} {a : Expr} {ea : E} {f c : Str} {pos : Pos}
theorem je_xat (T : XfC X.K (He.ga X.K c)) (hno : PySem.W.findIn X.K (.ref (He.ga X.K c)) f = some none) (ha : JE X W C a ea) (hb : attributeBase a f X.env (eval a X.env) = eval a X.env := by rfl) : JE X W C (.Attribute a f pos) (.xat ea f c) := by
  refine ⟨fun pins s σ H Q I ht => ?_⟩
  obtain ⟨ρ, φ, h, sm, re, o⟩ := ht
  have o' : Out (zOf X) X.mg (RV (zOf X)) φ H (atS W σ) Q ((evG C ea false ρ h).bind fun x h1 => xatop x f c h1) := o
  have o2 : Out (zOf X) X.mg (RV (zOf X)) φ H (atS W σ) (fun v H1 => ∃ φ1 p h1, Sim (zOf X) φ1 h1 H1 ∧ RV (zOf X) φ1 H1 p v ∧ Out (zOf X) X.mg (RV (zOf X)) φ1 H1 (atS W σ) Q (xatop p f c h1)) (evG C ea false ρ h) := by
    cases e : evG C ea false ρ h with
    | ok p h1 =>
      rw [e, R.bind_ok] at o'
      exact fun φ' H' v x s r => ⟨φ', p, h1, s, r, o'.mono x⟩
    | ex y h1 => rw [e] at o'; exact o'
    | no => rw [e] at o'; exact o'
  refine attr_of hb (thn (ha.run pins s σ H _ I ⟨ρ, φ, h, sm, re, o2⟩) fun u s1 hh => ?_)
  obtain ⟨v, H1, I1, rv, φ1, p, h1, s1', rp, o3⟩ := hh
  cases p with
  | xc x ns vs =>
    obtain ⟨ad, oe, rfl, hp, hc, ⟨us, hd⟩, hdd⟩ := rp
    unfold xatop at o3
    by_cases hx : x = c
    · simp only [if_pos hx] at o3
      subst hx
      obtain rfl : u = Value.ref ad := rv
      obtain ⟨hget, _⟩ := I1.pin (ad, oe) (List.mem_append_left _ (hot_mem hp))
      rcases hdd with ⟨hn, hns⟩ | ⟨dd, fs, ls, e1, e2, e3, e4, r4⟩
      · subst hns
        exact (show False from o3).elim
      · rcases e4 with e4 | ⟨e4, e5⟩
        · subst e4
          exact (show False from o3).elim
        · subst e4 e5
          cases hl : ((fs.map (·.1)).zip vs).lookup f with
          | none => rw [hl] at o3; exact (show False from o3).elim
          | some q =>
            rw [hl] at o3
            obtain ⟨y, l1, r1⟩ := fl_lookup r4 hl
            have hx : ObjOk X.prog X.w H1 s1.heap dd (.xd fs) := I1.hok dd _ e2
            obtain ⟨mA, hns, hr⟩ := hx
            obtain ⟨od, ho, hl2⟩ := lookIn_ns hns
            obtain ⟨uu, hu, ru⟩ := RelO.some_of (v := y) (o := mA f) (by rw [← l1]; exact hr f)
            have J : PySem.W.InstAt s1.heap ad oe (He.ga X.K x) (some od) := ⟨hget, hc, by unfold PySem.W.notCls; rw [hd] <;> rfl, by rw [e1]; exact ho⟩
            exact HandSPX.exc_get I1.kIn J T.ga T.gg T.exC (PySem.W.findObj_own T.hdC hno rfl (by rw [hl2, hu])) (handed_of ru) ⟨y, H1, I1.tok _, ru, o3 φ1 H1 y (Ext.refl _ _) s1' r1⟩
    · simp only [if_neg hx] at o3
      exact (show False from o3).elim
  | _ => exact (show False from o3).elim
end
theorem hdJ_ok {K : PySem.W.Frag} {h : Heap} {mg : Str → Option Value} (X : K.In h) (G : h.Ns mainGlobals mg) {c : Str} {xs : List Str} (e : hdJB K c xs = true) : HdJ K mg c xs := by
  obtain ⟨c1, c2⟩ := He.ba e
  exact ⟨He.glo_ok X G c1, fun y hy => of_decide_eq_true (List.all_eq_true.mp c2 y hy)⟩
end Sb
set_option Elab.async false
set_option linter.all false
set_option maxRecDepth 100000
set_option maxHeartbeats 4000000
namespace Sb
open PySem PySem.Spec PyProof.Rows L2
theorem keys_rel {Z : ZZ} {φ : List Addr} {H : Hp} : ∀ {l : List PV} {vs : List V} {ks : List Key}, RVs Z φ H l vs → mapO keyOf l = some ks → vs = ks.map kV
  | [], vs, ks, r, e => by
    cases e
    exact r
  | p :: l, vs, ks, r, e => by
    obtain ⟨v, t, e1, q, s⟩ := r
    unfold mapO at e
    cases h1 : keyOf p with
    | none => simp only [h1] at e; cases e
    | some k =>
      cases h2 : mapO keyOf l with
      | none => simp only [h1, h2] at e; cases e
      | some ks' =>
        simp only [h1, h2] at e
        cases e
        rw [e1, key_rel q h1, keys_rel s h2]
        rfl
end Sb
set_option Elab.async false
set_option linter.all false
set_option maxRecDepth 100000
set_option maxHeartbeats 4000000
namespace Sb
open PySem PySem.Spec PyProof.Rows L2
section
variable {P : Program} {w : World} {A : Around} {E : Value → Shared → Prop} {s : Shared}
theorem slice_step {sl : Addr} {vs : Value} {st : Int} {n : Nat} {Q : Int × Int × Nat → Shared → Prop} (hs : s.heap.IsSliceOf sl .none .none vs) (ps : IsPart vs (some st)) (h0 : (st == 0) = false)
    (h : Q (match Builtin.Slice.sliceAdjust none none st (n : Int) with | (lo, hi) => (lo, st, Builtin.Slice.slicePlaces lo hi st)) s) : wpAny (model P w) A (Builtin.Slice.sliceApplied (.ref sl) (pure (n : Int))) Q E s := by
  obtain ⟨ob, hob, hcb, hdb⟩ := id hs
  unfold Builtin.Slice.sliceApplied Builtin.Slice.sliceFields
  refine wpAny_bind (wpAny_bind (wpAny_field hob hdb (x := .none) rfl (wpAny_bind (wpAny_field hob hdb (x := .none) rfl (wpAny_bind (wpAny_field hob hdb (x := vs) rfl (wpAny_pure ?_)))))))
  refine wpAny_bind (HT.slicePart_ ps ?_)
  show wpAny _ _ (if (st == 0) = true then _ else _) _ _ s
  rw [if_neg (by rw [h0]; decide)]
  exact wpAny_bind (HT.slicePart_ .none (wpAny_bind (HT.slicePart_ .none (wpAny_bind (wpAny_pure (wpAny_pure h))))))
theorem pair_step {t sl : Addr} {x y vs : Value} {st : Int} {Q : Value → Shared → Prop} (ht : IsTup s.heap t #[x, y]) (hs : s.heap.IsSliceOf sl .none .none vs) (ps : IsPart vs (some st))
    (h : (st = 1 ∧ Q (.ref t) s) ∨ (st = -1 ∧ Q (.ref s.heap.objs.size) { s with heap := s.heap.push { cls := .type "tuple", data := .seq #[y, x] } })) : wpAny (model P w) A (getItem (.ref t) (.ref sl)) Q E s := by
  obtain ⟨ob, hob, hcb, hdb⟩ := id hs
  have tsl : s.TypeIs (.ref sl) "slice" := ⟨ob, hob, hcb⟩
  have nz : (st == 0) = false := by
    rcases h with ⟨rfl, _⟩ | ⟨rfl, _⟩ <;> rfl
  unfold getItem
  try with_reducible refine wpAny_holding ?_
  first | refine wpAny_bind (wpAny_pure ?_) | skip
  refine wpAny_bind (wpAny_sequenceKey ht.typeIs (by decide) ?_)
  refine wpAny_bind (wpAny_callSpecial?_slot (name := Str.ofString "__getitem__") ht.typeIs PyProof.Rows.slot_tuple_getitem (wpAny_call_entry PyProof.Rows.slot_tuple_getitem ht.typeIs entry_tuple_getitem ?_ (args_tuple_getitem _ _)))
  show wpAny _ _ (Builtin.Tuple.tupleItemsOf (.ref t) >>= _) _ _ s
  refine wpAny_bind (tupleItemsOf_ ht (wpAny_bind (wpAny_typeOf tsl ?_)))
  rw [if_pos (by decide)]
  refine wpAny_bind (slice_step (n := 2) hs ps nz ?_)
  rcases h with ⟨rfl, h⟩ | ⟨rfl, h⟩
  · show wpAny _ _ (if ((0 : Int) == 0 && (1 : Int) == 1 && (2 : Nat) == 2) = true then _ else _) _ _ s
    rw [if_pos (by decide)]
    refine wpAny_bind ?_
    show wpAny _ _ (typeOf (.ref t) >>= fun T => pure (T == .type "tuple")) _ _ s
    refine wpAny_bind (wpAny_typeOf ht.typeIs (wpAny_pure ?_))
    first
      | rw [if_pos (by decide)]
      | simp only [beq_self_eq_true, if_true]
    first
      | exact wpAny_bind (wpAny_rule (wpAny_pure ⟨_, rfl, wpAny_pure h⟩))
      | exact wpAny_bind (wpAny_rule (wpAny_bind (wpAny_pure (wpAny_pure ⟨_, rfl, wpAny_pure h⟩))))
  · show wpAny _ _ (if ((1 : Int) == 0 && (-1 : Int) == 1 && (2 : Nat) == 2) = true then _ else _) _ _ s
    rw [if_neg (by decide)]
    have pk : ((List.range 2).filterMap fun (m : Nat) => (#[x, y] : Array Value)[((1 : Int) + (m : Int) * (-1)).toNat]?).toArray = #[y, x] := rfl
    have sz : sizeOk (.seq #[y, x]) := by
      show 2 ≤ sizeLine
      decide
    show wpAny _ _ (Builtin.Tuple.tupleExact #[y, x] >>= _) _ _ s
    first
      | exact wpAny_bind (m := Builtin.Tuple.tupleExact _) (wpAny_newObj_type (wpAny_pure ⟨_, rfl, wpAny_pure h⟩) sz)
      | exact wpAny_bind (m := Builtin.Tuple.tupleExact _) (wpAny_newObj_type (wpAny_bind (wpAny_pure (wpAny_pure ⟨_, rfl, wpAny_pure h⟩))) sz)
      | exact wpAny_bind (wpAny_bind (m := Builtin.Tuple.tupleExact _) (wpAny_newObj_type (wpAny_pure (wpAny_pure ⟨_, rfl, wpAny_pure h⟩)) sz))
      | exact wpAny_bind (wpAny_bind (m := Builtin.Tuple.tupleExact _) (wpAny_newObj_type (wpAny_pure ⟨_, rfl, wpAny_pure h⟩) sz))
end
section
variable {X : Cx} {W : WX} {C : Calls} {a b : Expr} {ea eb : E} {p3 pos : Pos}
def tPairS (K : PySem.W.Frag) (ta tb : TE) : TE := fun σ H Q => ta σ H fun x H1 => tPart tb σ H1 fun st H2 => ∃ ad u v, x = .ref ad ∧ SqT K H2 ad [u, v] ∧ ((st = some 1 ∧ Q (.ref ad) H2) ∨ (st = some (-1) ∧ ∀ p, H2 p = none → Q (.ref p) (upd H2 p (.tup [v, u]))))
theorem pe_pairS {ta tb : TE} (ha : PE X a ta) (hb : PE X b tb) : PE X (.Subscript a (.Slice none none (some b) p3) pos) (tPairS X.K ta tb) := by
  refine ⟨fun pins s σ H Q I h => ?_⟩
  refine Subscript_ (thn (ha.run pins s σ H _ I h) fun v s1 ⟨x, H1, I1, r1, q1⟩ => ?_)
  refine wpAny_Slice (thn (po_none.run pins s1 σ H1 (fun o H2 => o = none ∧ H2 = H1) I1 ⟨rfl, rfl⟩) fun vl s2 ⟨l, H2, I2, pl, el, e2⟩ => ?_)
  subst el e2
  refine thn (po_none.run pins s2 σ H2 (fun o H3 => o = none ∧ H3 = H2) I2 ⟨rfl, rfl⟩) fun vu s3 ⟨u, H3, I3, pu, eu, e3⟩ => ?_
  subst eu e3
  refine thn ((po_some hb).run pins s3 σ H3 _ I3 q1) fun vs s4 ⟨o, H4, I4, ps, q4⟩ => ?_
  obtain ⟨ad, x1, x2, rfl, hx, hq⟩ := q4
  cases r1
  cases pl
  cases pu
  have I5 : Inv X pins σ H4 { s4 with heap := s4.heap.push { cls := .type "slice", data := .fields #[.none, .none, vs] } } := I4.kept (t' := s4.toks) fun _ _ q => Heap.get?_push_of_some _ q
  obtain ⟨its, r, ht, hz⟩ := I5.tuple hx
  obtain ⟨y1, y2, rfl, ry1, ry2⟩ := vals2 r
  show wpAny (model X.prog X.w) X.A (subscriptTail a (.Slice none none (some b) p3) (.ref ad) (.ref s4.heap.objs.size)) (EP X pins σ Q) X.xe { s4 with heap := s4.heap.push { cls := .type "slice", data := .fields #[.none, .none, vs] } }
  refine tail_any (ops := [.ref ad, .ref s4.heap.objs.size]) ht.typeIs PyProof.Rows.slot_tuple_getitem.lookup ?_ (by with_unfolding_all rfl)
  rcases hq with ⟨rfl, q⟩ | ⟨rfl, q⟩
  · exact pair_step ht (Heap.IsSliceOf.new ..) ps (.inl ⟨rfl, .ref ad, H4, I5, rfl, q⟩)
  · refine pair_step ht (Heap.IsSliceOf.new ..) ps (.inr ⟨rfl, ?_⟩)
    refine ⟨.ref _, _, I5.laid (t' := s4.toks) (o := .tup [x2, x1]) (fun _ _ q => Heap.get?_push_of_some _ q) (Nat.le_refl _) ?_, rfl, q _ (I5.hok.fresh (Nat.le_refl _))⟩
    exact ⟨by show 2 ≤ sizeLine; decide, _, .cons ry2 (.cons ry1 .nil), IsTup.new _ _⟩
end
end Sb
set_option Elab.async false
set_option linter.all false
set_option maxRecDepth 100000
set_option maxHeartbeats 4000000
namespace Sb
open PySem PySem.Spec PyProof.Rows L2
abbrev foldK (ks : List Key) : List Key := ks.foldl addK []
theorem foldK_succ {ks : List Key} {i : Nat} {k : Key} (e : ks[i]? = some k) : foldK (ks.take (i + 1)) = addK (foldK (ks.take i)) k := by
  rw [List.take_add_one, e]
  simp [foldK, List.foldl_append]
theorem foldK_len (ks : List Key) : (foldK ks).length ≤ ks.length := by
  have := fold_len ks []
  simpa using this
section
variable {P : Program} {w : World} {A : Around} {E : Value → Shared → Prop} {s : Shared}
theorem keys_into_set {I : Addr} {fp wr : List Addr} {G : Array GenState → Array GenState → Prop} {n : Nat} {Pv : Nat → Value → Prop} {St : Nat → Shared → Prop} {R : Result → Shared → Prop}
    (W : WalksS P w A.in1 I fp wr G n Pv St) (S : Addr) (nS : S ∉ fp) (ks : List Key) (hn : n = ks.length) (small : ks.length + 1 < scanBound) (vals : ∀ i v, Pv i v → ∃ k, ks[i]? = some k ∧ keyIs k v = true ∧ v.scannable = true) :
    ∀ (left i : Nat) (t : Shared), n - i = left → i ≤ n → St i t → t.heap.SetOf (mixKind P w) S (MemK (foldK (ks.take i))) (foldK (ks.take i)).length →
      (∀ t', Moved (S :: wr) G t t' → t'.heap.SetOf (mixKind P w) S (MemK (foldK ks)) (foldK ks).length → R (.ok (.ret .none)) t') →
      codeAny (model P w) A (.builtin "set.update.loop" ⟨[.ref S, .ref I], []⟩) R t := by
  have nW : S ∉ wr := fun z => nS (W.sub _ z)
  have up : ∀ b ∈ wr, b ∈ S :: wr := fun b z => List.mem_cons_of_mem _ z
  intro left
  induction left with
  | zero =>
    intro i t hl hi st so fin
    obtain rfl : i = n := by omega
    refine codeAny_builtin F.entry_set_update_loop ?_
    rw [Around.under_plainId F.plain_set_update_loop _]
    show wpAny _ A.in1 (pyNext (.ref I) >>= _) _ _ t
    refine wpAny_bind (W.done t _ _ st fun t' mv => ?_)
    show wpAny _ A.in1 (ret Value.none) _ _ t'
    rw [List.take_of_length_le (by omega)] at so
    exact wpAny_pure (fin t' (mv.mono up) (setOf_at so fun o z => mv.heap S o nW z))
  | succ left ih =>
    intro i t hl hi st so fin
    have il : i < n := by omega
    refine codeAny_builtin F.entry_set_update_loop ?_
    rw [Around.under_plainId F.plain_set_update_loop _]
    show wpAny _ A.in1 (pyNext (.ref I) >>= _) _ _ t
    refine wpAny_bind (W.item i t _ _ il st fun v t' pv st' mv => ?_)
    obtain ⟨k, ek, ki, ksc⟩ := vals i v pv
    have so' : t'.heap.SetOf (mixKind P w) S (MemK (foldK (ks.take i))) (foldK (ks.take i)).length := setOf_at so fun o z => mv.heap S o nW z
    have few : (foldK (ks.take i)).length + 1 < scanBound := by
      have := foldK_len (ks.take i)
      rw [List.length_take] at this
      omega
    show wpAny _ A.in1 (holding [v] (setAdd S v) >>= _) _ _ t'
    refine wpAny_bind (wpAny_holding ?_)
    unfold setAdd
    refine wpAny_holding ?_
    refine wpAny_bind ((mixKind P w).pyHash (k := k) ki ?_)
    refine wpAny_setAddHashed_of (s := { t' with toks := t'.toks + 1 }) (knd := mixKind P w) ki ksc so' few fun h' sb so2 => ?_
    have so3 : h'.SetOf (mixKind P w) S (MemK (foldK (ks.take (i + 1)))) (foldK (ks.take (i + 1))).length := by
      rw [foldK_succ ek, mem_addK, len_addK]
      exact so2
    refine wpAny_pure ⟨plainId_quiet F.plain_set_update_loop _, ih (i + 1) _ (by omega) il (W.frame _ t' _ _ st' (Nat.le_succ _) fun b hb o z => ?_) so3 fun t'' mv2 so4 => ?_⟩
    · rw [sb.2 b (fun q : b = S => nS (by rw [← q]; exact hb))]
      exact z
    · refine fin t'' (Moved.trans W.gtrans ((mv.mono up).then_heap (Nat.le_succ _) fun b o hb z => ?_) mv2) so4
      rw [sb.2 b (fun q : b = S => hb (by rw [q]; exact List.mem_cons_self))]
      exact z
set_option maxHeartbeats 8000000 in
theorem set_of_keys {l : Addr} {its : Array Value} (ks : List Key) {Q : Value → Shared → Prop} (noH : A.handled = none) (isl : s.heap.IsList l its) (hl : its.size = ks.length)
    (vals : ∀ (i : Nat) (v : Value), its[i]? = some v → ∃ k, ks[i]? = some k ∧ keyIs k v = true ∧ v.scannable = true) (small : ks.length + 1 < scanBound)
    (k : ∀ (hp : Heap) (tk : Nat), hp.SetOf (mixKind P w) s.heap.objs.size (MemK (foldK ks)) (foldK ks).length →
      (∀ b o, s.heap.get? b = some o → hp.get? b = some o) → Q (.ref s.heap.objs.size) { s with heap := hp, toks := tk }) :
    wpAny (model P w) A (PySem.call (.type "set") [.ref l]) Q E s := by
  obtain ⟨c, tl, _⟩ := F.called_set.mro
  have q1 := F.called_set.made
  have q2 := F.called_set.sub
  refine wpAny_call (codeAny_of_tree ?_)
  show wpAny _ _ (callAny (.type "set") _) _ _ _
  refine wpAny_pure ⟨Code.quiet_builtin _ (by decide +kernel), codeAny_builtin F.entry_type_call ?_⟩
  rw [Around.under_plain (weight_type_call_type "set" [.ref l] []) rfl]
  have q3 := F.called_set.notType
  have q4 := F.called_set.canCreate
  have q5 := F.typeCall_set_1 (.ref l)
  repeat' first | assumption | wp_step
  let h1 : Heap := s.heap.push (eSet w)
  have new1 : h1.get? s.heap.objs.size = some (eSet w) := Heap.get?_push_size _ rfl
  have sz1 : h1.objs.size = s.heap.objs.size + 1 := Heap.size_push ..
  refine codeAny_mono (code_set_led1 (.ref l) (E := E)
    (Q₁ := fun v t => v = .ref s.heap.objs.size ∧ t = { s with heap := h1 }) ⟨rfl, rfl⟩) fun r t hr => ?_
  cases r with
  | error e => exact hr
  | ok fl =>
    cases fl with
    | ret obj =>
      obtain ⟨rfl, rfl⟩ := hr
      have ty1 : Shared.TypeIs { s with heap := h1 } (.ref s.heap.objs.size) "set" := ⟨_, new1, rfl⟩
      have z1 := F.called_set.init.lookup
      have z2 := F.called_set.init.bind (.ref s.heap.objs.size)
      repeat' first | assumption | wp_step
      refine codeAny_mono (codeAny_call_builtin
        (R := wants (fun v t => v = .none ∧ ∃ hp tk, t = { s with heap := hp, toks := tk } ∧
          hp.SetOf (mixKind P w) s.heap.objs.size (MemK (foldK ks)) (foldK ks).length ∧
          (∀ b o, s.heap.get? b = some o → hp.get? b = some o)) E)
        F.called_set.init.plain F.entry_set_init (check_set_init_1 ty1 ?_)) fun r2 t2 hr2 => ?_
      · obtain ⟨o, ho, hcl, nl, hdl⟩ := isl
        obtain ⟨oc, od, odt, osl⟩ := o
        simp only at hcl hdl
        subst hcl
        subst hdl
        have at1 : h1.get? l = some ⟨.type "list", od, .seq its nl, osl⟩ := Heap.get?_push_of_some _ ho
        have y1 := F.sub_list_set
        have y2 := F.sub_list_frozenset
        have y3 : (Value.type "list" == Value.type "dict") = false := by decide
        have isl1 : h1.IsList l its := ⟨_, at1, rfl, nl, rfl⟩
        unfold Builtin.«set.__init__» noKeywords Builtin.Frozenset.updateFrom
        generalize gPI : pyIter = PI
        wp_walk
        subst gPI
        refine wpAny_pyIter_list isl1 ?_
        refine wpAny_bind (wpAny_runValue ?_)
        have llt : l < s.heap.objs.size := Heap.lt_size ho
        have no3 : A.in1.in1.in1.handled = none := by simp [noH]
        have lne : l ≠ h1.objs.size := by
          rw [sz1]
          exact Nat.ne_of_lt (Nat.lt_succ_of_lt llt)
        have snot : s.heap.objs.size ∉ [h1.objs.size, l] := by
          rw [sz1]
          intro z
          rcases List.mem_cons.mp z with q | q
          · exact Nat.ne_of_lt (Nat.lt_succ_self _) q
          · exact Nat.ne_of_gt llt (List.mem_singleton.mp q)
        refine keys_into_set ((Walks.list no3 _ l lne its).toS) s.heap.objs.size snot ks hl small vals
          (its.size - 0) 0 _ (by omega) (Nat.zero_le _)
          ⟨⟨_, Heap.get?_push_size _ rfl, rfl, rfl⟩, (isl1.push _)⟩ ?start ?fin
        case start =>
          exact ⟨_, #[], 0, _, Heap.get?_push_of_some _ new1, ⟨rfl, rfl, rfl⟩, rfl, (fun e he => by simp at he), (fun k => by simp [foldK]), (by decide), (by rfl), rfl⟩
        case fin =>
          intro t mv R'
          obtain ⟨hp, g2, d2, tk2, os2⟩ := t
          have x1 : g2 = s.gens := mv.gens
          have x2 : d2 = s.drawn := mv.drawn
          have x3 : os2 = s.os := mv.os
          subst x1 x2 x3
          refine wpAny_pure ?_
          show wpAny _ _ (ret Value.none) _ _ _
          refine wpAny_pure ⟨rfl, hp, tk2, rfl, R', fun b o e => ?_⟩
          have b0 : b < s.heap.objs.size := Heap.lt_size e
          refine mv.heap b o ?_ (Heap.get?_push_of_some _ (Heap.get?_push_of_some _ e))
          intro z
          rcases List.mem_cons.mp z with q | q
          · exact Nat.ne_of_lt b0 q
          · have q' := List.mem_singleton.mp q
            have q2 : b = s.heap.objs.size + 1 := q'.trans sz1
            exact Nat.ne_of_lt (Nat.lt_succ_of_lt b0) q2
      · cases r2 with
        | error e => exact hr2
        | ok fl2 =>
          cases fl2 with
          | ret r =>
            obtain ⟨rfl, hp, tk, rfl, R', kp⟩ := hr2
            repeat' first | assumption | wp_step
            exact k _ _ R' kp
          | _ => exact hr2.elim
    | _ => exact hr.elim
end
section
variable {X : Cx}
def tLenSetK (K : PySem.W.Frag) (te : TE) : TE := fun σ H Q => te σ H fun x H1 => ∃ ad, ∃ ks : List Key, x = .ref ad ∧ SqL K H1 ad (ks.map kV) ∧ ks.length < 1000 ∧ Q (.int (foldK ks).length) H1
theorem pe_lenSetK {a : Expr} {te : TE} {p p2 pos pos2 : Pos} (hc : X.calm = true) (hg : Gl X "len") (hm : X.mg "len" = none) (hg2 : Gl X "set") (hm2 : X.mg "set" = none) (ha : PE X a te)
    (na : starEach [a] X.env = (false, eval a X.env) :: starEach [] X.env) (nb : starEach [.Call (.Name "set" p2) [a] [] pos2] X.env = (false, eval (.Call (.Name "set" p2) [a] [] pos2) X.env) :: starEach [] X.env) :
    PE X (.Call (.Name "len" p) [.Call (.Name "set" p2) [a] [] pos2] [] pos) (tLenSetK X.K te) := by
  refine ⟨fun pins s σ H Q I h => ?_⟩
  refine Call_ (ld_blt I hg hm PySem.boot_len ?_)
  refine callWith_builtin1 (args_cons ?_ nb) nb rfl
  refine Call_ (ld_blt I hg2 hm2 PyProof.Rows.boot_set ?_)
  refine callWith_type1 (args_cons (thn (ha.run pins s σ H _ I h) fun v t ⟨x, H1, J, r1, q1⟩ => args_nil ?_) na) na rfl
  obtain ⟨ad, ks, rfl, hq, h1000, q⟩ := q1
  obtain rfl : v = Value.ref ad := r1
  obtain ⟨its, rv, pl, hz⟩ := J.list hq
  have sb : (1000 : Nat) + 1 < scanBound := by decide +kernel
  have hl := rv.length
  rw [List.length_map] at hl
  refine set_of_keys (its := its.toArray) ks (J.ok.hd hc) pl.isList (by simpa using hl.symm) (fun i u hu => ?_) (by omega) fun hp tk R kp => ?_
  · rw [List.getElem?_toArray] at hu
    have il : i < ks.length := by
      rw [hl]
      exact (List.getElem?_eq_some_iff.mp hu).1
    obtain ⟨u', hu', ru⟩ := rv.get (i := i) (show (ks.map kV)[i]? = some (kV ks[i]) by rw [List.getElem?_map, List.getElem?_eq_getElem il]; rfl)
    rw [hu] at hu'
    cases hu'
    exact ⟨ks[i], List.getElem?_eq_getElem il, kV_is (P := X.prog) (w := X.w) ru, key_scan ru⟩
  · refine args_nil ?_
    have J2 : Inv X pins σ H1 { t with heap := hp, toks := tk } := J.kept kp
    obtain ⟨o, es, ep, tb, ho, hex, hd, _, _, hsz, hf, hn⟩ := R
    have fl := foldK_len ks
    exact call_len_set ho hex hd hf (by rw [hn]; omega) ⟨.int (foldK ks).length, H1, J2.tok _, ⟨_, by rw [hn]⟩, q⟩
end
end Sb
set_option Elab.async false
set_option linter.all false
set_option maxRecDepth 100000
set_option maxHeartbeats 4000000
namespace Sb
open PySem PySem.Spec PyProof.Rows L2
section
variable {X : Cx} {W : XK}
theorem mt_update_ok : MtR X "dict.update" (rMt (zOf X) X.mg W mtUpdate) := by
  intro pins s σ H x xs v us Q I rx rs hh
  obtain ⟨φ, h, p, ps, sm, r, r2, o⟩ := hh
  unfold mtUpdate at o
  split at o
  · rename_i m n
    split at o
    · rename_i l k e1 e2
      split at o
      · rename_i hm
        obtain ⟨hne, hlen⟩ := hm
        obtain ⟨w, e, q⟩ := r2.one
        subst e
        obtain ⟨ad, hx, qq⟩ := r
        obtain ⟨ad2, hx2, qq2⟩ := q
        obtain ⟨a', kvs, e4, e5, r'⟩ := sm.dctR e1
        rw [qq] at e4
        cases e4
        obtain ⟨a2', kvs2, e6, e7, r2'⟩ := sm.dctR e2
        rw [qq2] at e6
        cases e6
        subst hx hx2
        obtain rfl : v = Value.ref ad := rx
        obtain ⟨u, rfl, ru⟩ := vals1 rs
        obtain rfl : u = Value.ref ad2 := ru
        have ne : ad ≠ ad2 := fun z => hne (nodup_at sm.nd (by rw [← z] at qq2; exact qq) (by rw [← z] at qq2; exact qq2))
        obtain ⟨z1, hd1, vs1, kv1, d1⟩ := dk_of I.hok e5
        obtain ⟨z2, hd2, vs2, kv2, d2⟩ := dk_of I.hok e7
        have hl : vs1.length + vs2.length ≤ sizeLine := by
          rw [← kv1.length, ← kv2.length, ← r'.length, ← r2'.length]
          have := of_decide_eq_true hlen
          rw [sizeLine_eq]
          omega
        refine call_meetsIn PySem.F.slot_dict_update d1.typeIs PySem.F.entry_dict_update (PySem.F.args_dict_update_2 _ _) (meets_dict_update (mixKind X.prog X.w) ad ad2 ne hd2) ⟨vs1, vs2, d1, d2, hl, fun h' dd _ sb => ?_⟩
        have he : ∃ u, h'.get? ad = some u := by
          obtain ⟨ob, ho, _⟩ := Heap.dictOf_iff.mp dd
          exact ⟨ob, ho⟩
        have lm : (mergeK kvs kvs2).length ≤ sizeLine := by
          refine Nat.le_trans (length_mergeK kvs2 kvs) ?_
          rw [kv1.length, kv2.length]
          exact hl
        have xw := Ext.write (o := HO.dK (mergeK kvs kvs2)) sm (List.mem_of_getElem? qq)
        refine ⟨.non, upd H ad (.dK (mergeK kvs kvs2)), I.write (e := ad) (t' := s.toks) (by rw [e5]; trivial) (.inl rfl) (fun b u hb hu => (sb.2 b hb).trans hu) he (dk_new lm hd1 (KV.merge kv2 kv1) dd), rfl, ?_⟩
        exact o φ _ _ xw (sm.writeD qq (RD.merge r2' r')) rfl
      · exact o.elim
    · exact o.elim
  · exact o.elim
end
section
variable {X : Cx} {W : WX} {C : Calls} {a b c d : Expr} {ea eb ec ed : E} {pos p3 : Pos}
/-- (a, b)[::s] -/
theorem je_stp (ha : JE X W C a ea) (hb : JE X W C b eb) : JE X W C (.Subscript a (.Slice none none (some b) p3) pos) (.stp ea eb) :=
  pe_imp (pe_pairS ha hb) fun σ H Q ⟨ρ, φ, h, sm, re, o⟩ => by
    have o' : Out (zOf X) X.mg (RV (zOf X)) φ H (atS W σ) Q ((evG C ea false ρ h).bind fun x h1 => (evG C eb false ρ h1).bind fun st h2 => stpop x st h2) := by
      have e : evG C (.stp ea eb) false ρ h = (evG C ea false ρ h).bind fun x h1 => (evG C eb false ρ h1).bind fun st h2 => stpop x st h2 := by rw [evG]; rfl
      rw [← e]
      exact o
    refine ⟨ρ, φ, h, sm, re, (Out.bind (rel2 := RV (zOf X)) o').imp fun x H1 ⟨φ1, v, h1, x1, s1, r1, o1⟩ => ?_⟩
    refine ⟨ρ, φ1, h1, s1, re.mono x1, (Out.bind (rel2 := RV (zOf X)) o1).imp fun y H2 ⟨φ2, st', h2, x2, s2, r2, o2⟩ => ?_⟩
    unfold stpop at o2
    split at o2
    · rename_i u w
      obtain rfl : y = .int 1 := r2
      obtain ⟨ad, vs, rfl, hq, rr⟩ := r1.mono x2
      obtain ⟨v1, v2, rfl, q1, q2⟩ := rr.two
      exact ⟨1, rfl, ad, v1, v2, rfl, hq.sq, .inl ⟨rfl, o2.at s2 ⟨ad, _, rfl, hq, RVs.cons q1 (RVs.cons q2 RVs.nil)⟩⟩⟩
    · rename_i u w
      obtain rfl : y = .int (-1) := r2
      obtain ⟨ad, vs, rfl, hq, rr⟩ := r1.mono x2
      obtain ⟨v1, v2, rfl, q1, q2⟩ := rr.two
      refine ⟨-1, rfl, ad, v1, v2, rfl, hq.sq, .inr ⟨rfl, fun p np => ?_⟩⟩
      have xn : Ext φ2 φ2 H2 (upd H2 p (.tup [v2, v1])) := Ext.new np
      exact o2 φ2 _ _ xn (s2.new np) ⟨p, [v2, v1], rfl, .inl ⟨.inl upd_same, s2.out np⟩, (RVs.cons q2 (RVs.cons q1 RVs.nil)).mono xn⟩
    · exact (show False from o2).elim
/-- len(set(xs)) -/
theorem je_lenSet {p p2 pos2 : Pos} (hc : X.calm = true) (hm : X.mg "len" = none) (hm2 : X.mg "set" = none) (ha : JE X W C a ea) (hg : Gl X "len" := by rfl) (hg2 : Gl X "set" := by rfl)
    (na : starEach [a] X.env = (false, eval a X.env) :: starEach [] X.env := by rfl) (nb : starEach [.Call (.Name "set" p2) [a] [] pos2] X.env = (false, eval (.Call (.Name "set" p2) [a] [] pos2) X.env) :: starEach [] X.env := by rfl) :
    JE X W C (.Call (.Name "len" p) [.Call (.Name "set" p2) [a] [] pos2] [] pos) (.bi .lenSet [ea]) :=
  pe_imp (pe_lenSetK hc hg hm hg2 hm2 ha na nb) fun σ H Q ⟨ρ, φ, h, sm, re, o⟩ => by
    have o' : Out (zOf X) X.mg (RV (zOf X)) φ H (atS W σ) Q ((evG C ea false ρ h).bind fun x h1 => biLenSet [x] h1) := by
      have e : evG C (.bi .lenSet [ea]) false ρ h = (evG C ea false ρ h).bind fun x h1 => biLenSet [x] h1 := by
        show ((evG C ea false ρ h).bind fun x h1 => (R.ok [] h1).bind fun l h2 => .ok (x :: l) h2).bind (fun l h1 => biLenSet l h1) = _
        cases evG C ea false ρ h <;> rfl
      rw [← e]
      exact o
    refine ⟨ρ, φ, h, sm, re, (Out.bind (rel2 := RV (zOf X)) o').imp fun x H1 ⟨φ1, v, h1, x1, s1, r1, o1⟩ => ?_⟩
    unfold biLenSet at o1
    split at o1
    · rename_i n e0
      cases e0
      split at o1
      · rename_i l e1
        split at o1
        · rename_i ks e2
          split at o1
          · rename_i hl
            obtain ⟨ad, vs, hx, hq, r'⟩ := s1.listV (l := l) r1 (by simp only [listOf, e1])
            rw [keys_rel r' e2] at hq
            exact ⟨ad, ks, hx, hq, hl, o1.at s1 rfl⟩
          · exact (show False from o1).elim
        · exact (show False from o1).elim
      · exact (show False from o1).elim
    · exact (show False from o1).elim
/-- {k: v, m: w} -/
theorem je_dct2 (ha : JE X W C a ea) (hb : JE X W C b eb) (hc : JE X W C c ec) (hd : JE X W C d ed) : JE X W C (.Dict [some a, some c] [b, d] pos) (.dct [ea, eb, ec, ed]) := pe_imp (pe_disp (pps_cons ha hb (pps_cons hc hd pps_nil)) rfl rfl (by simp) (Nat.le_of_ble_eq_true rfl)) fun σ H Q ⟨ρ, φ, h, sm, re, o⟩ => by
  intro p hp
  have o' : Out (zOf X) X.mg (RV (zOf X)) φ H (atS W σ) Q ((evG C ea false ρ h).bind fun x h1 => (evG C eb false ρ h1).bind fun y h2 => (evG C ec false ρ h2).bind fun x' h3 => (evG C ed false ρ h3).bind fun y' h4 => match pairUp [x, y, x', y'] with | some l => allocD (mergeP [] l) h4 | none => .no) := by
    have e : evG C (.dct [ea, eb, ec, ed]) false ρ h = (evG C ea false ρ h).bind fun x h1 => (evG C eb false ρ h1).bind fun y h2 => (evG C ec false ρ h2).bind fun x' h3 => (evG C ed false ρ h3).bind fun y' h4 => match pairUp [x, y, x', y'] with | some l => allocD (mergeP [] l) h4 | none => .no := by
      have e0 : evG C (.dct [ea, eb, ec, ed]) false ρ h = (evGs C [ea, eb, ec, ed] ρ h).bind fun l h1 => match pairUp l with | some l => allocD (mergeP [] l) h1 | none => .no := by rw [evG]; rfl
      rw [e0]
      simp only [evGs, R.bind_bind, R.bind_ok]
    rw [← e]
    exact o
  have x0 : Ext φ φ H (upd H p (.dK [])) := Ext.new hp
  refine ⟨ρ, φ, h, sm.new hp, re.mono x0, (Out.bindAt (rel2 := RV (zOf X)) x0 o').imp fun x H1 ⟨φ1, a1, h1, x1, s1, r1, o1⟩ => ?_⟩
  refine ⟨ρ, φ1, h1, s1, (re.mono x0).mono x1, (Out.bindAt (rel2 := RV (zOf X)) (x0.trans x1) o1).imp fun y H2 ⟨φ2, a2, h2, x2, s2, r2, o2⟩ => ?_⟩
  refine ⟨ρ, φ2, h2, s2, ((re.mono x0).mono x1).mono x2, (Out.bindAt (rel2 := RV (zOf X)) ((x0.trans x1).trans x2) o2).imp fun x' H3 ⟨φ3, a3, h3, x3, s3, r3, o3⟩ => ?_⟩
  refine ⟨ρ, φ3, h3, s3, (((re.mono x0).mono x1).mono x2).mono x3, (Out.bindAt (rel2 := RV (zOf X)) (((x0.trans x1).trans x2).trans x3) o3).imp fun y' H4 ⟨φ4, a4, h4, x4, s4, r4, o4⟩ => ?_⟩
  have nD0 : p ∉ φ := sm.out hp
  have xx := ((x1.trans x2).trans x3).trans x4
  have hD4 : H4 p = some (.dK []) := xx.keep p _ upd_same nD0 (fun ps z => by cases z)
  have nD4 : p ∉ φ4 := fun z => by
    obtain ⟨ps, e⟩ := xx.fresh p z nD0 _ upd_same
    cases e
  have q1 := ((r1.mono x2).mono x3).mono x4
  have q2 := (r2.mono x3).mono x4
  have q3 := r3.mono x4
  cases ek : keyOf a1 with
  | none =>
    have : pairUp [a1, a2, a3, a4] = none := by simp [pairUp, ek]
    rw [this] at o4
    exact (show False from o4).elim
  | some k1 =>
    cases ek2 : keyOf a3 with
    | none =>
      have : pairUp [a1, a2, a3, a4] = none := by simp [pairUp, ek, ek2]
      rw [this] at o4
      exact (show False from o4).elim
    | some k2 =>
      have : pairUp [a1, a2, a3, a4] = some [(k1, a2), (k2, a4)] := by simp [pairUp, ek, ek2]
      rw [this] at o4
      have ex := keyOf_rel q1 ek
      have ex2 := keyOf_rel q3 ek2
      have o5 : Out (zOf X) X.mg (RV (zOf X)) φ H (atS W σ) Q (.ok (.ref h4.length) (h4 ++ [.dct (mergeP [] [(k1, a2), (k2, a4)])])) := o4
      refine ⟨hD4, [(k1, y), (k2, y')], by rw [ex, ex2]; rfl, Nat.le_of_ble_eq_true rfl, ?_⟩
      have rd : RD (zOf X) φ4 H4 (mergeP [] [(k1, a2), (k2, a4)]) (mergeK [] [(k1, y), (k2, y')]) := RD.merge (RD.cons q2 (RD.cons r4 RD.nil)) RD.nil
      have s5 : Sim (zOf X) φ4 h4 (upd H4 p (.dK (mergeK [] [(k1, y), (k2, y')]))) := s4.asideD hD4 nD4
      refine o5 (φ4 ++ [p]) _ (.ref p) (((x0.trans xx).aside hp).adopt hp) (s5.adoptD upd_same nD4 (rd.monoK (Kp.asideD hD4))) ⟨p, rfl, ?_⟩
      rw [← s4.len, List.getElem?_append_right (Nat.le_refl _), Nat.sub_self]
      rfl
end
end Sb
set_option Elab.async false
set_option linter.all false
set_option maxRecDepth 100000
set_option maxHeartbeats 4000000
namespace Sb
open PySem PySem.Spec L2
def pick {α : Type} (ix : List Nat) (l : List α) : List α := ix.filterMap fun i => l[i]?
theorem vals_pick {vs : List V} {us : List Value} (r : Vals vs us) : ∀ ix : List Nat, Vals (pick ix vs) (pick ix us)
  | [] => .nil
  | i :: ix => by
    have ih := vals_pick r ix
    unfold pick
    rw [List.filterMap_cons, List.filterMap_cons]
    cases h : vs[i]? with
    | none =>
      have : us[i]? = none := by
        rw [List.getElem?_eq_none_iff] at h ⊢
        rw [← r.length]
        exact h
      rw [this]
      exact ih
    | some v =>
      obtain ⟨u, hu, ru⟩ := r.get h
      rw [hu]
      exact .cons ru ih
theorem rvs_pick {Z : ZZ} {φ : List Addr} {H : Hp} {l : List PV} {vs : List V} (r : RVs Z φ H l vs) : ∀ {ix : List Nat} {l' : List PV}, mapO (fun i => l[i]?) ix = some l' → RVs Z φ H l' (pick ix vs) ∧ l'.length = ix.length
  | [], l', e => by
    cases e
    exact ⟨RVs.nil, rfl⟩
  | i :: ix, l', e => by
    unfold mapO at e
    cases h1 : l[i]? with
    | none => rw [h1] at e; cases e
    | some p =>
      rw [h1] at e
      cases h2 : mapO (fun i => l[i]?) ix with
      | none => rw [h2] at e; cases e
      | some s =>
        rw [h2] at e
        cases e
        obtain ⟨q, hq⟩ := rvs_pick r h2
        obtain ⟨v, hv, rv⟩ := r.get h1
        unfold pick
        rw [List.filterMap_cons, hv]
        exact ⟨RVs.cons rv q, by rw [List.length_cons, hq, List.length_cons]⟩
section
variable {X : Cx} {CX : CXT} {k n : Nat} {f : Addr} {fd : FuncData} {ps ks : List Str} {sp : Sp} {E : St → XK} {x : Str} {p pos : Pos} {e : Expr} {es : List Expr} {kws : List Keyword} {t tk : TA} {g : List Value → List Value → List Value} {gV : List V → List V → List V}
def tCallKS (n m : Nat) (sp : Sp) (gV : List V → List V → List V) (E : St → XK) (t tk : TA) : TE := fun σ H Q => t σ H fun vs H1 => tk σ H1 fun zs H2 => vs.length = n ∧ zs.length = m ∧ sp (gV vs zs) H2 Q (E σ)
theorem run_fnKS {pins : List (Addr × Obj)} {σ : St} {H : Hp} {s : Shared} {Q : VK} {us ws : List Value} {vs zs : List V} (F : FnOk X.prog X.w X.K X.mg X.base CX k f fd ps sp) (hr : Room k X.A) (hb : KBn X.K fd ps n ks g gV) (hx : PassesAt CX X σ (E σ))
    (I : Inv X pins σ H s) (r : Vals vs us) (rz : Vals zs ws) (l1 : vs.length = n) (l2 : zs.length = ks.length) (h : sp (gV vs zs) H Q (E σ)) : wpAny (model X.prog X.w) X.A (PySem.call (.ref f) us (ks.zip ws)) (EP X pins σ Q) X.xe s := by
  have r2 := hb.rel r rz
  refine wpAny_call (codeAny_mono (F.run X.A X.stack s H ⟨us, ks.zip ws⟩ (g us ws) (gV vs zs) Q (E σ) hr I.env0 (hb.to s us ws I.kIn (r.length.symm.trans l1) (rz.length.symm.trans l2)) r2 h) fun r s' hq => ?_)
  cases r with
  | error e => exact hx pins H s e s' I hq
  | ok fl =>
    cases fl with
    | ret u => exact I.after hq
    | next => exact False.elim hq
    | brk => exact False.elim hq
    | cont => exact False.elim hq
theorem pe_callKS (F : FnOk X.prog X.w X.K X.mg X.base CX k f fd ps sp) (hr : Room k X.A) (hg : Gl X x) (hm : X.mg x = some (.ref f)) (hk : PySem.W.keepIn X.K (.ref f) = true) (hb : KBn X.K fd ps n ks g gV) (hx : ∀ σ, PassesAt CX X σ (E σ))
    (ha : PA X (e :: es) t) (hkw : PK X kws tk) (hall : (backToKw pos (keywordEach kws X.env)).all (·.1.isSome) = true := by rfl) (hks : (backToKw pos (keywordEach kws X.env)).filterMap (·.1) = ks := by rfl)
    (hdb : (x == ("__debug__" : Str)) = false := by decide) (he : starEach (e :: es) X.env = (false, eval e X.env) :: starEach es X.env := by rfl)
    (hpl : ((backTo pos (starEach (e :: es) X.env)).any (·.1) || (backToKw pos (keywordEach kws X.env)).any (·.1.isNone)) = false := by rfl) :
    PE X (.Call (.Name x p) (e :: es) kws pos) (tCallKS n ks.length sp gV E t tk) := by
  refine ⟨fun pins s σ H Q I h => ?_⟩
  refine wpAny_Call_Name_kw (ld_glob I hg hm ?_ hdb)
  refine PySem.W.callWith_KW (h₀ := X.base) I.ok.mod.kin hk hall (thn (ha.run pos pins s σ H _ I h) fun us s1 ⟨vs, H1, I1, r, q⟩ => ?_) hpl he
  refine thn (hkw.run pos pins s1 σ H1 _ I1 q) fun ws s2 ⟨zs, H2, I2, rz, l1, l2, q2⟩ => ⟨I2.kIn, ?_⟩
  rw [hks]
  exact run_fnKS F hr hb (hx σ) I2 r rz l1 l2 q2
theorem pe_callKS0 (F : FnOk X.prog X.w X.K X.mg X.base CX k f fd ps sp) (hr : Room k X.A) (hg : Gl X x) (hm : X.mg x = some (.ref f)) (hk : PySem.W.keepIn X.K (.ref f) = true) (hb : KBn X.K fd ps 0 ks g gV) (hx : ∀ σ, PassesAt CX X σ (E σ))
    (hkw : PK X kws tk) (hall : (backToKw pos (keywordEach kws X.env)).all (·.1.isSome) = true := by rfl) (hks : (backToKw pos (keywordEach kws X.env)).filterMap (·.1) = ks := by rfl)
    (hdb : (x == ("__debug__" : Str)) = false := by decide)
    (hpl : ((backTo pos (starEach [] X.env)).any (·.1) || (backToKw pos (keywordEach kws X.env)).any (·.1.isNone)) = false := by rfl) :
    PE X (.Call (.Name x p) [] kws pos) (tCallKS 0 ks.length sp gV E tNil tk) := by
  refine ⟨fun pins s σ H Q I h => ?_⟩
  refine wpAny_Call_Name_kw (ld_glob I hg hm ?_ hdb)
  refine PySem.W.callWith_KW0 (h₀ := X.base) I.ok.mod.kin hk hall (thn (hkw.run pos pins s σ H _ I h) fun ws s2 ⟨zs, H2, I2, rz, l1, l2, q2⟩ => ⟨I2.kIn, ?_⟩) hpl
  rw [hks]
  exact run_fnKS (us := []) (vs := []) F hr hb (hx σ) I2 .nil rz rfl l2 q2
end
theorem pk_imp {X : Cx} {kws : List Keyword} {t t' : TA} (h : PK X kws t) (f : ∀ σ H Q, t' σ H Q → t σ H Q) : PK X kws t' := ⟨fun pos pins s σ H Q I q => h.run pos pins s σ H Q I (f σ H Q q)⟩
abbrev JK (X : Cx) (W : WX) (C : Calls) (kws : List Keyword) (ees : List E) : Prop := PK X kws (tAs (zOf X) X.mg W C ees)
/-- a def called with keywords: n values ahead of them, ks their names -/
structure FnK (P : Program) (w : World) (K : PySem.W.Frag) (mg : Str → Option Value) (base : Heap) (C : Calls) (k : Nat) (x : Str) (fi np n : Nat) (ks : List Str) (ix : List Nat) (dvs : List V) : Prop where
  ex : ∃ (fa : Addr) (fd : FuncData) (ps : List Str) (dus : List Value), ps.length = np ∧ FnOk P w K mg base (L2N.CX P w) (k + 3) fa fd ps (spF ⟨K, [], P, w⟩ mg C fi np) ∧ mg x = some (.ref fa) ∧ PySem.W.keepIn K (.ref fa) = true ∧ KBn K fd ps n ks (fun us ws => pick ix (us ++ ws) ++ dus) (fun vs zs => pick ix (vs ++ zs) ++ dvs)
section
variable {X : Cx} {W : WX} {C : Calls} {a b c : Expr} {as : List Expr} {pos p kpos : Pos} {ea eb ec : E} {ees kes : List E} {x : Str} {k : Nat} {kws : List Keyword} {nm : Option Str}
theorem jk_nil : JK X W C [] [] := pk_imp pk_nil fun σ H Q ⟨ρ, φ, h, sm, re, o⟩ => o.at sm RVs.nil
theorem jk_cons (ha : JE X W C a ea) (hr : JK X W C kws ees) : JK X W C (⟨nm, a, kpos⟩ :: kws) (ea :: ees) :=
  pk_imp (pk_cons ha hr) fun σ H Q ⟨ρ, φ, h, sm, re, o⟩ =>
    ⟨ρ, φ, h, sm, re, (Out.bind (rel2 := RV (zOf X)) (show Out (zOf X) X.mg (RVs (zOf X)) φ H (atS W σ) Q ((evG C ea false ρ h).bind fun x h1 => (evGs C ees ρ h1).bind fun l h2 => .ok (x :: l) h2) from o)).imp fun x H1 ⟨φ1, va, h1, x1, s1, r1, o1⟩ =>
      ⟨ρ, φ1, h1, s1, re.mono x1, (Out.bind (rel2 := RVs (zOf X)) o1).imp fun xs H2 ⟨φ2, vb, h2, x2, s2, r2, o2⟩ => o2.at s2 (RVs.cons (r1.mono x2) r2)⟩⟩
theorem evGs_app {ρ : Env} {h : PH} : ∀ {as bs : List E}, evGs C (as ++ bs) ρ h = (evGs C as ρ h).bind fun l h1 => (evGs C bs ρ h1).bind fun m h2 => .ok (l ++ m) h2
  | as, bs => by
    induction as generalizing h with
    | nil =>
      show evGs C bs ρ h = (evGs C bs ρ h).bind fun m h2 => .ok m h2
      cases evGs C bs ρ h <;> rfl
    | cons a as ih =>
      show ((evG C a false ρ h).bind fun x h1 => (evGs C (as ++ bs) ρ h1).bind fun l h2 => R.ok (x :: l) h2) = ((evG C a false ρ h).bind fun x h1 => (evGs C as ρ h1).bind fun l h2 => R.ok (x :: l) h2).bind _
      cases evG C a false ρ h with
      | ok x h1 =>
        simp only [R.bind_ok]
        rw [ih]
        cases evGs C as ρ h1 with
        | ok l h2 =>
          simp only [R.bind_ok]
          cases evGs C bs ρ h2 <;> rfl
        | ex _ _ => rfl
        | no => rfl
      | ex _ _ => rfl
      | no => rfl
/-- f(k = v, ..) -/
theorem je_callK0 {fi np : Nat} {ks : List Str} {ix : List Nat} {ds : List PV} {dvs : List V} (G : FnK X.prog X.w X.K X.mg X.base C k x fi np 0 ks ix dvs) (hcalm : X.calm = true) (rd : ∀ φ H, RVs ⟨X.K, [], X.prog, X.w⟩ φ H ds dvs) (hr : Room (k + 3) X.A) (tk : L2N.Takes X W) (ha : JK X W C kws ees)
    (hl : ix.length + ds.length = np := by rfl) (hn : ees.length = ks.length := by rfl) (hg : Gl X x := by rfl) (hall : (backToKw pos (keywordEach kws X.env)).all (·.1.isSome) = true := by rfl) (hks : (backToKw pos (keywordEach kws X.env)).filterMap (·.1) = ks := by rfl)
    (hdb : (x == ("__debug__" : Str)) = false := by decide) (hpl : ((backTo pos (starEach [] X.env)).any (·.1) || (backToKw pos (keywordEach kws X.env)).any (·.1.isNone)) = false := by rfl) :
    JE X W C (.Call (.Name x p) [] kws pos) (.callk fi ees ix ds) := by
  obtain ⟨fa, fd, ps, dus, hps, F, hm, hk, hb⟩ := G.ex
  have hz : zOf X = ⟨X.K, [], X.prog, X.w⟩ := z_calm hcalm
  rw [← hz] at F
  rw [← hz] at rd
  refine pe_imp (pe_callKS0 F hr hg hm hk hb (fun σ => L2N.passAt tk σ) ha hall hks hdb hpl) fun σ H Q ⟨ρ, φ, h, sm, re, o⟩ => ?_
  have o' : Out (zOf X) X.mg (RV (zOf X)) φ H (atS W σ) Q ((evGs C ees ρ h).bind fun l h1 => match mapO (fun i => l[i]?) ix with | some l' => C fi (l' ++ ds) h1 | none => .no) := by
    have e : evG C (.callk fi ees ix ds) false ρ h = (evGs C ees ρ h).bind fun l h1 => match mapO (fun i => l[i]?) ix with | some l' => C fi (l' ++ ds) h1 | none => .no := by rw [evG]; rfl
    rw [← e]
    exact o
  refine ⟨ρ, φ, h, sm, re, ?_⟩
  cases e : evGs C ees ρ h with
  | ok l h1 =>
    rw [e, R.bind_ok] at o'
    intro φ' H' vs x s r
    cases em : mapO (fun i => l[i]?) ix with
    | none =>
      rw [em] at o'
      exact (show False from o').elim
    | some l' =>
      rw [em] at o'
      obtain ⟨rp, lp⟩ := rvs_pick r em
      refine ⟨rfl, by rw [← r.length, evGs_length e]; exact hn, ?_, φ', h1, l' ++ ds, s, rp.append (rd φ' H'), o'.mono x⟩
      show (pick ix ([] ++ vs) ++ dvs).length = np
      rw [List.nil_append, List.length_append, ← rp.length, lp, ← (rd φ' H').length]
      exact hl
  | ex y h1 => rw [e] at o'; exact o'
  | no => rw [e] at o'; exact o'
/-- f(e, .., k = v, ..) -/
theorem je_callK1 {fi np n : Nat} {ks : List Str} {ix : List Nat} {ds : List PV} {dvs : List V} (G : FnK X.prog X.w X.K X.mg X.base C k x fi np n ks ix dvs) (hcalm : X.calm = true) (rd : ∀ φ H, RVs ⟨X.K, [], X.prog, X.w⟩ φ H ds dvs) (hr : Room (k + 3) X.A) (tk : L2N.Takes X W) (hp : JA X W C (a :: as) ees) (ha : JK X W C kws kes)
    (hl : ix.length + ds.length = np := by rfl) (hn : kes.length = ks.length := by rfl) (hn2 : ees.length = n := by rfl) (hg : Gl X x := by rfl) (hall : (backToKw pos (keywordEach kws X.env)).all (·.1.isSome) = true := by rfl) (hks : (backToKw pos (keywordEach kws X.env)).filterMap (·.1) = ks := by rfl)
    (hdb : (x == ("__debug__" : Str)) = false := by decide) (he : starEach (a :: as) X.env = (false, eval a X.env) :: starEach as X.env := by rfl) (hpl : ((backTo pos (starEach (a :: as) X.env)).any (·.1) || (backToKw pos (keywordEach kws X.env)).any (·.1.isNone)) = false := by rfl) :
    JE X W C (.Call (.Name x p) (a :: as) kws pos) (.callk fi (ees ++ kes) ix ds) := by
  obtain ⟨fa, fd, ps, dus, hps, F, hm, hk, hb⟩ := G.ex
  have hz : zOf X = ⟨X.K, [], X.prog, X.w⟩ := z_calm hcalm
  rw [← hz] at F
  rw [← hz] at rd
  refine pe_imp (pe_callKS F hr hg hm hk hb (fun σ => L2N.passAt tk σ) hp ha hall hks hdb he hpl) fun σ H Q ⟨ρ, φ, h, sm, re, o⟩ => ?_
  have o' : Out (zOf X) X.mg (RV (zOf X)) φ H (atS W σ) Q ((evGs C ees ρ h).bind fun l h1 => (evGs C kes ρ h1).bind fun m h2 => match mapO (fun i => (l ++ m)[i]?) ix with | some l' => C fi (l' ++ ds) h2 | none => .no) := by
    have e : evG C (.callk fi (ees ++ kes) ix ds) false ρ h = (evGs C ees ρ h).bind fun l h1 => (evGs C kes ρ h1).bind fun m h2 => match mapO (fun i => (l ++ m)[i]?) ix with | some l' => C fi (l' ++ ds) h2 | none => .no := by
      have e0 : evG C (.callk fi (ees ++ kes) ix ds) false ρ h = (evGs C (ees ++ kes) ρ h).bind fun l h1 => match mapO (fun i => l[i]?) ix with | some l' => C fi (l' ++ ds) h1 | none => .no := by rw [evG]; rfl
      rw [e0, evGs_app]
      simp only [R.bind_bind, R.bind_ok]
    rw [← e]
    exact o
  refine ⟨ρ, φ, h, sm, re, ?_⟩
  cases e : evGs C ees ρ h with
  | ok l h1 =>
    rw [e, R.bind_ok] at o'
    intro φ1 H1 vs x1 s1 r1
    have o1 := o'.mono x1
    refine ⟨ρ, φ1, h1, s1, re.mono x1, ?_⟩
    cases e2 : evGs C kes ρ h1 with
    | ok m h2 =>
      rw [e2, R.bind_ok] at o1
      intro φ' H' zs x s r
      cases em : mapO (fun i => (l ++ m)[i]?) ix with
      | none =>
        rw [em] at o1
        exact (show False from o1).elim
      | some l' =>
        rw [em] at o1
        obtain ⟨rp, lp⟩ := rvs_pick ((r1.mono x).append r) em
        refine ⟨by rw [← r1.length, evGs_length e]; exact hn2, by rw [← r.length, evGs_length e2]; exact hn, ?_, φ', h2, l' ++ ds, s, rp.append (rd φ' H'), o1.mono x⟩
        show (pick ix (vs ++ zs) ++ dvs).length = np
        rw [List.length_append, ← rp.length, lp, ← (rd φ' H').length]
        exact hl
    | ex y h2 => rw [e2] at o1; exact o1
    | no => rw [e2] at o1; exact o1
  | ex y h1 => rw [e] at o'; exact o'
  | no => rw [e] at o'; exact o'
end
section
variable {K : PySem.W.Frag} {x qual : Str} {params : Arguments} {body : List Stmt} {scope : Scope} {dvs : List V} {kws : List (Str × V)} {f : Addr} {fd : FuncData} {ps : List Str}
theorem kbnN (F : FunD K x qual params body scope [] kws f fd) (n : Nat) (ks : List Str) (ix : List Nat)
    (h : ∀ (kV doc pm : Value) (an : Option Addr) (cdv ct : Value) (us ws : List Value), us.length = n → ws.length = ks.length → bindArgs (PySem.W.fnOf x qual params body scope .none kV doc pm an cdv ct) ⟨us, ks.zip ws⟩ = pure (ps.zip (pick ix (us ++ ws)))) :
    KBn K fd ps n ks (fun us ws => pick ix (us ++ ws) ++ []) (fun vs zs => pick ix (vs ++ zs) ++ []) := by
  obtain ⟨oc, od, dV, kV, doc, pm, an, cdv, ct, osl, rfl, lk, hcd, hD, hK⟩ := F.ex
  rcases hD with ⟨_, rfl⟩ | ⟨e, _⟩
  · exact ⟨fun s us ws X l1 l2 => .of_eq (by rw [List.append_nil]; exact h kV doc pm an cdv ct us ws l1 l2), fun r1 r2 => (vals_pick (r1.append r2) ix).append .nil⟩
  · exact absurd rfl e
theorem vals_drop {vs : List V} {us : List Value} : ∀ (m : Nat), Vals vs us → Vals (vs.drop m) (us.drop m)
  | 0, r => r
  | m + 1, .nil => .nil
  | m + 1, .cons _ r => vals_drop m r
theorem kbnD (F : FunD K x qual params body scope dvs kws f fd) (n : Nat) (ks : List Str) (ix : List Nat) (m : Nat) (hd : dvs ≠ [])
    (h : ∀ (T : Addr) (kV doc pm : Value) (an : Option Addr) (cdv ct : Value) (us its ws : List Value), us.length = n → its.length = dvs.length → ws.length = ks.length →
      ∃ k, bindArgs (PySem.W.fnOf x qual params body scope (.ref T) kV doc pm an cdv ct) ⟨us, ks.zip ws⟩ = seqItems? (.ref T) >>= k ∧ k (some its.toArray) = pure (ps.zip (pick ix (us ++ ws) ++ its.drop m))) :
    ∃ dus, KBn K fd ps n ks (fun us ws => pick ix (us ++ ws) ++ dus) (fun vs zs => pick ix (vs ++ zs) ++ dvs.drop m) := by
  obtain ⟨its, kb⟩ := F.kbindsD (ps := ps) n ks (fun us its ws => pick ix (us ++ ws) ++ its.drop m) hd (fun r1 r2 r3 => (vals_pick (r1.append r3) ix).append (vals_drop m r2)) h
  exact ⟨its.drop m, kb⟩
end
theorem rd_nil {Z : ZZ} {φ : List Addr} {H : Hp} : RVs Z φ H [] [] := RVs.nil
end Sb
set_option Elab.async false
set_option linter.all false
set_option maxRecDepth 100000
set_option maxHeartbeats 4000000
namespace Sb
open PySem PySem.Spec L2
abbrev N_common : List Str := ["one", "other"]
theorem sc_common : FnScope N_common ["one", "other"] (defScope s_common) := ⟨rfl, rfl, rfl, by decide +kernel, rfl, by decide +kernel, by decide +kernel⟩
abbrev N_fraction_of : List Str := ["top", "bottom", "by"]
theorem sc_fraction_of : FnScope N_fraction_of ["top", "bottom"] (defScope s_fraction_of) := ⟨rfl, rfl, rfl, by decide +kernel, rfl, by decide +kernel, by decide +kernel⟩
abbrev N_plus_of : List Str := ["one", "other"]
theorem sc_plus_of : FnScope N_plus_of ["one", "other"] (defScope s_plus_of) := ⟨rfl, rfl, rfl, by decide +kernel, rfl, by decide +kernel, by decide +kernel⟩
abbrev N_less_of : List Str := ["one", "other"]
theorem sc_less_of : FnScope N_less_of ["one", "other"] (defScope s_less_of) := ⟨rfl, rfl, rfl, by decide +kernel, rfl, by decide +kernel, by decide +kernel⟩
abbrev N_times_of : List Str := ["one", "other"]
theorem sc_times_of : FnScope N_times_of ["one", "other"] (defScope s_times_of) := ⟨rfl, rfl, rfl, by decide +kernel, rfl, by decide +kernel, by decide +kernel⟩
abbrev N_over_of : List Str := ["one", "other"]
theorem sc_over_of : FnScope N_over_of ["one", "other"] (defScope s_over_of) := ⟨rfl, rfl, rfl, by decide +kernel, rfl, by decide +kernel, by decide +kernel⟩
abbrev N_is_below : List Str := ["one", "other"]
theorem sc_is_below : FnScope N_is_below ["one", "other"] (defScope s_is_below) := ⟨rfl, rfl, rfl, by decide +kernel, rfl, by decide +kernel, by decide +kernel⟩
abbrev N_is_whole : List Str := ["thing"]
theorem sc_is_whole : FnScope N_is_whole ["thing"] (defScope s_is_whole) := ⟨rfl, rfl, rfl, by decide +kernel, rfl, by decide +kernel, by decide +kernel⟩
abbrev N_is_fraction : List Str := ["thing", "part"]
theorem sc_is_fraction : FnScope N_is_fraction ["thing"] (defScope s_is_fraction) := ⟨rfl, rfl, rfl, by decide +kernel, rfl, by decide +kernel, by decide +kernel⟩
abbrev N_is_move : List Str := ["thing", "part"]
theorem sc_is_move : FnScope N_is_move ["thing"] (defScope s_is_move) := ⟨rfl, rfl, rfl, by decide +kernel, rfl, by decide +kernel, by decide +kernel⟩
abbrev N_stretch_by : List Str := ["move", "value"]
theorem sc_stretch_by : FnScope N_stretch_by ["move", "value"] (defScope s_stretch_by) := ⟨rfl, rfl, rfl, by decide +kernel, rfl, by decide +kernel, by decide +kernel⟩
abbrev N_read_by : List Str := ["move", "value"]
theorem sc_read_by : FnScope N_read_by ["move", "value"] (defScope s_read_by) := ⟨rfl, rfl, rfl, by decide +kernel, rfl, by decide +kernel, by decide +kernel⟩
abbrev N_move_then : List Str := ["one", "other"]
theorem sc_move_then : FnScope N_move_then ["one", "other"] (defScope s_move_then) := ⟨rfl, rfl, rfl, by decide +kernel, rfl, by decide +kernel, by decide +kernel⟩
abbrev N_move_back : List Str := ["move", "a", "b"]
theorem sc_move_back : FnScope N_move_back ["move"] (defScope s_move_back) := ⟨rfl, rfl, rfl, by decide +kernel, rfl, by decide +kernel, by decide +kernel⟩
abbrev N_in_order : List Str := ["tellings"]
theorem sc_in_order : FnScope N_in_order ["tellings"] (defScope s_in_order) := ⟨rfl, rfl, rfl, by decide +kernel, rfl, by decide +kernel, by decide +kernel⟩
abbrev N_order_of : List Str := ["tellings", "telling"]
theorem sc_order_of : FnScope N_order_of ["tellings"] (defScope s_order_of) := ⟨rfl, rfl, rfl, by decide +kernel, rfl, by decide +kernel, by decide +kernel⟩
abbrev N_named : List Str := ["tellings", "name", "telling"]
theorem sc_named : FnScope N_named ["tellings", "name"] (defScope s_named) := ⟨rfl, rfl, rfl, by decide +kernel, rfl, by decide +kernel, by decide +kernel⟩
abbrev N_tie_rows : List Str := ["tellings", "marks", "found", "telling", "near", "far", "scale", "mark"]
theorem sc_tie_rows : FnScope N_tie_rows ["tellings"] (defScope s_tie_rows) := ⟨rfl, rfl, rfl, by decide +kernel, rfl, by decide +kernel, by decide +kernel⟩
abbrev N_ties_of : List Str := ["tellings", "telling"]
theorem sc_ties_of : FnScope N_ties_of ["tellings"] (defScope s_ties_of) := ⟨rfl, rfl, rfl, by decide +kernel, rfl, by decide +kernel, by decide +kernel⟩
abbrev N_steps_from : List Str := ["rows", "scale", "found", "name", "start", "end", "rest"]
theorem sc_steps_from : FnScope N_steps_from ["rows", "scale"] (defScope s_steps_from) := ⟨rfl, rfl, rfl, by decide +kernel, rfl, by decide +kernel, by decide +kernel⟩
abbrev N_roads_among : List Str := ["rows", "start", "roads", "waiting", "scale", "step", "goal"]
theorem sc_roads_among : FnScope N_roads_among ["rows", "start"] (defScope s_roads_among) := ⟨rfl, rfl, rfl, by decide +kernel, rfl, by decide +kernel, by decide +kernel⟩
abbrev N_road_among : List Str := ["rows", "start", "end"]
theorem sc_road_among : FnScope N_road_among ["rows", "start", "end"] (defScope s_road_among) := ⟨rfl, rfl, rfl, by decide +kernel, rfl, by decide +kernel, by decide +kernel⟩
abbrev N_road_of : List Str := ["tellings", "start", "end", "road"]
theorem sc_road_of : FnScope N_road_of ["tellings", "start", "end"] (defScope s_road_of) := ⟨rfl, rfl, rfl, by decide +kernel, rfl, by decide +kernel, by decide +kernel⟩
abbrev N_chain_move : List Str := ["tellings", "chain", "moves", "whole", "name", "forth", "telling"]
theorem sc_chain_move : FnScope N_chain_move ["tellings", "chain"] (defScope s_chain_move) := ⟨rfl, rfl, rfl, by decide +kernel, rfl, by decide +kernel, by decide +kernel⟩
abbrev N_move_of : List Str := ["tellings", "start", "end"]
theorem sc_move_of : FnScope N_move_of ["tellings", "start", "end"] (defScope s_move_of) := ⟨rfl, rfl, rfl, by decide +kernel, rfl, by decide +kernel, by decide +kernel⟩
abbrev N_ring_of : List Str := ["tellings", "name", "telling"]
theorem sc_ring_of : FnScope N_ring_of ["tellings", "name"] (defScope s_ring_of) := ⟨rfl, rfl, rfl, by decide +kernel, rfl, by decide +kernel, by decide +kernel⟩
abbrev N_bars_of : List Str := ["tellings", "ties", "names", "rows", "tie", "telling", "row"]
theorem sc_bars_of : FnScope N_bars_of ["tellings"] (defScope s_bars_of) := ⟨rfl, rfl, rfl, by decide +kernel, rfl, by decide +kernel, by decide +kernel⟩
abbrev N_words_of : List Str := ["tellings", "bars", "found", "telling", "name", "move", "word"]
theorem sc_words_of : FnScope N_words_of ["tellings"] (defScope s_words_of) := ⟨rfl, rfl, rfl, by decide +kernel, rfl, by decide +kernel, by decide +kernel⟩
abbrev N_paper_of : List Str := ["tellings", "bars", "rows", "name", "word"]
theorem sc_paper_of : FnScope N_paper_of ["tellings"] (defScope s_paper_of) := ⟨rfl, rfl, rfl, by decide +kernel, rfl, by decide +kernel, by decide +kernel⟩
abbrev N_is_step : List Str := ["thing"]
theorem sc_is_step : FnScope N_is_step ["thing"] (defScope s_is_step) := ⟨rfl, rfl, rfl, by decide +kernel, rfl, by decide +kernel, by decide +kernel⟩
abbrev N_is_row : List Str := ["thing", "step"]
theorem sc_is_row : FnScope N_is_row ["thing"] (defScope s_is_row) := ⟨rfl, rfl, rfl, by decide +kernel, rfl, by decide +kernel, by decide +kernel⟩
abbrev N_is_sheet : List Str := ["thing", "part", "name", "row"]
theorem sc_is_sheet : FnScope N_is_sheet ["thing"] (defScope s_is_sheet) := ⟨rfl, rfl, rfl, by decide +kernel, rfl, by decide +kernel, by decide +kernel⟩
abbrev N_scales_along : List Str := ["rows", "start", "road", "ends", "found", "name", "forth", "begin", "goal", "row"]
theorem sc_scales_along : FnScope N_scales_along ["rows", "start", "road"] (defScope s_scales_along) := ⟨rfl, rfl, rfl, by decide +kernel, rfl, by decide +kernel, by decide +kernel⟩
abbrev N_row_holds : List Str := ["ties", "telling", "row", "name", "word", "road", "scales"]
theorem sc_row_holds : FnScope N_row_holds ["ties", "telling", "row"] (defScope s_row_holds) := ⟨rfl, rfl, rfl, by decide +kernel, rfl, by decide +kernel, by decide +kernel⟩
abbrev N_holds : List Str := ["tellings", "paper", "names", "rows", "ties", "marks", "past", "telling", "near", "far", "scale", "mark"]
theorem sc_holds : FnScope N_holds ["tellings", "paper"] (defScope s_holds) := ⟨rfl, rfl, rfl, by decide +kernel, rfl, by decide +kernel, by decide +kernel⟩
abbrev N__law_start : List Str := ["_law_script", "_law_great", "_law_cell"]
theorem sc__law_start : FnScope N__law_start ["_law_script"] (defScope s__law_start) := ⟨rfl, rfl, rfl, by decide +kernel, rfl, by decide +kernel, by decide +kernel⟩
abbrev N__law_draw : List Str := ["_law_state", "_law_lot", "_law_told", "_law_size"]
theorem sc__law_draw : FnScope N__law_draw ["_law_state", "_law_lot"] (defScope s__law_draw) := ⟨rfl, rfl, rfl, by decide +kernel, rfl, by decide +kernel, by decide +kernel⟩
abbrev N__law_mix : List Str := ["_law_state", "_law_count", "_law_cell", "_law_stirred"]
theorem sc__law_mix : FnScope N__law_mix ["_law_state"] (defScope s__law_mix) := ⟨rfl, rfl, rfl, by decide +kernel, rfl, by decide +kernel, by decide +kernel⟩
abbrev N__law_same : List Str := ["_law_found", "_law_want", "_law_here", "_law_there"]
theorem sc__law_same : FnScope N__law_same ["_law_found", "_law_want"] (defScope s__law_same) := ⟨rfl, rfl, rfl, by decide +kernel, rfl, by decide +kernel, by decide +kernel⟩
abbrev N__law_number : List Str := ["_law_state"]
theorem sc__law_number : FnScope N__law_number ["_law_state"] (defScope s__law_number) := ⟨rfl, rfl, rfl, by decide +kernel, rfl, by decide +kernel, by decide +kernel⟩
abbrev N__law_lead : List Str := ["_law_state"]
theorem sc__law_lead : FnScope N__law_lead ["_law_state"] (defScope s__law_lead) := ⟨rfl, rfl, rfl, by decide +kernel, rfl, by decide +kernel, by decide +kernel⟩
abbrev N__law_rows : List Str := ["_law_state", "_law_found", "_law_k", "_law_ends"]
theorem sc__law_rows : FnScope N__law_rows ["_law_state"] (defScope s__law_rows) := ⟨rfl, rfl, rfl, by decide +kernel, rfl, by decide +kernel, by decide +kernel⟩
abbrev N__law_quotients : List Str := ["_law_here", "_law_there", "_law_found", "_law_by_name", "e"]
theorem sc__law_quotients : FnScope N__law_quotients ["_law_here", "_law_there"] (defScope s__law_quotients) := ⟨rfl, rfl, rfl, by decide +kernel, rfl, by decide +kernel, by decide +kernel⟩
abbrev N__law_fractions : List Str := ["_law_state", "_law_here", "_law_there", "_law_lot", "_law_low", "_law_pairs", "_law_found", "_law_first", "_law_second"]
theorem sc__law_fractions : FnScope N__law_fractions ["_law_state"] (defScope s__law_fractions) := ⟨rfl, rfl, rfl, by decide +kernel, rfl, by decide +kernel, by decide +kernel⟩
abbrev N__law_roads : List Str := ["_law_rows_here", "_law_here", "_law_there", "_law_found", "_law_by_name", "_law_road", "e"]
theorem sc__law_roads : FnScope N__law_roads ["_law_rows_here", "_law_here", "_law_there"] (defScope s__law_roads) := ⟨rfl, rfl, rfl, by decide +kernel, rfl, by decide +kernel, by decide +kernel⟩
abbrev N__law_rings : List Str := ["_law_rows_here", "_law_label", "_law_found", "_law_by_name", "e"]
theorem sc__law_rings : FnScope N__law_rings ["_law_rows_here", "_law_label"] (defScope s__law_rings) := ⟨rfl, rfl, rfl, by decide +kernel, rfl, by decide +kernel, by decide +kernel⟩
abbrev N_law : List Str := ["_law_script", "_law_state", "_law_pairs", "_law_rows_here", "_law_here", "_law_there", "_law_found", "_law_sheet", "_law_due", "_law_told"]
theorem sc_law : FnScope N_law ["_law_script"] (defScope s_law) := ⟨rfl, rfl, rfl, by decide +kernel, rfl, by decide +kernel, by decide +kernel⟩
theorem sc_NoBottom_init : FnScope ["self", "top"] ["self", "top"] (defScope s_NoBottom_init) := ⟨rfl, rfl, rfl, by decide +kernel, rfl, by decide +kernel, by decide +kernel⟩
theorem in_NoBottom {P : Program} {w : World} {K : PySem.W.Frag} {mg : Str → Option Value} {base : Heap} {fa : Addr} (B : BkI K mg "BookError") : ∀ (cdv : Value) (A : Around) (outer : List PySem.Env) (s : Shared) (H : Hp) (E : XK), PSs (cxOf (L2N.CX P w) P w K mg base ["self", "top"] "NoBottom.__init__" (defScope s_NoBottom_init) fa cdv A outer s H E) (defBody s_NoBottom_init) (tSeq (tI0 K "no bottom") (tSeq (tOst K "top" (tVar 0) (tVar 1)) tNext)) :=
  fun _ _ _ _ _ _ => pss_cons (ps_expr (pe_binit B (pa_cons (pe_var (i := 0) rfl (by first | exact Or.inl rfl | exact Or.inr (Or.inl rfl) | exact Or.inr (Or.inr rfl))) (pa_cons pe_str pa_nil)))) (pss_cons (ps_ost (pe_var (i := 0) rfl (by first | exact Or.inl rfl | exact Or.inr (Or.inl rfl) | exact Or.inr (Or.inr rfl))) (pe_var (i := 1) rfl (by first | exact Or.inl rfl | exact Or.inr (Or.inl rfl) | exact Or.inr (Or.inr rfl)))) pss_nil)
theorem sc_NoTelling_init : FnScope ["self", "name"] ["self", "name"] (defScope s_NoTelling_init) := ⟨rfl, rfl, rfl, by decide +kernel, rfl, by decide +kernel, by decide +kernel⟩
theorem in_NoTelling {P : Program} {w : World} {K : PySem.W.Frag} {mg : Str → Option Value} {base : Heap} {fa : Addr} (B : BkI K mg "BookError") : ∀ (cdv : Value) (A : Around) (outer : List PySem.Env) (s : Shared) (H : Hp) (E : XK), PSs (cxOf (L2N.CX P w) P w K mg base ["self", "name"] "NoTelling.__init__" (defScope s_NoTelling_init) fa cdv A outer s H E) (defBody s_NoTelling_init) (tSeq (tI0 K "no telling") (tSeq (tOst K "name" (tVar 0) (tVar 1)) tNext)) :=
  fun _ _ _ _ _ _ => pss_cons (ps_expr (pe_binit B (pa_cons (pe_var (i := 0) rfl (by first | exact Or.inl rfl | exact Or.inr (Or.inl rfl) | exact Or.inr (Or.inr rfl))) (pa_cons pe_str pa_nil)))) (pss_cons (ps_ost (pe_var (i := 0) rfl (by first | exact Or.inl rfl | exact Or.inr (Or.inl rfl) | exact Or.inr (Or.inr rfl))) (pe_var (i := 1) rfl (by first | exact Or.inl rfl | exact Or.inr (Or.inl rfl) | exact Or.inr (Or.inr rfl)))) pss_nil)
theorem sc_NotJoined_init : FnScope ["self", "start", "end"] ["self", "start", "end"] (defScope s_NotJoined_init) := ⟨rfl, rfl, rfl, by decide +kernel, rfl, by decide +kernel, by decide +kernel⟩
theorem in_NotJoined {P : Program} {w : World} {K : PySem.W.Frag} {mg : Str → Option Value} {base : Heap} {fa : Addr} (B : BkI K mg "BookError") : ∀ (cdv : Value) (A : Around) (outer : List PySem.Env) (s : Shared) (H : Hp) (E : XK), PSs (cxOf (L2N.CX P w) P w K mg base ["self", "start", "end"] "NotJoined.__init__" (defScope s_NotJoined_init) fa cdv A outer s H E) (defBody s_NotJoined_init) (tSeq (tI0 K "not joined") (tSeq (tOst K "start" (tVar 0) (tVar 1)) (tSeq (tOst K "end" (tVar 0) (tVar 2)) tNext))) :=
  fun _ _ _ _ _ _ => pss_cons (ps_expr (pe_binit B (pa_cons (pe_var (i := 0) rfl (by first | exact Or.inl rfl | exact Or.inr (Or.inl rfl) | exact Or.inr (Or.inr rfl))) (pa_cons pe_str pa_nil)))) (pss_cons (ps_ost (pe_var (i := 0) rfl (by first | exact Or.inl rfl | exact Or.inr (Or.inl rfl) | exact Or.inr (Or.inr rfl))) (pe_var (i := 1) rfl (by first | exact Or.inl rfl | exact Or.inr (Or.inl rfl) | exact Or.inr (Or.inr rfl)))) (pss_cons (ps_ost (pe_var (i := 0) rfl (by first | exact Or.inl rfl | exact Or.inr (Or.inl rfl) | exact Or.inr (Or.inr rfl))) (pe_var (i := 2) rfl (by first | exact Or.inl rfl | exact Or.inr (Or.inl rfl) | exact Or.inr (Or.inr rfl)))) pss_nil))
structure Fcts (K : PySem.W.Frag) (mg : Str → Option Value) : Prop where
  fr_abs : mg "abs" = none
  fr_all : mg "all" = none
  fr_bool : mg "bool" = none
  fr_int : mg "int" = none
  fr_isinstance : mg "isinstance" = none
  fr_len : mg "len" = none
  fr_list : mg "list" = none
  fr_range : mg "range" = none
  fr_set : mg "set" = none
  fr_sorted : mg "sorted" = none
  fr_str : mg "str" = none
  fr_tuple : mg "tuple" = none
  fr_zip : mg "zip" = none
  co_NOUGHT : ConI K mg "NOUGHT" (.tup [(.int 0), (.int 1)])
  co_SAME : ConI K mg "SAME" (.tup [(.tup [(.int 1), (.int 1)]), (.tup [(.int 0), (.int 1)])])
  xf_NoBottom : XfC K (He.ga K "NoBottom")
  nf_NoBottom : ∀ f : Str, f ∈ (["top"] : List Str) → PySem.W.findIn K (.ref (He.ga K "NoBottom")) f = some none
  xf_NoTelling : XfC K (He.ga K "NoTelling")
  nf_NoTelling : ∀ f : Str, f ∈ (["name"] : List Str) → PySem.W.findIn K (.ref (He.ga K "NoTelling")) f = some none
  xf_NotJoined : XfC K (He.ga K "NotJoined")
  nf_NotJoined : ∀ f : Str, f ∈ (["start", "end"] : List Str) → PySem.W.findIn K (.ref (He.ga K "NotJoined")) f = some none
  hj_NoBottom : HdJ K mg "NoBottom" ["NoBottom", "NoTelling", "NotJoined"]
  hj_NoTelling : HdJ K mg "NoTelling" ["NoBottom", "NoTelling", "NotJoined"]
  hj_NotJoined : HdJ K mg "NotJoined" ["NoBottom", "NoTelling", "NotJoined"]
structure Fns (P : Program) (w : World) (K : PySem.W.Frag) (mg : Str → Option Value) (base : Heap) (k : Nat) : Prop where
  g_common : FnI P w K mg base (call tbl k) k "common" 0 2 []
  g_fraction_of : FnI P w K mg base (call tbl k) k "fraction_of" 15 2 []
  g_plus_of : FnI P w K mg base (call tbl k) k "plus_of" 16 2 []
  g_less_of : FnI P w K mg base (call tbl k) k "less_of" 17 2 []
  g_times_of : FnI P w K mg base (call tbl k) k "times_of" 18 2 []
  g_over_of : FnI P w K mg base (call tbl k) k "over_of" 19 2 []
  g_is_below : FnI P w K mg base (call tbl k) k "is_below" 76 2 []
  g_is_whole : FnI P w K mg base (call tbl k) k "is_whole" 91 1 []
  g_is_fraction : FnI P w K mg base (call tbl k) k "is_fraction" 137 1 []
  g_is_move : FnI P w K mg base (call tbl k) k "is_move" 138 1 []
  g_stretch_by : FnI P w K mg base (call tbl k) k "stretch_by" 20 2 []
  g_read_by : FnI P w K mg base (call tbl k) k "read_by" 21 2 []
  g_move_then : FnI P w K mg base (call tbl k) k "move_then" 22 2 []
  g_move_back : FnI P w K mg base (call tbl k) k "move_back" 23 1 []
  g_in_order : FnI P w K mg base (call tbl k) k "in_order" 32 1 []
  g_order_of : FnI P w K mg base (call tbl k) k "order_of" 33 1 []
  g_named : FnI P w K mg base (call tbl k) k "named" 51 2 []
  g_tie_rows : FnI P w K mg base (call tbl k) k "tie_rows" 39 1 []
  g_ties_of : FnI P w K mg base (call tbl k) k "ties_of" 56 1 []
  g_steps_from : FnI P w K mg base (call tbl k) k "steps_from" 40 2 []
  g_roads_among : FnI P w K mg base (call tbl k) k "roads_among" 41 2 []
  g_road_among : FnI P w K mg base (call tbl k) k "road_among" 42 3 []
  g_road_of : FnI P w K mg base (call tbl k) k "road_of" 43 3 []
  g_chain_move : FnI P w K mg base (call tbl k) k "chain_move" 44 2 []
  g_move_of : FnI P w K mg base (call tbl k) k "move_of" 45 3 []
  g_ring_of : FnI P w K mg base (call tbl k) k "ring_of" 52 2 []
  g_bars_of : FnI P w K mg base (call tbl k) k "bars_of" 46 1 []
  g_words_of : FnI P w K mg base (call tbl k) k "words_of" 47 1 []
  g_paper_of : FnI P w K mg base (call tbl k) k "paper_of" 126 1 []
  g_is_step : FnI P w K mg base (call tbl k) k "is_step" 127 1 []
  g_is_row : FnI P w K mg base (call tbl k) k "is_row" 128 1 []
  g_is_sheet : FnI P w K mg base (call tbl k) k "is_sheet" 129 1 []
  g_scales_along : FnI P w K mg base (call tbl k) k "scales_along" 156 3 []
  g_row_holds : FnI P w K mg base (call tbl k) k "row_holds" 157 3 []
  g_holds : FnI P w K mg base (call tbl k) k "holds" 158 2 []
  g__law_start : FnI P w K mg base (call tbl k) k "_law_start" 4 1 []
  g__law_draw : FnI P w K mg base (call tbl k) k "_law_draw" 6 2 []
  g__law_mix : FnI P w K mg base (call tbl k) k "_law_mix" 5 1 []
  g__law_same : FnI P w K mg base (call tbl k) k "_law_same" 7 2 []
  g__law_number : FnI P w K mg base (call tbl k) k "_law_number" 139 1 []
  g__law_lead : FnI P w K mg base (call tbl k) k "_law_lead" 140 1 []
  g__law_rows : FnI P w K mg base (call tbl k) k "_law_rows" 141 1 []
  g__law_quotients : FnI P w K mg base (call tbl k) k "_law_quotients" 168 2 []
  g__law_fractions : FnI P w K mg base (call tbl k) k "_law_fractions" 169 1 []
  g__law_roads : FnI P w K mg base (call tbl k) k "_law_roads" 170 3 []
  g__law_rings : FnI P w K mg base (call tbl k) k "_law_rings" 171 2 []
  g_law : FnI P w K mg base (call tbl k) k "law" 173 1 []
  gd_fraction_of : FnD P w K mg base (call tbl k) k "fraction_of" 15 2 [(.int 1)]
  gk_over_of_0 : FnK P w K mg base (call tbl k) k "over_of" 19 2 0 ["other", "one"] [1, 0] []
  gk_fraction_of_1 : FnK P w K mg base (call tbl k) k "fraction_of" 15 2 0 ["bottom", "top"] [1, 0] []
  gk_fraction_of_2 : FnK P w K mg base (call tbl k) k "fraction_of" 15 2 0 ["top"] [0] [.int 1]
  gk_fraction_of_3 : FnK P w K mg base (call tbl k) k "fraction_of" 15 2 1 ["bottom"] [0, 1] []
  gk_plus_of_4 : FnK P w K mg base (call tbl k) k "plus_of" 16 2 0 ["other", "one"] [1, 0] []
  gk_less_of_5 : FnK P w K mg base (call tbl k) k "less_of" 17 2 0 ["other", "one"] [1, 0] []
  gk_times_of_6 : FnK P w K mg base (call tbl k) k "times_of" 18 2 0 ["other", "one"] [1, 0] []
  gk_is_below_7 : FnK P w K mg base (call tbl k) k "is_below" 76 2 0 ["other", "one"] [1, 0] []
  gk_is_move_8 : FnK P w K mg base (call tbl k) k "is_move" 138 1 0 ["thing"] [0] []
  gk_read_by_9 : FnK P w K mg base (call tbl k) k "read_by" 21 2 0 ["value", "move"] [1, 0] []
  gk_stretch_by_10 : FnK P w K mg base (call tbl k) k "stretch_by" 20 2 0 ["value", "move"] [1, 0] []
  gk_move_then_11 : FnK P w K mg base (call tbl k) k "move_then" 22 2 0 ["other", "one"] [1, 0] []
  gk_move_back_12 : FnK P w K mg base (call tbl k) k "move_back" 23 1 0 ["move"] [0] []
  gk_road_of_13 : FnK P w K mg base (call tbl k) k "road_of" 43 3 0 ["end", "start", "tellings"] [2, 1, 0] []
  gk_move_of_14 : FnK P w K mg base (call tbl k) k "move_of" 45 3 0 ["end", "tellings", "start"] [1, 2, 0] []
  gk_ring_of_15 : FnK P w K mg base (call tbl k) k "ring_of" 52 2 0 ["name", "tellings"] [1, 0] []
  gk_order_of_16 : FnK P w K mg base (call tbl k) k "order_of" 33 1 0 ["tellings"] [0] []
  gk_ties_of_17 : FnK P w K mg base (call tbl k) k "ties_of" 56 1 0 ["tellings"] [0] []
  gk_words_of_18 : FnK P w K mg base (call tbl k) k "words_of" 47 1 0 ["tellings"] [0] []
  gk_paper_of_19 : FnK P w K mg base (call tbl k) k "paper_of" 126 1 0 ["tellings"] [0] []
  gk_holds_20 : FnK P w K mg base (call tbl k) k "holds" 158 2 0 ["paper", "tellings"] [1, 0] []
  x_NoBottom : XcI P w K mg base "NoBottom" ["top"]
  x_NoTelling : XcI P w K mg base "NoTelling" ["name"]
  x_NotJoined : XcI P w K mg base "NotJoined" ["start", "end"]
section
variable {P : Program} {w : World} {K : PySem.W.Frag} {mg : Str → Option Value} {base : Heap} {k : Nat} {f : Addr} {cdv : Value} {A : Around} {outer : List PySem.Env} {s : Shared} {H : Hp} {E : XK}
theorem jb_common (T : Fcts K mg) (G : Fns P w K mg base k) (c : Cq (cxOf (L2N.CX P w) P w K mg base N_common "common" (defScope s_common) f cdv A outer s H E) (fun c d _ H => E c d H) k) :
    JSs (cxOf (L2N.CX P w) P w K mg base N_common "common" (defScope s_common) f cdv A outer s H E) (fun c d _ H => E c d H) (call tbl k) (defBody s_common) F_common.body :=
  (jss_cons (js_par (i := 0) (j := 1) c.calm c.nd (ja_cons (je_bi .abs (fun _ => bi_abs) T.fr_abs (by decide +kernel) (ja_cons (je_var 0) ja_nil)) (ja_cons (je_bi .abs (fun _ => bi_abs) T.fr_abs (by decide +kernel) (ja_cons (je_var 1) ja_nil)) ja_nil)))
  (jss_cons (js_while0 c.po (jt_cmp c.hr.u66 (je_var 1) je_int) (jss_cons (js_par (i := 0) (j := 1) c.calm c.nd (ja_cons (je_var 1) (ja_cons (je_bin (je_var 0) (je_var 1)) ja_nil)))
  jss_nil))
  (jss_cons (js_ret (je_var 0))
  jss_nil)))
theorem jb_fraction_of (T : Fcts K mg) (G : Fns P w K mg base k) (c : Cq (cxOf (L2N.CX P w) P w K mg base N_fraction_of "fraction_of" (defScope s_fraction_of) f cdv A outer s H E) (fun c d _ H => E c d H) k) :
    JSs (cxOf (L2N.CX P w) P w K mg base N_fraction_of "fraction_of" (defScope s_fraction_of) f cdv A outer s H E) (fun c d _ H => E c d H) (call tbl k) (defBody s_fraction_of) F_fraction_of.body :=
  (jss_cons (js_if (jt_cmp c.hr.u66 (je_var 1) je_int) (jss_cons (js_raise G.x_NoBottom c.calm c.tk (c.hr.mono (by omega)) (ja_cons (je_var 0) ja_nil))
  jss_nil) jss_nil)
  (jss_cons (js_set (i := 2) c.nd (je_call G.g_common c.calm c.hr c.tk (ja_cons (je_var 0) (ja_cons (je_var 1) ja_nil))))
  (jss_cons (js_if (jt_cmp c.hr.u66 (je_var 1) je_int) (jss_cons (js_set (i := 2) c.nd (je_neg (je_var 2)))
  jss_nil) jss_nil)
  (jss_cons (js_ret (je_tup (ja_cons (je_bin (je_var 0) (je_var 2)) (ja_cons (je_bin (je_var 1) (je_var 2)) ja_nil))))
  jss_nil))))
theorem jb_plus_of (T : Fcts K mg) (G : Fns P w K mg base k) (c : Cq (cxOf (L2N.CX P w) P w K mg base N_plus_of "plus_of" (defScope s_plus_of) f cdv A outer s H E) (fun c d _ H => E c d H) k) :
    JSs (cxOf (L2N.CX P w) P w K mg base N_plus_of "plus_of" (defScope s_plus_of) f cdv A outer s H E) (fun c d _ H => E c d H) (call tbl k) (defBody s_plus_of) F_plus_of.body :=
  (jss_cons (js_ret (je_call G.g_fraction_of c.calm c.hr c.tk (ja_cons (je_bin (je_bin (je_idx c.hr.u66 (je_var 0) je_int) (je_idx c.hr.u66 (je_var 1) je_int)) (je_bin (je_idx c.hr.u66 (je_var 1) je_int) (je_idx c.hr.u66 (je_var 0) je_int))) (ja_cons (je_bin (je_idx c.hr.u66 (je_var 0) je_int) (je_idx c.hr.u66 (je_var 1) je_int)) ja_nil))))
  jss_nil)
theorem jb_less_of (T : Fcts K mg) (G : Fns P w K mg base k) (c : Cq (cxOf (L2N.CX P w) P w K mg base N_less_of "less_of" (defScope s_less_of) f cdv A outer s H E) (fun c d _ H => E c d H) k) :
    JSs (cxOf (L2N.CX P w) P w K mg base N_less_of "less_of" (defScope s_less_of) f cdv A outer s H E) (fun c d _ H => E c d H) (call tbl k) (defBody s_less_of) F_less_of.body :=
  (jss_cons (js_ret (je_call G.g_fraction_of c.calm c.hr c.tk (ja_cons (je_bin (je_bin (je_idx c.hr.u66 (je_var 0) je_int) (je_idx c.hr.u66 (je_var 1) je_int)) (je_bin (je_idx c.hr.u66 (je_var 1) je_int) (je_idx c.hr.u66 (je_var 0) je_int))) (ja_cons (je_bin (je_idx c.hr.u66 (je_var 0) je_int) (je_idx c.hr.u66 (je_var 1) je_int)) ja_nil))))
  jss_nil)
theorem jb_times_of (T : Fcts K mg) (G : Fns P w K mg base k) (c : Cq (cxOf (L2N.CX P w) P w K mg base N_times_of "times_of" (defScope s_times_of) f cdv A outer s H E) (fun c d _ H => E c d H) k) :
    JSs (cxOf (L2N.CX P w) P w K mg base N_times_of "times_of" (defScope s_times_of) f cdv A outer s H E) (fun c d _ H => E c d H) (call tbl k) (defBody s_times_of) F_times_of.body :=
  (jss_cons (js_ret (je_call G.g_fraction_of c.calm c.hr c.tk (ja_cons (je_bin (je_idx c.hr.u66 (je_var 0) je_int) (je_idx c.hr.u66 (je_var 1) je_int)) (ja_cons (je_bin (je_idx c.hr.u66 (je_var 0) je_int) (je_idx c.hr.u66 (je_var 1) je_int)) ja_nil))))
  jss_nil)
theorem jb_over_of (T : Fcts K mg) (G : Fns P w K mg base k) (c : Cq (cxOf (L2N.CX P w) P w K mg base N_over_of "over_of" (defScope s_over_of) f cdv A outer s H E) (fun c d _ H => E c d H) k) :
    JSs (cxOf (L2N.CX P w) P w K mg base N_over_of "over_of" (defScope s_over_of) f cdv A outer s H E) (fun c d _ H => E c d H) (call tbl k) (defBody s_over_of) F_over_of.body :=
  (jss_cons (js_if (jt_cmp c.hr.u66 (je_idx c.hr.u66 (je_var 1) je_int) je_int) (jss_cons (js_raise G.x_NoBottom c.calm c.tk (c.hr.mono (by omega)) (ja_cons (je_idx c.hr.u66 (je_var 0) je_int) ja_nil))
  jss_nil) jss_nil)
  (jss_cons (js_ret (je_call G.g_fraction_of c.calm c.hr c.tk (ja_cons (je_bin (je_idx c.hr.u66 (je_var 0) je_int) (je_idx c.hr.u66 (je_var 1) je_int)) (ja_cons (je_bin (je_idx c.hr.u66 (je_var 0) je_int) (je_idx c.hr.u66 (je_var 1) je_int)) ja_nil))))
  jss_nil))
theorem jb_is_below (T : Fcts K mg) (G : Fns P w K mg base k) (c : Cq (cxOf (L2N.CX P w) P w K mg base N_is_below "is_below" (defScope s_is_below) f cdv A outer s H E) (fun c d _ H => E c d H) k) :
    JSs (cxOf (L2N.CX P w) P w K mg base N_is_below "is_below" (defScope s_is_below) f cdv A outer s H E) (fun c d _ H => E c d H) (call tbl k) (defBody s_is_below) F_is_below.body :=
  (jss_cons (js_ret (je_cmp c.hr.u66 (je_bin (je_idx c.hr.u66 (je_var 0) je_int) (je_idx c.hr.u66 (je_var 1) je_int)) (je_bin (je_idx c.hr.u66 (je_var 1) je_int) (je_idx c.hr.u66 (je_var 0) je_int))))
  jss_nil)
theorem jb_is_whole (T : Fcts K mg) (G : Fns P w K mg base k) (c : Cq (cxOf (L2N.CX P w) P w K mg base N_is_whole "is_whole" (defScope s_is_whole) f cdv A outer s H E) (fun c d _ H => E c d H) k) :
    JSs (cxOf (L2N.CX P w) P w K mg base N_is_whole "is_whole" (defScope s_is_whole) f cdv A outer s H E) (fun c d _ H => E c d H) (call tbl k) (defBody s_is_whole) F_law_whole.body :=
  (jss_cons (js_ret (je_and (je_bi .isinst (fun _ => bi_isinst) T.fr_isinstance (by decide +kernel) (ja_cons (je_var 0) (ja_cons (je_ty .int T.fr_int (by decide +kernel)) ja_nil))) (je_one (je_not (je_bi .isinst (fun _ => bi_isinst) T.fr_isinstance (by decide +kernel) (ja_cons (je_var 0) (ja_cons (je_ty .bool T.fr_bool (by decide +kernel)) ja_nil)))))))
  jss_nil)
theorem jb_is_fraction (T : Fcts K mg) (G : Fns P w K mg base k) (c : Cq (cxOf (L2N.CX P w) P w K mg base N_is_fraction "is_fraction" (defScope s_is_fraction) f cdv A outer s H E) (fun c d _ H => E c d H) k) :
    JSs (cxOf (L2N.CX P w) P w K mg base N_is_fraction "is_fraction" (defScope s_is_fraction) f cdv A outer s H E) (fun c d _ H => E c d H) (call tbl k) (defBody s_is_fraction) F_is_fraction.body :=
  (jss_cons (js_if (jt_bool (jw_or (jt_not (jt_val (je_bi .isinst (fun _ => bi_isinst) T.fr_isinstance (by decide +kernel) (ja_cons (je_var 0) (ja_cons (je_ty .tuple T.fr_tuple (by decide +kernel)) ja_nil))))) (jw_or (jt_cmp c.hr.u66 (je_bi .len (fun _ => bi_len) T.fr_len (by decide +kernel) (ja_cons (je_var 0) ja_nil)) je_int) (jw_or1 (jt_not (jt_val (je_bi .all (fun _ => (bi_all c.calm)) T.fr_all (by decide +kernel) (ja_cons (je_comp (own := [("part", 1)]) (is := [1]) (one := .one) c.calm c.nd (ji_seq (je_var 0)) (blkOk_by (own := [("part", 1)]) (N := N_is_fraction) (sc := defScope s_is_fraction) (by decide +kernel)) (fun sB HB CB clB fpB => (tg_one (c.blk sB HB _ _ fpB).nd)) (fun sB HB CB clB fpB => cd_none) (fun sB HB CB clB fpB => (je_call G.g_is_whole (c.blk sB HB _ _ fpB).calm (c.blk sB HB _ _ fpB).hr (c.blk sB HB _ _ fpB).tk (ja_cons (je_var 1) ja_nil)))) ja_nil)))))))) (jss_cons (js_ret je_bl)
  jss_nil) jss_nil)
  (jss_cons (js_ret (je_and (je_cmp c.hr.u66 (je_idx c.hr.u66 (je_var 0) je_int) je_int) (je_one (je_cmp c.hr.u66 (je_call G.g_common c.calm c.hr c.tk (ja_cons (je_idx c.hr.u66 (je_var 0) je_int) (ja_cons (je_idx c.hr.u66 (je_var 0) je_int) ja_nil))) je_int))))
  jss_nil))
theorem jb_is_move (T : Fcts K mg) (G : Fns P w K mg base k) (c : Cq (cxOf (L2N.CX P w) P w K mg base N_is_move "is_move" (defScope s_is_move) f cdv A outer s H E) (fun c d _ H => E c d H) k) :
    JSs (cxOf (L2N.CX P w) P w K mg base N_is_move "is_move" (defScope s_is_move) f cdv A outer s H E) (fun c d _ H => E c d H) (call tbl k) (defBody s_is_move) F_is_move.body :=
  (jss_cons (js_if (jt_bool (jw_or (jt_not (jt_val (je_bi .isinst (fun _ => bi_isinst) T.fr_isinstance (by decide +kernel) (ja_cons (je_var 0) (ja_cons (je_ty .tuple T.fr_tuple (by decide +kernel)) ja_nil))))) (jw_or (jt_cmp c.hr.u66 (je_bi .len (fun _ => bi_len) T.fr_len (by decide +kernel) (ja_cons (je_var 0) ja_nil)) je_int) (jw_or1 (jt_not (jt_val (je_bi .all (fun _ => (bi_all c.calm)) T.fr_all (by decide +kernel) (ja_cons (je_comp (own := [("part", 1)]) (is := [1]) (one := .one) c.calm c.nd (ji_seq (je_var 0)) (blkOk_by (own := [("part", 1)]) (N := N_is_move) (sc := defScope s_is_move) (by decide +kernel)) (fun sB HB CB clB fpB => (tg_one (c.blk sB HB _ _ fpB).nd)) (fun sB HB CB clB fpB => cd_none) (fun sB HB CB clB fpB => (je_call G.g_is_fraction (c.blk sB HB _ _ fpB).calm (c.blk sB HB _ _ fpB).hr (c.blk sB HB _ _ fpB).tk (ja_cons (je_var 1) ja_nil)))) ja_nil)))))))) (jss_cons (js_ret je_bl)
  jss_nil) jss_nil)
  (jss_cons (js_ret (je_cmp c.hr.u66 (je_idx c.hr.u66 (je_var 0) je_int) (je_con T.co_NOUGHT)))
  jss_nil))
theorem jb_stretch_by (T : Fcts K mg) (G : Fns P w K mg base k) (c : Cq (cxOf (L2N.CX P w) P w K mg base N_stretch_by "stretch_by" (defScope s_stretch_by) f cdv A outer s H E) (fun c d _ H => E c d H) k) :
    JSs (cxOf (L2N.CX P w) P w K mg base N_stretch_by "stretch_by" (defScope s_stretch_by) f cdv A outer s H E) (fun c d _ H => E c d H) (call tbl k) (defBody s_stretch_by) F_stretch_by.body :=
  (jss_cons (js_ret (je_call G.g_times_of c.calm c.hr c.tk (ja_cons (je_idx c.hr.u66 (je_var 0) je_int) (ja_cons (je_var 1) ja_nil))))
  jss_nil)
theorem jb_read_by (T : Fcts K mg) (G : Fns P w K mg base k) (c : Cq (cxOf (L2N.CX P w) P w K mg base N_read_by "read_by" (defScope s_read_by) f cdv A outer s H E) (fun c d _ H => E c d H) k) :
    JSs (cxOf (L2N.CX P w) P w K mg base N_read_by "read_by" (defScope s_read_by) f cdv A outer s H E) (fun c d _ H => E c d H) (call tbl k) (defBody s_read_by) F_read_by.body :=
  (jss_cons (js_ret (je_call G.g_plus_of c.calm c.hr c.tk (ja_cons (je_call G.g_stretch_by c.calm c.hr c.tk (ja_cons (je_var 0) (ja_cons (je_var 1) ja_nil))) (ja_cons (je_idx c.hr.u66 (je_var 0) je_int) ja_nil))))
  jss_nil)
theorem jb_move_then (T : Fcts K mg) (G : Fns P w K mg base k) (c : Cq (cxOf (L2N.CX P w) P w K mg base N_move_then "move_then" (defScope s_move_then) f cdv A outer s H E) (fun c d _ H => E c d H) k) :
    JSs (cxOf (L2N.CX P w) P w K mg base N_move_then "move_then" (defScope s_move_then) f cdv A outer s H E) (fun c d _ H => E c d H) (call tbl k) (defBody s_move_then) F_move_then.body :=
  (jss_cons (js_ret (je_tup (ja_cons (je_call G.g_times_of c.calm c.hr c.tk (ja_cons (je_idx c.hr.u66 (je_var 1) je_int) (ja_cons (je_idx c.hr.u66 (je_var 0) je_int) ja_nil))) (ja_cons (je_call G.g_read_by c.calm c.hr c.tk (ja_cons (je_var 1) (ja_cons (je_idx c.hr.u66 (je_var 0) je_int) ja_nil))) ja_nil))))
  jss_nil)
theorem jb_move_back (T : Fcts K mg) (G : Fns P w K mg base k) (c : Cq (cxOf (L2N.CX P w) P w K mg base N_move_back "move_back" (defScope s_move_back) f cdv A outer s H E) (fun c d _ H => E c d H) k) :
    JSs (cxOf (L2N.CX P w) P w K mg base N_move_back "move_back" (defScope s_move_back) f cdv A outer s H E) (fun c d _ H => E c d H) (call tbl k) (defBody s_move_back) F_move_back.body :=
  (jss_cons (js_tup (is := [1, 2]) (je_var 0) (tg_tup' c.calm (tgs_cons (i := 1) c.nd (tgs_cons (i := 2) c.nd tgs_nil))))
  (jss_cons (js_ret (je_tup (ja_cons (je_call G.g_over_of c.calm c.hr c.tk (ja_cons (je_tup (ja_cons je_int (ja_cons je_int ja_nil))) (ja_cons (je_var 1) ja_nil))) (ja_cons (je_call G.g_over_of c.calm c.hr c.tk (ja_cons (je_call G.g_less_of c.calm c.hr c.tk (ja_cons (je_con T.co_NOUGHT) (ja_cons (je_var 2) ja_nil))) (ja_cons (je_var 1) ja_nil))) ja_nil))))
  jss_nil))
theorem jb_in_order (T : Fcts K mg) (G : Fns P w K mg base k) {cc PP : Addr} (tb : TbI (cxOf (L2N.CX P w) P w K mg base N_in_order "in_order" (defScope s_in_order) f cdv A outer s H E) cc PP) (c : Cq (cxOf (L2N.CX P w) P w K mg base N_in_order "in_order" (defScope s_in_order) f cdv A outer s H E) (fun c d _ H => E c d H) k) :
    JSs (cxOf (L2N.CX P w) P w K mg base N_in_order "in_order" (defScope s_in_order) f cdv A outer s H E) (fun c d _ H => E c d H) (call tbl k) (defBody s_in_order) F_in_order.body :=
  (jss_cons (js_ret (je_srtNeg (q := "telling") tb c.calm c.hr T.fr_sorted (je_var 0) ⟨rfl, rfl, rfl, by decide +kernel, rfl, by decide +kernel, by decide +kernel⟩ rfl (by decide) (by decide) (fun _ _ _ _ _ => rfl)))
  jss_nil)
theorem jb_order_of (T : Fcts K mg) (G : Fns P w K mg base k) (c : Cq (cxOf (L2N.CX P w) P w K mg base N_order_of "order_of" (defScope s_order_of) f cdv A outer s H E) (fun c d _ H => E c d H) k) :
    JSs (cxOf (L2N.CX P w) P w K mg base N_order_of "order_of" (defScope s_order_of) f cdv A outer s H E) (fun c d _ H => E c d H) (call tbl k) (defBody s_order_of) F_order_of.body :=
  (jss_cons (js_ret (je_comp (own := [("telling", 1)]) (is := [1]) (one := .one) c.calm c.nd (ji_seq (je_call G.g_in_order c.calm c.hr c.tk (ja_cons (je_var 0) ja_nil))) (blkOk_by (own := [("telling", 1)]) (N := N_order_of) (sc := defScope s_order_of) (by decide +kernel)) (fun sB HB CB clB fpB => (tg_one (c.blk sB HB _ _ fpB).nd)) (fun sB HB CB clB fpB => cd_none) (fun sB HB CB clB fpB => (je_idx (c.blk sB HB _ _ fpB).hr.u66 (je_var 1) je_int))))
  jss_nil)
theorem jb_named (T : Fcts K mg) (G : Fns P w K mg base k) (c : Cq (cxOf (L2N.CX P w) P w K mg base N_named "named" (defScope s_named) f cdv A outer s H E) (fun c d _ H => E c d H) k) :
    JSs (cxOf (L2N.CX P w) P w K mg base N_named "named" (defScope s_named) f cdv A outer s H E) (fun c d _ H => E c d H) (call tbl k) (defBody s_named) F_named.body :=
  (jss_cons (js_for0 (is := [2]) (one := .one) c.po c.calm (ji_seq (je_var 0)) (tg_one c.nd) (jss_cons (js_if (jt_cmp c.hr.u66 (je_idx c.hr.u66 (je_var 2) je_int) (je_var 1)) (jss_cons (js_ret (je_var 2))
  jss_nil) jss_nil)
  jss_nil))
  (jss_cons (js_raise G.x_NoTelling c.calm c.tk (c.hr.mono (by omega)) (ja_cons (je_var 1) ja_nil))
  jss_nil))
theorem jb_tie_rows (T : Fcts K mg) (G : Fns P w K mg base k) (c : Cq (cxOf (L2N.CX P w) P w K mg base N_tie_rows "tie_rows" (defScope s_tie_rows) f cdv A outer s H E) (fun c d _ H => E c d H) k) :
    JSs (cxOf (L2N.CX P w) P w K mg base N_tie_rows "tie_rows" (defScope s_tie_rows) f cdv A outer s H E) (fun c d _ H => E c d H) (call tbl k) (defBody s_tie_rows) F_tie_rows.body :=
  (jss_cons (js_set (i := 1) c.nd je_dct0)
  (jss_cons (js_set (i := 2) c.nd (je_lst ja_nil))
  (jss_cons (js_for0 (is := [3]) (one := .one) c.po c.calm (ji_seq (je_call G.g_in_order c.calm c.hr c.tk (ja_cons (je_var 0) ja_nil))) (tg_one c.nd) (jss_cons (js_set (i := 4) c.nd (je_mth .setd PySem.F.plainAttrs_dict PySem.F.slot_dict_setdefault PySem.F.type_dict_setdefault (fun _ => mt_setd_ok) (je_var 1) (ja_cons (je_idx c.hr.u66 (je_var 3) je_int) (ja_cons (je_idx c.hr.u66 (je_var 3) je_int) ja_nil))))
  (jss_cons (js_set (i := 5) c.nd (je_mth .setd PySem.F.plainAttrs_dict PySem.F.slot_dict_setdefault PySem.F.type_dict_setdefault (fun _ => mt_setd_ok) (je_var 1) (ja_cons (je_idx c.hr.u66 (je_var 3) je_int) (ja_cons (je_idx c.hr.u66 (je_var 3) je_int) ja_nil))))
  (jss_cons (js_if (jt_cmp c.hr.u66 (je_var 4) (je_var 5)) (jss_cons (js_setM (i := 1) (own := [("scale", 6), ("mark", 7)]) (d := 1) (nr := 4) (fr := 5) (is := 6) (im := 7) c.hr.u66 c.calm c.nd (pr_var 1) (blkOk_by (own := [("scale", 6), ("mark", 7)]) (N := N_tie_rows) (sc := defScope s_tie_rows) (by decide +kernel)) (fun sB HB CB clB fpB => (tg_tup (c.blk sB HB _ _ fpB).calm (tgs_cons (i := 6) (c.blk sB HB _ _ fpB).nd (tgs_cons (i := 7) (c.blk sB HB _ _ fpB).nd tgs_nil)))) (fun sB HB CB clB fpB => pr_var 6) (fun sB HB CB clB fpB => pr_var 7) (fun sB HB CB clB fpB => pr_var 5) (fun sB HB CB clB fpB => pr_var 4) (fun sB HB CB clB fpB => pr_var 7))
  (jss_cons (js_expr (je_mth .append PySem.F.plainAttrs_list PySem.F.slot_list_append PySem.F.type_list_append (fun _ => mt_append_ok) (je_var 2) (ja_cons (je_var 3) ja_nil)))
  jss_nil)) jss_nil)
  jss_nil))))
  (jss_cons (js_ret (je_var 2))
  jss_nil))))
theorem jb_ties_of (T : Fcts K mg) (G : Fns P w K mg base k) (c : Cq (cxOf (L2N.CX P w) P w K mg base N_ties_of "ties_of" (defScope s_ties_of) f cdv A outer s H E) (fun c d _ H => E c d H) k) :
    JSs (cxOf (L2N.CX P w) P w K mg base N_ties_of "ties_of" (defScope s_ties_of) f cdv A outer s H E) (fun c d _ H => E c d H) (call tbl k) (defBody s_ties_of) F_ties_of.body :=
  (jss_cons (js_ret (je_comp (own := [("telling", 1)]) (is := [1]) (one := .one) c.calm c.nd (ji_seq (je_call G.g_tie_rows c.calm c.hr c.tk (ja_cons (je_var 0) ja_nil))) (blkOk_by (own := [("telling", 1)]) (N := N_ties_of) (sc := defScope s_ties_of) (by decide +kernel)) (fun sB HB CB clB fpB => (tg_one (c.blk sB HB _ _ fpB).nd)) (fun sB HB CB clB fpB => cd_none) (fun sB HB CB clB fpB => (je_idx (c.blk sB HB _ _ fpB).hr.u66 (je_var 1) je_int))))
  jss_nil)
theorem jb_steps_from (T : Fcts K mg) (G : Fns P w K mg base k) (c : Cq (cxOf (L2N.CX P w) P w K mg base N_steps_from "steps_from" (defScope s_steps_from) f cdv A outer s H E) (fun c d _ H => E c d H) k) :
    JSs (cxOf (L2N.CX P w) P w K mg base N_steps_from "steps_from" (defScope s_steps_from) f cdv A outer s H E) (fun c d _ H => E c d H) (call tbl k) (defBody s_steps_from) F_steps_from.body :=
  (jss_cons (js_set (i := 2) c.nd (je_lst ja_nil))
  (jss_cons (js_for0 (is := [3, 4, 5, 6]) (one := .star) c.po c.calm (ji_seq (je_var 0)) (tg_star 3 c.calm (tgs_cons (i := 3) c.nd (tgs_cons (i := 4) c.nd (tgs_cons (i := 5) c.nd (tgs_star (i := 6) c.nd))))) (jss_cons (js_if (jt_cmp c.hr.u66 (je_var 4) (je_var 1)) (jss_cons (js_expr (je_mth .append PySem.F.plainAttrs_list PySem.F.slot_list_append PySem.F.type_list_append (fun _ => mt_append_ok) (je_var 2) (ja_cons (je_tup (ja_cons (je_tup (ja_cons (je_var 3) (ja_cons je_bl ja_nil))) (ja_cons (je_var 5) ja_nil))) ja_nil)))
  jss_nil) jss_nil)
  (jss_cons (js_if (jt_cmp c.hr.u66 (je_var 5) (je_var 1)) (jss_cons (js_expr (je_mth .append PySem.F.plainAttrs_list PySem.F.slot_list_append PySem.F.type_list_append (fun _ => mt_append_ok) (je_var 2) (ja_cons (je_tup (ja_cons (je_tup (ja_cons (je_var 3) (ja_cons je_bl ja_nil))) (ja_cons (je_var 4) ja_nil))) ja_nil)))
  jss_nil) jss_nil)
  jss_nil)))
  (jss_cons (js_ret (je_var 2))
  jss_nil)))
theorem jb_roads_among (T : Fcts K mg) (G : Fns P w K mg base k) (c : Cq (cxOf (L2N.CX P w) P w K mg base N_roads_among "roads_among" (defScope s_roads_among) f cdv A outer s H E) (fun c d _ H => E c d H) k) :
    JSs (cxOf (L2N.CX P w) P w K mg base N_roads_among "roads_among" (defScope s_roads_among) f cdv A outer s H E) (fun c d _ H => E c d H) (call tbl k) (defBody s_roads_among) F_roads_among.body :=
  (jss_cons (js_set (i := 2) c.nd (je_dct1 (je_var 1) (je_lst ja_nil)))
  (jss_cons (js_set (i := 3) c.nd (je_lst (ja_cons (je_var 1) ja_nil)))
  (jss_cons (js_while0 c.po (jt_cmp c.hr.u66 (je_bi .len (fun _ => bi_len) T.fr_len (by decide +kernel) (ja_cons (je_var 3) ja_nil)) je_int) (jss_cons (js_set (i := 4) c.nd (je_mth .popAt PySem.F.plainAttrs_list PySem.F.slot_list_pop PySem.F.type_list_pop (fun _ => mt_popAt_ok) (je_var 3) (ja_cons je_int ja_nil)))
  (jss_cons (js_for0 (is := [5, 6]) (one := .tup) c.po c.calm (ji_seq (je_call G.g_steps_from c.calm c.hr c.tk (ja_cons (je_var 0) (ja_cons (je_var 4) ja_nil)))) (tg_tup c.calm (tgs_cons (i := 5) c.nd (tgs_cons (i := 6) c.nd tgs_nil))) (jss_cons (js_if (jt_cmp c.hr.u66 (je_var 6) (je_var 2)) (jss_cons (js_sub c.hr.u66 (je_bin (je_idx c.hr.u66 (je_var 2) (je_var 4)) (je_lst (ja_cons (je_var 5) ja_nil))) (je_var 2) (je_var 6))
  (jss_cons (js_expr (je_mth .append PySem.F.plainAttrs_list PySem.F.slot_list_append PySem.F.type_list_append (fun _ => mt_append_ok) (je_var 3) (ja_cons (je_var 6) ja_nil)))
  jss_nil)) jss_nil)
  jss_nil))
  jss_nil)))
  (jss_cons (js_ret (je_var 2))
  jss_nil))))
theorem jb_road_among (T : Fcts K mg) (G : Fns P w K mg base k) (c : Cq (cxOf (L2N.CX P w) P w K mg base N_road_among "road_among" (defScope s_road_among) f cdv A outer s H E) (fun c d _ H => E c d H) k) :
    JSs (cxOf (L2N.CX P w) P w K mg base N_road_among "road_among" (defScope s_road_among) f cdv A outer s H E) (fun c d _ H => E c d H) (call tbl k) (defBody s_road_among) F_road_among.body :=
  (jss_cons (js_ret (je_mth .get1 PySem.F.plainAttrs_dict PySem.F.slot_dict_get PySem.F.type_dict_get (fun _ => (mt_get1_ok (by have := c.hr.u66; omega))) (je_call G.g_roads_among c.calm c.hr c.tk (ja_cons (je_var 0) (ja_cons (je_var 1) ja_nil))) (ja_cons (je_var 2) ja_nil)))
  jss_nil)
theorem jb_road_of (T : Fcts K mg) (G : Fns P w K mg base k) (c : Cq (cxOf (L2N.CX P w) P w K mg base N_road_of "road_of" (defScope s_road_of) f cdv A outer s H E) (fun c d _ H => E c d H) k) :
    JSs (cxOf (L2N.CX P w) P w K mg base N_road_of "road_of" (defScope s_road_of) f cdv A outer s H E) (fun c d _ H => E c d H) (call tbl k) (defBody s_road_of) F_road_of.body :=
  (jss_cons (js_set (i := 3) c.nd (je_call G.g_road_among c.calm c.hr c.tk (ja_cons (je_call G.g_tie_rows c.calm c.hr c.tk (ja_cons (je_var 0) ja_nil)) (ja_cons (je_var 1) (ja_cons (je_var 2) ja_nil)))))
  (jss_cons (js_if (jt_cmp c.hr.u66 (je_var 3) je_non) (jss_cons (js_raise G.x_NotJoined c.calm c.tk (c.hr.mono (by omega)) (ja_cons (je_var 1) (ja_cons (je_var 2) ja_nil)))
  jss_nil) jss_nil)
  (jss_cons (js_ret (je_var 3))
  jss_nil)))
theorem jb_chain_move (T : Fcts K mg) (G : Fns P w K mg base k) (c : Cq (cxOf (L2N.CX P w) P w K mg base N_chain_move "chain_move" (defScope s_chain_move) f cdv A outer s H E) (fun c d _ H => E c d H) k) :
    JSs (cxOf (L2N.CX P w) P w K mg base N_chain_move "chain_move" (defScope s_chain_move) f cdv A outer s H E) (fun c d _ H => E c d H) (call tbl k) (defBody s_chain_move) F_chain_move.body :=
  (jss_cons (js_setD (i := 2) (own := [("telling", 6)]) (is := [6]) (one := .one) c.calm c.nd (ji_seq (je_var 0)) (blkOk_by (own := [("telling", 6)]) (N := N_chain_move) (sc := defScope s_chain_move) (by decide +kernel)) (fun sB HB CB clB fpB => (tg_one (c.blk sB HB _ _ fpB).nd)) (fun sB HB CB clB fpB => cd_none) (fun sB HB CB clB fpB => (je_idx (c.blk sB HB _ _ fpB).hr.u66 (je_var 6) je_int)) (fun sB HB CB clB fpB => (je_idx (c.blk sB HB _ _ fpB).hr.u66 (je_var 6) je_int)))
  (jss_cons (js_set (i := 3) c.nd (je_con T.co_SAME))
  (jss_cons (js_for0 (is := [4, 5]) (one := .tup) c.po c.calm (ji_seq (je_var 1)) (tg_tup c.calm (tgs_cons (i := 4) c.nd (tgs_cons (i := 5) c.nd tgs_nil))) (jss_cons (js_set (i := 3) c.nd (je_call G.g_move_then c.calm c.hr c.tk (ja_cons (je_var 3) (ja_cons (je_ite (jt_val (je_var 5)) (je_idx c.hr.u66 (je_var 2) (je_var 4)) (je_call G.g_move_back c.calm c.hr c.tk (ja_cons (je_idx c.hr.u66 (je_var 2) (je_var 4)) ja_nil))) ja_nil))))
  jss_nil))
  (jss_cons (js_ret (je_var 3))
  jss_nil))))
theorem jb_move_of (T : Fcts K mg) (G : Fns P w K mg base k) (c : Cq (cxOf (L2N.CX P w) P w K mg base N_move_of "move_of" (defScope s_move_of) f cdv A outer s H E) (fun c d _ H => E c d H) k) :
    JSs (cxOf (L2N.CX P w) P w K mg base N_move_of "move_of" (defScope s_move_of) f cdv A outer s H E) (fun c d _ H => E c d H) (call tbl k) (defBody s_move_of) F_move_of.body :=
  (jss_cons (js_ret (je_call G.g_chain_move c.calm c.hr c.tk (ja_cons (je_var 0) (ja_cons (je_call G.g_road_of c.calm c.hr c.tk (ja_cons (je_var 0) (ja_cons (je_var 1) (ja_cons (je_var 2) ja_nil)))) ja_nil))))
  jss_nil)
theorem jb_ring_of (T : Fcts K mg) (G : Fns P w K mg base k) (c : Cq (cxOf (L2N.CX P w) P w K mg base N_ring_of "ring_of" (defScope s_ring_of) f cdv A outer s H E) (fun c d _ H => E c d H) k) :
    JSs (cxOf (L2N.CX P w) P w K mg base N_ring_of "ring_of" (defScope s_ring_of) f cdv A outer s H E) (fun c d _ H => E c d H) (call tbl k) (defBody s_ring_of) F_ring_of.body :=
  (jss_cons (js_set (i := 2) c.nd (je_call G.g_named c.calm c.hr c.tk (ja_cons (je_var 0) (ja_cons (je_var 1) ja_nil))))
  (jss_cons (js_ret (je_call G.g_move_then c.calm c.hr c.tk (ja_cons (je_idx c.hr.u66 (je_var 2) je_int) (ja_cons (je_call G.g_move_of c.calm c.hr c.tk (ja_cons (je_var 0) (ja_cons (je_idx c.hr.u66 (je_var 2) je_int) (ja_cons (je_idx c.hr.u66 (je_var 2) je_int) ja_nil)))) ja_nil))))
  jss_nil))
theorem jb_bars_of (T : Fcts K mg) (G : Fns P w K mg base k) (c : Cq (cxOf (L2N.CX P w) P w K mg base N_bars_of "bars_of" (defScope s_bars_of) f cdv A outer s H E) (fun c d _ H => E c d H) k) :
    JSs (cxOf (L2N.CX P w) P w K mg base N_bars_of "bars_of" (defScope s_bars_of) f cdv A outer s H E) (fun c d _ H => E c d H) (call tbl k) (defBody s_bars_of) F_bars_of.body :=
  (jss_cons (js_set (i := 1) c.nd (je_call G.g_tie_rows c.calm c.hr c.tk (ja_cons (je_var 0) ja_nil)))
  (jss_cons (js_set (i := 2) c.nd (je_firsts (own := [("tie", 4)]) (j := 1) (it := 4) c.calm c.nd (pr_var 1) (blkOk_by (own := [("tie", 4)]) (N := N_bars_of) (sc := defScope s_bars_of) (by decide +kernel)) (fun sB HB CB clB fpB => (tg_one (c.blk sB HB _ _ fpB).nd)) (fun sB HB CB clB fpB => pr_var 4) (fun sB HB CB clB fpB => pe_int)))
  (jss_cons (js_setC (i := 3) (own := [("telling", 5)]) (is := [5]) (one := .one) c.calm c.nd (ji_seq (je_call G.g_in_order c.calm c.hr c.tk (ja_cons (je_var 0) ja_nil))) (blkOk_by (own := [("telling", 5)]) (N := N_bars_of) (sc := defScope s_bars_of) (by decide +kernel)) (fun sB HB CB clB fpB => (tg_one (c.blk sB HB _ _ fpB).nd)) (fun sB HB CB clB fpB => cd_some (jt_cmp (c.blk sB HB _ _ fpB).hr.u66 (je_idx (c.blk sB HB _ _ fpB).hr.u66 (je_var 5) je_int) (je_var 2))) (fun sB HB CB clB fpB => (je_var 5)))
  (jss_cons (js_ret (je_dcomp (own := [("row", 6)]) (is := [6]) (one := .one) c.calm c.nd (ji_seq (je_var 3)) (blkOk_by (own := [("row", 6)]) (N := N_bars_of) (sc := defScope s_bars_of) (by decide +kernel)) (fun sB HB CB clB fpB => (tg_one (c.blk sB HB _ _ fpB).nd)) (fun sB HB CB clB fpB => cd_none) (fun sB HB CB clB fpB => (je_idx (c.blk sB HB _ _ fpB).hr.u66 (je_var 6) je_int)) (fun sB HB CB clB fpB => (je_call G.g_road_among (c.blk sB HB _ _ fpB).calm (c.blk sB HB _ _ fpB).hr (c.blk sB HB _ _ fpB).tk (ja_cons (je_var 1) (ja_cons (je_idx (c.blk sB HB _ _ fpB).hr.u66 (je_var 6) je_int) (ja_cons (je_idx (c.blk sB HB _ _ fpB).hr.u66 (je_var 6) je_int) ja_nil)))))))
  jss_nil))))
theorem jb_words_of (T : Fcts K mg) (G : Fns P w K mg base k) (c : Cq (cxOf (L2N.CX P w) P w K mg base N_words_of "words_of" (defScope s_words_of) f cdv A outer s H E) (fun c d _ H => E c d H) k) :
    JSs (cxOf (L2N.CX P w) P w K mg base N_words_of "words_of" (defScope s_words_of) f cdv A outer s H E) (fun c d _ H => E c d H) (call tbl k) (defBody s_words_of) F_words_of.body :=
  (jss_cons (js_set (i := 1) c.nd (je_call G.g_bars_of c.calm c.hr c.tk (ja_cons (je_var 0) ja_nil)))
  (jss_cons (js_set (i := 2) c.nd (je_lst ja_nil))
  (jss_cons (js_for0 (is := [3]) (one := .one) c.po c.calm (ji_seq (je_call G.g_in_order c.calm c.hr c.tk (ja_cons (je_var 0) ja_nil))) (tg_one c.nd) (jss_cons (js_par (i := 4) (j := 5) c.calm c.nd (ja_cons (je_idx c.hr.u66 (je_var 3) je_int) (ja_cons (je_idx c.hr.u66 (je_var 3) je_int) ja_nil)))
  (jss_cons (js_set (i := 6) c.nd je_str)
  (jss_cons (js_if (jt_cmp c.hr.u66 (je_var 4) (je_var 1)) (jss_cons (js_set (i := 6) c.nd (je_ite (jt_cmp c.hr.u66 (je_call G.g_chain_move c.calm c.hr c.tk (ja_cons (je_var 0) (ja_cons (je_idx c.hr.u66 (je_var 1) (je_var 4)) ja_nil))) (je_var 5)) je_str je_str))
  jss_nil) jss_nil)
  (jss_cons (js_expr (je_mth .append PySem.F.plainAttrs_list PySem.F.slot_list_append PySem.F.type_list_append (fun _ => mt_append_ok) (je_var 2) (ja_cons (je_tup (ja_cons (je_var 4) (ja_cons (je_var 6) ja_nil))) ja_nil)))
  jss_nil)))))
  (jss_cons (js_ret (je_var 2))
  jss_nil))))
theorem jb_paper_of (T : Fcts K mg) (G : Fns P w K mg base k) (c : Cq (cxOf (L2N.CX P w) P w K mg base N_paper_of "paper_of" (defScope s_paper_of) f cdv A outer s H E) (fun c d _ H => E c d H) k) :
    JSs (cxOf (L2N.CX P w) P w K mg base N_paper_of "paper_of" (defScope s_paper_of) f cdv A outer s H E) (fun c d _ H => E c d H) (call tbl k) (defBody s_paper_of) F_paper_of.body :=
  (jss_cons (js_set (i := 1) c.nd (je_call G.g_bars_of c.calm c.hr c.tk (ja_cons (je_var 0) ja_nil)))
  (jss_cons (js_setC (i := 2) (own := [("name", 3), ("word", 4)]) (is := [3, 4]) (one := .tup) c.calm c.nd (ji_seq (je_call G.g_words_of c.calm c.hr c.tk (ja_cons (je_var 0) ja_nil))) (blkOk_by (own := [("name", 3), ("word", 4)]) (N := N_paper_of) (sc := defScope s_paper_of) (by decide +kernel)) (fun sB HB CB clB fpB => (tg_tup (c.blk sB HB _ _ fpB).calm (tgs_cons (i := 3) (c.blk sB HB _ _ fpB).nd (tgs_cons (i := 4) (c.blk sB HB _ _ fpB).nd tgs_nil)))) (fun sB HB CB clB fpB => cd_some (jt_cmp (c.blk sB HB _ _ fpB).hr.u66 (je_var 3) (je_var 1))) (fun sB HB CB clB fpB => (je_tup (ja_cons (je_var 3) (ja_cons (je_var 4) (ja_cons (je_biT .tupleOf (fun _ => bi_tuple) T.fr_tuple (by decide +kernel) (ja_cons (je_idx (c.blk sB HB _ _ fpB).hr.u66 (je_var 1) (je_var 3)) ja_nil)) ja_nil))))))
  (jss_cons (js_ret (je_tup (ja_cons (je_biT .tupleOf (fun _ => bi_tuple) T.fr_tuple (by decide +kernel) (ja_cons (je_call G.g_ties_of c.calm c.hr c.tk (ja_cons (je_var 0) ja_nil)) ja_nil)) (ja_cons (je_biT .tupleOf (fun _ => bi_tuple) T.fr_tuple (by decide +kernel) (ja_cons (je_var 2) ja_nil)) ja_nil))))
  jss_nil)))
theorem jb_is_step (T : Fcts K mg) (G : Fns P w K mg base k) (c : Cq (cxOf (L2N.CX P w) P w K mg base N_is_step "is_step" (defScope s_is_step) f cdv A outer s H E) (fun c d _ H => E c d H) k) :
    JSs (cxOf (L2N.CX P w) P w K mg base N_is_step "is_step" (defScope s_is_step) f cdv A outer s H E) (fun c d _ H => E c d H) (call tbl k) (defBody s_is_step) F_is_step.body :=
  (jss_cons (js_if (jt_bool (jw_or (jt_not (jt_val (je_bi .isinst (fun _ => bi_isinst) T.fr_isinstance (by decide +kernel) (ja_cons (je_var 0) (ja_cons (je_ty .tuple T.fr_tuple (by decide +kernel)) ja_nil))))) (jw_or1 (jt_cmp c.hr.u66 (je_bi .len (fun _ => bi_len) T.fr_len (by decide +kernel) (ja_cons (je_var 0) ja_nil)) je_int)))) (jss_cons (js_ret je_bl)
  jss_nil) jss_nil)
  (jss_cons (js_ret (je_and (je_bi .isinst (fun _ => bi_isinst) T.fr_isinstance (by decide +kernel) (ja_cons (je_idx c.hr.u66 (je_var 0) je_int) (ja_cons (je_ty .str T.fr_str (by decide +kernel)) ja_nil))) (je_one (je_bi .isinst (fun _ => bi_isinst) T.fr_isinstance (by decide +kernel) (ja_cons (je_idx c.hr.u66 (je_var 0) je_int) (ja_cons (je_ty .bool T.fr_bool (by decide +kernel)) ja_nil))))))
  jss_nil))
theorem jb_is_row (T : Fcts K mg) (G : Fns P w K mg base k) (c : Cq (cxOf (L2N.CX P w) P w K mg base N_is_row "is_row" (defScope s_is_row) f cdv A outer s H E) (fun c d _ H => E c d H) k) :
    JSs (cxOf (L2N.CX P w) P w K mg base N_is_row "is_row" (defScope s_is_row) f cdv A outer s H E) (fun c d _ H => E c d H) (call tbl k) (defBody s_is_row) F_is_row.body :=
  (jss_cons (js_if (jt_bool (jw_or (jt_not (jt_val (je_bi .isinst (fun _ => bi_isinst) T.fr_isinstance (by decide +kernel) (ja_cons (je_var 0) (ja_cons (je_ty .tuple T.fr_tuple (by decide +kernel)) ja_nil))))) (jw_or (jt_cmp c.hr.u66 (je_bi .len (fun _ => bi_len) T.fr_len (by decide +kernel) (ja_cons (je_var 0) ja_nil)) je_int) (jw_or1 (jt_not (jt_val (je_bi .isinst (fun _ => bi_isinst) T.fr_isinstance (by decide +kernel) (ja_cons (je_idx c.hr.u66 (je_var 0) je_int) (ja_cons (je_ty .tuple T.fr_tuple (by decide +kernel)) ja_nil))))))))) (jss_cons (js_ret je_bl)
  jss_nil) jss_nil)
  (jss_cons (js_ret (je_and (je_bi .isinst (fun _ => bi_isinst) T.fr_isinstance (by decide +kernel) (ja_cons (je_idx c.hr.u66 (je_var 0) je_int) (ja_cons (je_ty .str T.fr_str (by decide +kernel)) ja_nil))) (je_and (je_bi .isinst (fun _ => bi_isinst) T.fr_isinstance (by decide +kernel) (ja_cons (je_idx c.hr.u66 (je_var 0) je_int) (ja_cons (je_ty .str T.fr_str (by decide +kernel)) ja_nil))) (je_one (je_bi .all (fun _ => (bi_all c.calm)) T.fr_all (by decide +kernel) (ja_cons (je_comp (own := [("step", 1)]) (is := [1]) (one := .one) c.calm c.nd (ji_seq (je_idx c.hr.u66 (je_var 0) je_int)) (blkOk_by (own := [("step", 1)]) (N := N_is_row) (sc := defScope s_is_row) (by decide +kernel)) (fun sB HB CB clB fpB => (tg_one (c.blk sB HB _ _ fpB).nd)) (fun sB HB CB clB fpB => cd_none) (fun sB HB CB clB fpB => (je_call G.g_is_step (c.blk sB HB _ _ fpB).calm (c.blk sB HB _ _ fpB).hr (c.blk sB HB _ _ fpB).tk (ja_cons (je_var 1) ja_nil)))) ja_nil))))))
  jss_nil))
theorem jb_is_sheet (T : Fcts K mg) (G : Fns P w K mg base k) (c : Cq (cxOf (L2N.CX P w) P w K mg base N_is_sheet "is_sheet" (defScope s_is_sheet) f cdv A outer s H E) (fun c d _ H => E c d H) k) :
    JSs (cxOf (L2N.CX P w) P w K mg base N_is_sheet "is_sheet" (defScope s_is_sheet) f cdv A outer s H E) (fun c d _ H => E c d H) (call tbl k) (defBody s_is_sheet) F_is_sheet.body :=
  (jss_cons (js_if (jt_bool (jw_or (jt_not (jt_val (je_bi .isinst (fun _ => bi_isinst) T.fr_isinstance (by decide +kernel) (ja_cons (je_var 0) (ja_cons (je_ty .tuple T.fr_tuple (by decide +kernel)) ja_nil))))) (jw_or (jt_cmp c.hr.u66 (je_bi .len (fun _ => bi_len) T.fr_len (by decide +kernel) (ja_cons (je_var 0) ja_nil)) je_int) (jw_or1 (jt_not (jt_val (je_bi .all (fun _ => (bi_all c.calm)) T.fr_all (by decide +kernel) (ja_cons (je_comp (own := [("part", 1)]) (is := [1]) (one := .one) c.calm c.nd (ji_seq (je_var 0)) (blkOk_by (own := [("part", 1)]) (N := N_is_sheet) (sc := defScope s_is_sheet) (by decide +kernel)) (fun sB HB CB clB fpB => (tg_one (c.blk sB HB _ _ fpB).nd)) (fun sB HB CB clB fpB => cd_none) (fun sB HB CB clB fpB => (je_bi .isinst (fun _ => bi_isinst) T.fr_isinstance (by decide +kernel) (ja_cons (je_var 1) (ja_cons (je_ty .tuple T.fr_tuple (by decide +kernel)) ja_nil))))) ja_nil)))))))) (jss_cons (js_ret je_bl)
  jss_nil) jss_nil)
  (jss_cons (js_ret (je_bi .all (fun _ => (bi_all c.calm)) T.fr_all (by decide +kernel) (ja_cons (je_bin (je_comp (own := [("name", 2)]) (is := [2]) (one := .one) c.calm c.nd (ji_seq (je_idx c.hr.u66 (je_var 0) je_int)) (blkOk_by (own := [("name", 2)]) (N := N_is_sheet) (sc := defScope s_is_sheet) (by decide +kernel)) (fun sB HB CB clB fpB => (tg_one (c.blk sB HB _ _ fpB).nd)) (fun sB HB CB clB fpB => cd_none) (fun sB HB CB clB fpB => (je_bi .isinst (fun _ => bi_isinst) T.fr_isinstance (by decide +kernel) (ja_cons (je_var 2) (ja_cons (je_ty .str T.fr_str (by decide +kernel)) ja_nil))))) (je_comp (own := [("row", 3)]) (is := [3]) (one := .one) c.calm c.nd (ji_seq (je_idx c.hr.u66 (je_var 0) je_int)) (blkOk_by (own := [("row", 3)]) (N := N_is_sheet) (sc := defScope s_is_sheet) (by decide +kernel)) (fun sB HB CB clB fpB => (tg_one (c.blk sB HB _ _ fpB).nd)) (fun sB HB CB clB fpB => cd_none) (fun sB HB CB clB fpB => (je_call G.g_is_row (c.blk sB HB _ _ fpB).calm (c.blk sB HB _ _ fpB).hr (c.blk sB HB _ _ fpB).tk (ja_cons (je_var 3) ja_nil))))) ja_nil)))
  jss_nil))
theorem jb_scales_along (T : Fcts K mg) (G : Fns P w K mg base k) (c : Cq (cxOf (L2N.CX P w) P w K mg base N_scales_along "scales_along" (defScope s_scales_along) f cdv A outer s H E) (fun c d _ H => E c d H) k) :
    JSs (cxOf (L2N.CX P w) P w K mg base N_scales_along "scales_along" (defScope s_scales_along) f cdv A outer s H E) (fun c d _ H => E c d H) (call tbl k) (defBody s_scales_along) F_scales_along.body :=
  (jss_cons (js_setD (i := 3) (own := [("row", 9)]) (is := [9]) (one := .one) c.calm c.nd (ji_seq (je_var 0)) (blkOk_by (own := [("row", 9)]) (N := N_scales_along) (sc := defScope s_scales_along) (by decide +kernel)) (fun sB HB CB clB fpB => (tg_one (c.blk sB HB _ _ fpB).nd)) (fun sB HB CB clB fpB => cd_none) (fun sB HB CB clB fpB => (je_idx (c.blk sB HB _ _ fpB).hr.u66 (je_var 9) je_int)) (fun sB HB CB clB fpB => (je_tup (ja_cons (je_idx (c.blk sB HB _ _ fpB).hr.u66 (je_var 9) je_int) (ja_cons (je_idx (c.blk sB HB _ _ fpB).hr.u66 (je_var 9) je_int) ja_nil)))))
  (jss_cons (js_set (i := 4) c.nd (je_lst (ja_cons (je_var 1) ja_nil)))
  (jss_cons (js_for0 (is := [5, 6]) (one := .tup) c.po c.calm (ji_seq (je_var 2)) (tg_tup c.calm (tgs_cons (i := 5) c.nd (tgs_cons (i := 6) c.nd tgs_nil))) (jss_cons (js_tup (is := [7, 8]) (je_stp (je_mth .get2 PySem.F.plainAttrs_dict PySem.F.slot_dict_get PySem.F.type_dict_get (fun _ => (mt_get2_ok (by have := c.hr.u66; omega))) (je_var 3) (ja_cons (je_var 5) (ja_cons (je_tup (ja_cons je_non (ja_cons je_non ja_nil))) ja_nil))) (je_ite (jt_val (je_var 6)) je_int (je_neg je_int))) (tg_tup' c.calm (tgs_cons (i := 7) c.nd (tgs_cons (i := 8) c.nd tgs_nil))))
  (jss_cons (js_if (jt_cmp c.hr.u66 (je_var 7) (je_idx c.hr.u66 (je_var 4) (je_neg je_int))) (jss_cons (js_ret je_non)
  jss_nil) jss_nil)
  (jss_cons (js_expr (je_mth .append PySem.F.plainAttrs_list PySem.F.slot_list_append PySem.F.type_list_append (fun _ => mt_append_ok) (je_var 4) (ja_cons (je_var 8) ja_nil)))
  jss_nil))))
  (jss_cons (js_ret (je_var 4))
  jss_nil))))
theorem jb_row_holds (T : Fcts K mg) (G : Fns P w K mg base k) (c : Cq (cxOf (L2N.CX P w) P w K mg base N_row_holds "row_holds" (defScope s_row_holds) f cdv A outer s H E) (fun c d _ H => E c d H) k) :
    JSs (cxOf (L2N.CX P w) P w K mg base N_row_holds "row_holds" (defScope s_row_holds) f cdv A outer s H E) (fun c d _ H => E c d H) (call tbl k) (defBody s_row_holds) F_row_holds.body :=
  (jss_cons (js_tup (is := [3, 4, 5]) (je_var 2) (tg_tup' c.calm (tgs_cons (i := 3) c.nd (tgs_cons (i := 4) c.nd (tgs_cons (i := 5) c.nd tgs_nil)))))
  (jss_cons (js_set (i := 6) c.nd (je_call G.g_scales_along c.calm c.hr c.tk (ja_cons (je_var 0) (ja_cons (je_idx c.hr.u66 (je_var 1) je_int) (ja_cons (je_var 5) ja_nil)))))
  (jss_cons (js_if (jt_bool (jw_or (jt_cmp c.hr.u66 (je_var 3) (je_idx c.hr.u66 (je_var 1) je_int)) (jw_or (jt_cmp c.hr.u66 (je_var 6) je_non) (jw_or (jt_cmp c.hr.u66 (je_idx c.hr.u66 (je_var 6) (je_neg je_int)) (je_idx c.hr.u66 (je_var 1) je_int)) (jw_or1 (jt_cmp c.hr.u66 (je_lenSet c.calm T.fr_len T.fr_set (je_var 6)) (je_bi .len (fun _ => bi_len) T.fr_len (by decide +kernel) (ja_cons (je_var 6) ja_nil)))))))) (jss_cons (js_ret je_bl)
  jss_nil) jss_nil)
  (jss_cons (js_ret (je_cmp c.hr.u66 (je_var 4) (je_ite (jt_cmp c.hr.u66 (je_call G.g_chain_move c.calm c.hr c.tk (ja_cons (je_var 0) (ja_cons (je_var 5) ja_nil))) (je_idx c.hr.u66 (je_var 1) je_int)) je_str je_str)))
  jss_nil))))
theorem jb_holds (T : Fcts K mg) (G : Fns P w K mg base k) (c : Cq (cxOf (L2N.CX P w) P w K mg base N_holds "holds" (defScope s_holds) f cdv A outer s H E) (fun c d _ H => E c d H) k) :
    JSs (cxOf (L2N.CX P w) P w K mg base N_holds "holds" (defScope s_holds) f cdv A outer s H E) (fun c d _ H => E c d H) (call tbl k) (defBody s_holds) F_holds.body :=
  (jss_cons (js_if (jt_not (jt_val (je_call G.g_is_sheet c.calm c.hr c.tk (ja_cons (je_var 1) ja_nil)))) (jss_cons (js_ret je_bl)
  jss_nil) jss_nil)
  (jss_cons (js_tup (is := [2, 3]) (je_var 1) (tg_tup' c.calm (tgs_cons (i := 2) c.nd (tgs_cons (i := 3) c.nd tgs_nil))))
  (jss_cons (js_set (i := 4) c.nd (je_lst ja_nil))
  (jss_cons (js_set (i := 5) c.nd je_dct0)
  (jss_cons (js_set (i := 6) c.nd je_int)
  (jss_cons (js_for0 (is := [7]) (one := .one) c.po c.calm (ji_seq (je_call G.g_in_order c.calm c.hr c.tk (ja_cons (je_var 0) ja_nil))) (tg_one c.nd) (jss_cons (js_tup (is := [8, 9]) (je_tup (ja_cons (je_mth .get2 PySem.F.plainAttrs_dict PySem.F.slot_dict_get PySem.F.type_dict_get (fun _ => (mt_get2_ok (by have := c.hr.u66; omega))) (je_var 5) (ja_cons (je_idx c.hr.u66 (je_var 7) je_int) (ja_cons (je_idx c.hr.u66 (je_var 7) je_int) ja_nil))) (ja_cons (je_mth .get2 PySem.F.plainAttrs_dict PySem.F.slot_dict_get PySem.F.type_dict_get (fun _ => (mt_get2_ok (by have := c.hr.u66; omega))) (je_var 5) (ja_cons (je_idx c.hr.u66 (je_var 7) je_int) (ja_cons (je_idx c.hr.u66 (je_var 7) je_int) ja_nil))) ja_nil))) (tg_tup' c.calm (tgs_cons (i := 8) c.nd (tgs_cons (i := 9) c.nd tgs_nil))))
  (jss_cons (js_if (jt_bool (jw_and (jt_cmp c.hr.u66 (je_bi .len (fun _ => bi_len) T.fr_len (by decide +kernel) (ja_cons (je_var 4) ja_nil)) (je_bi .len (fun _ => bi_len) T.fr_len (by decide +kernel) (ja_cons (je_var 2) ja_nil))) (jw_and1 (jt_cmp c.hr.u66 (je_idx c.hr.u66 (je_var 2) (je_bi .len (fun _ => bi_len) T.fr_len (by decide +kernel) (ja_cons (je_var 4) ja_nil))) (je_idx c.hr.u66 (je_var 7) je_int))))) (jss_cons (js_if (jt_cmp c.hr.u66 (je_var 8) (je_var 9)) (jss_cons (js_ret je_bl)
  jss_nil) jss_nil)
  (jss_cons (js_expr (je_mth .update PySem.F.plainAttrs_dict PySem.F.slot_dict_update PySem.F.type_dict_update (fun _ => mt_update_ok) (je_var 5) (ja_cons (je_dct2 (je_idx c.hr.u66 (je_var 7) je_int) (je_var 8) (je_idx c.hr.u66 (je_var 7) je_int) (je_var 9)) ja_nil)))
  (jss_cons (js_setM (i := 5) (own := [("scale", 10), ("mark", 11)]) (d := 5) (nr := 8) (fr := 9) (is := 10) (im := 11) c.hr.u66 c.calm c.nd (pr_var 5) (blkOk_by (own := [("scale", 10), ("mark", 11)]) (N := N_holds) (sc := defScope s_holds) (by decide +kernel)) (fun sB HB CB clB fpB => (tg_tup (c.blk sB HB _ _ fpB).calm (tgs_cons (i := 10) (c.blk sB HB _ _ fpB).nd (tgs_cons (i := 11) (c.blk sB HB _ _ fpB).nd tgs_nil)))) (fun sB HB CB clB fpB => pr_var 10) (fun sB HB CB clB fpB => pr_var 11) (fun sB HB CB clB fpB => pr_var 9) (fun sB HB CB clB fpB => pr_var 8) (fun sB HB CB clB fpB => pr_var 11))
  (jss_cons (js_expr (je_mth .append PySem.F.plainAttrs_list PySem.F.slot_list_append PySem.F.type_list_append (fun _ => mt_append_ok) (je_var 4) (ja_cons (je_var 7) ja_nil)))
  jss_nil)))) (jss_cons (js_if (jt_bool (jw_and (jt_cmp c.hr.u66 (je_var 6) (je_bi .len (fun _ => bi_len) T.fr_len (by decide +kernel) (ja_cons (je_var 3) ja_nil))) (jw_and1 (jt_val (je_call G.g_row_holds c.calm c.hr c.tk (ja_cons (je_var 4) (ja_cons (je_var 7) (ja_cons (je_idx c.hr.u66 (je_var 3) (je_var 6)) ja_nil)))))))) (jss_cons (js_aug (i := 6) c.nd je_int)
  jss_nil) (jss_cons (js_ret je_bl)
  jss_nil))
  jss_nil))
  jss_nil)))
  (jss_cons (js_ret (je_and (je_cmp c.hr.u66 (je_bi .len (fun _ => bi_len) T.fr_len (by decide +kernel) (ja_cons (je_var 4) ja_nil)) (je_bi .len (fun _ => bi_len) T.fr_len (by decide +kernel) (ja_cons (je_var 2) ja_nil))) (je_one (je_cmp c.hr.u66 (je_var 6) (je_bi .len (fun _ => bi_len) T.fr_len (by decide +kernel) (ja_cons (je_var 3) ja_nil))))))
  jss_nil)))))))
theorem jb__law_start (T : Fcts K mg) (G : Fns P w K mg base k) (c : Cq (cxOf (L2N.CX P w) P w K mg base N__law_start "_law_start" (defScope s__law_start) f cdv A outer s H E) (fun c d _ H => E c d H) k) :
    JSs (cxOf (L2N.CX P w) P w K mg base N__law_start "_law_start" (defScope s__law_start) f cdv A outer s H E) (fun c d _ H => E c d H) (call tbl k) (defBody s__law_start) F_law_start.body :=
  (jss_cons (js_setC (i := 1) (own := [("_law_cell", 2)]) (is := [2]) (one := .one) c.calm c.nd (ji_seq (je_var 0)) (blkOk_by (own := [("_law_cell", 2)]) (N := N__law_start) (sc := defScope s__law_start) (by decide +kernel)) (fun sB HB CB clB fpB => (tg_one (c.blk sB HB _ _ fpB).nd)) (fun sB HB CB clB fpB => cd_some (jt_cmp (c.blk sB HB _ _ fpB).hr.u66 (je_var 2) (je_bin je_int je_int))) (fun sB HB CB clB fpB => (je_var 2)))
  (jss_cons (js_ret (je_lst (ja_cons (je_var 1) (ja_cons je_int (ja_cons (je_comp (own := [("_law_cell", 2)]) (is := [2]) (one := .one) c.calm c.nd (ji_seq (je_var 0)) (blkOk_by (own := [("_law_cell", 2)]) (N := N__law_start) (sc := defScope s__law_start) (by decide +kernel)) (fun sB HB CB clB fpB => (tg_one (c.blk sB HB _ _ fpB).nd)) (fun sB HB CB clB fpB => cd_none) (fun sB HB CB clB fpB => (je_bin (je_var 2) je_int))) (ja_cons je_int ja_nil))))))
  jss_nil))
theorem jb__law_draw (T : Fcts K mg) (G : Fns P w K mg base k) (c : Cq (cxOf (L2N.CX P w) P w K mg base N__law_draw "_law_draw" (defScope s__law_draw) f cdv A outer s H E) (fun c d _ H => E c d H) k) :
    JSs (cxOf (L2N.CX P w) P w K mg base N__law_draw "_law_draw" (defScope s__law_draw) f cdv A outer s H E) (fun c d _ H => E c d H) (call tbl k) (defBody s__law_draw) F_law_draw.body :=
  (jss_cons (js_if (jt_bool (jw_and (jt_cmp c.hr.u66 (je_idx c.hr.u66 (je_var 0) je_int) je_int) (jw_and1 (jt_val (je_idx c.hr.u66 (je_var 0) je_int))))) (jss_cons (js_sub c.hr.u66 (je_mth .popAt PySem.F.plainAttrs_list PySem.F.slot_list_pop PySem.F.type_list_pop (fun _ => mt_popAt_ok) (je_idx c.hr.u66 (je_var 0) je_int) (ja_cons je_int ja_nil)) (je_var 0) je_int)
  jss_nil) jss_nil)
  (jss_cons (js_if (jt_cmp c.hr.u66 (je_idx c.hr.u66 (je_var 0) je_int) je_int) (jss_cons (js_set (i := 2) c.nd (je_bin (je_idx c.hr.u66 (je_var 0) je_int) (je_var 1)))
  (jss_cons (js_sub c.hr.u66 (je_bin (je_idx c.hr.u66 (je_var 0) je_int) (je_var 1)) (je_var 0) je_int)
  (jss_cons (js_ret (je_var 2))
  jss_nil))) jss_nil)
  (jss_cons (js_set (i := 2) c.nd je_int)
  (jss_cons (js_set (i := 3) c.nd je_int)
  (jss_cons (js_while0 c.po (jt_cmp c.hr.u66 (je_var 3) (je_var 1)) (jss_cons (js_set (i := 2) c.nd (je_bin (je_bin (je_var 2) je_int) (je_call G.g__law_mix c.calm c.hr c.tk (ja_cons (je_var 0) ja_nil))))
  (jss_cons (js_set (i := 3) c.nd (je_bin (je_var 3) je_int))
  jss_nil)))
  (jss_cons (js_ret (je_bin (je_var 2) (je_var 1)))
  jss_nil))))))
theorem jb__law_mix (T : Fcts K mg) (G : Fns P w K mg base k) (c : Cq (cxOf (L2N.CX P w) P w K mg base N__law_mix "_law_mix" (defScope s__law_mix) f cdv A outer s H E) (fun c d _ H => E c d H) k) :
    JSs (cxOf (L2N.CX P w) P w K mg base N__law_mix "_law_mix" (defScope s__law_mix) f cdv A outer s H E) (fun c d _ H => E c d H) (call tbl k) (defBody s__law_mix) F_law_mix.body :=
  (jss_cons (js_augs c.hr.u66 (je_var 0) je_int je_int)
  (jss_cons (js_set (i := 1) c.nd (je_idx c.hr.u66 (je_var 0) je_int))
  (jss_cons (js_set (i := 2) c.nd je_int)
  (jss_cons (js_if (jt_val (je_idx c.hr.u66 (je_var 0) je_int)) (jss_cons (js_set (i := 2) c.nd (je_idx c.hr.u66 (je_idx c.hr.u66 (je_var 0) je_int) (je_bin (je_var 1) (je_bi .len (fun _ => bi_len) T.fr_len (by decide +kernel) (ja_cons (je_idx c.hr.u66 (je_var 0) je_int) ja_nil)))))
  jss_nil) jss_nil)
  (jss_cons (js_set (i := 3) c.nd (je_bin (je_bin (je_bin (je_bin (je_bin (je_var 2) (je_bin (je_bin je_int (je_var 1)) (je_var 1))) (je_bin je_int (je_var 1))) je_int) je_int) je_int))
  (jss_cons (js_ret (je_bin (je_bin (je_bin (je_var 3) je_int) (je_bin je_int (je_var 1))) je_int))
  jss_nil))))))
theorem jb__law_same (T : Fcts K mg) (G : Fns P w K mg base k) (c : Cq (cxOf (L2N.CX P w) P w K mg base N__law_same "_law_same" (defScope s__law_same) f cdv A outer s H E) (fun c d _ H => E c d H) k) :
    JSs (cxOf (L2N.CX P w) P w K mg base N__law_same "_law_same" (defScope s__law_same) f cdv A outer s H E) (fun c d _ H => E c d H) (call tbl k) (defBody s__law_same) F_law_same.body :=
  (jss_cons (js_if (jt_val (je_bi .isinst (fun _ => bi_isinst) T.fr_isinstance (by decide +kernel) (ja_cons (je_var 1) (ja_cons (je_tup (ja_cons (je_ty .tuple T.fr_tuple (by decide +kernel)) (ja_cons (je_ty .list T.fr_list (by decide +kernel)) ja_nil))) ja_nil)))) (jss_cons (js_if (jt_cmp c.hr.u66 (je_bi .isinst (fun _ => bi_isinst) T.fr_isinstance (by decide +kernel) (ja_cons (je_var 0) (ja_cons (je_ty .tuple T.fr_tuple (by decide +kernel)) ja_nil))) (je_bi .isinst (fun _ => bi_isinst) T.fr_isinstance (by decide +kernel) (ja_cons (je_var 1) (ja_cons (je_ty .tuple T.fr_tuple (by decide +kernel)) ja_nil)))) (jss_cons (js_ret je_bl)
  jss_nil) jss_nil)
  (jss_cons (js_if (jt_bool (jw_or (jt_cmp c.hr.u66 (je_bi .isinst (fun _ => bi_isinst) T.fr_isinstance (by decide +kernel) (ja_cons (je_var 0) (ja_cons (je_ty .list T.fr_list (by decide +kernel)) ja_nil))) (je_bi .isinst (fun _ => bi_isinst) T.fr_isinstance (by decide +kernel) (ja_cons (je_var 1) (ja_cons (je_ty .list T.fr_list (by decide +kernel)) ja_nil)))) (jw_or1 (jt_cmp c.hr.u66 (je_bi .len (fun _ => bi_len) T.fr_len (by decide +kernel) (ja_cons (je_var 0) ja_nil)) (je_bi .len (fun _ => bi_len) T.fr_len (by decide +kernel) (ja_cons (je_var 1) ja_nil)))))) (jss_cons (js_ret je_bl)
  jss_nil) jss_nil)
  (jss_cons (js_ret (je_bi .all (fun _ => (bi_all c.calm)) T.fr_all (by decide +kernel) (ja_cons (je_comp (own := [("_law_here", 2), ("_law_there", 3)]) (is := [2, 3]) (one := .tup) c.calm c.nd (ji_zip T.fr_zip (ja_cons (je_var 0) (ja_cons (je_var 1) ja_nil))) (blkOk_by (own := [("_law_here", 2), ("_law_there", 3)]) (N := N__law_same) (sc := defScope s__law_same) (by decide +kernel)) (fun sB HB CB clB fpB => (tg_tup (c.blk sB HB _ _ fpB).calm (tgs_cons (i := 2) (c.blk sB HB _ _ fpB).nd (tgs_cons (i := 3) (c.blk sB HB _ _ fpB).nd tgs_nil)))) (fun sB HB CB clB fpB => cd_none) (fun sB HB CB clB fpB => (je_call G.g__law_same (c.blk sB HB _ _ fpB).calm (c.blk sB HB _ _ fpB).hr (c.blk sB HB _ _ fpB).tk (ja_cons (je_var 2) (ja_cons (je_var 3) ja_nil))))) ja_nil)))
  jss_nil))) jss_nil)
  (jss_cons (js_if (jt_cmp c.hr.u66 (je_var 1) je_non) (jss_cons (js_ret (je_cmp c.hr.u66 (je_var 0) je_non))
  jss_nil) jss_nil)
  (jss_cons (js_if (jt_val (je_bi .isinst (fun _ => bi_isinst) T.fr_isinstance (by decide +kernel) (ja_cons (je_var 1) (ja_cons (je_ty .str T.fr_str (by decide +kernel)) ja_nil)))) (jss_cons (js_ret (je_and (je_bi .isinst (fun _ => bi_isinst) T.fr_isinstance (by decide +kernel) (ja_cons (je_var 0) (ja_cons (je_ty .str T.fr_str (by decide +kernel)) ja_nil))) (je_one (je_cmp c.hr.u66 (je_var 0) (je_var 1)))))
  jss_nil) jss_nil)
  (jss_cons (js_ret (je_and (je_bi .isinst (fun _ => bi_isinst) T.fr_isinstance (by decide +kernel) (ja_cons (je_var 0) (ja_cons (je_ty .int T.fr_int (by decide +kernel)) ja_nil))) (je_and (je_cmp c.hr.u66 (je_bi .isinst (fun _ => bi_isinst) T.fr_isinstance (by decide +kernel) (ja_cons (je_var 0) (ja_cons (je_ty .bool T.fr_bool (by decide +kernel)) ja_nil))) (je_bi .isinst (fun _ => bi_isinst) T.fr_isinstance (by decide +kernel) (ja_cons (je_var 1) (ja_cons (je_ty .bool T.fr_bool (by decide +kernel)) ja_nil)))) (je_one (je_cmp c.hr.u66 (je_var 0) (je_var 1))))))
  jss_nil))))
theorem jb__law_number (T : Fcts K mg) (G : Fns P w K mg base k) (c : Cq (cxOf (L2N.CX P w) P w K mg base N__law_number "_law_number" (defScope s__law_number) f cdv A outer s H E) (fun c d _ H => E c d H) k) :
    JSs (cxOf (L2N.CX P w) P w K mg base N__law_number "_law_number" (defScope s__law_number) f cdv A outer s H E) (fun c d _ H => E c d H) (call tbl k) (defBody s__law_number) F_law_number_2.body :=
  (jss_cons (js_ret (je_idx c.hr.u66 (je_lst (ja_cons (je_tup (ja_cons je_int (ja_cons je_int ja_nil))) (ja_cons (je_tup (ja_cons je_int (ja_cons je_int ja_nil))) (ja_cons (je_tup (ja_cons (je_neg je_int) (ja_cons je_int ja_nil))) (ja_cons (je_tup (ja_cons je_int (ja_cons je_int ja_nil))) (ja_cons (je_tup (ja_cons je_int (ja_cons je_int ja_nil))) (ja_cons (je_tup (ja_cons (je_neg je_int) (ja_cons je_int ja_nil))) (ja_cons (je_tup (ja_cons (je_bin je_int je_int) (ja_cons je_int ja_nil))) ja_nil)))))))) (je_call G.g__law_draw c.calm c.hr c.tk (ja_cons (je_var 0) (ja_cons je_int ja_nil)))))
  jss_nil)
theorem jb__law_lead (T : Fcts K mg) (G : Fns P w K mg base k) (c : Cq (cxOf (L2N.CX P w) P w K mg base N__law_lead "_law_lead" (defScope s__law_lead) f cdv A outer s H E) (fun c d _ H => E c d H) k) :
    JSs (cxOf (L2N.CX P w) P w K mg base N__law_lead "_law_lead" (defScope s__law_lead) f cdv A outer s H E) (fun c d _ H => E c d H) (call tbl k) (defBody s__law_lead) F_law_lead.body :=
  (jss_cons (js_ret (je_tup (ja_cons (je_idx c.hr.u66 (je_lst (ja_cons (je_tup (ja_cons je_int (ja_cons je_int ja_nil))) (ja_cons (je_tup (ja_cons (je_neg je_int) (ja_cons je_int ja_nil))) (ja_cons (je_tup (ja_cons je_int (ja_cons je_int ja_nil))) (ja_cons (je_tup (ja_cons je_int (ja_cons je_int ja_nil))) ja_nil))))) (je_call G.g__law_draw c.calm c.hr c.tk (ja_cons (je_var 0) (ja_cons je_int ja_nil)))) (ja_cons (je_call G.g__law_number c.calm c.hr c.tk (ja_cons (je_var 0) ja_nil)) ja_nil))))
  jss_nil)
theorem jb__law_rows (T : Fcts K mg) (G : Fns P w K mg base k) (c : Cq (cxOf (L2N.CX P w) P w K mg base N__law_rows "_law_rows" (defScope s__law_rows) f cdv A outer s H E) (fun c d _ H => E c d H) k) :
    JSs (cxOf (L2N.CX P w) P w K mg base N__law_rows "_law_rows" (defScope s__law_rows) f cdv A outer s H E) (fun c d _ H => E c d H) (call tbl k) (defBody s__law_rows) F_law_rows.body :=
  (jss_cons (js_set (i := 1) c.nd (je_lst ja_nil))
  (jss_cons (js_for0 (is := [2]) (one := .one) c.po c.calm (ji_range T.fr_range (ja_cons (je_bin je_int (je_call G.g__law_draw c.calm c.hr c.tk (ja_cons (je_var 0) (ja_cons je_int ja_nil)))) ja_nil)) (tg_one c.nd) (jss_cons (js_set (i := 3) c.nd (je_tup (ja_cons (je_idx c.hr.u66 je_str (je_call G.g__law_draw c.calm c.hr c.tk (ja_cons (je_var 0) (ja_cons je_int ja_nil)))) (ja_cons (je_idx c.hr.u66 je_str (je_call G.g__law_draw c.calm c.hr c.tk (ja_cons (je_var 0) (ja_cons je_int ja_nil)))) ja_nil))))
  (jss_cons (js_expr (je_mth .append PySem.F.plainAttrs_list PySem.F.slot_list_append PySem.F.type_list_append (fun _ => mt_append_ok) (je_var 1) (ja_cons (je_bin (je_bin (je_tup (ja_cons (je_idx c.hr.u66 je_str (je_var 2)) ja_nil)) (je_var 3)) (je_tup (ja_cons (je_call G.g__law_lead c.calm c.hr c.tk (ja_cons (je_var 0) ja_nil)) (ja_cons (je_call G.g__law_draw c.calm c.hr c.tk (ja_cons (je_var 0) (ja_cons je_int ja_nil))) ja_nil)))) ja_nil)))
  jss_nil)))
  (jss_cons (js_ret (je_var 1))
  jss_nil)))
theorem jb__law_quotients (T : Fcts K mg) (G : Fns P w K mg base k) (c : Cq (cxOf (L2N.CX P w) P w K mg base N__law_quotients "_law_quotients" (defScope s__law_quotients) f cdv A outer s H E) (fun c d _ H => E c d H) k) :
    JSs (cxOf (L2N.CX P w) P w K mg base N__law_quotients "_law_quotients" (defScope s__law_quotients) f cdv A outer s H E) (fun c d _ H => E c d H) (call tbl k) (defBody s__law_quotients) F_law_quotients.body :=
  (jss_cons (js_set (i := 2) c.nd (je_lst ja_nil))
  (jss_cons (js_for0 (is := [3]) (one := .one) c.po c.calm (ji_seq (je_tup (ja_cons je_bl (ja_cons je_bl ja_nil)))) (tg_one c.nd) (jss_cons (js_tryH c (fun _ _ _ c => (jss_cons (js_expr (je_mth .append PySem.F.plainAttrs_list PySem.F.slot_list_append PySem.F.type_list_append (fun _ => mt_append_ok) (je_var 2) (ja_cons (je_ite (jt_val (je_var 3)) (je_callK0 G.gk_over_of_0 c.calm (fun _ _ => rd_nil) c.hr c.tk (jk_cons (je_var 1) (jk_cons (je_var 0) jk_nil))) (je_call G.g_over_of c.calm c.hr c.tk (ja_cons (je_var 0) (ja_cons (je_var 1) ja_nil)))) ja_nil)))
  jss_nil)) (JHs.cons T.hj_NoBottom (.at (i := 4) rfl rfl) (fun _ _ _ c => (jss_cons (js_expr (je_mth .append PySem.F.plainAttrs_list PySem.F.slot_list_append PySem.F.type_list_append (fun _ => mt_append_ok) (je_var 2) (ja_cons (je_tup (ja_cons je_str (ja_cons (je_xat T.xf_NoBottom (T.nf_NoBottom _ (by decide)) (je_var 4)) ja_nil))) ja_nil)))
  jss_nil)) JHs.nil))
  jss_nil))
  (jss_cons (js_ret (je_var 2))
  jss_nil)))
theorem jb__law_fractions (T : Fcts K mg) (G : Fns P w K mg base k) (c : Cq (cxOf (L2N.CX P w) P w K mg base N__law_fractions "_law_fractions" (defScope s__law_fractions) f cdv A outer s H E) (fun c d _ H => E c d H) k) :
    JSs (cxOf (L2N.CX P w) P w K mg base N__law_fractions "_law_fractions" (defScope s__law_fractions) f cdv A outer s H E) (fun c d _ H => E c d H) (call tbl k) (defBody s__law_fractions) F_law_fractions.body :=
  (jss_cons (js_par (i := 1) (j := 2) c.calm c.nd (ja_cons (je_call G.g__law_number c.calm c.hr c.tk (ja_cons (je_var 0) ja_nil)) (ja_cons (je_call G.g__law_number c.calm c.hr c.tk (ja_cons (je_var 0) ja_nil)) ja_nil)))
  (jss_cons (js_par (i := 3) (j := 4) c.calm c.nd (ja_cons (je_bin (je_call G.g__law_draw c.calm c.hr c.tk (ja_cons (je_var 0) (ja_cons je_int ja_nil))) je_int) (ja_cons (je_bin je_int (je_call G.g__law_draw c.calm c.hr c.tk (ja_cons (je_var 0) (ja_cons je_int ja_nil)))) ja_nil)))
  (jss_cons (js_set (i := 5) c.nd (je_lst (ja_cons (je_tup (ja_cons (je_call G.g_fraction_of c.calm c.hr c.tk (ja_cons (je_var 3) (ja_cons (je_var 4) ja_nil))) (ja_cons (je_callK0 G.gk_fraction_of_1 c.calm (fun _ _ => rd_nil) c.hr c.tk (jk_cons (je_var 4) (jk_cons (je_var 3) jk_nil))) ja_nil))) (ja_cons (je_tup (ja_cons (je_callD G.gd_fraction_of c.calm (fun _ _ => rd_int _) c.hr c.tk (ja_cons (je_var 3) ja_nil)) (ja_cons (je_callK0 G.gk_fraction_of_2 c.calm (fun _ _ => rd_int _) c.hr c.tk (jk_cons (je_var 3) jk_nil)) ja_nil))) ja_nil))))
  (jss_cons (js_expr (je_mth .append PySem.F.plainAttrs_list PySem.F.slot_list_append PySem.F.type_list_append (fun _ => mt_append_ok) (je_var 5) (ja_cons (je_tup (ja_cons (je_callD G.gd_fraction_of c.calm (fun _ _ => rd_int _) c.hr c.tk (ja_cons (je_var 3) ja_nil)) (ja_cons (je_callK1 (ees := [(.var 3)]) G.gk_fraction_of_3 c.calm (fun _ _ => rd_nil) c.hr c.tk (ja_cons (je_var 3) ja_nil) (jk_cons je_int jk_nil)) ja_nil))) ja_nil)))
  (jss_cons (js_expr (je_mth .append PySem.F.plainAttrs_list PySem.F.slot_list_append PySem.F.type_list_append (fun _ => mt_append_ok) (je_var 5) (ja_cons (je_tup (ja_cons (je_call G.g_plus_of c.calm c.hr c.tk (ja_cons (je_var 1) (ja_cons (je_var 2) ja_nil))) (ja_cons (je_callK0 G.gk_plus_of_4 c.calm (fun _ _ => rd_nil) c.hr c.tk (jk_cons (je_var 2) (jk_cons (je_var 1) jk_nil))) ja_nil))) ja_nil)))
  (jss_cons (js_expr (je_mth .append PySem.F.plainAttrs_list PySem.F.slot_list_append PySem.F.type_list_append (fun _ => mt_append_ok) (je_var 5) (ja_cons (je_tup (ja_cons (je_call G.g_less_of c.calm c.hr c.tk (ja_cons (je_var 1) (ja_cons (je_var 2) ja_nil))) (ja_cons (je_callK0 G.gk_less_of_5 c.calm (fun _ _ => rd_nil) c.hr c.tk (jk_cons (je_var 2) (jk_cons (je_var 1) jk_nil))) ja_nil))) ja_nil)))
  (jss_cons (js_expr (je_mth .append PySem.F.plainAttrs_list PySem.F.slot_list_append PySem.F.type_list_append (fun _ => mt_append_ok) (je_var 5) (ja_cons (je_tup (ja_cons (je_call G.g_times_of c.calm c.hr c.tk (ja_cons (je_var 1) (ja_cons (je_var 2) ja_nil))) (ja_cons (je_callK0 G.gk_times_of_6 c.calm (fun _ _ => rd_nil) c.hr c.tk (jk_cons (je_var 2) (jk_cons (je_var 1) jk_nil))) ja_nil))) ja_nil)))
  (jss_cons (js_expr (je_mth .append PySem.F.plainAttrs_list PySem.F.slot_list_append PySem.F.type_list_append (fun _ => mt_append_ok) (je_var 5) (ja_cons (je_tup (ja_cons (je_call G.g_is_below c.calm c.hr c.tk (ja_cons (je_var 1) (ja_cons (je_var 2) ja_nil))) (ja_cons (je_callK0 G.gk_is_below_7 c.calm (fun _ _ => rd_nil) c.hr c.tk (jk_cons (je_var 2) (jk_cons (je_var 1) jk_nil))) ja_nil))) ja_nil)))
  (jss_cons (js_set (i := 6) c.nd (je_call G.g__law_quotients c.calm c.hr c.tk (ja_cons (je_var 1) (ja_cons (je_var 2) ja_nil))))
  (jss_cons (js_expr (je_mth .append PySem.F.plainAttrs_list PySem.F.slot_list_append PySem.F.type_list_append (fun _ => mt_append_ok) (je_var 5) (ja_cons (je_tup (ja_cons (je_idx c.hr.u66 (je_var 6) je_int) (ja_cons (je_idx c.hr.u66 (je_var 6) je_int) ja_nil))) ja_nil)))
  (jss_cons (js_par (i := 7) (j := 8) c.calm c.nd (ja_cons (je_call G.g__law_lead c.calm c.hr c.tk (ja_cons (je_var 0) ja_nil)) (ja_cons (je_call G.g__law_lead c.calm c.hr c.tk (ja_cons (je_var 0) ja_nil)) ja_nil)))
  (jss_cons (js_expr (je_mth .append PySem.F.plainAttrs_list PySem.F.slot_list_append PySem.F.type_list_append (fun _ => mt_append_ok) (je_var 5) (ja_cons (je_tup (ja_cons (je_call G.g_is_move c.calm c.hr c.tk (ja_cons (je_var 7) ja_nil)) (ja_cons (je_callK0 G.gk_is_move_8 c.calm (fun _ _ => rd_nil) c.hr c.tk (jk_cons (je_var 7) jk_nil)) ja_nil))) ja_nil)))
  (jss_cons (js_expr (je_mth .append PySem.F.plainAttrs_list PySem.F.slot_list_append PySem.F.type_list_append (fun _ => mt_append_ok) (je_var 5) (ja_cons (je_tup (ja_cons (je_call G.g_is_move c.calm c.hr c.tk (ja_cons (je_var 1) ja_nil)) (ja_cons (je_callK0 G.gk_is_move_8 c.calm (fun _ _ => rd_nil) c.hr c.tk (jk_cons (je_var 1) jk_nil)) ja_nil))) ja_nil)))
  (jss_cons (js_expr (je_mth .append PySem.F.plainAttrs_list PySem.F.slot_list_append PySem.F.type_list_append (fun _ => mt_append_ok) (je_var 5) (ja_cons (je_tup (ja_cons (je_call G.g_read_by c.calm c.hr c.tk (ja_cons (je_var 7) (ja_cons (je_var 1) ja_nil))) (ja_cons (je_callK0 G.gk_read_by_9 c.calm (fun _ _ => rd_nil) c.hr c.tk (jk_cons (je_var 1) (jk_cons (je_var 7) jk_nil))) ja_nil))) ja_nil)))
  (jss_cons (js_expr (je_mth .append PySem.F.plainAttrs_list PySem.F.slot_list_append PySem.F.type_list_append (fun _ => mt_append_ok) (je_var 5) (ja_cons (je_tup (ja_cons (je_call G.g_stretch_by c.calm c.hr c.tk (ja_cons (je_var 7) (ja_cons (je_var 1) ja_nil))) (ja_cons (je_callK0 G.gk_stretch_by_10 c.calm (fun _ _ => rd_nil) c.hr c.tk (jk_cons (je_var 1) (jk_cons (je_var 7) jk_nil))) ja_nil))) ja_nil)))
  (jss_cons (js_expr (je_mth .append PySem.F.plainAttrs_list PySem.F.slot_list_append PySem.F.type_list_append (fun _ => mt_append_ok) (je_var 5) (ja_cons (je_tup (ja_cons (je_call G.g_move_then c.calm c.hr c.tk (ja_cons (je_var 7) (ja_cons (je_var 8) ja_nil))) (ja_cons (je_callK0 G.gk_move_then_11 c.calm (fun _ _ => rd_nil) c.hr c.tk (jk_cons (je_var 8) (jk_cons (je_var 7) jk_nil))) ja_nil))) ja_nil)))
  (jss_cons (js_expr (je_mth .append PySem.F.plainAttrs_list PySem.F.slot_list_append PySem.F.type_list_append (fun _ => mt_append_ok) (je_var 5) (ja_cons (je_tup (ja_cons (je_call G.g_move_back c.calm c.hr c.tk (ja_cons (je_var 7) ja_nil)) (ja_cons (je_callK0 G.gk_move_back_12 c.calm (fun _ _ => rd_nil) c.hr c.tk (jk_cons (je_var 7) jk_nil)) ja_nil))) ja_nil)))
  (jss_cons (js_ret (je_var 5))
  jss_nil))))))))))))))))))
theorem jb__law_roads (T : Fcts K mg) (G : Fns P w K mg base k) (c : Cq (cxOf (L2N.CX P w) P w K mg base N__law_roads "_law_roads" (defScope s__law_roads) f cdv A outer s H E) (fun c d _ H => E c d H) k) :
    JSs (cxOf (L2N.CX P w) P w K mg base N__law_roads "_law_roads" (defScope s__law_roads) f cdv A outer s H E) (fun c d _ H => E c d H) (call tbl k) (defBody s__law_roads) F_law_roads.body :=
  (jss_cons (js_set (i := 3) c.nd (je_lst ja_nil))
  (jss_cons (js_for0 (is := [4]) (one := .one) c.po c.calm (ji_seq (je_tup (ja_cons je_bl (ja_cons je_bl ja_nil)))) (tg_one c.nd) (jss_cons (js_tryH c (fun _ _ _ c => (jss_cons (js_if (jt_val (je_var 4)) (jss_cons (js_set (i := 5) c.nd (je_callK0 G.gk_road_of_13 c.calm (fun _ _ => rd_nil) c.hr c.tk (jk_cons (je_var 2) (jk_cons (je_var 1) (jk_cons (je_var 0) jk_nil)))))
  (jss_cons (js_expr (je_mth .append PySem.F.plainAttrs_list PySem.F.slot_list_append PySem.F.type_list_append (fun _ => mt_append_ok) (je_var 3) (ja_cons (je_tup (ja_cons (je_var 5) (ja_cons (je_callK0 G.gk_move_of_14 c.calm (fun _ _ => rd_nil) c.hr c.tk (jk_cons (je_var 2) (jk_cons (je_var 0) (jk_cons (je_var 1) jk_nil)))) ja_nil))) ja_nil)))
  jss_nil)) (jss_cons (js_expr (je_mth .append PySem.F.plainAttrs_list PySem.F.slot_list_append PySem.F.type_list_append (fun _ => mt_append_ok) (je_var 3) (ja_cons (je_tup (ja_cons (je_call G.g_road_of c.calm c.hr c.tk (ja_cons (je_var 0) (ja_cons (je_var 1) (ja_cons (je_var 2) ja_nil)))) (ja_cons (je_call G.g_move_of c.calm c.hr c.tk (ja_cons (je_var 0) (ja_cons (je_var 1) (ja_cons (je_var 2) ja_nil)))) ja_nil))) ja_nil)))
  jss_nil))
  jss_nil)) (JHs.cons T.hj_NotJoined (.at (i := 6) rfl rfl) (fun _ _ _ c => (jss_cons (js_expr (je_mth .append PySem.F.plainAttrs_list PySem.F.slot_list_append PySem.F.type_list_append (fun _ => mt_append_ok) (je_var 3) (ja_cons (je_tup (ja_cons je_str (ja_cons (je_xat T.xf_NotJoined (T.nf_NotJoined _ (by decide)) (je_var 6)) (ja_cons (je_xat T.xf_NotJoined (T.nf_NotJoined _ (by decide)) (je_var 6)) ja_nil)))) ja_nil)))
  jss_nil)) JHs.nil))
  jss_nil))
  (jss_cons (js_ret (je_var 3))
  jss_nil)))
theorem jb__law_rings (T : Fcts K mg) (G : Fns P w K mg base k) (c : Cq (cxOf (L2N.CX P w) P w K mg base N__law_rings "_law_rings" (defScope s__law_rings) f cdv A outer s H E) (fun c d _ H => E c d H) k) :
    JSs (cxOf (L2N.CX P w) P w K mg base N__law_rings "_law_rings" (defScope s__law_rings) f cdv A outer s H E) (fun c d _ H => E c d H) (call tbl k) (defBody s__law_rings) F_law_rings.body :=
  (jss_cons (js_set (i := 2) c.nd (je_lst ja_nil))
  (jss_cons (js_for0 (is := [3]) (one := .one) c.po c.calm (ji_seq (je_tup (ja_cons je_bl (ja_cons je_bl ja_nil)))) (tg_one c.nd) (jss_cons (js_tryH c (fun _ _ _ c => (jss_cons (js_expr (je_mth .append PySem.F.plainAttrs_list PySem.F.slot_list_append PySem.F.type_list_append (fun _ => mt_append_ok) (je_var 2) (ja_cons (je_ite (jt_val (je_var 3)) (je_callK0 G.gk_ring_of_15 c.calm (fun _ _ => rd_nil) c.hr c.tk (jk_cons (je_var 1) (jk_cons (je_var 0) jk_nil))) (je_call G.g_ring_of c.calm c.hr c.tk (ja_cons (je_var 0) (ja_cons (je_var 1) ja_nil)))) ja_nil)))
  jss_nil)) (JHs.cons T.hj_NoTelling (.at (i := 4) rfl rfl) (fun _ _ _ c => (jss_cons (js_expr (je_mth .append PySem.F.plainAttrs_list PySem.F.slot_list_append PySem.F.type_list_append (fun _ => mt_append_ok) (je_var 2) (ja_cons (je_tup (ja_cons je_str (ja_cons (je_xat T.xf_NoTelling (T.nf_NoTelling _ (by decide)) (je_var 4)) ja_nil))) ja_nil)))
  jss_nil)) JHs.nil))
  jss_nil))
  (jss_cons (js_ret (je_var 2))
  jss_nil)))
theorem jb_law (T : Fcts K mg) (G : Fns P w K mg base k) (c : Cq (cxOf (L2N.CX P w) P w K mg base N_law "law" (defScope s_law) f cdv A outer s H E) (fun c d _ H => E c d H) k) :
    JSs (cxOf (L2N.CX P w) P w K mg base N_law "law" (defScope s_law) f cdv A outer s H E) (fun c d _ H => E c d H) (call tbl k) (defBody s_law) F_law_25.body :=
  (jss_cons (js_set (i := 1) c.nd (je_call G.g__law_start c.calm c.hr c.tk (ja_cons (je_var 0) ja_nil)))
  (jss_cons (js_set (i := 2) c.nd (je_call G.g__law_fractions c.calm c.hr c.tk (ja_cons (je_var 1) ja_nil)))
  (jss_cons (js_set (i := 3) c.nd (je_call G.g__law_rows c.calm c.hr c.tk (ja_cons (je_var 1) ja_nil)))
  (jss_cons (js_par (i := 4) (j := 5) c.calm c.nd (ja_cons (je_idx c.hr.u66 je_str (je_call G.g__law_draw c.calm c.hr c.tk (ja_cons (je_var 1) (ja_cons je_int ja_nil)))) (ja_cons (je_idx c.hr.u66 je_str (je_call G.g__law_draw c.calm c.hr c.tk (ja_cons (je_var 1) (ja_cons je_int ja_nil)))) ja_nil)))
  (jss_cons (js_for0 (is := [6]) (one := .one) c.po c.calm (ji_seq (je_tup (ja_cons (je_call G.g__law_roads c.calm c.hr c.tk (ja_cons (je_var 3) (ja_cons (je_var 4) (ja_cons (je_var 5) ja_nil)))) (ja_cons (je_call G.g__law_rings c.calm c.hr c.tk (ja_cons (je_var 3) (ja_cons (je_idx c.hr.u66 je_str (je_call G.g__law_draw c.calm c.hr c.tk (ja_cons (je_var 1) (ja_cons je_int ja_nil)))) ja_nil))) ja_nil)))) (tg_one c.nd) (jss_cons (js_expr (je_mth .append PySem.F.plainAttrs_list PySem.F.slot_list_append PySem.F.type_list_append (fun _ => mt_append_ok) (je_var 2) (ja_cons (je_tup (ja_cons (je_idx c.hr.u66 (je_var 6) je_int) (ja_cons (je_idx c.hr.u66 (je_var 6) je_int) ja_nil))) ja_nil)))
  jss_nil))
  (jss_cons (js_expr (je_mth .append PySem.F.plainAttrs_list PySem.F.slot_list_append PySem.F.type_list_append (fun _ => mt_append_ok) (je_var 2) (ja_cons (je_tup (ja_cons (je_call G.g_order_of c.calm c.hr c.tk (ja_cons (je_var 3) ja_nil)) (ja_cons (je_callK0 G.gk_order_of_16 c.calm (fun _ _ => rd_nil) c.hr c.tk (jk_cons (je_var 3) jk_nil)) ja_nil))) ja_nil)))
  (jss_cons (js_expr (je_mth .append PySem.F.plainAttrs_list PySem.F.slot_list_append PySem.F.type_list_append (fun _ => mt_append_ok) (je_var 2) (ja_cons (je_tup (ja_cons (je_call G.g_ties_of c.calm c.hr c.tk (ja_cons (je_var 3) ja_nil)) (ja_cons (je_callK0 G.gk_ties_of_17 c.calm (fun _ _ => rd_nil) c.hr c.tk (jk_cons (je_var 3) jk_nil)) ja_nil))) ja_nil)))
  (jss_cons (js_expr (je_mth .append PySem.F.plainAttrs_list PySem.F.slot_list_append PySem.F.type_list_append (fun _ => mt_append_ok) (je_var 2) (ja_cons (je_tup (ja_cons (je_call G.g_words_of c.calm c.hr c.tk (ja_cons (je_var 3) ja_nil)) (ja_cons (je_callK0 G.gk_words_of_18 c.calm (fun _ _ => rd_nil) c.hr c.tk (jk_cons (je_var 3) jk_nil)) ja_nil))) ja_nil)))
  (jss_cons (js_set (i := 7) c.nd (je_call G.g_paper_of c.calm c.hr c.tk (ja_cons (je_var 3) ja_nil)))
  (jss_cons (js_expr (je_mth .append PySem.F.plainAttrs_list PySem.F.slot_list_append PySem.F.type_list_append (fun _ => mt_append_ok) (je_var 2) (ja_cons (je_tup (ja_cons (je_var 7) (ja_cons (je_callK0 G.gk_paper_of_19 c.calm (fun _ _ => rd_nil) c.hr c.tk (jk_cons (je_var 3) jk_nil)) ja_nil))) ja_nil)))
  (jss_cons (js_expr (je_mth .append PySem.F.plainAttrs_list PySem.F.slot_list_append PySem.F.type_list_append (fun _ => mt_append_ok) (je_var 2) (ja_cons (je_tup (ja_cons (je_call G.g_holds c.calm c.hr c.tk (ja_cons (je_var 3) (ja_cons (je_var 7) ja_nil))) (ja_cons (je_callK0 G.gk_holds_20 c.calm (fun _ _ => rd_nil) c.hr c.tk (jk_cons (je_var 7) (jk_cons (je_var 3) jk_nil))) ja_nil))) ja_nil)))
  (jss_cons (js_expr (je_mth .append PySem.F.plainAttrs_list PySem.F.slot_list_append PySem.F.type_list_append (fun _ => mt_append_ok) (je_var 2) (ja_cons (je_tup (ja_cons (je_call G.g_holds c.calm c.hr c.tk (ja_cons (je_var 3) (ja_cons (je_stp (je_var 7) (je_neg je_int)) ja_nil))) (ja_cons (je_callK0 G.gk_holds_20 c.calm (fun _ _ => rd_nil) c.hr c.tk (jk_cons (je_stp (je_var 7) (je_neg je_int)) (jk_cons (je_var 3) jk_nil))) ja_nil))) ja_nil)))
  (jss_cons (js_ret (je_and (je_bi .all (fun _ => (bi_all c.calm)) T.fr_all (by decide +kernel) (ja_cons (je_comp (own := [("_law_due", 8), ("_law_told", 9)]) (is := [8, 9]) (one := .tup) c.calm c.nd (ji_seq (je_var 2)) (blkOk_by (own := [("_law_due", 8), ("_law_told", 9)]) (N := N_law) (sc := defScope s_law) (by decide +kernel)) (fun sB HB CB clB fpB => (tg_tup (c.blk sB HB _ _ fpB).calm (tgs_cons (i := 8) (c.blk sB HB _ _ fpB).nd (tgs_cons (i := 9) (c.blk sB HB _ _ fpB).nd tgs_nil)))) (fun sB HB CB clB fpB => cd_none) (fun sB HB CB clB fpB => (je_call G.g__law_same (c.blk sB HB _ _ fpB).calm (c.blk sB HB _ _ fpB).hr (c.blk sB HB _ _ fpB).tk (ja_cons (je_var 9) (ja_cons (je_var 8) ja_nil))))) ja_nil)) (je_one (je_call G.g_holds c.calm c.hr c.tk (ja_cons (je_var 3) (ja_cons (je_var 7) ja_nil))))))
  jss_nil)))))))))))))
end
end Sb
set_option Elab.async false
set_option linter.all false
set_option maxRecDepth 100000
set_option maxHeartbeats 0
namespace Sb
open PySem PySem.Spec L2
abbrev LV : Nat := 12
theorem hex_tab {K : PySem.W.Frag} (e : hex K = true) : tabB K ["in_order"] = true := (Bool.and_eq_true_iff.mp (Bool.and_eq_true_iff.mp (Bool.and_eq_true_iff.mp (Bool.and_eq_true_iff.mp (Bool.and_eq_true_iff.mp (Bool.and_eq_true_iff.mp (Bool.and_eq_true_iff.mp (Bool.and_eq_true_iff.mp (Bool.and_eq_true_iff.mp (Bool.and_eq_true_iff.mp (Bool.and_eq_true_iff.mp (Bool.and_eq_true_iff.mp e).1).1).1).1).1).1).1).1).1).1).1).1
theorem fcts {K : PySem.W.Frag} {h : Heap} {mg : Str → Option Value} (X : K.In h) (G : h.Ns mainGlobals mg) (c : He.SaysD hfa hfn K) (e : hex K = true) : Fcts K mg :=
  ⟨He.free_ok X G (c.fact 47 (f := .free "abs") rfl), He.free_ok X G (c.fact 48 (f := .free "all") rfl), He.free_ok X G (c.fact 49 (f := .free "bool") rfl), He.free_ok X G (c.fact 50 (f := .free "int") rfl), He.free_ok X G (c.fact 51 (f := .free "isinstance") rfl), He.free_ok X G (c.fact 52 (f := .free "len") rfl), He.free_ok X G (c.fact 53 (f := .free "list") rfl), He.free_ok X G (c.fact 54 (f := .free "range") rfl), He.free_ok X G (c.fact 55 (f := .free "set") rfl), He.free_ok X G (c.fact 56 (f := .free "sorted") rfl), He.free_ok X G (c.fact 57 (f := .free "str") rfl), He.free_ok X G (c.fact 58 (f := .free "tuple") rfl), He.free_ok X G (c.fact 59 (f := .free "zip") rfl), conB_ok X G (Bool.and_eq_true_iff.mp (Bool.and_eq_true_iff.mp (Bool.and_eq_true_iff.mp (Bool.and_eq_true_iff.mp (Bool.and_eq_true_iff.mp (Bool.and_eq_true_iff.mp (Bool.and_eq_true_iff.mp (Bool.and_eq_true_iff.mp (Bool.and_eq_true_iff.mp (Bool.and_eq_true_iff.mp (Bool.and_eq_true_iff.mp (Bool.and_eq_true_iff.mp e).1).1).1).1).1).1).1).1).1).1).1).2, conB_ok X G (Bool.and_eq_true_iff.mp (Bool.and_eq_true_iff.mp (Bool.and_eq_true_iff.mp (Bool.and_eq_true_iff.mp (Bool.and_eq_true_iff.mp (Bool.and_eq_true_iff.mp (Bool.and_eq_true_iff.mp (Bool.and_eq_true_iff.mp (Bool.and_eq_true_iff.mp (Bool.and_eq_true_iff.mp (Bool.and_eq_true_iff.mp e).1).1).1).1).1).1).1).1).1).1).2, xfB_ok (Bool.and_eq_true_iff.mp (Bool.and_eq_true_iff.mp (Bool.and_eq_true_iff.mp (Bool.and_eq_true_iff.mp (Bool.and_eq_true_iff.mp (Bool.and_eq_true_iff.mp e).1).1).1).1).1).2, (xcB_ok X G (Bool.and_eq_true_iff.mp (Bool.and_eq_true_iff.mp (Bool.and_eq_true_iff.mp (Bool.and_eq_true_iff.mp (Bool.and_eq_true_iff.mp (Bool.and_eq_true_iff.mp (Bool.and_eq_true_iff.mp (Bool.and_eq_true_iff.mp (Bool.and_eq_true_iff.mp e).1).1).1).1).1).1).1).1).2).2.2.2.2, xfB_ok (Bool.and_eq_true_iff.mp (Bool.and_eq_true_iff.mp (Bool.and_eq_true_iff.mp (Bool.and_eq_true_iff.mp (Bool.and_eq_true_iff.mp e).1).1).1).1).2, (xcB_ok X G (Bool.and_eq_true_iff.mp (Bool.and_eq_true_iff.mp (Bool.and_eq_true_iff.mp (Bool.and_eq_true_iff.mp (Bool.and_eq_true_iff.mp (Bool.and_eq_true_iff.mp (Bool.and_eq_true_iff.mp (Bool.and_eq_true_iff.mp e).1).1).1).1).1).1).1).2).2.2.2.2, xfB_ok (Bool.and_eq_true_iff.mp (Bool.and_eq_true_iff.mp (Bool.and_eq_true_iff.mp (Bool.and_eq_true_iff.mp e).1).1).1).2, (xcB_ok X G (Bool.and_eq_true_iff.mp (Bool.and_eq_true_iff.mp (Bool.and_eq_true_iff.mp (Bool.and_eq_true_iff.mp (Bool.and_eq_true_iff.mp (Bool.and_eq_true_iff.mp (Bool.and_eq_true_iff.mp e).1).1).1).1).1).1).2).2.2.2.2, hdJ_ok X G (Bool.and_eq_true_iff.mp (Bool.and_eq_true_iff.mp (Bool.and_eq_true_iff.mp e).1).1).2, hdJ_ok X G (Bool.and_eq_true_iff.mp (Bool.and_eq_true_iff.mp e).1).2, hdJ_ok X G (Bool.and_eq_true_iff.mp e).2⟩
theorem all_ok {P : Program} {w : World} {K : PySem.W.Frag} {h base : Heap} {mg : Str → Option Value} (X : K.In h) (Gh : h.Ns mainGlobals mg) (c : He.SaysD hfa hfn K) (e : hex K = true) (TB : ∀ p ∈ tabCs K, LamX.TabB base mg p.1 p.2) : ∀ k, Fns P w K mg base k := by
  have T := fcts X Gh c e
  obtain ⟨fd_common, FD_common⟩ := c.def_ 0 (d := d_common) rfl
  obtain ⟨fd_fraction_of, FD_fraction_of⟩ := c.def_ 1 (d := d_fraction_of) rfl
  obtain ⟨fd_plus_of, FD_plus_of⟩ := c.def_ 2 (d := d_plus_of) rfl
  obtain ⟨fd_less_of, FD_less_of⟩ := c.def_ 3 (d := d_less_of) rfl
  obtain ⟨fd_times_of, FD_times_of⟩ := c.def_ 4 (d := d_times_of) rfl
  obtain ⟨fd_over_of, FD_over_of⟩ := c.def_ 5 (d := d_over_of) rfl
  obtain ⟨fd_is_below, FD_is_below⟩ := c.def_ 6 (d := d_is_below) rfl
  obtain ⟨fd_is_whole, FD_is_whole⟩ := c.def_ 7 (d := d_is_whole) rfl
  obtain ⟨fd_is_fraction, FD_is_fraction⟩ := c.def_ 8 (d := d_is_fraction) rfl
  obtain ⟨fd_is_move, FD_is_move⟩ := c.def_ 9 (d := d_is_move) rfl
  obtain ⟨fd_stretch_by, FD_stretch_by⟩ := c.def_ 10 (d := d_stretch_by) rfl
  obtain ⟨fd_read_by, FD_read_by⟩ := c.def_ 11 (d := d_read_by) rfl
  obtain ⟨fd_move_then, FD_move_then⟩ := c.def_ 12 (d := d_move_then) rfl
  obtain ⟨fd_move_back, FD_move_back⟩ := c.def_ 13 (d := d_move_back) rfl
  obtain ⟨fd_in_order, FD_in_order⟩ := c.def_ 14 (d := d_in_order) rfl
  obtain ⟨fd_order_of, FD_order_of⟩ := c.def_ 15 (d := d_order_of) rfl
  obtain ⟨fd_named, FD_named⟩ := c.def_ 16 (d := d_named) rfl
  obtain ⟨fd_tie_rows, FD_tie_rows⟩ := c.def_ 17 (d := d_tie_rows) rfl
  obtain ⟨fd_ties_of, FD_ties_of⟩ := c.def_ 18 (d := d_ties_of) rfl
  obtain ⟨fd_steps_from, FD_steps_from⟩ := c.def_ 19 (d := d_steps_from) rfl
  obtain ⟨fd_roads_among, FD_roads_among⟩ := c.def_ 20 (d := d_roads_among) rfl
  obtain ⟨fd_road_among, FD_road_among⟩ := c.def_ 21 (d := d_road_among) rfl
  obtain ⟨fd_road_of, FD_road_of⟩ := c.def_ 22 (d := d_road_of) rfl
  obtain ⟨fd_chain_move, FD_chain_move⟩ := c.def_ 23 (d := d_chain_move) rfl
  obtain ⟨fd_move_of, FD_move_of⟩ := c.def_ 24 (d := d_move_of) rfl
  obtain ⟨fd_ring_of, FD_ring_of⟩ := c.def_ 25 (d := d_ring_of) rfl
  obtain ⟨fd_bars_of, FD_bars_of⟩ := c.def_ 26 (d := d_bars_of) rfl
  obtain ⟨fd_words_of, FD_words_of⟩ := c.def_ 27 (d := d_words_of) rfl
  obtain ⟨fd_paper_of, FD_paper_of⟩ := c.def_ 28 (d := d_paper_of) rfl
  obtain ⟨fd_is_step, FD_is_step⟩ := c.def_ 29 (d := d_is_step) rfl
  obtain ⟨fd_is_row, FD_is_row⟩ := c.def_ 30 (d := d_is_row) rfl
  obtain ⟨fd_is_sheet, FD_is_sheet⟩ := c.def_ 31 (d := d_is_sheet) rfl
  obtain ⟨fd_scales_along, FD_scales_along⟩ := c.def_ 32 (d := d_scales_along) rfl
  obtain ⟨fd_row_holds, FD_row_holds⟩ := c.def_ 33 (d := d_row_holds) rfl
  obtain ⟨fd_holds, FD_holds⟩ := c.def_ 34 (d := d_holds) rfl
  obtain ⟨fd__law_start, FD__law_start⟩ := c.def_ 35 (d := d__law_start) rfl
  obtain ⟨fd__law_draw, FD__law_draw⟩ := c.def_ 36 (d := d__law_draw) rfl
  obtain ⟨fd__law_mix, FD__law_mix⟩ := c.def_ 37 (d := d__law_mix) rfl
  obtain ⟨fd__law_same, FD__law_same⟩ := c.def_ 38 (d := d__law_same) rfl
  obtain ⟨fd__law_number, FD__law_number⟩ := c.def_ 39 (d := d__law_number) rfl
  obtain ⟨fd__law_lead, FD__law_lead⟩ := c.def_ 40 (d := d__law_lead) rfl
  obtain ⟨fd__law_rows, FD__law_rows⟩ := c.def_ 41 (d := d__law_rows) rfl
  obtain ⟨fd__law_quotients, FD__law_quotients⟩ := c.def_ 42 (d := d__law_quotients) rfl
  obtain ⟨fd__law_fractions, FD__law_fractions⟩ := c.def_ 43 (d := d__law_fractions) rfl
  obtain ⟨fd__law_roads, FD__law_roads⟩ := c.def_ 44 (d := d__law_roads) rfl
  obtain ⟨fd__law_rings, FD__law_rings⟩ := c.def_ 45 (d := d__law_rings) rfl
  obtain ⟨fd_law, FD_law⟩ := c.def_ 46 (d := d_law) rfl
  obtain ⟨fx_NoBottom, FX_NoBottom⟩ := c.def_ 47 (d := d_NoBottom_init) rfl
  obtain ⟨fx_NoTelling, FX_NoTelling⟩ := c.def_ 48 (d := d_NoTelling_init) rfl
  obtain ⟨fx_NotJoined, FX_NotJoined⟩ := c.def_ 49 (d := d_NotJoined_init) rfl
  have z_NoBottom := xcB_ok X Gh (Bool.and_eq_true_iff.mp (Bool.and_eq_true_iff.mp (Bool.and_eq_true_iff.mp (Bool.and_eq_true_iff.mp (Bool.and_eq_true_iff.mp (Bool.and_eq_true_iff.mp (Bool.and_eq_true_iff.mp (Bool.and_eq_true_iff.mp (Bool.and_eq_true_iff.mp e).1).1).1).1).1).1).1).1).2
  have xc_NoBottom : XcI P w K mg base "NoBottom" ["top"] := ⟨z_NoBottom.1, z_NoBottom.2.1, _, fx_NoBottom, ["self", "top"], z_NoBottom.2.2.1, z_NoBottom.2.2.2.1, init1 FX_NoBottom sc_NoBottom_init z_NoBottom.1 (z_NoBottom.2.2.2.2 _ (by simp)) (in_NoBottom (bkB_ok X Gh (Bool.and_eq_true_iff.mp (Bool.and_eq_true_iff.mp (Bool.and_eq_true_iff.mp (Bool.and_eq_true_iff.mp (Bool.and_eq_true_iff.mp (Bool.and_eq_true_iff.mp (Bool.and_eq_true_iff.mp (Bool.and_eq_true_iff.mp (Bool.and_eq_true_iff.mp (Bool.and_eq_true_iff.mp e).1).1).1).1).1).1).1).1).1).2)), FX_NoBottom.bindsN (fun _ _ _ _ _ _ us hl => match us, hl with | [_, _], _ => rfl)⟩
  have z_NoTelling := xcB_ok X Gh (Bool.and_eq_true_iff.mp (Bool.and_eq_true_iff.mp (Bool.and_eq_true_iff.mp (Bool.and_eq_true_iff.mp (Bool.and_eq_true_iff.mp (Bool.and_eq_true_iff.mp (Bool.and_eq_true_iff.mp (Bool.and_eq_true_iff.mp e).1).1).1).1).1).1).1).2
  have xc_NoTelling : XcI P w K mg base "NoTelling" ["name"] := ⟨z_NoTelling.1, z_NoTelling.2.1, _, fx_NoTelling, ["self", "name"], z_NoTelling.2.2.1, z_NoTelling.2.2.2.1, init1 FX_NoTelling sc_NoTelling_init z_NoTelling.1 (z_NoTelling.2.2.2.2 _ (by simp)) (in_NoTelling (bkB_ok X Gh (Bool.and_eq_true_iff.mp (Bool.and_eq_true_iff.mp (Bool.and_eq_true_iff.mp (Bool.and_eq_true_iff.mp (Bool.and_eq_true_iff.mp (Bool.and_eq_true_iff.mp (Bool.and_eq_true_iff.mp (Bool.and_eq_true_iff.mp (Bool.and_eq_true_iff.mp (Bool.and_eq_true_iff.mp e).1).1).1).1).1).1).1).1).1).2)), FX_NoTelling.bindsN (fun _ _ _ _ _ _ us hl => match us, hl with | [_, _], _ => rfl)⟩
  have z_NotJoined := xcB_ok X Gh (Bool.and_eq_true_iff.mp (Bool.and_eq_true_iff.mp (Bool.and_eq_true_iff.mp (Bool.and_eq_true_iff.mp (Bool.and_eq_true_iff.mp (Bool.and_eq_true_iff.mp (Bool.and_eq_true_iff.mp e).1).1).1).1).1).1).2
  have xc_NotJoined : XcI P w K mg base "NotJoined" ["start", "end"] := ⟨z_NotJoined.1, z_NotJoined.2.1, _, fx_NotJoined, ["self", "start", "end"], z_NotJoined.2.2.1, z_NotJoined.2.2.2.1, init2 FX_NotJoined sc_NotJoined_init z_NotJoined.1 (z_NotJoined.2.2.2.2 _ (by simp)) (z_NotJoined.2.2.2.2 _ (by simp)) (in_NotJoined (bkB_ok X Gh (Bool.and_eq_true_iff.mp (Bool.and_eq_true_iff.mp (Bool.and_eq_true_iff.mp (Bool.and_eq_true_iff.mp (Bool.and_eq_true_iff.mp (Bool.and_eq_true_iff.mp (Bool.and_eq_true_iff.mp (Bool.and_eq_true_iff.mp (Bool.and_eq_true_iff.mp (Bool.and_eq_true_iff.mp e).1).1).1).1).1).1).1).1).1).2)), FX_NotJoined.bindsN (fun _ _ _ _ _ _ us hl => match us, hl with | [_, _, _], _ => rfl)⟩
  intro k
  induction k with
  | zero => exact ⟨⟨He.ga K "common", fd_common, ["one", "other"], rfl, fn_zero, He.glo_ok X Gh (c.fact 0 (f := .glo "common") rfl), FD_common.kp, FD_common.bindsN (fun _ _ _ _ _ _ us hl => match us, hl with | [_, _], _ => rfl)⟩, ⟨He.ga K "fraction_of", fd_fraction_of, ["top", "bottom"], rfl, fn_zero, He.glo_ok X Gh (c.fact 1 (f := .glo "fraction_of") rfl), FD_fraction_of.kp, binds_full FD_fraction_of (List.cons_ne_nil _ _) (fun _ _ _ _ _ _ _ us its hl hi => match us, hl, its, hi with | [_, _], _, [_], _ => ⟨_, rfl, rfl⟩)⟩, ⟨He.ga K "plus_of", fd_plus_of, ["one", "other"], rfl, fn_zero, He.glo_ok X Gh (c.fact 2 (f := .glo "plus_of") rfl), FD_plus_of.kp, FD_plus_of.bindsN (fun _ _ _ _ _ _ us hl => match us, hl with | [_, _], _ => rfl)⟩, ⟨He.ga K "less_of", fd_less_of, ["one", "other"], rfl, fn_zero, He.glo_ok X Gh (c.fact 3 (f := .glo "less_of") rfl), FD_less_of.kp, FD_less_of.bindsN (fun _ _ _ _ _ _ us hl => match us, hl with | [_, _], _ => rfl)⟩, ⟨He.ga K "times_of", fd_times_of, ["one", "other"], rfl, fn_zero, He.glo_ok X Gh (c.fact 4 (f := .glo "times_of") rfl), FD_times_of.kp, FD_times_of.bindsN (fun _ _ _ _ _ _ us hl => match us, hl with | [_, _], _ => rfl)⟩, ⟨He.ga K "over_of", fd_over_of, ["one", "other"], rfl, fn_zero, He.glo_ok X Gh (c.fact 5 (f := .glo "over_of") rfl), FD_over_of.kp, FD_over_of.bindsN (fun _ _ _ _ _ _ us hl => match us, hl with | [_, _], _ => rfl)⟩, ⟨He.ga K "is_below", fd_is_below, ["one", "other"], rfl, fn_zero, He.glo_ok X Gh (c.fact 6 (f := .glo "is_below") rfl), FD_is_below.kp, FD_is_below.bindsN (fun _ _ _ _ _ _ us hl => match us, hl with | [_, _], _ => rfl)⟩, ⟨He.ga K "is_whole", fd_is_whole, ["thing"], rfl, fn_zero, He.glo_ok X Gh (c.fact 7 (f := .glo "is_whole") rfl), FD_is_whole.kp, FD_is_whole.bindsN (fun _ _ _ _ _ _ us hl => match us, hl with | [_], _ => rfl)⟩, ⟨He.ga K "is_fraction", fd_is_fraction, ["thing"], rfl, fn_zero, He.glo_ok X Gh (c.fact 8 (f := .glo "is_fraction") rfl), FD_is_fraction.kp, FD_is_fraction.bindsN (fun _ _ _ _ _ _ us hl => match us, hl with | [_], _ => rfl)⟩, ⟨He.ga K "is_move", fd_is_move, ["thing"], rfl, fn_zero, He.glo_ok X Gh (c.fact 9 (f := .glo "is_move") rfl), FD_is_move.kp, FD_is_move.bindsN (fun _ _ _ _ _ _ us hl => match us, hl with | [_], _ => rfl)⟩, ⟨He.ga K "stretch_by", fd_stretch_by, ["move", "value"], rfl, fn_zero, He.glo_ok X Gh (c.fact 10 (f := .glo "stretch_by") rfl), FD_stretch_by.kp, FD_stretch_by.bindsN (fun _ _ _ _ _ _ us hl => match us, hl with | [_, _], _ => rfl)⟩, ⟨He.ga K "read_by", fd_read_by, ["move", "value"], rfl, fn_zero, He.glo_ok X Gh (c.fact 11 (f := .glo "read_by") rfl), FD_read_by.kp, FD_read_by.bindsN (fun _ _ _ _ _ _ us hl => match us, hl with | [_, _], _ => rfl)⟩, ⟨He.ga K "move_then", fd_move_then, ["one", "other"], rfl, fn_zero, He.glo_ok X Gh (c.fact 12 (f := .glo "move_then") rfl), FD_move_then.kp, FD_move_then.bindsN (fun _ _ _ _ _ _ us hl => match us, hl with | [_, _], _ => rfl)⟩, ⟨He.ga K "move_back", fd_move_back, ["move"], rfl, fn_zero, He.glo_ok X Gh (c.fact 13 (f := .glo "move_back") rfl), FD_move_back.kp, FD_move_back.bindsN (fun _ _ _ _ _ _ us hl => match us, hl with | [_], _ => rfl)⟩, ⟨He.ga K "in_order", fd_in_order, ["tellings"], rfl, fn_zero, He.glo_ok X Gh (c.fact 14 (f := .glo "in_order") rfl), FD_in_order.kp, FD_in_order.bindsN (fun _ _ _ _ _ _ us hl => match us, hl with | [_], _ => rfl)⟩, ⟨He.ga K "order_of", fd_order_of, ["tellings"], rfl, fn_zero, He.glo_ok X Gh (c.fact 15 (f := .glo "order_of") rfl), FD_order_of.kp, FD_order_of.bindsN (fun _ _ _ _ _ _ us hl => match us, hl with | [_], _ => rfl)⟩, ⟨He.ga K "named", fd_named, ["tellings", "name"], rfl, fn_zero, He.glo_ok X Gh (c.fact 16 (f := .glo "named") rfl), FD_named.kp, FD_named.bindsN (fun _ _ _ _ _ _ us hl => match us, hl with | [_, _], _ => rfl)⟩, ⟨He.ga K "tie_rows", fd_tie_rows, ["tellings"], rfl, fn_zero, He.glo_ok X Gh (c.fact 17 (f := .glo "tie_rows") rfl), FD_tie_rows.kp, FD_tie_rows.bindsN (fun _ _ _ _ _ _ us hl => match us, hl with | [_], _ => rfl)⟩, ⟨He.ga K "ties_of", fd_ties_of, ["tellings"], rfl, fn_zero, He.glo_ok X Gh (c.fact 18 (f := .glo "ties_of") rfl), FD_ties_of.kp, FD_ties_of.bindsN (fun _ _ _ _ _ _ us hl => match us, hl with | [_], _ => rfl)⟩, ⟨He.ga K "steps_from", fd_steps_from, ["rows", "scale"], rfl, fn_zero, He.glo_ok X Gh (c.fact 19 (f := .glo "steps_from") rfl), FD_steps_from.kp, FD_steps_from.bindsN (fun _ _ _ _ _ _ us hl => match us, hl with | [_, _], _ => rfl)⟩, ⟨He.ga K "roads_among", fd_roads_among, ["rows", "start"], rfl, fn_zero, He.glo_ok X Gh (c.fact 20 (f := .glo "roads_among") rfl), FD_roads_among.kp, FD_roads_among.bindsN (fun _ _ _ _ _ _ us hl => match us, hl with | [_, _], _ => rfl)⟩, ⟨He.ga K "road_among", fd_road_among, ["rows", "start", "end"], rfl, fn_zero, He.glo_ok X Gh (c.fact 21 (f := .glo "road_among") rfl), FD_road_among.kp, FD_road_among.bindsN (fun _ _ _ _ _ _ us hl => match us, hl with | [_, _, _], _ => rfl)⟩, ⟨He.ga K "road_of", fd_road_of, ["tellings", "start", "end"], rfl, fn_zero, He.glo_ok X Gh (c.fact 22 (f := .glo "road_of") rfl), FD_road_of.kp, FD_road_of.bindsN (fun _ _ _ _ _ _ us hl => match us, hl with | [_, _, _], _ => rfl)⟩, ⟨He.ga K "chain_move", fd_chain_move, ["tellings", "chain"], rfl, fn_zero, He.glo_ok X Gh (c.fact 23 (f := .glo "chain_move") rfl), FD_chain_move.kp, FD_chain_move.bindsN (fun _ _ _ _ _ _ us hl => match us, hl with | [_, _], _ => rfl)⟩, ⟨He.ga K "move_of", fd_move_of, ["tellings", "start", "end"], rfl, fn_zero, He.glo_ok X Gh (c.fact 24 (f := .glo "move_of") rfl), FD_move_of.kp, FD_move_of.bindsN (fun _ _ _ _ _ _ us hl => match us, hl with | [_, _, _], _ => rfl)⟩, ⟨He.ga K "ring_of", fd_ring_of, ["tellings", "name"], rfl, fn_zero, He.glo_ok X Gh (c.fact 25 (f := .glo "ring_of") rfl), FD_ring_of.kp, FD_ring_of.bindsN (fun _ _ _ _ _ _ us hl => match us, hl with | [_, _], _ => rfl)⟩, ⟨He.ga K "bars_of", fd_bars_of, ["tellings"], rfl, fn_zero, He.glo_ok X Gh (c.fact 26 (f := .glo "bars_of") rfl), FD_bars_of.kp, FD_bars_of.bindsN (fun _ _ _ _ _ _ us hl => match us, hl with | [_], _ => rfl)⟩, ⟨He.ga K "words_of", fd_words_of, ["tellings"], rfl, fn_zero, He.glo_ok X Gh (c.fact 27 (f := .glo "words_of") rfl), FD_words_of.kp, FD_words_of.bindsN (fun _ _ _ _ _ _ us hl => match us, hl with | [_], _ => rfl)⟩, ⟨He.ga K "paper_of", fd_paper_of, ["tellings"], rfl, fn_zero, He.glo_ok X Gh (c.fact 28 (f := .glo "paper_of") rfl), FD_paper_of.kp, FD_paper_of.bindsN (fun _ _ _ _ _ _ us hl => match us, hl with | [_], _ => rfl)⟩, ⟨He.ga K "is_step", fd_is_step, ["thing"], rfl, fn_zero, He.glo_ok X Gh (c.fact 29 (f := .glo "is_step") rfl), FD_is_step.kp, FD_is_step.bindsN (fun _ _ _ _ _ _ us hl => match us, hl with | [_], _ => rfl)⟩, ⟨He.ga K "is_row", fd_is_row, ["thing"], rfl, fn_zero, He.glo_ok X Gh (c.fact 30 (f := .glo "is_row") rfl), FD_is_row.kp, FD_is_row.bindsN (fun _ _ _ _ _ _ us hl => match us, hl with | [_], _ => rfl)⟩, ⟨He.ga K "is_sheet", fd_is_sheet, ["thing"], rfl, fn_zero, He.glo_ok X Gh (c.fact 31 (f := .glo "is_sheet") rfl), FD_is_sheet.kp, FD_is_sheet.bindsN (fun _ _ _ _ _ _ us hl => match us, hl with | [_], _ => rfl)⟩, ⟨He.ga K "scales_along", fd_scales_along, ["rows", "start", "road"], rfl, fn_zero, He.glo_ok X Gh (c.fact 32 (f := .glo "scales_along") rfl), FD_scales_along.kp, FD_scales_along.bindsN (fun _ _ _ _ _ _ us hl => match us, hl with | [_, _, _], _ => rfl)⟩, ⟨He.ga K "row_holds", fd_row_holds, ["ties", "telling", "row"], rfl, fn_zero, He.glo_ok X Gh (c.fact 33 (f := .glo "row_holds") rfl), FD_row_holds.kp, FD_row_holds.bindsN (fun _ _ _ _ _ _ us hl => match us, hl with | [_, _, _], _ => rfl)⟩, ⟨He.ga K "holds", fd_holds, ["tellings", "paper"], rfl, fn_zero, He.glo_ok X Gh (c.fact 34 (f := .glo "holds") rfl), FD_holds.kp, FD_holds.bindsN (fun _ _ _ _ _ _ us hl => match us, hl with | [_, _], _ => rfl)⟩, ⟨He.ga K "_law_start", fd__law_start, ["_law_script"], rfl, fn_zero, He.glo_ok X Gh (c.fact 35 (f := .glo "_law_start") rfl), FD__law_start.kp, FD__law_start.bindsN (fun _ _ _ _ _ _ us hl => match us, hl with | [_], _ => rfl)⟩, ⟨He.ga K "_law_draw", fd__law_draw, ["_law_state", "_law_lot"], rfl, fn_zero, He.glo_ok X Gh (c.fact 36 (f := .glo "_law_draw") rfl), FD__law_draw.kp, FD__law_draw.bindsN (fun _ _ _ _ _ _ us hl => match us, hl with | [_, _], _ => rfl)⟩, ⟨He.ga K "_law_mix", fd__law_mix, ["_law_state"], rfl, fn_zero, He.glo_ok X Gh (c.fact 37 (f := .glo "_law_mix") rfl), FD__law_mix.kp, FD__law_mix.bindsN (fun _ _ _ _ _ _ us hl => match us, hl with | [_], _ => rfl)⟩, ⟨He.ga K "_law_same", fd__law_same, ["_law_found", "_law_want"], rfl, fn_zero, He.glo_ok X Gh (c.fact 38 (f := .glo "_law_same") rfl), FD__law_same.kp, FD__law_same.bindsN (fun _ _ _ _ _ _ us hl => match us, hl with | [_, _], _ => rfl)⟩, ⟨He.ga K "_law_number", fd__law_number, ["_law_state"], rfl, fn_zero, He.glo_ok X Gh (c.fact 39 (f := .glo "_law_number") rfl), FD__law_number.kp, FD__law_number.bindsN (fun _ _ _ _ _ _ us hl => match us, hl with | [_], _ => rfl)⟩, ⟨He.ga K "_law_lead", fd__law_lead, ["_law_state"], rfl, fn_zero, He.glo_ok X Gh (c.fact 40 (f := .glo "_law_lead") rfl), FD__law_lead.kp, FD__law_lead.bindsN (fun _ _ _ _ _ _ us hl => match us, hl with | [_], _ => rfl)⟩, ⟨He.ga K "_law_rows", fd__law_rows, ["_law_state"], rfl, fn_zero, He.glo_ok X Gh (c.fact 41 (f := .glo "_law_rows") rfl), FD__law_rows.kp, FD__law_rows.bindsN (fun _ _ _ _ _ _ us hl => match us, hl with | [_], _ => rfl)⟩, ⟨He.ga K "_law_quotients", fd__law_quotients, ["_law_here", "_law_there"], rfl, fn_zero, He.glo_ok X Gh (c.fact 42 (f := .glo "_law_quotients") rfl), FD__law_quotients.kp, FD__law_quotients.bindsN (fun _ _ _ _ _ _ us hl => match us, hl with | [_, _], _ => rfl)⟩, ⟨He.ga K "_law_fractions", fd__law_fractions, ["_law_state"], rfl, fn_zero, He.glo_ok X Gh (c.fact 43 (f := .glo "_law_fractions") rfl), FD__law_fractions.kp, FD__law_fractions.bindsN (fun _ _ _ _ _ _ us hl => match us, hl with | [_], _ => rfl)⟩, ⟨He.ga K "_law_roads", fd__law_roads, ["_law_rows_here", "_law_here", "_law_there"], rfl, fn_zero, He.glo_ok X Gh (c.fact 44 (f := .glo "_law_roads") rfl), FD__law_roads.kp, FD__law_roads.bindsN (fun _ _ _ _ _ _ us hl => match us, hl with | [_, _, _], _ => rfl)⟩, ⟨He.ga K "_law_rings", fd__law_rings, ["_law_rows_here", "_law_label"], rfl, fn_zero, He.glo_ok X Gh (c.fact 45 (f := .glo "_law_rings") rfl), FD__law_rings.kp, FD__law_rings.bindsN (fun _ _ _ _ _ _ us hl => match us, hl with | [_, _], _ => rfl)⟩, ⟨He.ga K "law", fd_law, ["_law_script"], rfl, fn_zero, He.glo_ok X Gh (c.fact 46 (f := .glo "law") rfl), FD_law.kp, FD_law.bindsN (fun _ _ _ _ _ _ us hl => match us, hl with | [_], _ => rfl)⟩, (by
      obtain ⟨ds, v, b⟩ := FD_fraction_of.binds1 (ps := ["top", "bottom"]) 1 0 (List.cons_ne_nil _ _) rfl (fun _ _ _ _ _ _ _ us its hl hi => match us, hl, its, hi with | [_], _, [_], _ => ⟨_, rfl, rfl⟩)
      exact ⟨ds, v, ⟨He.ga K "fraction_of", fd_fraction_of, ["top", "bottom"], rfl, fn_zero, He.glo_ok X Gh (c.fact 1 (f := .glo "fraction_of") rfl), FD_fraction_of.kp, b⟩⟩), ⟨⟨He.ga K "over_of", fd_over_of, ["one", "other"], [], rfl, fn_zero, He.glo_ok X Gh (c.fact 5 (f := .glo "over_of") rfl), FD_over_of.kp, kbnN FD_over_of 0 ["other", "one"] [1, 0] (fun _ _ _ _ _ _ us ws l1 l2 => match us, l1, ws, l2 with | [], _, [_, _], _ => rfl)⟩⟩, (by
      obtain ⟨dus, kb⟩ := kbnD (ps := ["top", "bottom"]) FD_fraction_of 0 ["bottom", "top"] [1, 0] 1 (List.cons_ne_nil _ _) (fun _ _ _ _ _ _ _ us its ws l1 l2 l3 => match us, l1, its, l2, ws, l3 with | [], _, [_], _, [_, _], _ => ⟨_, rfl, rfl⟩)
      exact ⟨⟨He.ga K "fraction_of", fd_fraction_of, ["top", "bottom"], dus, rfl, fn_zero, He.glo_ok X Gh (c.fact 1 (f := .glo "fraction_of") rfl), FD_fraction_of.kp, kb⟩⟩), (by
      obtain ⟨dus, kb⟩ := kbnD (ps := ["top", "bottom"]) FD_fraction_of 0 ["top"] [0] 0 (List.cons_ne_nil _ _) (fun _ _ _ _ _ _ _ us its ws l1 l2 l3 => match us, l1, its, l2, ws, l3 with | [], _, [_], _, [_], _ => ⟨_, rfl, rfl⟩)
      exact ⟨⟨He.ga K "fraction_of", fd_fraction_of, ["top", "bottom"], dus, rfl, fn_zero, He.glo_ok X Gh (c.fact 1 (f := .glo "fraction_of") rfl), FD_fraction_of.kp, kb⟩⟩), (by
      obtain ⟨dus, kb⟩ := kbnD (ps := ["top", "bottom"]) FD_fraction_of 1 ["bottom"] [0, 1] 1 (List.cons_ne_nil _ _) (fun _ _ _ _ _ _ _ us its ws l1 l2 l3 => match us, l1, its, l2, ws, l3 with | [_], _, [_], _, [_], _ => ⟨_, rfl, rfl⟩)
      exact ⟨⟨He.ga K "fraction_of", fd_fraction_of, ["top", "bottom"], dus, rfl, fn_zero, He.glo_ok X Gh (c.fact 1 (f := .glo "fraction_of") rfl), FD_fraction_of.kp, kb⟩⟩), ⟨⟨He.ga K "plus_of", fd_plus_of, ["one", "other"], [], rfl, fn_zero, He.glo_ok X Gh (c.fact 2 (f := .glo "plus_of") rfl), FD_plus_of.kp, kbnN FD_plus_of 0 ["other", "one"] [1, 0] (fun _ _ _ _ _ _ us ws l1 l2 => match us, l1, ws, l2 with | [], _, [_, _], _ => rfl)⟩⟩, ⟨⟨He.ga K "less_of", fd_less_of, ["one", "other"], [], rfl, fn_zero, He.glo_ok X Gh (c.fact 3 (f := .glo "less_of") rfl), FD_less_of.kp, kbnN FD_less_of 0 ["other", "one"] [1, 0] (fun _ _ _ _ _ _ us ws l1 l2 => match us, l1, ws, l2 with | [], _, [_, _], _ => rfl)⟩⟩, ⟨⟨He.ga K "times_of", fd_times_of, ["one", "other"], [], rfl, fn_zero, He.glo_ok X Gh (c.fact 4 (f := .glo "times_of") rfl), FD_times_of.kp, kbnN FD_times_of 0 ["other", "one"] [1, 0] (fun _ _ _ _ _ _ us ws l1 l2 => match us, l1, ws, l2 with | [], _, [_, _], _ => rfl)⟩⟩, ⟨⟨He.ga K "is_below", fd_is_below, ["one", "other"], [], rfl, fn_zero, He.glo_ok X Gh (c.fact 6 (f := .glo "is_below") rfl), FD_is_below.kp, kbnN FD_is_below 0 ["other", "one"] [1, 0] (fun _ _ _ _ _ _ us ws l1 l2 => match us, l1, ws, l2 with | [], _, [_, _], _ => rfl)⟩⟩, ⟨⟨He.ga K "is_move", fd_is_move, ["thing"], [], rfl, fn_zero, He.glo_ok X Gh (c.fact 9 (f := .glo "is_move") rfl), FD_is_move.kp, kbnN FD_is_move 0 ["thing"] [0] (fun _ _ _ _ _ _ us ws l1 l2 => match us, l1, ws, l2 with | [], _, [_], _ => rfl)⟩⟩, ⟨⟨He.ga K "read_by", fd_read_by, ["move", "value"], [], rfl, fn_zero, He.glo_ok X Gh (c.fact 11 (f := .glo "read_by") rfl), FD_read_by.kp, kbnN FD_read_by 0 ["value", "move"] [1, 0] (fun _ _ _ _ _ _ us ws l1 l2 => match us, l1, ws, l2 with | [], _, [_, _], _ => rfl)⟩⟩, ⟨⟨He.ga K "stretch_by", fd_stretch_by, ["move", "value"], [], rfl, fn_zero, He.glo_ok X Gh (c.fact 10 (f := .glo "stretch_by") rfl), FD_stretch_by.kp, kbnN FD_stretch_by 0 ["value", "move"] [1, 0] (fun _ _ _ _ _ _ us ws l1 l2 => match us, l1, ws, l2 with | [], _, [_, _], _ => rfl)⟩⟩, ⟨⟨He.ga K "move_then", fd_move_then, ["one", "other"], [], rfl, fn_zero, He.glo_ok X Gh (c.fact 12 (f := .glo "move_then") rfl), FD_move_then.kp, kbnN FD_move_then 0 ["other", "one"] [1, 0] (fun _ _ _ _ _ _ us ws l1 l2 => match us, l1, ws, l2 with | [], _, [_, _], _ => rfl)⟩⟩, ⟨⟨He.ga K "move_back", fd_move_back, ["move"], [], rfl, fn_zero, He.glo_ok X Gh (c.fact 13 (f := .glo "move_back") rfl), FD_move_back.kp, kbnN FD_move_back 0 ["move"] [0] (fun _ _ _ _ _ _ us ws l1 l2 => match us, l1, ws, l2 with | [], _, [_], _ => rfl)⟩⟩, ⟨⟨He.ga K "road_of", fd_road_of, ["tellings", "start", "end"], [], rfl, fn_zero, He.glo_ok X Gh (c.fact 22 (f := .glo "road_of") rfl), FD_road_of.kp, kbnN FD_road_of 0 ["end", "start", "tellings"] [2, 1, 0] (fun _ _ _ _ _ _ us ws l1 l2 => match us, l1, ws, l2 with | [], _, [_, _, _], _ => rfl)⟩⟩, ⟨⟨He.ga K "move_of", fd_move_of, ["tellings", "start", "end"], [], rfl, fn_zero, He.glo_ok X Gh (c.fact 24 (f := .glo "move_of") rfl), FD_move_of.kp, kbnN FD_move_of 0 ["end", "tellings", "start"] [1, 2, 0] (fun _ _ _ _ _ _ us ws l1 l2 => match us, l1, ws, l2 with | [], _, [_, _, _], _ => rfl)⟩⟩, ⟨⟨He.ga K "ring_of", fd_ring_of, ["tellings", "name"], [], rfl, fn_zero, He.glo_ok X Gh (c.fact 25 (f := .glo "ring_of") rfl), FD_ring_of.kp, kbnN FD_ring_of 0 ["name", "tellings"] [1, 0] (fun _ _ _ _ _ _ us ws l1 l2 => match us, l1, ws, l2 with | [], _, [_, _], _ => rfl)⟩⟩, ⟨⟨He.ga K "order_of", fd_order_of, ["tellings"], [], rfl, fn_zero, He.glo_ok X Gh (c.fact 15 (f := .glo "order_of") rfl), FD_order_of.kp, kbnN FD_order_of 0 ["tellings"] [0] (fun _ _ _ _ _ _ us ws l1 l2 => match us, l1, ws, l2 with | [], _, [_], _ => rfl)⟩⟩, ⟨⟨He.ga K "ties_of", fd_ties_of, ["tellings"], [], rfl, fn_zero, He.glo_ok X Gh (c.fact 18 (f := .glo "ties_of") rfl), FD_ties_of.kp, kbnN FD_ties_of 0 ["tellings"] [0] (fun _ _ _ _ _ _ us ws l1 l2 => match us, l1, ws, l2 with | [], _, [_], _ => rfl)⟩⟩, ⟨⟨He.ga K "words_of", fd_words_of, ["tellings"], [], rfl, fn_zero, He.glo_ok X Gh (c.fact 27 (f := .glo "words_of") rfl), FD_words_of.kp, kbnN FD_words_of 0 ["tellings"] [0] (fun _ _ _ _ _ _ us ws l1 l2 => match us, l1, ws, l2 with | [], _, [_], _ => rfl)⟩⟩, ⟨⟨He.ga K "paper_of", fd_paper_of, ["tellings"], [], rfl, fn_zero, He.glo_ok X Gh (c.fact 28 (f := .glo "paper_of") rfl), FD_paper_of.kp, kbnN FD_paper_of 0 ["tellings"] [0] (fun _ _ _ _ _ _ us ws l1 l2 => match us, l1, ws, l2 with | [], _, [_], _ => rfl)⟩⟩, ⟨⟨He.ga K "holds", fd_holds, ["tellings", "paper"], [], rfl, fn_zero, He.glo_ok X Gh (c.fact 34 (f := .glo "holds") rfl), FD_holds.kp, kbnN FD_holds 0 ["paper", "tellings"] [1, 0] (fun _ _ _ _ _ _ us ws l1 l2 => match us, l1, ws, l2 with | [], _, [_, _], _ => rfl)⟩⟩, xc_NoBottom, xc_NoTelling, xc_NotJoined⟩
  | succ k G => exact ⟨⟨He.ga K "common", fd_common, ["one", "other"], rfl, fn_ok (tbl := tbl) (fi := 0) FD_common sc_common rfl rfl (fun _ _ _ _ _ _ _ cq => jb_common T G cq), He.glo_ok X Gh (c.fact 0 (f := .glo "common") rfl), FD_common.kp, FD_common.bindsN (fun _ _ _ _ _ _ us hl => match us, hl with | [_, _], _ => rfl)⟩, ⟨He.ga K "fraction_of", fd_fraction_of, ["top", "bottom"], rfl, fn_ok (tbl := tbl) (fi := 15) FD_fraction_of sc_fraction_of rfl rfl (fun _ _ _ _ _ _ _ cq => jb_fraction_of T G cq), He.glo_ok X Gh (c.fact 1 (f := .glo "fraction_of") rfl), FD_fraction_of.kp, binds_full FD_fraction_of (List.cons_ne_nil _ _) (fun _ _ _ _ _ _ _ us its hl hi => match us, hl, its, hi with | [_, _], _, [_], _ => ⟨_, rfl, rfl⟩)⟩, ⟨He.ga K "plus_of", fd_plus_of, ["one", "other"], rfl, fn_ok (tbl := tbl) (fi := 16) FD_plus_of sc_plus_of rfl rfl (fun _ _ _ _ _ _ _ cq => jb_plus_of T G cq), He.glo_ok X Gh (c.fact 2 (f := .glo "plus_of") rfl), FD_plus_of.kp, FD_plus_of.bindsN (fun _ _ _ _ _ _ us hl => match us, hl with | [_, _], _ => rfl)⟩, ⟨He.ga K "less_of", fd_less_of, ["one", "other"], rfl, fn_ok (tbl := tbl) (fi := 17) FD_less_of sc_less_of rfl rfl (fun _ _ _ _ _ _ _ cq => jb_less_of T G cq), He.glo_ok X Gh (c.fact 3 (f := .glo "less_of") rfl), FD_less_of.kp, FD_less_of.bindsN (fun _ _ _ _ _ _ us hl => match us, hl with | [_, _], _ => rfl)⟩, ⟨He.ga K "times_of", fd_times_of, ["one", "other"], rfl, fn_ok (tbl := tbl) (fi := 18) FD_times_of sc_times_of rfl rfl (fun _ _ _ _ _ _ _ cq => jb_times_of T G cq), He.glo_ok X Gh (c.fact 4 (f := .glo "times_of") rfl), FD_times_of.kp, FD_times_of.bindsN (fun _ _ _ _ _ _ us hl => match us, hl with | [_, _], _ => rfl)⟩, ⟨He.ga K "over_of", fd_over_of, ["one", "other"], rfl, fn_ok (tbl := tbl) (fi := 19) FD_over_of sc_over_of rfl rfl (fun _ _ _ _ _ _ _ cq => jb_over_of T G cq), He.glo_ok X Gh (c.fact 5 (f := .glo "over_of") rfl), FD_over_of.kp, FD_over_of.bindsN (fun _ _ _ _ _ _ us hl => match us, hl with | [_, _], _ => rfl)⟩, ⟨He.ga K "is_below", fd_is_below, ["one", "other"], rfl, fn_ok (tbl := tbl) (fi := 76) FD_is_below sc_is_below rfl rfl (fun _ _ _ _ _ _ _ cq => jb_is_below T G cq), He.glo_ok X Gh (c.fact 6 (f := .glo "is_below") rfl), FD_is_below.kp, FD_is_below.bindsN (fun _ _ _ _ _ _ us hl => match us, hl with | [_, _], _ => rfl)⟩, ⟨He.ga K "is_whole", fd_is_whole, ["thing"], rfl, fn_ok (tbl := tbl) (fi := 91) FD_is_whole sc_is_whole rfl rfl (fun _ _ _ _ _ _ _ cq => jb_is_whole T G cq), He.glo_ok X Gh (c.fact 7 (f := .glo "is_whole") rfl), FD_is_whole.kp, FD_is_whole.bindsN (fun _ _ _ _ _ _ us hl => match us, hl with | [_], _ => rfl)⟩, ⟨He.ga K "is_fraction", fd_is_fraction, ["thing"], rfl, fn_ok (tbl := tbl) (fi := 137) FD_is_fraction sc_is_fraction rfl rfl (fun _ _ _ _ _ _ _ cq => jb_is_fraction T G cq), He.glo_ok X Gh (c.fact 8 (f := .glo "is_fraction") rfl), FD_is_fraction.kp, FD_is_fraction.bindsN (fun _ _ _ _ _ _ us hl => match us, hl with | [_], _ => rfl)⟩, ⟨He.ga K "is_move", fd_is_move, ["thing"], rfl, fn_ok (tbl := tbl) (fi := 138) FD_is_move sc_is_move rfl rfl (fun _ _ _ _ _ _ _ cq => jb_is_move T G cq), He.glo_ok X Gh (c.fact 9 (f := .glo "is_move") rfl), FD_is_move.kp, FD_is_move.bindsN (fun _ _ _ _ _ _ us hl => match us, hl with | [_], _ => rfl)⟩, ⟨He.ga K "stretch_by", fd_stretch_by, ["move", "value"], rfl, fn_ok (tbl := tbl) (fi := 20) FD_stretch_by sc_stretch_by rfl rfl (fun _ _ _ _ _ _ _ cq => jb_stretch_by T G cq), He.glo_ok X Gh (c.fact 10 (f := .glo "stretch_by") rfl), FD_stretch_by.kp, FD_stretch_by.bindsN (fun _ _ _ _ _ _ us hl => match us, hl with | [_, _], _ => rfl)⟩, ⟨He.ga K "read_by", fd_read_by, ["move", "value"], rfl, fn_ok (tbl := tbl) (fi := 21) FD_read_by sc_read_by rfl rfl (fun _ _ _ _ _ _ _ cq => jb_read_by T G cq), He.glo_ok X Gh (c.fact 11 (f := .glo "read_by") rfl), FD_read_by.kp, FD_read_by.bindsN (fun _ _ _ _ _ _ us hl => match us, hl with | [_, _], _ => rfl)⟩, ⟨He.ga K "move_then", fd_move_then, ["one", "other"], rfl, fn_ok (tbl := tbl) (fi := 22) FD_move_then sc_move_then rfl rfl (fun _ _ _ _ _ _ _ cq => jb_move_then T G cq), He.glo_ok X Gh (c.fact 12 (f := .glo "move_then") rfl), FD_move_then.kp, FD_move_then.bindsN (fun _ _ _ _ _ _ us hl => match us, hl with | [_, _], _ => rfl)⟩, ⟨He.ga K "move_back", fd_move_back, ["move"], rfl, fn_ok (tbl := tbl) (fi := 23) FD_move_back sc_move_back rfl rfl (fun _ _ _ _ _ _ _ cq => jb_move_back T G cq), He.glo_ok X Gh (c.fact 13 (f := .glo "move_back") rfl), FD_move_back.kp, FD_move_back.bindsN (fun _ _ _ _ _ _ us hl => match us, hl with | [_], _ => rfl)⟩, ⟨He.ga K "in_order", fd_in_order, ["tellings"], rfl, fn_ok (tbl := tbl) (fi := 32) FD_in_order sc_in_order rfl rfl (fun _ _ _ _ _ _ hcd cq => by
      obtain ⟨cc, PP, tb⟩ := tbI_of (h := h) (N := N_in_order) (hex_tab e) (x := "in_order") (by decide) (by decide) FD_in_order (c.fact 14 (f := .glo "in_order") rfl) hcd TB
      exact jb_in_order T G tb cq), He.glo_ok X Gh (c.fact 14 (f := .glo "in_order") rfl), FD_in_order.kp, FD_in_order.bindsN (fun _ _ _ _ _ _ us hl => match us, hl with | [_], _ => rfl)⟩, ⟨He.ga K "order_of", fd_order_of, ["tellings"], rfl, fn_ok (tbl := tbl) (fi := 33) FD_order_of sc_order_of rfl rfl (fun _ _ _ _ _ _ _ cq => jb_order_of T G cq), He.glo_ok X Gh (c.fact 15 (f := .glo "order_of") rfl), FD_order_of.kp, FD_order_of.bindsN (fun _ _ _ _ _ _ us hl => match us, hl with | [_], _ => rfl)⟩, ⟨He.ga K "named", fd_named, ["tellings", "name"], rfl, fn_ok (tbl := tbl) (fi := 51) FD_named sc_named rfl rfl (fun _ _ _ _ _ _ _ cq => jb_named T G cq), He.glo_ok X Gh (c.fact 16 (f := .glo "named") rfl), FD_named.kp, FD_named.bindsN (fun _ _ _ _ _ _ us hl => match us, hl with | [_, _], _ => rfl)⟩, ⟨He.ga K "tie_rows", fd_tie_rows, ["tellings"], rfl, fn_ok (tbl := tbl) (fi := 39) FD_tie_rows sc_tie_rows rfl rfl (fun _ _ _ _ _ _ _ cq => jb_tie_rows T G cq), He.glo_ok X Gh (c.fact 17 (f := .glo "tie_rows") rfl), FD_tie_rows.kp, FD_tie_rows.bindsN (fun _ _ _ _ _ _ us hl => match us, hl with | [_], _ => rfl)⟩, ⟨He.ga K "ties_of", fd_ties_of, ["tellings"], rfl, fn_ok (tbl := tbl) (fi := 56) FD_ties_of sc_ties_of rfl rfl (fun _ _ _ _ _ _ _ cq => jb_ties_of T G cq), He.glo_ok X Gh (c.fact 18 (f := .glo "ties_of") rfl), FD_ties_of.kp, FD_ties_of.bindsN (fun _ _ _ _ _ _ us hl => match us, hl with | [_], _ => rfl)⟩, ⟨He.ga K "steps_from", fd_steps_from, ["rows", "scale"], rfl, fn_ok (tbl := tbl) (fi := 40) FD_steps_from sc_steps_from rfl rfl (fun _ _ _ _ _ _ _ cq => jb_steps_from T G cq), He.glo_ok X Gh (c.fact 19 (f := .glo "steps_from") rfl), FD_steps_from.kp, FD_steps_from.bindsN (fun _ _ _ _ _ _ us hl => match us, hl with | [_, _], _ => rfl)⟩, ⟨He.ga K "roads_among", fd_roads_among, ["rows", "start"], rfl, fn_ok (tbl := tbl) (fi := 41) FD_roads_among sc_roads_among rfl rfl (fun _ _ _ _ _ _ _ cq => jb_roads_among T G cq), He.glo_ok X Gh (c.fact 20 (f := .glo "roads_among") rfl), FD_roads_among.kp, FD_roads_among.bindsN (fun _ _ _ _ _ _ us hl => match us, hl with | [_, _], _ => rfl)⟩, ⟨He.ga K "road_among", fd_road_among, ["rows", "start", "end"], rfl, fn_ok (tbl := tbl) (fi := 42) FD_road_among sc_road_among rfl rfl (fun _ _ _ _ _ _ _ cq => jb_road_among T G cq), He.glo_ok X Gh (c.fact 21 (f := .glo "road_among") rfl), FD_road_among.kp, FD_road_among.bindsN (fun _ _ _ _ _ _ us hl => match us, hl with | [_, _, _], _ => rfl)⟩, ⟨He.ga K "road_of", fd_road_of, ["tellings", "start", "end"], rfl, fn_ok (tbl := tbl) (fi := 43) FD_road_of sc_road_of rfl rfl (fun _ _ _ _ _ _ _ cq => jb_road_of T G cq), He.glo_ok X Gh (c.fact 22 (f := .glo "road_of") rfl), FD_road_of.kp, FD_road_of.bindsN (fun _ _ _ _ _ _ us hl => match us, hl with | [_, _, _], _ => rfl)⟩, ⟨He.ga K "chain_move", fd_chain_move, ["tellings", "chain"], rfl, fn_ok (tbl := tbl) (fi := 44) FD_chain_move sc_chain_move rfl rfl (fun _ _ _ _ _ _ _ cq => jb_chain_move T G cq), He.glo_ok X Gh (c.fact 23 (f := .glo "chain_move") rfl), FD_chain_move.kp, FD_chain_move.bindsN (fun _ _ _ _ _ _ us hl => match us, hl with | [_, _], _ => rfl)⟩, ⟨He.ga K "move_of", fd_move_of, ["tellings", "start", "end"], rfl, fn_ok (tbl := tbl) (fi := 45) FD_move_of sc_move_of rfl rfl (fun _ _ _ _ _ _ _ cq => jb_move_of T G cq), He.glo_ok X Gh (c.fact 24 (f := .glo "move_of") rfl), FD_move_of.kp, FD_move_of.bindsN (fun _ _ _ _ _ _ us hl => match us, hl with | [_, _, _], _ => rfl)⟩, ⟨He.ga K "ring_of", fd_ring_of, ["tellings", "name"], rfl, fn_ok (tbl := tbl) (fi := 52) FD_ring_of sc_ring_of rfl rfl (fun _ _ _ _ _ _ _ cq => jb_ring_of T G cq), He.glo_ok X Gh (c.fact 25 (f := .glo "ring_of") rfl), FD_ring_of.kp, FD_ring_of.bindsN (fun _ _ _ _ _ _ us hl => match us, hl with | [_, _], _ => rfl)⟩, ⟨He.ga K "bars_of", fd_bars_of, ["tellings"], rfl, fn_ok (tbl := tbl) (fi := 46) FD_bars_of sc_bars_of rfl rfl (fun _ _ _ _ _ _ _ cq => jb_bars_of T G cq), He.glo_ok X Gh (c.fact 26 (f := .glo "bars_of") rfl), FD_bars_of.kp, FD_bars_of.bindsN (fun _ _ _ _ _ _ us hl => match us, hl with | [_], _ => rfl)⟩, ⟨He.ga K "words_of", fd_words_of, ["tellings"], rfl, fn_ok (tbl := tbl) (fi := 47) FD_words_of sc_words_of rfl rfl (fun _ _ _ _ _ _ _ cq => jb_words_of T G cq), He.glo_ok X Gh (c.fact 27 (f := .glo "words_of") rfl), FD_words_of.kp, FD_words_of.bindsN (fun _ _ _ _ _ _ us hl => match us, hl with | [_], _ => rfl)⟩, ⟨He.ga K "paper_of", fd_paper_of, ["tellings"], rfl, fn_ok (tbl := tbl) (fi := 126) FD_paper_of sc_paper_of rfl rfl (fun _ _ _ _ _ _ _ cq => jb_paper_of T G cq), He.glo_ok X Gh (c.fact 28 (f := .glo "paper_of") rfl), FD_paper_of.kp, FD_paper_of.bindsN (fun _ _ _ _ _ _ us hl => match us, hl with | [_], _ => rfl)⟩, ⟨He.ga K "is_step", fd_is_step, ["thing"], rfl, fn_ok (tbl := tbl) (fi := 127) FD_is_step sc_is_step rfl rfl (fun _ _ _ _ _ _ _ cq => jb_is_step T G cq), He.glo_ok X Gh (c.fact 29 (f := .glo "is_step") rfl), FD_is_step.kp, FD_is_step.bindsN (fun _ _ _ _ _ _ us hl => match us, hl with | [_], _ => rfl)⟩, ⟨He.ga K "is_row", fd_is_row, ["thing"], rfl, fn_ok (tbl := tbl) (fi := 128) FD_is_row sc_is_row rfl rfl (fun _ _ _ _ _ _ _ cq => jb_is_row T G cq), He.glo_ok X Gh (c.fact 30 (f := .glo "is_row") rfl), FD_is_row.kp, FD_is_row.bindsN (fun _ _ _ _ _ _ us hl => match us, hl with | [_], _ => rfl)⟩, ⟨He.ga K "is_sheet", fd_is_sheet, ["thing"], rfl, fn_ok (tbl := tbl) (fi := 129) FD_is_sheet sc_is_sheet rfl rfl (fun _ _ _ _ _ _ _ cq => jb_is_sheet T G cq), He.glo_ok X Gh (c.fact 31 (f := .glo "is_sheet") rfl), FD_is_sheet.kp, FD_is_sheet.bindsN (fun _ _ _ _ _ _ us hl => match us, hl with | [_], _ => rfl)⟩, ⟨He.ga K "scales_along", fd_scales_along, ["rows", "start", "road"], rfl, fn_ok (tbl := tbl) (fi := 156) FD_scales_along sc_scales_along rfl rfl (fun _ _ _ _ _ _ _ cq => jb_scales_along T G cq), He.glo_ok X Gh (c.fact 32 (f := .glo "scales_along") rfl), FD_scales_along.kp, FD_scales_along.bindsN (fun _ _ _ _ _ _ us hl => match us, hl with | [_, _, _], _ => rfl)⟩, ⟨He.ga K "row_holds", fd_row_holds, ["ties", "telling", "row"], rfl, fn_ok (tbl := tbl) (fi := 157) FD_row_holds sc_row_holds rfl rfl (fun _ _ _ _ _ _ _ cq => jb_row_holds T G cq), He.glo_ok X Gh (c.fact 33 (f := .glo "row_holds") rfl), FD_row_holds.kp, FD_row_holds.bindsN (fun _ _ _ _ _ _ us hl => match us, hl with | [_, _, _], _ => rfl)⟩, ⟨He.ga K "holds", fd_holds, ["tellings", "paper"], rfl, fn_ok (tbl := tbl) (fi := 158) FD_holds sc_holds rfl rfl (fun _ _ _ _ _ _ _ cq => jb_holds T G cq), He.glo_ok X Gh (c.fact 34 (f := .glo "holds") rfl), FD_holds.kp, FD_holds.bindsN (fun _ _ _ _ _ _ us hl => match us, hl with | [_, _], _ => rfl)⟩, ⟨He.ga K "_law_start", fd__law_start, ["_law_script"], rfl, fn_ok (tbl := tbl) (fi := 4) FD__law_start sc__law_start rfl rfl (fun _ _ _ _ _ _ _ cq => jb__law_start T G cq), He.glo_ok X Gh (c.fact 35 (f := .glo "_law_start") rfl), FD__law_start.kp, FD__law_start.bindsN (fun _ _ _ _ _ _ us hl => match us, hl with | [_], _ => rfl)⟩, ⟨He.ga K "_law_draw", fd__law_draw, ["_law_state", "_law_lot"], rfl, fn_ok (tbl := tbl) (fi := 6) FD__law_draw sc__law_draw rfl rfl (fun _ _ _ _ _ _ _ cq => jb__law_draw T G cq), He.glo_ok X Gh (c.fact 36 (f := .glo "_law_draw") rfl), FD__law_draw.kp, FD__law_draw.bindsN (fun _ _ _ _ _ _ us hl => match us, hl with | [_, _], _ => rfl)⟩, ⟨He.ga K "_law_mix", fd__law_mix, ["_law_state"], rfl, fn_ok (tbl := tbl) (fi := 5) FD__law_mix sc__law_mix rfl rfl (fun _ _ _ _ _ _ _ cq => jb__law_mix T G cq), He.glo_ok X Gh (c.fact 37 (f := .glo "_law_mix") rfl), FD__law_mix.kp, FD__law_mix.bindsN (fun _ _ _ _ _ _ us hl => match us, hl with | [_], _ => rfl)⟩, ⟨He.ga K "_law_same", fd__law_same, ["_law_found", "_law_want"], rfl, fn_ok (tbl := tbl) (fi := 7) FD__law_same sc__law_same rfl rfl (fun _ _ _ _ _ _ _ cq => jb__law_same T G cq), He.glo_ok X Gh (c.fact 38 (f := .glo "_law_same") rfl), FD__law_same.kp, FD__law_same.bindsN (fun _ _ _ _ _ _ us hl => match us, hl with | [_, _], _ => rfl)⟩, ⟨He.ga K "_law_number", fd__law_number, ["_law_state"], rfl, fn_ok (tbl := tbl) (fi := 139) FD__law_number sc__law_number rfl rfl (fun _ _ _ _ _ _ _ cq => jb__law_number T G cq), He.glo_ok X Gh (c.fact 39 (f := .glo "_law_number") rfl), FD__law_number.kp, FD__law_number.bindsN (fun _ _ _ _ _ _ us hl => match us, hl with | [_], _ => rfl)⟩, ⟨He.ga K "_law_lead", fd__law_lead, ["_law_state"], rfl, fn_ok (tbl := tbl) (fi := 140) FD__law_lead sc__law_lead rfl rfl (fun _ _ _ _ _ _ _ cq => jb__law_lead T G cq), He.glo_ok X Gh (c.fact 40 (f := .glo "_law_lead") rfl), FD__law_lead.kp, FD__law_lead.bindsN (fun _ _ _ _ _ _ us hl => match us, hl with | [_], _ => rfl)⟩, ⟨He.ga K "_law_rows", fd__law_rows, ["_law_state"], rfl, fn_ok (tbl := tbl) (fi := 141) FD__law_rows sc__law_rows rfl rfl (fun _ _ _ _ _ _ _ cq => jb__law_rows T G cq), He.glo_ok X Gh (c.fact 41 (f := .glo "_law_rows") rfl), FD__law_rows.kp, FD__law_rows.bindsN (fun _ _ _ _ _ _ us hl => match us, hl with | [_], _ => rfl)⟩, ⟨He.ga K "_law_quotients", fd__law_quotients, ["_law_here", "_law_there"], rfl, fn_ok (tbl := tbl) (fi := 168) FD__law_quotients sc__law_quotients rfl rfl (fun _ _ _ _ _ _ _ cq => jb__law_quotients T G cq), He.glo_ok X Gh (c.fact 42 (f := .glo "_law_quotients") rfl), FD__law_quotients.kp, FD__law_quotients.bindsN (fun _ _ _ _ _ _ us hl => match us, hl with | [_, _], _ => rfl)⟩, ⟨He.ga K "_law_fractions", fd__law_fractions, ["_law_state"], rfl, fn_ok (tbl := tbl) (fi := 169) FD__law_fractions sc__law_fractions rfl rfl (fun _ _ _ _ _ _ _ cq => jb__law_fractions T G cq), He.glo_ok X Gh (c.fact 43 (f := .glo "_law_fractions") rfl), FD__law_fractions.kp, FD__law_fractions.bindsN (fun _ _ _ _ _ _ us hl => match us, hl with | [_], _ => rfl)⟩, ⟨He.ga K "_law_roads", fd__law_roads, ["_law_rows_here", "_law_here", "_law_there"], rfl, fn_ok (tbl := tbl) (fi := 170) FD__law_roads sc__law_roads rfl rfl (fun _ _ _ _ _ _ _ cq => jb__law_roads T G cq), He.glo_ok X Gh (c.fact 44 (f := .glo "_law_roads") rfl), FD__law_roads.kp, FD__law_roads.bindsN (fun _ _ _ _ _ _ us hl => match us, hl with | [_, _, _], _ => rfl)⟩, ⟨He.ga K "_law_rings", fd__law_rings, ["_law_rows_here", "_law_label"], rfl, fn_ok (tbl := tbl) (fi := 171) FD__law_rings sc__law_rings rfl rfl (fun _ _ _ _ _ _ _ cq => jb__law_rings T G cq), He.glo_ok X Gh (c.fact 45 (f := .glo "_law_rings") rfl), FD__law_rings.kp, FD__law_rings.bindsN (fun _ _ _ _ _ _ us hl => match us, hl with | [_, _], _ => rfl)⟩, ⟨He.ga K "law", fd_law, ["_law_script"], rfl, fn_ok (tbl := tbl) (fi := 173) FD_law sc_law rfl rfl (fun _ _ _ _ _ _ _ cq => jb_law T G cq), He.glo_ok X Gh (c.fact 46 (f := .glo "law") rfl), FD_law.kp, FD_law.bindsN (fun _ _ _ _ _ _ us hl => match us, hl with | [_], _ => rfl)⟩, (by
      obtain ⟨ds, v, b⟩ := FD_fraction_of.binds1 (ps := ["top", "bottom"]) 1 0 (List.cons_ne_nil _ _) rfl (fun _ _ _ _ _ _ _ us its hl hi => match us, hl, its, hi with | [_], _, [_], _ => ⟨_, rfl, rfl⟩)
      exact ⟨ds, v, ⟨He.ga K "fraction_of", fd_fraction_of, ["top", "bottom"], rfl, fn_ok (tbl := tbl) (fi := 15) FD_fraction_of sc_fraction_of rfl rfl (fun _ _ _ _ _ _ _ cq => jb_fraction_of T G cq), He.glo_ok X Gh (c.fact 1 (f := .glo "fraction_of") rfl), FD_fraction_of.kp, b⟩⟩), ⟨⟨He.ga K "over_of", fd_over_of, ["one", "other"], [], rfl, fn_ok (tbl := tbl) (fi := 19) FD_over_of sc_over_of rfl rfl (fun _ _ _ _ _ _ _ cq => jb_over_of T G cq), He.glo_ok X Gh (c.fact 5 (f := .glo "over_of") rfl), FD_over_of.kp, kbnN FD_over_of 0 ["other", "one"] [1, 0] (fun _ _ _ _ _ _ us ws l1 l2 => match us, l1, ws, l2 with | [], _, [_, _], _ => rfl)⟩⟩, (by
      obtain ⟨dus, kb⟩ := kbnD (ps := ["top", "bottom"]) FD_fraction_of 0 ["bottom", "top"] [1, 0] 1 (List.cons_ne_nil _ _) (fun _ _ _ _ _ _ _ us its ws l1 l2 l3 => match us, l1, its, l2, ws, l3 with | [], _, [_], _, [_, _], _ => ⟨_, rfl, rfl⟩)
      exact ⟨⟨He.ga K "fraction_of", fd_fraction_of, ["top", "bottom"], dus, rfl, fn_ok (tbl := tbl) (fi := 15) FD_fraction_of sc_fraction_of rfl rfl (fun _ _ _ _ _ _ _ cq => jb_fraction_of T G cq), He.glo_ok X Gh (c.fact 1 (f := .glo "fraction_of") rfl), FD_fraction_of.kp, kb⟩⟩), (by
      obtain ⟨dus, kb⟩ := kbnD (ps := ["top", "bottom"]) FD_fraction_of 0 ["top"] [0] 0 (List.cons_ne_nil _ _) (fun _ _ _ _ _ _ _ us its ws l1 l2 l3 => match us, l1, its, l2, ws, l3 with | [], _, [_], _, [_], _ => ⟨_, rfl, rfl⟩)
      exact ⟨⟨He.ga K "fraction_of", fd_fraction_of, ["top", "bottom"], dus, rfl, fn_ok (tbl := tbl) (fi := 15) FD_fraction_of sc_fraction_of rfl rfl (fun _ _ _ _ _ _ _ cq => jb_fraction_of T G cq), He.glo_ok X Gh (c.fact 1 (f := .glo "fraction_of") rfl), FD_fraction_of.kp, kb⟩⟩), (by
      obtain ⟨dus, kb⟩ := kbnD (ps := ["top", "bottom"]) FD_fraction_of 1 ["bottom"] [0, 1] 1 (List.cons_ne_nil _ _) (fun _ _ _ _ _ _ _ us its ws l1 l2 l3 => match us, l1, its, l2, ws, l3 with | [_], _, [_], _, [_], _ => ⟨_, rfl, rfl⟩)
      exact ⟨⟨He.ga K "fraction_of", fd_fraction_of, ["top", "bottom"], dus, rfl, fn_ok (tbl := tbl) (fi := 15) FD_fraction_of sc_fraction_of rfl rfl (fun _ _ _ _ _ _ _ cq => jb_fraction_of T G cq), He.glo_ok X Gh (c.fact 1 (f := .glo "fraction_of") rfl), FD_fraction_of.kp, kb⟩⟩), ⟨⟨He.ga K "plus_of", fd_plus_of, ["one", "other"], [], rfl, fn_ok (tbl := tbl) (fi := 16) FD_plus_of sc_plus_of rfl rfl (fun _ _ _ _ _ _ _ cq => jb_plus_of T G cq), He.glo_ok X Gh (c.fact 2 (f := .glo "plus_of") rfl), FD_plus_of.kp, kbnN FD_plus_of 0 ["other", "one"] [1, 0] (fun _ _ _ _ _ _ us ws l1 l2 => match us, l1, ws, l2 with | [], _, [_, _], _ => rfl)⟩⟩, ⟨⟨He.ga K "less_of", fd_less_of, ["one", "other"], [], rfl, fn_ok (tbl := tbl) (fi := 17) FD_less_of sc_less_of rfl rfl (fun _ _ _ _ _ _ _ cq => jb_less_of T G cq), He.glo_ok X Gh (c.fact 3 (f := .glo "less_of") rfl), FD_less_of.kp, kbnN FD_less_of 0 ["other", "one"] [1, 0] (fun _ _ _ _ _ _ us ws l1 l2 => match us, l1, ws, l2 with | [], _, [_, _], _ => rfl)⟩⟩, ⟨⟨He.ga K "times_of", fd_times_of, ["one", "other"], [], rfl, fn_ok (tbl := tbl) (fi := 18) FD_times_of sc_times_of rfl rfl (fun _ _ _ _ _ _ _ cq => jb_times_of T G cq), He.glo_ok X Gh (c.fact 4 (f := .glo "times_of") rfl), FD_times_of.kp, kbnN FD_times_of 0 ["other", "one"] [1, 0] (fun _ _ _ _ _ _ us ws l1 l2 => match us, l1, ws, l2 with | [], _, [_, _], _ => rfl)⟩⟩, ⟨⟨He.ga K "is_below", fd_is_below, ["one", "other"], [], rfl, fn_ok (tbl := tbl) (fi := 76) FD_is_below sc_is_below rfl rfl (fun _ _ _ _ _ _ _ cq => jb_is_below T G cq), He.glo_ok X Gh (c.fact 6 (f := .glo "is_below") rfl), FD_is_below.kp, kbnN FD_is_below 0 ["other", "one"] [1, 0] (fun _ _ _ _ _ _ us ws l1 l2 => match us, l1, ws, l2 with | [], _, [_, _], _ => rfl)⟩⟩, ⟨⟨He.ga K "is_move", fd_is_move, ["thing"], [], rfl, fn_ok (tbl := tbl) (fi := 138) FD_is_move sc_is_move rfl rfl (fun _ _ _ _ _ _ _ cq => jb_is_move T G cq), He.glo_ok X Gh (c.fact 9 (f := .glo "is_move") rfl), FD_is_move.kp, kbnN FD_is_move 0 ["thing"] [0] (fun _ _ _ _ _ _ us ws l1 l2 => match us, l1, ws, l2 with | [], _, [_], _ => rfl)⟩⟩, ⟨⟨He.ga K "read_by", fd_read_by, ["move", "value"], [], rfl, fn_ok (tbl := tbl) (fi := 21) FD_read_by sc_read_by rfl rfl (fun _ _ _ _ _ _ _ cq => jb_read_by T G cq), He.glo_ok X Gh (c.fact 11 (f := .glo "read_by") rfl), FD_read_by.kp, kbnN FD_read_by 0 ["value", "move"] [1, 0] (fun _ _ _ _ _ _ us ws l1 l2 => match us, l1, ws, l2 with | [], _, [_, _], _ => rfl)⟩⟩, ⟨⟨He.ga K "stretch_by", fd_stretch_by, ["move", "value"], [], rfl, fn_ok (tbl := tbl) (fi := 20) FD_stretch_by sc_stretch_by rfl rfl (fun _ _ _ _ _ _ _ cq => jb_stretch_by T G cq), He.glo_ok X Gh (c.fact 10 (f := .glo "stretch_by") rfl), FD_stretch_by.kp, kbnN FD_stretch_by 0 ["value", "move"] [1, 0] (fun _ _ _ _ _ _ us ws l1 l2 => match us, l1, ws, l2 with | [], _, [_, _], _ => rfl)⟩⟩, ⟨⟨He.ga K "move_then", fd_move_then, ["one", "other"], [], rfl, fn_ok (tbl := tbl) (fi := 22) FD_move_then sc_move_then rfl rfl (fun _ _ _ _ _ _ _ cq => jb_move_then T G cq), He.glo_ok X Gh (c.fact 12 (f := .glo "move_then") rfl), FD_move_then.kp, kbnN FD_move_then 0 ["other", "one"] [1, 0] (fun _ _ _ _ _ _ us ws l1 l2 => match us, l1, ws, l2 with | [], _, [_, _], _ => rfl)⟩⟩, ⟨⟨He.ga K "move_back", fd_move_back, ["move"], [], rfl, fn_ok (tbl := tbl) (fi := 23) FD_move_back sc_move_back rfl rfl (fun _ _ _ _ _ _ _ cq => jb_move_back T G cq), He.glo_ok X Gh (c.fact 13 (f := .glo "move_back") rfl), FD_move_back.kp, kbnN FD_move_back 0 ["move"] [0] (fun _ _ _ _ _ _ us ws l1 l2 => match us, l1, ws, l2 with | [], _, [_], _ => rfl)⟩⟩, ⟨⟨He.ga K "road_of", fd_road_of, ["tellings", "start", "end"], [], rfl, fn_ok (tbl := tbl) (fi := 43) FD_road_of sc_road_of rfl rfl (fun _ _ _ _ _ _ _ cq => jb_road_of T G cq), He.glo_ok X Gh (c.fact 22 (f := .glo "road_of") rfl), FD_road_of.kp, kbnN FD_road_of 0 ["end", "start", "tellings"] [2, 1, 0] (fun _ _ _ _ _ _ us ws l1 l2 => match us, l1, ws, l2 with | [], _, [_, _, _], _ => rfl)⟩⟩, ⟨⟨He.ga K "move_of", fd_move_of, ["tellings", "start", "end"], [], rfl, fn_ok (tbl := tbl) (fi := 45) FD_move_of sc_move_of rfl rfl (fun _ _ _ _ _ _ _ cq => jb_move_of T G cq), He.glo_ok X Gh (c.fact 24 (f := .glo "move_of") rfl), FD_move_of.kp, kbnN FD_move_of 0 ["end", "tellings", "start"] [1, 2, 0] (fun _ _ _ _ _ _ us ws l1 l2 => match us, l1, ws, l2 with | [], _, [_, _, _], _ => rfl)⟩⟩, ⟨⟨He.ga K "ring_of", fd_ring_of, ["tellings", "name"], [], rfl, fn_ok (tbl := tbl) (fi := 52) FD_ring_of sc_ring_of rfl rfl (fun _ _ _ _ _ _ _ cq => jb_ring_of T G cq), He.glo_ok X Gh (c.fact 25 (f := .glo "ring_of") rfl), FD_ring_of.kp, kbnN FD_ring_of 0 ["name", "tellings"] [1, 0] (fun _ _ _ _ _ _ us ws l1 l2 => match us, l1, ws, l2 with | [], _, [_, _], _ => rfl)⟩⟩, ⟨⟨He.ga K "order_of", fd_order_of, ["tellings"], [], rfl, fn_ok (tbl := tbl) (fi := 33) FD_order_of sc_order_of rfl rfl (fun _ _ _ _ _ _ _ cq => jb_order_of T G cq), He.glo_ok X Gh (c.fact 15 (f := .glo "order_of") rfl), FD_order_of.kp, kbnN FD_order_of 0 ["tellings"] [0] (fun _ _ _ _ _ _ us ws l1 l2 => match us, l1, ws, l2 with | [], _, [_], _ => rfl)⟩⟩, ⟨⟨He.ga K "ties_of", fd_ties_of, ["tellings"], [], rfl, fn_ok (tbl := tbl) (fi := 56) FD_ties_of sc_ties_of rfl rfl (fun _ _ _ _ _ _ _ cq => jb_ties_of T G cq), He.glo_ok X Gh (c.fact 18 (f := .glo "ties_of") rfl), FD_ties_of.kp, kbnN FD_ties_of 0 ["tellings"] [0] (fun _ _ _ _ _ _ us ws l1 l2 => match us, l1, ws, l2 with | [], _, [_], _ => rfl)⟩⟩, ⟨⟨He.ga K "words_of", fd_words_of, ["tellings"], [], rfl, fn_ok (tbl := tbl) (fi := 47) FD_words_of sc_words_of rfl rfl (fun _ _ _ _ _ _ _ cq => jb_words_of T G cq), He.glo_ok X Gh (c.fact 27 (f := .glo "words_of") rfl), FD_words_of.kp, kbnN FD_words_of 0 ["tellings"] [0] (fun _ _ _ _ _ _ us ws l1 l2 => match us, l1, ws, l2 with | [], _, [_], _ => rfl)⟩⟩, ⟨⟨He.ga K "paper_of", fd_paper_of, ["tellings"], [], rfl, fn_ok (tbl := tbl) (fi := 126) FD_paper_of sc_paper_of rfl rfl (fun _ _ _ _ _ _ _ cq => jb_paper_of T G cq), He.glo_ok X Gh (c.fact 28 (f := .glo "paper_of") rfl), FD_paper_of.kp, kbnN FD_paper_of 0 ["tellings"] [0] (fun _ _ _ _ _ _ us ws l1 l2 => match us, l1, ws, l2 with | [], _, [_], _ => rfl)⟩⟩, ⟨⟨He.ga K "holds", fd_holds, ["tellings", "paper"], [], rfl, fn_ok (tbl := tbl) (fi := 158) FD_holds sc_holds rfl rfl (fun _ _ _ _ _ _ _ cq => jb_holds T G cq), He.glo_ok X Gh (c.fact 34 (f := .glo "holds") rfl), FD_holds.kp, kbnN FD_holds 0 ["paper", "tellings"] [1, 0] (fun _ _ _ _ _ _ us ws l1 l2 => match us, l1, ws, l2 with | [], _, [_, _], _ => rfl)⟩⟩, xc_NoBottom, xc_NoTelling, xc_NotJoined⟩
theorem law_fn {P : Program} {w : World} {K : PySem.W.Frag} {h : Heap} {mg : Str → Option Value} {fa : Addr} (X : K.In h) (Gh : h.Ns mainGlobals mg) (hlw : mg ("law" : Str) = some (.ref fa)) (c : He.SaysD hfa hfn K) (e : hex K = true) :
    ∃ fd : FuncData, (∀ (s : Shared) (v : Value), BindsTo s fd ⟨[v], []⟩ [("_law_script", v)]) ∧ ∀ base : Heap, K.In base → base.Ns mainGlobals mg → (∀ p ∈ tabCs K, LamX.TabB base mg p.1 p.2) → FnOk P w K mg base (L2N.CX P w) (LV + 3) fa fd ["_law_script"] (spF ⟨K, [], P, w⟩ mg (call tbl LV) 173 1) := by
  obtain ⟨fd, F⟩ := c.def_ 46 (d := d_law) rfl
  have ee := hlw.symm.trans (He.glo_ok X Gh (c.fact 46 (f := .glo "law") rfl))
  cases ee
  have b := FunD.bindsA (ps := ["_law_script"]) F fun _ _ _ _ _ _ us hl => match us, hl with | [_], _ => rfl
  exact ⟨fd, fun s v => b s [v] rfl, fun base _ _ TB => fn_ok (tbl := tbl) (fi := 173) F sc_law rfl rfl (fun _ _ _ _ _ _ _ cq => jb_law (fcts X Gh c e) (all_ok X Gh c e TB _) cq)⟩
end Sb
set_option Elab.async false
set_option linter.all false
set_option maxRecDepth 100000
set_option maxHeartbeats 4000000
namespace Sb
open PySem
/-- all but the places S is as it was -/
structure Fr (S : List Nat) (h h' : PH) : Prop where
  len : h.length ≤ h'.length
  at_ : ∀ n, n ∉ S → n < h.length → h'[n]? = h[n]?
theorem Fr.refl (S : List Nat) (h : PH) : Fr S h h := ⟨Nat.le_refl _, fun _ _ _ => rfl⟩
theorem Fr.trans {S : List Nat} {h1 h2 h3 : PH} (a : Fr S h1 h2) (b : Fr S h2 h3) : Fr S h1 h3 := ⟨Nat.le_trans a.len b.len, fun n hn hl => (b.at_ n hn (Nat.lt_of_lt_of_le hl a.len)).trans (a.at_ n hn hl)⟩
theorem Fr.set {S : List Nat} {h : PH} {n : Nat} {o : PO} (m : n ∈ S) : Fr S h (h.set n o) := ⟨by rw [List.length_set]; exact Nat.le_refl _, fun k hk _ => by
  rw [List.getElem?_set_ne]
  rintro rfl
  exact hk m⟩
theorem Fr.app {S : List Nat} {h t : PH} : Fr S h (h ++ t) := ⟨by simp, fun k _ hl => List.getElem?_append_left hl⟩
theorem Fr.some {S : List Nat} {h h' : PH} (f : Fr S h h') {n : Nat} {o : PO} (hn : n ∉ S) (e : h[n]? = some o) : h'[n]? = some o := (f.at_ n hn (List.getElem?_eq_some_iff.mp e).1).trans e
theorem Fr.mono {S S' : List Nat} {h h' : PH} (f : Fr S h h') (hs : ∀ n ∈ S, n ∈ S') : Fr S' h h' := ⟨f.len, fun n hn hl => f.at_ n (fun z => hn (hs n z)) hl⟩
/-- the state of the draws: s the state's list, g the great numbers left, c the cells; at most B mixes were made -/
structure St (h : PH) (s g c B : Nat) : Prop where
  ex : ∃ (gr : List Int) (cur : Int) (cs : List Int) (cnt : Int), h[s]? = some (.lst [.ref g, .int cur, .ref c, .int cnt]) ∧ h[g]? = some (.lst (gr.map PV.int)) ∧ h[c]? = some (.lst (cs.map PV.int)) ∧
    (∀ x ∈ gr, 0 < x) ∧ (∀ x ∈ cs, 0 ≤ x ∧ x < 2147483587) ∧ cs.length ≤ 1000000 ∧ 0 ≤ cur ∧ 0 ≤ cnt ∧ cnt ≤ (B : Int)
  sg : s ≠ g
  sc : s ≠ c
  gc : g ≠ c
theorem St.frame {h h' : PH} {s g c B : Nat} {S : List Nat} (st : St h s g c B) (f : Fr S h h') (h1 : s ∉ S) (h2 : g ∉ S) (h3 : c ∉ S) : St h' s g c B := by
  obtain ⟨gr, cur, cs, cnt, e1, e2, e3, r⟩ := st.ex
  exact ⟨⟨gr, cur, cs, cnt, f.some h1 e1, f.some h2 e2, f.some h3 e3, r⟩, st.sg, st.sc, st.gc⟩
theorem St.app {h t : PH} {s g c B : Nat} (st : St h s g c B) : St (h ++ t) s g c B := st.frame (S := []) Fr.app (by simp) (by simp) (by simp)
theorem St.up {h : PH} {s g c B B' : Nat} (st : St h s g c B) (hb : B ≤ B') : St h s g c B' := by
  obtain ⟨gr, cur, cs, cnt, e1, e2, e3, r1, r2, r3, r4, r5, r6⟩ := st.ex
  exact ⟨⟨gr, cur, cs, cnt, e1, e2, e3, r1, r2, r3, r4, r5, by omega⟩, st.sg, st.sc, st.gc⟩
theorem set_at {h : PH} {n : Nat} {o o' : PO} (e : h[n]? = some o) : (h.set n o')[n]? = some o' := List.getElem?_set_self (List.getElem?_eq_some_iff.mp e).1
theorem set_ne' {h : PH} {n m : Nat} {o : PO} (e : n ≠ m) : (h.set n o)[m]? = h[m]? := List.getElem?_set_ne e
section
variable {tbl : Nat → Fn}
theorem mix_sat (h5 : tbl 5 = F_law_mix) {k : Nat} {h : PH} {s g c B : Nat} (st : St h s g c B) (hB : B + 1 ≤ 2 ^ 20) {Q : PV → PH → Prop}
    (q : ∀ r h', 0 ≤ r → r < 1000000007 → St h' s g c (B + 1) → Fr [s, g] h h' → h'.length = h.length → Q (.int r) h') : (call tbl (k + 1) 5 [.ref s] h).Sat Q := by
  rw [call_succ, h5]
  obtain ⟨gr, cur, cs, cnt, e1, e2, e3, r1, r2, r3, r4, r5, r6⟩ := st.ex
  refine fn_sat rfl ?_
  have hn : h.set s (.lst [.ref g, .int cur, .ref c, .int (cnt + 1)]) = h.set s (.lst [.ref g, .int cur, .ref c, .int (cnt + 1)]) := rfl
  generalize eh : h.set s (.lst [.ref g, .int cur, .ref c, .int (cnt + 1)]) = h1 at hn
  have f1 : h1[s]? = some (.lst [.ref g, .int cur, .ref c, .int (cnt + 1)]) := by rw [← eh]; exact set_at e1
  have f2 : h1[g]? = some (.lst (gr.map PV.int)) := by rw [← eh, set_ne' st.sg]; exact e2
  have f3 : h1[c]? = some (.lst (cs.map PV.int)) := by rw [← eh, set_ne' st.sc]; exact e3
  have st1 : St h1 s g c (B + 1) := ⟨⟨gr, cur, cs, cnt + 1, f1, f2, f3, r1, r2, r3, r4, by omega, by omega⟩, st.sg, st.sc, st.gc⟩
  have fr1 : Fr [s, g] h h1 := by rw [← eh]; exact Fr.set (by simp)
  have i3 : idxop (.ref s) (.int 3) h1 = .ok (.int (cnt + 1)) h1 := idx_ref f1 rfl
  have i2 : idxop (.ref s) (.int 2) h1 = .ok (.ref c) h1 := idx_ref f1 rfl
  -- the sum's end, whatever the cell is
  have fin_ : ∀ cell : Int, 0 ≤ cell → cell < 2147483587 → (exSs (call tbl k) [.asg (.nm 3) (.bin .Mod (.bin .Pow (.bin .Add (.bin .Add (.bin .Add (.var 2) (.bin .Mult (.bin .Mult (.lit (.int 769)) (.var 1)) (.var 1))) (.bin .Mult (.lit (.int 52361)) (.var 1))) (.lit (.int 23))) (.lit (.int 5))) (.lit (.int 2147483647))),
      .ret (.bin .Mod (.bin .Add (.bin .Mult (.var 3) (.lit (.int 48271))) (.bin .Mult (.lit (.int 6007)) (.var 1))) (.lit (.int 1000000007)))] [some (.ref s), some (.int (cnt + 1)), some (.int cell), none] h1).Sat (fun _ h => Q .non h) Q := by
    intro cell c0 c1
    have b20 : cnt + 1 ≤ 2 ^ 20 := by omega
    have m1 : mulOk 769 (cnt + 1) = true := mul_ok (a := 10) (b := 21) (by decide) (by omega) (by decide) (by decide) (by decide)
    have s1 : 769 * (cnt + 1) ≤ 769 * 2 ^ 20 := by omega
    have m2 : mulOk (769 * (cnt + 1)) (cnt + 1) = true := mul_ok (a := 31) (b := 21) (by omega) (by omega) (by decide) (by decide) (by decide)
    have m3 : mulOk 52361 (cnt + 1) = true := mul_ok (a := 16) (b := 21) (by decide) (by omega) (by decide) (by decide) (by decide)
    have s2 : 769 * (cnt + 1) * (cnt + 1) ≤ 769 * 2 ^ 20 * 2 ^ 20 := Int.mul_le_mul s1 b20 (by omega) (by omega)
    have s3 : 0 ≤ 769 * (cnt + 1) * (cnt + 1) := Int.mul_nonneg (by omega) (by omega)
    have p1 : powOk (cell + 769 * (cnt + 1) * (cnt + 1) + 52361 * (cnt + 1) + 23) 5 = true := by
      unfold powOk
      rw [decide_eq_true (show (cell + 769 * (cnt + 1) * (cnt + 1) + 52361 * (cnt + 1) + 23).natAbs < 2 ^ 64 by omega)]
      rfl
    generalize hx : (cell + 769 * (cnt + 1) * (cnt + 1) + 52361 * (cnt + 1) + 23) ^ 5 = x
    have md := Int.emod_lt_of_pos x (show (0 : Int) < 2147483647 by decide)
    have mn := Int.emod_nonneg x (show (2147483647 : Int) ≠ 0 by decide)
    have m4 : mulOk (x % 2147483647) 48271 = true := mul_ok (a := 31) (b := 16) (by omega) (by decide) (by decide) (by decide) (by decide)
    have m5 : mulOk 6007 (cnt + 1) = true := mul_ok (a := 13) (b := 21) (by decide) (by omega) (by decide) (by decide) (by decide)
    have e47 : (2147483647 : Int) ≠ 0 := by decide
    have e07 : (1000000007 : Int) ≠ 0 := by decide
    simp [x_cons, b_mul, b_mod, b_pow, m1, m2, m3, p1, hx, fmod_pos, m4, m5, e47, e07]
    exact q _ _ (Int.emod_nonneg _ (by decide)) (Int.emod_lt_of_pos _ (by decide)) st1 fr1 (by rw [← eh, List.length_set])
  have getl : getL (.ref s) (.int 3) h = .ok (.int cnt) h := by simp [getL, e1]
  have seto : setop (.ref s) (.int 3) (.int (cnt + 1)) h = some h1 := by simp [setop, e1, L2.ixN, eh]
  have tr : truthy h1 (.ref c) = some (!(cs.map PV.int).isEmpty) := tru_ref f3
  simp only [F_law_mix, startP, List.map, List.length, List.replicate, List.cons_append, List.nil_append]
  rw [x_cons, x_augs]
  simp [getl, seto]
  rw [x_cons]
  simp [i3]
  rw [x_cons]
  simp
  rw [x_cons]
  simp [i2, tr, x_cons]
  cases cs with
  | nil => simpa [x_cons] using fin_ 11 (by decide) (by decide)
  | cons y ys =>
    have ln : biF .len [.ref c] h1 = .ok (.int ((ys.length : Int) + 1)) h1 := by simp [biF, biLen, seqOf, f3]
    have hp : (0 : Int) < (ys.length : Int) + 1 := by omega
    have hi0 := Int.emod_nonneg (cnt + 1) (show ((ys.length : Int) + 1) ≠ 0 by omega)
    have hi1 := Int.emod_lt_of_pos (cnt + 1) hp
    obtain ⟨z, hz⟩ : ∃ z, (y :: ys)[((cnt + 1) % ((ys.length : Int) + 1)).toNat]? = some z := ⟨_, List.getElem?_eq_getElem (by rw [List.length_cons]; omega)⟩
    have iz : idxop (.ref c) (.int ((cnt + 1) % ((ys.length : Int) + 1))) h1 = .ok (.int z) h1 := idx_ref f3 (at_pos hi0 (by rw [List.getElem?_map, hz]; rfl))
    obtain ⟨z0, z1⟩ := r2 z (List.mem_of_getElem? hz)
    have md := b_mod (h := h1) (i := cnt + 1) (show ((ys.length : Int) + 1) ≠ 0 by omega)
    rw [fmod_pos hp] at md
    simp [ln, md, iz]
    simpa [x_cons] using fin_ z z0 z1
theorem M_pow (i : Nat) (h : i ≤ 7) : (1000000007 : Int) ^ i ≤ 1000000007 ^ 7 ∧ 1 ≤ (1000000007 : Int) ^ i := by
  match i, h with
  | 0, _ => decide
  | 1, _ => decide
  | 2, _ => decide
  | 3, _ => decide
  | 4, _ => decide
  | 5, _ => decide
  | 6, _ => decide
  | 7, _ => decide
theorem draw_sat (h5 : tbl 5 = F_law_mix) (h6 : tbl 6 = F_law_draw) {k : Nat} {h : PH} {s g c B : Nat} {m : Int} (st : St h s g c B) (hB : B + 8 ≤ 2 ^ 20) (m0 : 0 < m) (m1 : m ≤ 10 ^ 62) {Q : PV → PH → Prop}
    (q : ∀ r h', 0 ≤ r → r < m → St h' s g c (B + 8) → Fr [s, g] h h' → h'.length = h.length → Q (.int r) h') : (call tbl (k + 2) 6 [.ref s, .int m] h).Sat Q := by
  rw [call_succ, h6]
  refine fn_sat rfl ?_
  obtain ⟨gr, cur, cs, cnt, e1, e2, e3, r1, r2, r3, r4, r5, r6⟩ := st.ex
  have mz : m ≠ 0 := by omega
  have mb : m.natAbs < 2 ^ 207 := by
    have : (10 : Int) ^ 62 < 2 ^ 207 := by decide
    omega
  have md : divOk m = true := div_ok mz mb (by decide) (by decide)
  -- behind the first statement
  have rest : ∀ (gr : List Int) (cur : Int) (h1 : PH), h1[s]? = some (.lst [.ref g, .int cur, .ref c, .int cnt]) → h1[g]? = some (.lst (gr.map PV.int)) → h1[c]? = some (.lst (cs.map PV.int)) → (∀ x ∈ gr, 0 < x) → 0 ≤ cur → Fr [s, g] h h1 → h1.length = h.length →
      (exSs (call tbl (k + 1)) [.ifs (.cmp .Gt (.idx (.var 0) (.lit (.int 1))) (.lit (.int 0))) [.asg (.nm 2) (.bin .Mod (.idx (.var 0) (.lit (.int 1))) (.var 1)),
  .asg (.sub (.var 0) (.lit (.int 1))) (.bin .FloorDiv (.idx (.var 0) (.lit (.int 1))) (.var 1)),
  .ret (.var 2)] [],
  .asg (.nm 2) (.lit (.int 0)),
  .asg (.nm 3) (.lit (.int 1)),
  .whl (.cmp .Lt (.var 3) (.var 1)) [.asg (.nm 2) (.bin .Add (.bin .Mult (.var 2) (.lit (.int 1000000007))) (.call 5 [(.var 0)] [])),
  .asg (.nm 3) (.bin .Mult (.var 3) (.lit (.int 1000000007)))],
  .ret (.bin .Mod (.var 2) (.var 1))] [some (.ref s), some (.int m), none, none] h1).Sat (fun _ h => Q .non h) Q := by
    intro gr cur h1 e1 e2 e3 r1 r4 fr hl
    have st1 : St h1 s g c B := ⟨⟨gr, cur, cs, cnt, e1, e2, e3, r1, r2, r3, r4, r5, r6⟩, st.sg, st.sc, st.gc⟩
    have i1 : idxop (.ref s) (.int 1) h1 = .ok (.int cur) h1 := idx_ref e1 rfl
    by_cases hc : 0 < cur
    · have bm := b_mod (h := h1) (i := cur) mz
      have bd := b_fdiv (h := h1) (i := cur) md
      rw [fmod_pos m0] at bm
      rw [fdiv_pos m0] at bd
      have so : setop (.ref s) (.int 1) (.int (cur / m)) h1 = some (h1.set s (.lst [.ref g, .int (cur / m), .ref c, .int cnt])) := by simp [setop, e1, L2.ixN]
      simp [x_cons, i1, hc, bm, bd, so]
      refine q _ _ (Int.emod_nonneg _ mz) (Int.emod_lt_of_pos _ m0) ⟨⟨gr, cur / m, cs, cnt, set_at e1, ?_, ?_, r1, r2, r3, Int.ediv_nonneg r4 (by omega), r5, by omega⟩, st.sg, st.sc, st.gc⟩ (fr.trans (Fr.set (by simp))) (by rw [List.length_set, hl])
      · rw [set_ne' st.sg]; exact e2
      · rw [set_ne' st.sc]; exact e3
    · rw [x_cons]
      simp [i1, hc]
      rw [x_cons]
      simp
      rw [x_cons]
      simp
      rw [x_cons]
      obtain ⟨I, hI⟩ : ∃ I : Nat → Env → PH → Prop, I = fun n ρ h' => ∃ (i : Nat) (told : Int), n = 7 - i ∧ ρ = [some (.ref s), some (.int m), some (.int told), some (.int (1000000007 ^ i))] ∧ i ≤ 7 ∧ 0 ≤ told ∧ told < 1000000007 ^ i ∧ St h' s g c (B + i) ∧ Fr [s, g] h h' ∧ h'.length = h.length := ⟨_, rfl⟩
      refine x_whl I 7 (by rw [hI]; exact ⟨0, 0, rfl, rfl, by decide, by decide, by decide, st1, fr, hl⟩) ?_
      intro n ρ h2 hi
      rw [hI] at hi
      obtain ⟨i, told, rfl, rfl, i7, t0, t1, st2, fr2, hl2⟩ := hi
      obtain ⟨p1, p2⟩ := M_pow i i7
      by_cases hlt : (1000000007 : Int) ^ i < m
      · have i6 : i < 7 := by
          rcases Nat.lt_or_ge i 7 with z | z
          · exact z
          · have : i = 7 := by omega
            subst this
            have : (10 : Int) ^ 62 < 1000000007 ^ 7 := by decide
            omega
        have p7 : (1000000007 : Int) ^ 7 < 2 ^ 210 := by decide
        have k1 : mulOk told 1000000007 = true := mul_ok (a := 210) (b := 30) (by omega) (by decide) (by decide) (by decide) (by decide)
        have k2 : mulOk (1000000007 ^ i) 1000000007 = true := mul_ok (a := 210) (b := 30) (by omega) (by decide) (by decide) (by decide) (by decide)
        simp [hlt, b_mul, k1, x_cons]
        refine mix_sat h5 st2 (by omega) fun r h3 q1 q2 st3 fr3 hl3 => ?_
        simp [b_mul, k2]
        have ps : (1000000007 : Int) ^ (i + 1) = 1000000007 ^ i * 1000000007 := Int.pow_succ _ _
        refine ⟨7 - (i + 1), by omega, ?_⟩
        rw [hI]
        refine ⟨i + 1, told * 1000000007 + r, rfl, by rw [ps], by omega, by omega, ?_, st3, fr2.trans fr3, hl3.trans hl2⟩
        rw [ps]
        omega
      · simp [hlt]
        have bm := b_mod (h := h2) (i := told) mz
        rw [fmod_pos m0] at bm
        simp [bm, x_cons]
        exact q _ _ (Int.emod_nonneg _ mz) (Int.emod_lt_of_pos _ m0) (st2.up (by omega)) fr2 hl2
  have i0 : idxop (.ref s) (.int 0) h = .ok (.ref g) h := idx_ref e1 rfl
  have i1 : idxop (.ref s) (.int 1) h = .ok (.int cur) h := idx_ref e1 rfl
  have tr : truthy h (.ref g) = some (!(gr.map PV.int).isEmpty) := tru_ref e2
  simp only [F_law_draw, startP, List.map, List.length, List.replicate, List.cons_append, List.nil_append]
  rw [x_cons, x_if]
  simp [i1, i0, tr]
  by_cases hc : cur = 0
  · subst hc
    cases gr with
    | nil =>
      simp
      exact rest [] 0 h e1 e2 e3 (by simp) (by decide) (Fr.refl _ _) rfl
    | cons x xs =>
      have ty : tyOf h (.ref g) = some .list := by simp [tyOf, e2]
      have so : setop (.ref s) (.int 1) (.int x) (h.set g (.lst (xs.map PV.int))) = some ((h.set g (.lst (xs.map PV.int))).set s (.lst [.ref g, .int x, .ref c, .int cnt])) := by
        have : (h.set g (.lst (xs.map PV.int)))[s]? = some (.lst [.ref g, .int 0, .ref c, .int cnt]) := by rw [set_ne' (Ne.symm st.sg)]; exact e1
        simp [setop, this, L2.ixN]
      have pp : mtF .popAt (.ref g) [.int 0] h = .ok (.int x) (h.set g (.lst (xs.map PV.int))) := by simp [mtF, mtPopAt, e2]
      simp [i0, ty, MT.ty, pp, so]
      have q1 : ((h.set g (.lst (xs.map PV.int))).set s (.lst [.ref g, .int x, .ref c, .int cnt]))[s]? = some (.lst [.ref g, .int x, .ref c, .int cnt]) := set_at (o := .lst [.ref g, .int 0, .ref c, .int cnt]) (by rw [set_ne' (Ne.symm st.sg)]; exact e1)
      have q2 : ((h.set g (.lst (xs.map PV.int))).set s (.lst [.ref g, .int x, .ref c, .int cnt]))[g]? = some (.lst (xs.map PV.int)) := by rw [set_ne' st.sg]; exact set_at e2
      have q3 : ((h.set g (.lst (xs.map PV.int))).set s (.lst [.ref g, .int x, .ref c, .int cnt]))[c]? = some (.lst (cs.map PV.int)) := by rw [set_ne' st.sc, set_ne' st.gc]; exact e3
      exact rest xs x _ q1 q2 q3 (fun y hy => r1 y (List.mem_cons_of_mem _ hy)) (Int.le_of_lt (r1 x List.mem_cons_self)) ((Fr.set (by simp)).trans (Fr.set (by simp))) (by simp)
  · simp [hc]
    exact rest gr cur h e1 e2 e3 r1 r4 (Fr.refl _ _) rfl
end
end Sb
set_option Elab.async false
set_option linter.all false
set_option maxRecDepth 100000
set_option maxHeartbeats 4000000
namespace Sb
open PySem
theorem R.Sat.eq {α : Type} {m : R α} {x : α} {y : PH} (s : m.Sat fun a h => a = x ∧ h = y) : m = .ok x y := by
  obtain ⟨a, h, e, rfl, rfl⟩ := s.ex
  exact e
theorem stays_nil (h : PH) : stays [] h := fun p hp => by cases hp
section
variable {tbl : Nat → Fn}
theorem start_sat (h4 : tbl 4 = F_law_start) {k : Nat} {h : PH} {ns : List Int} (hn : ns.length ≤ 63) {Q : PV → PH → Prop}
    (q : ∀ h', St h' (h.length + 2) h.length (h.length + 1) 0 → Fr [] h h' → h'.length = h.length + 3 → Q (.ref (h.length + 2)) h') : (call tbl (k + 1) 4 [.cl (ns.map PV.int)] h).Sat Q := by
  rw [call_succ, h4]
  refine fn_sat rfl ?_
  simp only [F_law_start, startP, List.map, List.length, List.replicate, List.cons_append, List.nil_append]
  rw [x_cons, x_set]
  obtain ⟨I, hI⟩ : ∃ I : Nat → List PV → PH → Prop, I = fun i acc h' => h' = h ∧ ∃ gr : List Int, acc = gr.map PV.int ∧ (∀ x ∈ gr, 0 < x) ∧ gr.length ≤ i := ⟨_, rfl⟩
  refine v_compE (l := [.cl (ns.map PV.int)]) (h1 := h) (by simp) rfl I (by rw [hI]; exact ⟨rfl, [], rfl, by simp, Nat.le_refl _⟩) (fun i x acc h1 hx hi => ?_) (fun acc h1 hi => ?_)
  · rw [List.getElem?_map] at hx
    obtain ⟨y, hy, ex⟩ := Option.map_eq_some_iff.mp hx
    rw [hI] at hi
    obtain ⟨rfl, gr, rfl, g1, g2⟩ := hi
    subst ex
    have hi : i < 63 := by
      have := (List.getElem?_eq_some_iff.mp hy).1
      omega
    refine ⟨stays_nil _, [some (.cl (ns.map PV.int)), none, some (.int y)], rfl, ?_⟩
    have p1 : powOk 10 18 = true := by decide
    simp [b_pow, p1]
    by_cases hc : (1000000000000000000 : Int) ≤ y
    · refine .inr ⟨hc, line_small (by omega), ?_⟩
      rw [hI]
      refine ⟨rfl, gr ++ [y], by simp, fun z hz => ?_, by rw [List.length_append]; simp; omega⟩
      rcases List.mem_append.mp hz with z1 | z1
      · exact g1 z z1
      · rw [List.mem_singleton.mp z1]
        omega
    · refine .inl ⟨by omega, ?_⟩
      rw [hI]
      exact ⟨rfl, gr, rfl, g1, by omega⟩
  · rw [hI] at hi
    obtain ⟨rfl, gr, rfl, g1, g2⟩ := hi
    rw [List.length_map] at g2
    refine ⟨stays_nil _, line_small (by rw [List.length_map]; omega), ?_⟩
    simp
    obtain ⟨J, hJ⟩ : ∃ J : Nat → List PV → PH → Prop, J = fun i acc h' => h' = h1 ++ [.lst (gr.map PV.int)] ∧ ∃ cs : List Int, acc = cs.map PV.int ∧ (∀ x ∈ cs, 0 ≤ x ∧ x < 2147483587) ∧ cs.length ≤ i := ⟨_, rfl⟩
    refine v_compE (l := [.cl (ns.map PV.int)]) (h1 := h1 ++ [.lst (gr.map PV.int)]) (by simp) rfl J (by rw [hJ]; exact ⟨rfl, [], rfl, by simp, Nat.le_refl _⟩) (fun i x acc h2 hx hi => ?_) (fun acc h2 hi => ?_)
    · rw [List.getElem?_map] at hx
      obtain ⟨y, hy, ex⟩ := Option.map_eq_some_iff.mp hx
      rw [hJ] at hi
      obtain ⟨rfl, cs, rfl, c1, c2⟩ := hi
      subst ex
      have hi : i < 63 := by
        have := (List.getElem?_eq_some_iff.mp hy).1
        omega
      refine ⟨stays_nil _, [some (.cl (ns.map PV.int)), some (.ref h1.length), some (.int y)], rfl, ?_⟩
      have bm := b_mod (h := h1 ++ [.lst (gr.map PV.int)]) (i := y) (show (2147483587 : Int) ≠ 0 by decide)
      rw [fmod_pos (by decide)] at bm
      simp [bm]
      refine ⟨line_small (by omega), ?_⟩
      rw [hJ]
      refine ⟨rfl, cs ++ [y % 2147483587], by simp, fun z hz => ?_, by rw [List.length_append]; simp; omega⟩
      rcases List.mem_append.mp hz with z1 | z1
      · exact c1 z z1
      · rw [List.mem_singleton.mp z1]
        exact ⟨Int.emod_nonneg _ (by decide), Int.emod_lt_of_pos _ (by decide)⟩
    · rw [hJ] at hi
      obtain ⟨rfl, cs, rfl, c1, c2⟩ := hi
      rw [List.length_map] at c2
      refine ⟨stays_nil _, line_small (by rw [List.length_map]; omega), ?_⟩
      rw [alloc_small _ (by simp)]
      simp
      have e : (h1 ++ [PO.lst (gr.map PV.int), PO.lst (cs.map PV.int), PO.lst [.ref h1.length, .int 0, .ref (h1.length + 1), .int 0]]).length = h1.length + 3 := by simp
      refine q _ ⟨⟨gr, 0, cs, 0, by simp, by simp, by simp, g1, c1, by omega, by decide, by decide, by decide⟩, by omega, by omega, by omega⟩ Fr.app e
theorem gcd_step (a b : Nat) (hb : 0 < b) : Int.gcd (b : Int) ((a : Int) % (b : Int)) = Int.gcd (a : Int) (b : Int) := by
  have e : ((a : Int) % (b : Int)) = ((a % b : Nat) : Int) := by simp
  rw [e]
  show Nat.gcd _ _ = Nat.gcd _ _
  simp only [Int.natAbs_natCast]
  rw [Nat.gcd_comm b, ← Nat.gcd_rec, Nat.gcd_comm]
theorem common_eq (h0 : tbl 0 = F_common) {k : Nat} {h : PH} (a b : Int) : call tbl (k + 1) 0 [.int a, .int b] h = .ok (.int (Int.gcd a b : Nat)) h := by
  refine R.Sat.eq ?_
  rw [call_succ, h0]
  refine fn_sat rfl ?_
  simp only [F_common, startP, List.map, List.length, List.replicate, List.cons_append, List.nil_append]
  have ab : ∀ x : Int, biF .abs [.int x] h = .ok (.int (x.natAbs : Nat)) h := fun x => by
    show R.ok (PV.int (if x < 0 then -x else x)) h = _
    congr 2
    split <;> omega
  rw [x_cons]
  simp [ab, setAll]
  rw [x_cons]
  obtain ⟨I, hI⟩ : ∃ I : Nat → Env → PH → Prop, I = fun (n : Nat) (ρ : Env) h' => h' = h ∧ ∃ x : Nat, ρ = [some (.int (x : Nat)), some (.int (n : Nat))] ∧ Int.gcd x n = Int.gcd a b := ⟨_, rfl⟩
  refine x_whl I b.natAbs (by rw [hI]; exact ⟨rfl, a.natAbs, rfl, by simp [Int.gcd]⟩) ?_
  intro n ρ h2 hi
  rw [hI] at hi
  obtain ⟨rfl, x, rfl, g⟩ := hi
  by_cases hn : 0 < n
  · have bm := b_mod (h := h2) (i := (x : Int)) (show (n : Int) ≠ 0 by omega)
    rw [fmod_pos (by omega)] at bm
    simp [hn, bm, setAll]
    refine ⟨x % n, Nat.mod_lt _ hn, ?_⟩
    rw [hI]
    exact ⟨rfl, n, by simp, by rw [Int.natCast_emod, gcd_step x n hn]; exact g⟩
  · have : n = 0 := by omega
    subst this
    simp
    rw [← g]
    simp
/-- t over b in lowest terms, the bottom positive (b not nought) -/
def byOf (t b : Int) : Int := if b < 0 then -(Int.gcd t b : Nat) else (Int.gcd t b : Nat)
def lowP (t b : Int) : PV := .tup [.int (t.fdiv (byOf t b)), .int (b.fdiv (byOf t b))]
theorem byOf_ne {t b : Int} (hb : b ≠ 0) : byOf t b ≠ 0 := by
  have : Int.gcd t b ≠ 0 := fun z => hb (Int.gcd_eq_zero_iff.mp z).2
  unfold byOf
  split <;> omega
theorem byOf_le {t b : Int} (hb : b ≠ 0) : (byOf t b).natAbs ≤ b.natAbs := by
  have h1 : Int.gcd t b ∣ b.natAbs := by
    have := Int.natAbs_dvd_natAbs.mpr (Int.gcd_dvd_right t b)
    simpa using this
  have h2 := Nat.le_of_dvd (by omega) h1
  unfold byOf
  split <;> omega
end
end Sb
set_option Elab.async false
set_option linter.all false
set_option maxRecDepth 100000
set_option maxHeartbeats 4000000
namespace Sb
open PySem
/-- a comprehension with no condition, as a map -/
theorem v_mapE {C : Calls} {tg : List Nat} {one : TgK} {k : ITK} {its : List E} {own : List Nat} {a : E} {ρ : Env} {h h1 : PH} {Q : PV → PH → Prop} {l items : List PV} {kp : Keep} (e1 : evGs C its ρ h = .ok l h1) (e2 : walkF k l h1 = some (items, kp)) (f : PV → PV) (P : PH → Prop) (h0 : P h1) (hk : ∀ h, P h → stays kp h) (hl : items.length ≤ 1000000)
    (hs : ∀ x ∈ items, ∀ h, P h → ∃ ρ1, setTg (wipeP ρ own) tg one x = some ρ1 ∧ (evG C a false ρ1 h).Sat fun v h2 => v = f x ∧ P h2)
    (hd : ∀ h, P h → Q (.ref h.length) (h ++ [.lst (items.map f)])) : (evG C (.comp a tg one k its none own) false ρ h).Sat Q := by
  refine v_compE e1 e2 (fun i acc h => P h ∧ acc = (items.take i).map f) ⟨h0, rfl⟩ (fun i x acc h hx hi => ?_) fun acc h hi => ?_
  · obtain ⟨p, rfl⟩ := hi
    have hm := List.mem_of_getElem? hx
    have hlt := (List.getElem?_eq_some_iff.mp hx).1
    obtain ⟨ρ1, q1, q2⟩ := hs x hm h p
    refine ⟨hk h p, ρ1, q1, ?_⟩
    rw [gc_none, sat_ok, if_pos rfl]
    refine q2.imp fun v h2 ⟨r1, r2⟩ => ⟨line_small (by simp; omega), r2, ?_⟩
    rw [r1, List.take_add_one, hx]
    simp
  · obtain ⟨p, rfl⟩ := hi
    refine ⟨hk h p, line_small (by simp; omega), ?_⟩
    rw [List.take_length]
    exact hd h p
theorem bools_map : ∀ bs : List Bool, boolsOf (bs.map PV.bl) = some bs
  | [] => rfl
  | b :: r => by
    show (boolsOf (r.map PV.bl)).map (b :: ·) = _
    rw [bools_map r]
    rfl
theorem all_ref {h : PH} {n : Nat} {bs : List Bool} (e : h[n]? = some (.lst (bs.map PV.bl))) : biF .all [.ref n] h = .ok (.bl (bs.all id)) h := by
  show (match (listOf h (.ref n)).bind boolsOf with | some bs => R.ok (PV.bl (bs.all id)) h | none => .no) = _
  have : (listOf h (.ref n)).bind boolsOf = some bs := by
    simp only [listOf, e, Option.bind_some, bools_map]
  rw [this]
theorem ty_ref {h : PH} {m : Nat} {l : List PV} (e : h[m]? = some (.lst l)) : tyOf h (.ref m) = some .list := by simp only [tyOf, e]
theorem bi_len_tup (h : PH) (l : List PV) : biF .len [.tup l] h = .ok (.int l.length) h := rfl
theorem bi_len_ref {h : PH} {n : Nat} {l : List PV} (e : h[n]? = some (.lst l)) : biF .len [.ref n] h = .ok (.int l.length) h := by
  show biLen [.ref n] h = _
  simp only [biLen, e]
end Sb
set_option Elab.async false
set_option linter.all false
set_option maxRecDepth 100000
set_option maxHeartbeats 4000000
namespace Sb
open PySem
def fq (q : Rat) : PV := .tup [.int q.num, .int (q.den : Nat)]
def mq (a b : Rat) : PV := .tup [fq a, fq b]
theorem low_fq {t b : Int} (hb : b ≠ 0) : lowP t b = fq (Rat.divInt t b) := by
  unfold lowP fq
  rw [Rat.num_divInt, Rat.den_divInt, if_neg hb, Int.gcd_comm b t]
  have hg : (Int.gcd t b : Nat) ≠ 0 := fun z => hb (Int.gcd_eq_zero_iff.mp z).2
  have d1 : ((Int.gcd t b : Nat) : Int) ∣ t := Int.gcd_dvd_left ..
  have d2 : ((Int.gcd t b : Nat) : Int) ∣ b := Int.gcd_dvd_right ..
  generalize hgg : Int.gcd t b = g at hg d1 d2
  unfold byOf
  rw [hgg]
  obtain ⟨x, rfl⟩ := d1
  obtain ⟨y, rfl⟩ := d2
  have gz : (g : Int) ≠ 0 := by omega
  have gp : (0 : Int) < g := by omega
  by_cases hn : (g : Int) * y < 0
  · rw [if_pos hn]
    have yn : y < 0 := by
      rcases Int.lt_or_le y 0 with z | z
      · exact z
      · have := Int.mul_nonneg (Int.le_of_lt gp) z
        omega
    have e1 : ((g : Int) * x).fdiv (-(g : Int)) = -x := by
      rw [show (g : Int) * x = (-(g : Int)) * (-x) by rw [Int.neg_mul_neg]]
      exact Int.mul_fdiv_cancel_left _ (by omega)
    have e2 : ((g : Int) * y).fdiv (-(g : Int)) = -y := by
      rw [show (g : Int) * y = (-(g : Int)) * (-y) by rw [Int.neg_mul_neg]]
      exact Int.mul_fdiv_cancel_left _ (by omega)
    rw [e1, e2, Int.sign_eq_neg_one_of_neg hn]
    have e3 : (-1 : Int) * ((g : Int) * x) / (g : Int) = -x := by
      rw [show (-1 : Int) * ((g : Int) * x) = (g : Int) * (-x) by rw [Int.mul_neg]; omega]
      exact Int.mul_ediv_cancel_left _ gz
    have e4 : ((g : Int) * y).natAbs / g = y.natAbs := by
      rw [Int.natAbs_mul, Int.natAbs_natCast, Nat.mul_div_cancel_left _ (by omega)]
    rw [e3, e4]
    rw [show ((y.natAbs : Nat) : Int) = -y by omega]
  · rw [if_neg hn]
    have yz : y ≠ 0 := fun z => hb (by rw [z, Int.mul_zero])
    have yp : 0 < y := by
      rcases Int.lt_or_le 0 y with z | z
      · exact z
      · have : (g : Int) * (-y) > 0 := Int.mul_pos gp (by omega)
        rw [Int.mul_neg] at this
        omega
    have e1 : ((g : Int) * x).fdiv (g : Int) = x := Int.mul_fdiv_cancel_left _ gz
    have e2 : ((g : Int) * y).fdiv (g : Int) = y := Int.mul_fdiv_cancel_left _ gz
    rw [e1, e2, Int.sign_eq_one_of_pos (Int.mul_pos gp yp), Int.one_mul, Int.mul_ediv_cancel_left _ gz]
    have e4 : ((g : Int) * y).natAbs / g = y.natAbs := by
      rw [Int.natAbs_mul, Int.natAbs_natCast, Nat.mul_div_cancel_left _ (by omega)]
    rw [e4]
    rw [show ((y.natAbs : Nat) : Int) = y by omega]
/-- both numbers below 2 ^ n -/
structure Qs (n : Nat) (q : Rat) : Prop where
  num : q.num.natAbs < 2 ^ n
  den : q.den < 2 ^ n
theorem Qs.mono {n m : Nat} {q : Rat} (h : Qs n q) (l : n ≤ m) : Qs m q := ⟨Nat.lt_of_lt_of_le h.num (Nat.pow_le_pow_right (by decide) l), Nat.lt_of_lt_of_le h.den (Nat.pow_le_pow_right (by decide) l)⟩
theorem divInt_le {t b : Int} (hb : b ≠ 0) : (Rat.divInt t b).num.natAbs ≤ t.natAbs ∧ (Rat.divInt t b).den ≤ b.natAbs := by
  rw [Rat.num_divInt, Rat.den_divInt, if_neg hb]
  refine ⟨?_, Nat.div_le_self _ _⟩
  rcases Int.lt_or_lt_of_ne hb with z | z
  · rw [Int.sign_eq_neg_one_of_neg z]
    refine Nat.le_trans (Int.natAbs_ediv_le_natAbs _ _) ?_
    omega
  · rw [Int.sign_eq_one_of_pos z, Int.one_mul]
    exact Int.natAbs_ediv_le_natAbs _ _
theorem Qs.divInt {n : Nat} {t b : Int} (hb : b ≠ 0) (h1 : t.natAbs < 2 ^ n) (h2 : b.natAbs < 2 ^ n) : Qs n (Rat.divInt t b) := ⟨Nat.lt_of_le_of_lt (divInt_le hb).1 h1, Nat.lt_of_le_of_lt (divInt_le hb).2 h2⟩
theorem mul_lt_pow {a b n m : Nat} (h1 : a < 2 ^ n) (h2 : b < 2 ^ m) : a * b < 2 ^ (n + m) := by
  rw [Nat.pow_add]
  exact Nat.mul_lt_mul'' h1 h2
theorem den_ne (q : Rat) : ((q.den : Nat) : Int) ≠ 0 := by
  have := q.den_nz
  omega
theorem dd_ne (a b : Rat) : ((a.den : Nat) : Int) * ((b.den : Nat) : Int) ≠ 0 := Int.mul_ne_zero (den_ne a) (den_ne b)
theorem add_divInt (a b : Rat) : a + b = Rat.divInt (a.num * b.den + b.num * a.den) (a.den * b.den) := by
  rw [Rat.add_def', ← Rat.divInt_ofNat, Int.natCast_mul]
theorem sub_divInt (a b : Rat) : a - b = Rat.divInt (a.num * b.den - b.num * a.den) (a.den * b.den) := by
  rw [Rat.sub_def', ← Rat.divInt_ofNat, Int.natCast_mul]
theorem mul_divInt (a b : Rat) : a * b = Rat.divInt (a.num * b.num) (a.den * b.den) := by
  rw [Rat.mul_def', ← Rat.divInt_ofNat, Int.natCast_mul]
theorem div_divInt (a b : Rat) (hb : b.num ≠ 0) : a / b = Rat.divInt (a.num * b.den) (a.den * b.num) := by
  rw [Rat.div_def, Rat.inv_def]
  conv => lhs; rw [← Rat.num_divInt_den a]
  rw [Rat.divInt_mul_divInt]
section
variable {n m : Nat} {a b : Rat}
theorem Qs.nd (h : Qs n a) (g : Qs m b) : (a.num * (b.den : Int)).natAbs < 2 ^ (n + m) := by
  rw [Int.natAbs_mul]
  exact mul_lt_pow h.num (by simpa using g.den)
theorem Qs.nn (h : Qs n a) (g : Qs m b) : (a.num * b.num).natAbs < 2 ^ (n + m) := by
  rw [Int.natAbs_mul]
  exact mul_lt_pow h.num g.num
theorem Qs.dn (h : Qs n a) (g : Qs m b) : ((a.den : Int) * b.num).natAbs < 2 ^ (n + m) := by
  rw [Int.natAbs_mul]
  exact mul_lt_pow (by simpa using h.den) g.num
theorem Qs.dd (h : Qs n a) (g : Qs m b) : ((a.den : Int) * (b.den : Int)).natAbs < 2 ^ (n + m) := by
  rw [Int.natAbs_mul]
  exact mul_lt_pow (by simpa using h.den) (by simpa using g.den)
theorem pow_s (k : Nat) : 2 ^ (k + 1) = 2 ^ k + 2 ^ k := by rw [Nat.pow_succ]; omega
theorem Qs.add (h : Qs n a) (g : Qs m b) : Qs (n + m + 1) (a + b) := by
  rw [add_divInt]
  have h1 := h.nd g
  have h2 := g.nd h
  rw [Nat.add_comm m n] at h2
  have h3 := h.dd g
  have h4 := pow_s (n + m)
  exact .divInt (dd_ne a b) (by omega) (by omega)
theorem Qs.sub (h : Qs n a) (g : Qs m b) : Qs (n + m + 1) (a - b) := by
  rw [sub_divInt]
  have h1 := h.nd g
  have h2 := g.nd h
  rw [Nat.add_comm m n] at h2
  have h3 := h.dd g
  have h4 := pow_s (n + m)
  exact .divInt (dd_ne a b) (by omega) (by omega)
theorem Qs.mul (h : Qs n a) (g : Qs m b) : Qs (n + m) (a * b) := by
  rw [mul_divInt]
  exact .divInt (dd_ne a b) (h.nn g) (h.dd g)
theorem Qs.div (h : Qs n a) (g : Qs m b) (hb : b.num ≠ 0) : Qs (n + m) (a / b) := by
  rw [div_divInt a b hb]
  exact .divInt (Int.mul_ne_zero (den_ne a) hb) (h.nd g) (h.dn g)
theorem Qs.neg (h : Qs n a) : Qs n (-a) := ⟨by rw [Rat.neg_num, Int.natAbs_neg]; exact h.num, h.den⟩
theorem Qs.inv (h : Qs n a) (hb : a.num ≠ 0) : Qs n a⁻¹ := by
  rw [Rat.inv_def]
  exact .divInt hb (by simpa using h.den) h.num
theorem Qs.pos (h : Qs n a) : 0 < n := by
  cases n with
  | zero =>
    have := h.den
    have := a.den_nz
    omega
  | succ n => exact Nat.succ_pos _
end
theorem num_ne {q : Rat} (h : q ≠ 0) : q.num ≠ 0 := fun z => h (Rat.num_eq_zero.mp z)
theorem fq0 (q : Rat) (h : PH) : idxop (fq q) (.int 0) h = .ok (.int q.num) h := idx_tup rfl
theorem fq1 (q : Rat) (h : PH) : idxop (fq q) (.int 1) h = .ok (.int (q.den : Nat)) h := idx_tup rfl
theorem mq0 (a b : Rat) (h : PH) : idxop (mq a b) (.int 0) h = .ok (fq a) h := idx_tup rfl
theorem mq1 (a b : Rat) (h : PH) : idxop (mq a b) (.int 1) h = .ok (fq b) h := idx_tup rfl
theorem pow_8000 {x n : Nat} (h : x < 2 ^ n) (l : n ≤ 8000) : x < 2 ^ 8000 := Nat.lt_of_lt_of_le h (Nat.pow_le_pow_right (by decide) l)
section
variable {tbl : Nat → Fn}
theorem frac_eq (h0 : tbl 0 = F_common) (h15 : tbl 15 = F_fraction_of) {k : Nat} {h : PH} {t b : Int} (hb : b ≠ 0) (hs : b.natAbs < 2 ^ 8000) : call tbl (k + 2) 15 [.int t, .int b] h = .ok (fq (Rat.divInt t b)) h := by
  rw [← low_fq hb]
  refine R.Sat.eq ?_
  rw [call_succ, h15]
  refine fn_sat rfl ?_
  simp only [F_fraction_of, startP, List.map, List.length, List.replicate, List.cons_append, List.nil_append]
  have dv : divOk (byOf t b) = true := div_ok (byOf_ne hb) (Nat.lt_of_le_of_lt (byOf_le hb) hs) (by decide) (by decide)
  rw [x_cons]
  simp [hb]
  rw [x_cons]
  simp [common_eq h0]
  rw [x_cons]
  by_cases hneg : b < 0
  · have e : byOf t b = -((Int.gcd t b : Nat) : Int) := by unfold byOf; rw [if_pos hneg]
    rw [e] at dv
    simp [hneg, b_fdiv, dv]
    simp [lowP, e]
  · have e : byOf t b = ((Int.gcd t b : Nat) : Int) := by unfold byOf; rw [if_neg hneg]
    rw [e] at dv
    simp [hneg, b_fdiv, dv]
    simp [lowP, e]
section
variable {k n m : Nat} {h : PH} {a b : Rat}
theorem mok (h : x.natAbs < 2 ^ n) (g : y.natAbs < 2 ^ m) (h0 : 0 < n) (g0 : 0 < m) (l : n + m ≤ 8000) : mulOk x y = true := mul_ok h g h0 g0 (by omega)
theorem plus_eq (h0 : tbl 0 = F_common) (h15 : tbl 15 = F_fraction_of) (h16 : tbl 16 = F_plus_of) (ha : Qs n a) (hb : Qs m b) (l : n + m ≤ 8000) : call tbl (k + 3) 16 [fq a, fq b] h = .ok (fq (a + b)) h := by
  refine R.Sat.eq ?_
  rw [call_succ, h16]
  refine fn_sat rfl ?_
  simp only [F_plus_of, startP, List.map, List.length, List.replicate, List.cons_append, List.nil_append]
  have m1 : mulOk a.num (b.den : Nat) = true := mok ha.num (by simpa using hb.den) ha.pos hb.pos l
  have m2 : mulOk b.num (a.den : Nat) = true := mok hb.num (by simpa using ha.den) hb.pos ha.pos (by omega)
  have m3 : mulOk (a.den : Nat) (b.den : Nat) = true := mok (by simpa using ha.den) (by simpa using hb.den) ha.pos hb.pos l
  simp [fq0, fq1, b_mul m1, b_mul m2, b_mul m3, frac_eq h0 h15 (dd_ne a b) (pow_8000 (ha.dd hb) l), add_divInt]
theorem less_eq (h0 : tbl 0 = F_common) (h15 : tbl 15 = F_fraction_of) (h17 : tbl 17 = F_less_of) (ha : Qs n a) (hb : Qs m b) (l : n + m ≤ 8000) : call tbl (k + 3) 17 [fq a, fq b] h = .ok (fq (a - b)) h := by
  refine R.Sat.eq ?_
  rw [call_succ, h17]
  refine fn_sat rfl ?_
  simp only [F_less_of, startP, List.map, List.length, List.replicate, List.cons_append, List.nil_append]
  have m1 : mulOk a.num (b.den : Nat) = true := mok ha.num (by simpa using hb.den) ha.pos hb.pos l
  have m2 : mulOk b.num (a.den : Nat) = true := mok hb.num (by simpa using ha.den) hb.pos ha.pos (by omega)
  have m3 : mulOk (a.den : Nat) (b.den : Nat) = true := mok (by simpa using ha.den) (by simpa using hb.den) ha.pos hb.pos l
  simp [fq0, fq1, b_mul m1, b_mul m2, b_mul m3, frac_eq h0 h15 (dd_ne a b) (pow_8000 (ha.dd hb) l), sub_divInt]
theorem times_eq (h0 : tbl 0 = F_common) (h15 : tbl 15 = F_fraction_of) (h18 : tbl 18 = F_times_of) (ha : Qs n a) (hb : Qs m b) (l : n + m ≤ 8000) : call tbl (k + 3) 18 [fq a, fq b] h = .ok (fq (a * b)) h := by
  refine R.Sat.eq ?_
  rw [call_succ, h18]
  refine fn_sat rfl ?_
  simp only [F_times_of, startP, List.map, List.length, List.replicate, List.cons_append, List.nil_append]
  have m1 : mulOk a.num b.num = true := mok ha.num hb.num ha.pos hb.pos l
  have m3 : mulOk (a.den : Nat) (b.den : Nat) = true := mok (by simpa using ha.den) (by simpa using hb.den) ha.pos hb.pos l
  simp [fq0, fq1, b_mul m1, b_mul m3, frac_eq h0 h15 (dd_ne a b) (pow_8000 (ha.dd hb) l), mul_divInt]
theorem over_eq (h0 : tbl 0 = F_common) (h15 : tbl 15 = F_fraction_of) (h19 : tbl 19 = F_over_of) (ha : Qs n a) (hb : Qs m b) (hz : b.num ≠ 0) (l : n + m ≤ 8000) : call tbl (k + 3) 19 [fq a, fq b] h = .ok (fq (a / b)) h := by
  refine R.Sat.eq ?_
  rw [call_succ, h19]
  refine fn_sat rfl ?_
  simp only [F_over_of, startP, List.map, List.length, List.replicate, List.cons_append, List.nil_append]
  have m1 : mulOk a.num (b.den : Nat) = true := mok ha.num (by simpa using hb.den) ha.pos hb.pos l
  have m3 : mulOk (a.den : Nat) b.num = true := mok (by simpa using ha.den) hb.num ha.pos hb.pos l
  rw [x_cons]
  simp [fq0, fq1, hz, b_mul m1, b_mul m3, frac_eq h0 h15 (Int.mul_ne_zero (den_ne a) hz) (pow_8000 (ha.dn hb) l), div_divInt a b hz]
end
end
end Sb
set_option Elab.async false
set_option linter.all false
set_option maxRecDepth 100000
set_option maxHeartbeats 4000000
namespace Sb
open PySem
/-- two things that the laws call the same, down to d levels -/
def sameP (h : PH) : Nat → PV → PV → Prop
  | _, .non, .non => True
  | _, .bl a, .bl b => a = b
  | _, .int a, .int b => a = b
  | _, .str a, .str b => a = b
  | d + 1, .tup l, .tup k => l.length = k.length ∧ l.length ≤ 1000000 ∧ ∀ (i : Nat) x y, l[i]? = some x → k[i]? = some y → sameP h d x y
  | d + 1, .ref m, .ref n => ∃ l k, h[m]? = some (.lst l) ∧ h[n]? = some (.lst k) ∧ l.length = k.length ∧ l.length ≤ 1000000 ∧ ∀ (i : Nat) x y, l[i]? = some x → k[i]? = some y → sameP h d x y
  | _, _, _ => False
theorem sameP.app {h t : PH} : ∀ {d : Nat} {v w : PV}, sameP h d v w → sameP (h ++ t) d v w
  | d, .non, w, s => by cases d <;> cases w <;> first | trivial | exact s.elim
  | d, .bl _, w, s => by cases d <;> cases w <;> first | exact s | exact s.elim
  | d, .int _, w, s => by cases d <;> cases w <;> first | exact s | exact s.elim
  | d, .str _, w, s => by cases d <;> cases w <;> first | exact s | exact s.elim
  | 0, .tup _, w, s => by cases w <;> exact s.elim
  | 0, .ref _, w, s => by cases w <;> exact s.elim
  | d, .cl _, w, s => by cases d <;> cases w <;> exact s.elim
  | d, .ty _, w, s => by cases d <;> cases w <;> exact s.elim
  | d, .cls _, w, s => by cases d <;> cases w <;> exact s.elim
  | d, .ste _, w, s => by cases d <;> cases w <;> exact s.elim
  | d, .xc _ _ _, w, s => by cases d <;> cases w <;> exact s.elim
  | d + 1, .tup l, w, s => by
    cases w with
    | tup k => exact ⟨s.1, s.2.1, fun i x y h1 h2 => (s.2.2 i x y h1 h2).app⟩
    | _ => exact s.elim
  | d + 1, .ref m, w, s => by
    cases w with
    | ref n =>
      obtain ⟨l, k, e1, e2, e3, e4, e5⟩ := s
      refine ⟨l, k, ?_, ?_, e3, e4, fun i x y h1 h2 => (e5 i x y h1 h2).app⟩
      · rw [List.getElem?_append_left (List.getElem?_eq_some_iff.mp e1).1]; exact e1
      · rw [List.getElem?_append_left (List.getElem?_eq_some_iff.mp e2).1]; exact e2
    | _ => exact s.elim
theorem zip_get : ∀ {l k : List PV} {x : PV} {i : Nat}, (zipP l k)[i]? = some x → ∃ a b, x = .tup [a, b] ∧ l[i]? = some a ∧ k[i]? = some b
  | [], k, x, i, e => by
    rw [show zipP [] k = [] by cases k <;> rfl] at e
    simp at e
  | _ :: _, [], x, i, e => by
    rw [show zipP (_ :: _) [] = [] from rfl] at e
    simp at e
  | a :: l, b :: k, x, 0, e => by
    rw [show zipP (a :: l) (b :: k) = .tup [a, b] :: zipP l k from rfl] at e
    simp at e
    exact ⟨a, b, e.symm, rfl, rfl⟩
  | a :: l, b :: k, x, i + 1, e => by
    rw [show zipP (a :: l) (b :: k) = .tup [a, b] :: zipP l k from rfl] at e
    simp at e
    obtain ⟨a', b', e1, e2, e3⟩ := zip_get e
    exact ⟨a', b', e1, by simpa using e2, by simpa using e3⟩
theorem zip_len : ∀ {l k : List PV}, (zipP l k).length ≤ l.length
  | [], k => by cases k <;> exact Nat.le_refl _
  | _ :: _, [] => Nat.zero_le _
  | a :: l, b :: k => Nat.succ_le_succ zip_len
theorem mem_get {α : Type} {l : List α} {x : α} (h : x ∈ l) : ∃ i : Nat, l[i]? = some x := by
  obtain ⟨i, hi, e⟩ := List.mem_iff_getElem.mp h
  exact ⟨i, List.getElem?_eq_some_iff.mpr ⟨hi, e⟩⟩
section
variable {tbl : Nat → Fn}
theorem same_sat (h7 : tbl 7 = F_law_same) : ∀ {d k : Nat} {h : PH} {v w : PV} {Q : PV → PH → Prop} (s : sameP h d v w) (q : ∀ t, Q (.bl true) (h ++ t)), (call tbl (k + d + 1) 7 [v, w] h).Sat Q := by
  intro d
  induction d with
  | zero =>
    intro k h v w Q s q
    have q0 : Q (.bl true) h := by simpa using q []
    rw [call_succ, h7]
    refine fn_sat rfl ?_
    simp only [F_law_same, startP, List.map, List.length, List.replicate, List.cons_append, List.nil_append]
    cases v <;> cases w <;> first | exact s.elim | skip
    all_goals simp [sameP] at s
    all_goals try subst s
    all_goals simp [x_cons, biF, biIsinst, tyOf, tysOf, isTy, isNonP, q0]
  | succ d ih =>
    intro k h v w Q s q
    have q0 : Q (.bl true) h := by simpa using q []
    rw [call_succ, h7]
    refine fn_sat rfl ?_
    simp only [F_law_same, startP, List.map, List.length, List.replicate, List.cons_append, List.nil_append]
    have go : ∀ (vw : List PV) (kp : Keep) (l m : List PV) (ρ : Env), evGs (call tbl (k + (d + 1))) [(.var 0), (.var 1)] ρ h = .ok vw h → walkF .zip vw h = some (zipP l m, kp) → stays kp h → l.length ≤ 1000000 → (∀ (i : Nat) x y, l[i]? = some x → m[i]? = some y → sameP h d x y) → (∀ a b, ∃ ρ1, setTg (wipeP ρ [2, 3]) [2, 3] .tup (.tup [a, b]) = some ρ1 ∧ ρ1.get 2 = some a ∧ ρ1.get 3 = some b) →
        (evG (call tbl (k + (d + 1))) (.bi .all [(.comp (.call 7 [(.var 2), (.var 3)] []) [2, 3] .tup .zip [(.var 0), (.var 1)] none [2, 3])]) false ρ h).Sat Q := by
      intro vw kp l m ρ e1 e2 hk hl hs hρ
      simp
      refine v_mapE e1 e2 (fun _ => .bl true) (fun h' => ∃ t, h' = h ++ t) ⟨[], by simp⟩ (fun h' e y hy => ?_) (Nat.le_trans zip_len hl) (fun x hx h' e => ?_) fun h' e => ?_
      · obtain ⟨t, rfl⟩ := e
        have := hk y hy
        rw [List.getElem?_append_left (List.getElem?_eq_some_iff.mp this).1]
        exact this
      · obtain ⟨t, rfl⟩ := e
        obtain ⟨i, hi⟩ := mem_get hx
        obtain ⟨a, b, rfl, ea, eb⟩ := zip_get hi
        obtain ⟨ρ1, p1, p2, p3⟩ := hρ a b
        refine ⟨ρ1, p1, ?_⟩
        simp [p2, p3]
        have := ih (k := k) (h := h ++ t) (Q := fun v h2 => v = .bl true ∧ ∃ t, h2 = h ++ t) (hs i a b ea eb).app fun t2 => ⟨rfl, t ++ t2, by simp⟩
        exact this
      · obtain ⟨t, e0⟩ := e
        have e : (h' ++ [PO.lst ((zipP l m).map fun _ => PV.bl true)])[h'.length]? = some (.lst (((zipP l m).map fun _ => true).map PV.bl)) := by simp
        rw [all_ref e]
        rw [e0]
        have := q (t ++ [PO.lst ((zipP l m).map fun _ => PV.bl true)])
        have at_ : ((zipP l m).all fun _ => true) = true := by simp
        simpa [at_] using this
    cases v with
    | tup l =>
      cases w with
      | tup m =>
        obtain ⟨s1, s2, s3⟩ := s
        rw [x_cons]
        simp [biF, biIsinst, tyOf, tysOf, isTy]
        rw [x_cons]
        simp [biF, biIsinst, tyOf, tysOf, isTy]
        rw [x_cons]
        simp [biF, biIsinst, tyOf, tysOf, isTy, biLen, seqOf, s1]
        have := go [.tup l, .tup m] [] l m [some (.tup l), some (.tup m), none, none] (by simp) rfl (stays_nil _) s2 s3 fun a b => ⟨_, rfl, rfl, rfl⟩
        simpa [biF] using this
      | _ => exact s.elim
    | ref m =>
      cases w with
      | ref n =>
        obtain ⟨l, m', e1, e2, s1, s2, s3⟩ := s
        rw [x_cons]
        simp [biF, biIsinst, tyOf, tysOf, isTy, e1, e2]
        rw [x_cons]
        simp [biF, biIsinst, tyOf, tysOf, isTy, e1, e2]
        rw [x_cons]
        simp [biF, biIsinst, tyOf, tysOf, isTy, biLen, seqOf, s1, e1, e2]
        have := go [.ref m, .ref n] [(m, l), (n, m')] l m' [some (.ref m), some (.ref n), none, none] (by simp) (by show walkZip [.ref m, .ref n] h = _; simp only [walkZip, e1, e2]) (fun y hy => by
          simp only [List.mem_cons, List.not_mem_nil, or_false] at hy
          rcases hy with rfl | rfl
          · exact e1
          · exact e2) s2 s3 fun a b => ⟨_, rfl, rfl, rfl⟩
        simpa [biF] using this
      | _ => exact s.elim
    | cl l => cases w <;> exact s.elim
    | ty l => cases w <;> exact s.elim
    | ste l => cases w <;> exact s.elim
    | cls l => cases w <;> exact s.elim
    | xc l a b => cases w <;> exact s.elim
    | _ =>
      cases w <;> first | exact s.elim | skip
      all_goals simp [sameP] at s
      all_goals try subst s
      all_goals simp [x_cons, biF, biIsinst, tyOf, tysOf, isTy, isNonP, q0]
end
theorem same_fq {h : PH} {d : Nat} (q : Rat) : sameP h (d + 1) (fq q) (fq q) := ⟨rfl, Nat.le_of_ble_eq_true rfl, fun i x y h1 h2 => by
  rw [h1] at h2
  cases h2
  have := List.mem_of_getElem? h1
  simp only [List.mem_cons, List.not_mem_nil, or_false] at this
  rcases this with rfl | rfl <;> cases d <;> rfl⟩
theorem same_mq {h : PH} {d : Nat} (a b : Rat) : sameP h (d + 2) (mq a b) (mq a b) := ⟨rfl, Nat.le_of_ble_eq_true rfl, fun i x y h1 h2 => by
  rw [h1] at h2
  cases h2
  have := List.mem_of_getElem? h1
  simp only [List.mem_cons, List.not_mem_nil, or_false] at this
  rcases this with rfl | rfl
  · exact same_fq a
  · exact same_fq b⟩
section
variable {tbl : Nat → Fn} {k n m o : Nat} {h : PH} {a b c d x : Rat}
/-- the defs of fractions and moves -/
structure TM (tbl : Nat → Fn) : Prop where
  h0 : tbl 0 = F_common
  h15 : tbl 15 = F_fraction_of
  h16 : tbl 16 = F_plus_of
  h17 : tbl 17 = F_less_of
  h18 : tbl 18 = F_times_of
  h19 : tbl 19 = F_over_of
  h20 : tbl 20 = F_stretch_by
  h21 : tbl 21 = F_read_by
  h22 : tbl 22 = F_move_then
  h23 : tbl 23 = F_move_back
theorem stretch_eq (t : TM tbl) (ha : Qs n a) (hx : Qs m x) (l : n + m ≤ 8000) : call tbl (k + 4) 20 [mq a b, fq x] h = .ok (fq (a * x)) h := by
  refine R.Sat.eq ?_
  rw [call_succ, t.h20]
  refine fn_sat rfl ?_
  simp only [F_stretch_by, startP, List.map, List.length, List.replicate, List.cons_append, List.nil_append]
  simp [mq0, times_eq t.h0 t.h15 t.h18 ha hx l]
theorem read_eq (t : TM tbl) (ha : Qs n a) (hb : Qs o b) (hx : Qs m x) (l : n + m + o ≤ 8000) : call tbl (k + 5) 21 [mq a b, fq x] h = .ok (fq (a * x + b)) h := by
  refine R.Sat.eq ?_
  rw [call_succ, t.h21]
  refine fn_sat rfl ?_
  simp only [F_read_by, startP, List.map, List.length, List.replicate, List.cons_append, List.nil_append]
  simp [mq1, stretch_eq t ha hx (by omega), plus_eq t.h0 t.h15 t.h16 (ha.mul hx) hb l]
theorem then_eq (t : TM tbl) (ha : Qs n a) (hb : Qs n b) (hc : Qs m c) (hd : Qs m d) (l : m + n + m ≤ 8000) : call tbl (k + 6) 22 [mq a b, mq c d] h = .ok (mq (c * a) (c * b + d)) h := by
  refine R.Sat.eq ?_
  rw [call_succ, t.h22]
  refine fn_sat rfl ?_
  simp only [F_move_then, startP, List.map, List.length, List.replicate, List.cons_append, List.nil_append]
  simp [mq0, mq1, times_eq t.h0 t.h15 t.h18 hc ha (by omega), read_eq t hc hd hb (by omega)]
  rfl
theorem q1 : Qs 1 1 := ⟨by decide, by decide⟩
theorem q0 : Qs 1 0 := ⟨by decide, by decide⟩
theorem back_eq (t : TM tbl) (ha : Qs n a) (hb : Qs m b) (hz : a ≠ 0) (l : m + n + 2 ≤ 8000) : call tbl (k + 4) 23 [mq a b] h = .ok (mq (1 / a) ((0 - b) / a)) h := by
  refine R.Sat.eq ?_
  rw [call_succ, t.h23]
  refine fn_sat rfl ?_
  simp only [F_move_back, startP, List.map, List.length, List.replicate, List.cons_append, List.nil_append]
  rw [x_cons]
  simp [mq, setAll]
  have e1 : (PV.tup [.int 1, .int 1]) = fq 1 := rfl
  have e0 : (PV.tup [.int 0, .int 1]) = fq 0 := rfl
  rw [e1, e0]
  simp [over_eq t.h0 t.h15 t.h19 q1 ha (num_ne hz) (by omega), less_eq t.h0 t.h15 t.h17 q0 hb (by omega), over_eq t.h0 t.h15 t.h19 (q0.sub hb) ha (num_ne hz) (by omega)]
end
end Sb
set_option Elab.async false
set_option linter.all false
set_option maxRecDepth 100000
set_option maxHeartbeats 4000000
namespace Sb
open PySem
theorem St.lt {h : PH} {s g c B : Nat} (st : St h s g c B) : s < h.length ∧ g < h.length ∧ c < h.length := by
  obtain ⟨gr, cur, cs, cnt, e1, e2, e3, r⟩ := st.ex
  exact ⟨(List.getElem?_eq_some_iff.mp e1).1, (List.getElem?_eq_some_iff.mp e2).1, (List.getElem?_eq_some_iff.mp e3).1⟩
theorem Fr.setNew {S : List Nat} {h h1 : PH} {m : Nat} {o : PO} (f : Fr S h h1) (hm : h.length ≤ m) : Fr S h (h1.set m o) := ⟨by rw [List.length_set]; exact f.len, fun n hn hl => by
  rw [List.getElem?_set_ne (by omega)]
  exact f.at_ n hn hl⟩
theorem Fr.appNew {S : List Nat} {h h1 t : PH} (f : Fr S h h1) : Fr S h (h1 ++ t) := f.trans Fr.app
theorem St.setNew {h : PH} {s g c B m : Nat} {o : PO} (st : St h s g c B) (h1 : m ≠ s) (h2 : m ≠ g) (h3 : m ≠ c) : St (h.set m o) s g c B :=
  st.frame (S := [m]) (Fr.set (by simp)) (by simp; omega) (by simp; omega) (by simp; omega)
section
variable {C : Calls} {t : Bool} {ρ : Env} {h : PH} {a b c : E}
@[simp] theorem g_srt : evG C (.srt a) t ρ h = fin t ((evG C a false ρ h).bind fun x h1 => srtop x h1) := by rfl
@[simp] theorem g_dct (es : List E) : evG C (.dct es) t ρ h = fin t ((evGs C es ρ h).bind fun l h1 => match pairUp l with | some l => allocD (mergeP [] l) h1 | none => .no) := by rfl
end
abbrev tlS (x : Str) : List Nat := x.cps.toList
theorem len_tl (x : Str) : x.length = (tlS x).length := by
  show x.cps.size = _
  simp
/-- a small text of small letters -/
structure Nm (x : Str) : Prop where
  len : (tlS x).length ≤ 9
  low : ∀ c ∈ tlS x, 97 ≤ c ∧ c ≤ 122
theorem Nm.ok {x : Str} (n : Nm x) : strOkP x = true := by
  unfold strOkP
  rw [Array.all_eq_true_iff_forall_mem]
  intro c hc
  have := n.low c (by simpa [tlS] using hc)
  exact decide_eq_true (by omega)
def T25 : List Nat := tlS ("abcdefghijklmnopqrstuvxyz" : Str)
theorem t25 : T25 = [97, 98, 99, 100, 101, 102, 103, 104, 105, 106, 107, 108, 109, 110, 111, 112, 113, 114, 115, 116, 117, 118, 120, 121, 122] := by decide +kernel
theorem t25_nd : T25.Nodup := by rw [t25]; decide
theorem t3 : tlS ("abz" : Str) = [97, 98, 122] := by decide +kernel
theorem idx_str {h : PH} {x : Str} {i : Int} {c : Nat} (hx : (tlS x).length ≤ 1000000) (e : L2.atI (tlS x) i = some c) : idxop (.str x) (.int i) h = .ok (.str ⟨#[c]⟩) h := by
  show (if lineOk x.length then (match L2.atI x.cps.toList i with | some c => R.ok (PV.str ⟨#[c]⟩) h | none => .no) else .no) = _
  rw [if_pos (line_small (by rw [len_tl]; exact hx)), show L2.atI x.cps.toList i = some c from e]
theorem mapO_some {α β : Type} {f : α → Option β} {g : α → β} : ∀ {l : List α}, (∀ x ∈ l, f x = some (g x)) → mapO f l = some (l.map g)
  | [], _ => rfl
  | a :: r, q => by
    unfold mapO
    rw [q a (List.mem_cons_self ..), mapO_some fun x hx => q x (List.mem_cons_of_mem _ hx)]
    rfl
end Sb
set_option Elab.async false
set_option linter.all false
set_option maxRecDepth 100000
set_option maxHeartbeats 4000000
namespace Sb
open PySem
/-- the names made so far: unlike, small, and where a name holds a w it is of a number below i -/
structure Nms (ns : List Str) : Prop where
  nd : ns.Nodup
  nm : ∀ x ∈ ns, Nm x
  w3 : ∀ x ∈ ns, 119 ∉ tlS x ∨ (tlS x).length = 3
structure NmsI (i : Nat) (ns : List Str) : Prop extends Nms ns where
  len : ns.length = i
  w : ∀ x ∈ ns, 119 ∉ tlS x ∨ ∃ j a b, j < i ∧ tlS x = [119, a, b] ∧ T25[j / 25]? = some a ∧ T25[j % 25]? = some b
theorem NmsI.add {i : Nat} {ns : List Str} {x : Str} (n : NmsI i ns) (hx : x ∉ ns) (h1 : Nm x) (h2 : 119 ∉ tlS x ∨ ∃ j a b, j < i + 1 ∧ tlS x = [119, a, b] ∧ T25[j / 25]? = some a ∧ T25[j % 25]? = some b) : NmsI (i + 1) (ns ++ [x]) := by
  refine ⟨⟨?_, fun y hy => ?_, fun y hy => ?_⟩, by simp [n.len], fun y hy => ?_⟩
  · rw [List.nodup_append]
    refine ⟨n.nd, by simp, fun a ha b hb => ?_⟩
    rw [List.mem_singleton.mp hb]
    rintro rfl
    exact hx ha
  · rcases List.mem_append.mp hy with z | z
    · exact n.nm y z
    · rw [List.mem_singleton.mp z]
      exact h1
  · rcases List.mem_append.mp hy with z | z
    · exact n.w3 y z
    · rw [List.mem_singleton.mp z]
      rcases h2 with z | ⟨j, a, b, _, z2, _⟩
      · exact .inl z
      · exact .inr (by rw [z2]; rfl)
  · rcases List.mem_append.mp hy with z | z
    · rcases n.w y z with z | ⟨j, a, b, z1, z2⟩
      · exact .inl z
      · exact .inr ⟨j, a, b, by omega, z2⟩
    · rw [List.mem_singleton.mp z]
      exact h2
theorem NmsI.fresh {i : Nat} {ns : List Str} {x : Str} {a b : Nat} (n : NmsI i ns) (e : tlS x = [119, a, b]) (ha : T25[i / 25]? = some a) (hb : T25[i % 25]? = some b) : x ∉ ns := by
  intro hx
  rcases n.w x hx with z | ⟨j, a', b', z1, z2, z3, z4⟩
  · exact z (by rw [e]; simp)
  · rw [e] at z2
    simp only [List.cons.injEq, and_true, true_and] at z2
    obtain ⟨rfl, rfl⟩ := z2
    have l1 := (List.getElem?_eq_some_iff.mp ha).1
    have l2 := (List.getElem?_eq_some_iff.mp hb).1
    have e1 := (List.getElem?_inj l1 t25_nd).mp (ha.trans z3.symm)
    have e2 := (List.getElem?_inj l2 t25_nd).mp (hb.trans z4.symm)
    omega
end Sb
set_option Elab.async false
set_option linter.all false
set_option maxRecDepth 100000
set_option maxHeartbeats 4000000
namespace Sb
open PySem
theorem find_map_put {k k' : L2.Key} {v : PV} : ∀ l : List (L2.Key × PV), (l.map fun kv => if kv.1 = k then (kv.1, v) else kv).find? (fun kv => decide (kv.1 = k')) = if k' = k then (l.find? fun kv => decide (kv.1 = k)).map fun kv => (kv.1, v) else l.find? fun kv => decide (kv.1 = k')
  | [] => by simp
  | (a, b) :: r => by
    rw [List.map_cons]
    by_cases e : a = k
    · subst e
      by_cases e2 : k' = a
      · subst e2
        simp
      · have : ¬ a = k' := fun z => e2 z.symm
        simp [e2, this]
        have ih := find_map_put (k := a) (k' := k') (v := v) r
        simpa [e2] using ih
    · have ih := find_map_put (k := k) (k' := k') (v := v) r
      simp only [if_neg e]
      by_cases e3 : a = k'
      · subst e3
        simp [e]
      · simp only [List.find?_cons, e3, decide_false, e]
        exact ih
theorem val_put (l : List (L2.Key × PV)) (k k' : L2.Key) (v : PV) : valP (putP l k v) k' = if k' = k then some v else valP l k' := by
  unfold putP valP
  by_cases c : (l.any fun kv => decide (kv.1 = k)) = true
  · rw [if_pos c, find_map_put]
    by_cases e : k' = k
    · rw [if_pos e, if_pos e]
      obtain ⟨x, hx, ex⟩ := List.any_eq_true.mp c
      cases hf : l.find? fun kv => decide (kv.1 = k) with
      | none =>
        have := List.find?_eq_none.mp hf x hx
        exact absurd ex this
      | some y => rfl
    · rw [if_neg e, if_neg e]
  · rw [if_neg c, List.find?_append]
    by_cases e : k' = k
    · subst e
      have : l.find? (fun kv => decide (kv.1 = k')) = none := by
        rw [List.find?_eq_none]
        intro x hx z
        exact c (List.any_eq_true.mpr ⟨x, hx, z⟩)
      rw [this]
      simp
    · have : ¬ k = k' := fun z => e z.symm
      rw [if_neg e]
      simp [this]
theorem put_len (l : List (L2.Key × PV)) (k : L2.Key) (v : PV) : (putP l k v).length ≤ l.length + 1 := by
  unfold putP
  split
  · simp
  · simp
end Sb
set_option Elab.async false
set_option linter.all false
set_option maxRecDepth 100000
set_option maxHeartbeats 4000000
namespace Sb
open PySem
structure Tel where
  name : Str
  st : Str
  en : Str
  a : Rat
  b : Rat
  tr : Int
  deriving DecidableEq
def Tel.pv (t : Tel) : PV := .tup [.str t.name, .str t.st, .str t.en, mq t.a t.b, .int t.tr]
structure TelOk (ns : List Str) (t : Tel) : Prop where
  st : t.st ∈ ns
  en : t.en ∈ ns
  a0 : t.a ≠ 0
  qa : Qs 38 t.a
  qb : Qs 60 t.b
  t0 : 0 ≤ t.tr
  t1 : t.tr ≤ 10 ^ 12
/-- .. also told the other way about -/
structure TelW (ns : List Str) (t : Tel) : Prop where
  st : t.st ∈ ns
  en : t.en ∈ ns
  a0 : t.a ≠ 0
  qa : Qs 40 t.a
  qb : Qs 100 t.b
  t0 : 0 ≤ t.tr
theorem TelOk.w {ns : List Str} {t : Tel} (o : TelOk ns t) : TelW ns t := ⟨o.st, o.en, o.a0, o.qa.mono (by decide), o.qb.mono (by decide), o.t0⟩
theorem idx_dct {h : PH} {n : Nat} {d : List (L2.Key × PV)} {x : Str} {v : PV} (e : h[n]? = some (.dct d)) (e2 : valP d (.inr x) = some v) : idxop (.ref n) (.str x) h = .ok v h := by
  simp only [idxop, e, keyOf, e2, ofO_some]
theorem mt_append {h : PH} {n : Nat} {l : List PV} {v : PV} (e : h[n]? = some (.lst l)) (hl : l.length < 1000000) : mtF .append (.ref n) [v] h = .ok .non (h.set n (.lst (l ++ [v]))) := by
  simp only [mtF, mtAppend, e]
  rw [if_pos (line_small (by omega))]
theorem walk_ref {h : PH} {n : Nat} {l : List PV} (e : h[n]? = some (.lst l)) : walkF .seq [.ref n] h = some (l, [(n, l)]) := by simp only [walkF, walkSeq, e]
theorem stays_one {h : PH} {n : Nat} {l : List PV} (e : h[n]? = some (.lst l)) : stays [(n, l)] h := fun z hz => by
  rw [List.mem_singleton.mp hz]
  exact e
section
variable {tbl : Nat → Fn}
/-- the defs of the draws -/
structure TD (tbl : Nat → Fn) : Prop where
  h5 : tbl 5 = F_law_mix
  h6 : tbl 6 = F_law_draw
  h34 : tbl 34 = F_law_names
  h35 : tbl 35 = F_law_world
  h36 : tbl 36 = F_law_tellings
end
end Sb
set_option Elab.async false
set_option linter.all false
set_option maxRecDepth 100000
set_option maxHeartbeats 4000000
namespace Sb
open PySem
def Tel.key (t : Tel) : Int × Str := (t.tr, t.name)
def leT (a b : Tel) : Bool := leTel a.key b.key
def ltT (a b : Tel) : Bool := !leT b a
def sortTel (ts : List Tel) : List Tel := ts.mergeSort leT
theorem sort_perm (ts : List Tel) : (sortTel ts).Perm ts := List.mergeSort_perm ..
theorem sort_pair (ts : List Tel) : (sortTel ts).Pairwise fun a b => leT a b = true := List.pairwise_mergeSort (fun a b c => leTel_trans a.key b.key c.key) (fun a b => leTel_total a.key b.key) ts
theorem sort_nd {ts : List Tel} (nd : (ts.map Tel.name).Nodup) : ((sortTel ts).map Tel.name).Nodup := ((sort_perm ts).map Tel.name).nodup_iff.mpr nd
theorem sort_len (ts : List Tel) : (sortTel ts).length = ts.length := (sort_perm ts).length_eq
theorem sort_pv (ts : List Tel) : sortT (ts.map Tel.key) (ts.map Tel.pv) = (sortTel ts).map Tel.pv := by
  unfold sortT sortTel
  have e : (ts.map Tel.key).zip (ts.map Tel.pv) = ts.map fun t => (t.key, t.pv) := by
    induction ts with
    | nil => rfl
    | cons a r ih => simp [ih]
  rw [e, ← List.map_mergeSort (r := leT) (f := fun t : Tel => (t.key, t.pv)) (fun a _ b _ => rfl), List.map_map]
  rfl
theorem key_nd {ts : List Tel} (nd : (ts.map Tel.name).Nodup) : (ts.map Tel.key).Nodup := by
  have e : ts.map Tel.name = (ts.map Tel.key).map Prod.snd := by simp [Tel.key]
  rw [e] at nd
  exact List.Pairwise.of_map (S := fun a b => a ≠ b) Prod.snd (fun a b h z => h (congrArg Prod.snd z)) nd
theorem srt_pv {h : PH} {v : PV} {ts : List Tel} (e : seqOf h v = some (ts.map Tel.pv)) (nd : (ts.map Tel.name).Nodup) (hl : ts.length ≤ 1000) : srtop v h = .ok (.ref h.length) (h ++ [.lst ((sortTel ts).map Tel.pv)]) := by
  unfold srtop
  rw [e]
  have m : mapO sortKey (ts.map Tel.pv) = some (ts.map Tel.key) := by
    have := mapO_some (f := sortKey) (l := ts.map Tel.pv) (g := fun v => (sortKey v).getD (0, "")) (fun v hv => by
      obtain ⟨t, _, rfl⟩ := List.mem_map.mp hv
      rfl)
    rw [this, List.map_map]
    rfl
  show (match mapO sortKey (ts.map Tel.pv) with | some ks => if decide ks.Nodup && decide ((ts.map Tel.pv).length ≤ 1000) then R.ok (PV.ref h.length) (h ++ [PO.lst (sortT ks (ts.map Tel.pv))]) else .no | none => .no) = _
  rw [m]
  show (if _ then _ else _) = _
  rw [if_pos (by simp [key_nd nd, hl]), sort_pv]
theorem pv0 (t : Tel) (h : PH) : idxop t.pv (.int 0) h = .ok (.str t.name) h := idx_tup rfl
theorem pv1 (t : Tel) (h : PH) : idxop t.pv (.int 1) h = .ok (.str t.st) h := idx_tup rfl
theorem pv2 (t : Tel) (h : PH) : idxop t.pv (.int 2) h = .ok (.str t.en) h := idx_tup rfl
theorem pv3 (t : Tel) (h : PH) : idxop t.pv (.int 3) h = .ok (mq t.a t.b) h := idx_tup rfl
section
variable {tbl : Nat → Fn} {k : Nat} {h : PH}
theorem in_order_eq (h32 : tbl 32 = F_in_order) {v : PV} {ts : List Tel} (e : seqOf h v = some (ts.map Tel.pv)) (nd : (ts.map Tel.name).Nodup) (hl : ts.length ≤ 1000) : call tbl (k + 1) 32 [v] h = .ok (.ref h.length) (h ++ [.lst ((sortTel ts).map Tel.pv)]) := by
  refine R.Sat.eq ?_
  rw [call_succ, h32]
  refine fn_sat rfl ?_
  simp only [F_in_order, startP, List.map, List.length, List.replicate, List.cons_append, List.nil_append]
  simp [srt_pv e nd hl]
theorem order_of_eq (h32 : tbl 32 = F_in_order) (h33 : tbl 33 = F_order_of) {v : PV} {ts : List Tel} (e : seqOf h v = some (ts.map Tel.pv)) (nd : (ts.map Tel.name).Nodup) (hl : ts.length ≤ 1000) : call tbl (k + 2) 33 [v] h = .ok (.ref (h.length + 1)) (h ++ [.lst ((sortTel ts).map Tel.pv), .lst ((sortTel ts).map fun t => PV.str t.name)]) := by
  refine R.Sat.eq ?_
  rw [call_succ, h33]
  refine fn_sat rfl ?_
  simp only [F_order_of, startP, List.map, List.length, List.replicate, List.cons_append, List.nil_append]
  rw [x_one, x_ret]
  have el : (h ++ [PO.lst ((sortTel ts).map Tel.pv)])[h.length]? = some (.lst ((sortTel ts).map Tel.pv)) := by simp
  refine v_mapE (l := [.ref h.length]) (h1 := h ++ [.lst ((sortTel ts).map Tel.pv)]) (by simp [in_order_eq h32 e nd hl]) (walk_ref el) (fun v => match v with | .tup (x :: _) => x | _ => .non) (fun h' => h' = h ++ [.lst ((sortTel ts).map Tel.pv)]) rfl (fun h' e => by subst e; exact stays_one el) (by rw [List.length_map, sort_len]; omega) (fun x hx h' e => ?_) fun h' e => ?_
  · subst e
    obtain ⟨t, _, rfl⟩ := List.mem_map.mp hx
    refine ⟨_, rfl, ?_⟩
    simp [wipeP, pv0]
    rfl
  · subst e
    simp
    exact fun a _ => rfl
end
end Sb
set_option Elab.async false
set_option linter.all false
set_option maxRecDepth 100000
set_option maxHeartbeats 4000000
namespace Sb
open PySem
theorem tup_ref {h : PH} {n : Nat} {l : List PV} (e : h[n]? = some (.lst l)) : biF .tupleOf [.ref n] h = .ok (.tup l) h := by
  simp only [biF, biTuple, listOf, e]
theorem pop_at {h : PH} {n : Nat} {l : List PV} {i : Int} {v : PV} (e : h[n]? = some (.lst l)) (h0 : 0 ≤ i) (hv : l[i.toNat]? = some v) : mtF .popAt (.ref n) [.int i] h = .ok v (h.set n (.lst (l.eraseIdx i.toNat))) := by
  simp only [mtF, mtPopAt, e, hv]
  rw [if_pos h0]
theorem perm_erase {α : Type} : ∀ {l : List α} {i : Nat} {x : α}, l[i]? = some x → (x :: l.eraseIdx i).Perm l
  | [], i, x, e => by simp at e
  | a :: r, 0, x, e => by
    simp at e
    subst e
    simp
  | a :: r, i + 1, x, e => by
    simp at e
    rw [List.eraseIdx_cons_succ]
    exact (List.Perm.swap a x _).trans ((perm_erase e).cons a)
/-- a list or a tuple -/
theorem seqR {h : PH} {n : Nat} {l : List PV} (e : h[n]? = some (.lst l)) : seqOf h (.ref n) = some l := by simp only [seqOf, e]
theorem Fr.seq {h h' : PH} {v : PV} {l : List PV} (f : Fr [] h h') (e : seqOf h v = Option.some l) : seqOf h' v = Option.some l := by
  cases v with
  | tup k => exact e
  | cl k => exact e
  | ref n =>
    simp only [seqOf] at e ⊢
    cases hn : h[n]? with
    | none => rw [hn] at e; cases e
    | some o =>
      rw [hn] at e
      rw [f.some (by simp) hn]
      exact e
  | _ => cases e
theorem walk_seqV {h : PH} {v : PV} {l : List PV} (e : seqOf h v = some l) : ∃ kp, walkF .seq [v] h = some (l, kp) ∧ ∀ h', seqOf h' v = some l → stays kp h' := by
  cases v with
  | tup k =>
    cases e
    exact ⟨[], rfl, fun _ _ => stays_nil _⟩
  | cl k =>
    cases e
    exact ⟨[], rfl, fun _ _ => stays_nil _⟩
  | ref n =>
    simp only [seqOf] at e
    cases hn : h[n]? with
    | none => rw [hn] at e; cases e
    | some o =>
      rw [hn] at e
      cases o with
      | lst k =>
        cases e
        refine ⟨_, walk_ref hn, fun h' e' => ?_⟩
        simp only [seqOf] at e'
        cases hn' : h'[n]? with
        | none => rw [hn'] at e'; cases e'
        | some o' =>
          rw [hn'] at e'
          cases o' with
          | lst k' =>
            cases e'
            exact stays_one hn'
          | dct _ => cases e'
          | obj _ _ => cases e'
      | dct _ => cases e
      | obj _ _ => cases e
  | _ => cases e
end Sb
set_option Elab.async false
set_option linter.all false
set_option maxRecDepth 100000
set_option maxHeartbeats 4000000
namespace Sb
open PySem
abbrev Mv := Rat × Rat
def thn2 (p q : Mv) : Mv := (q.1 * p.1, q.1 * p.2 + q.2)
def bck (p : Mv) : Mv := (1 / p.1, (0 - p.2) / p.1)
def rel (P : Str → Mv) (x y : Str) : Mv := thn2 (bck (P x)) (P y)
def one2 : Mv := (1, 0)
theorem thn_assoc (p q r : Mv) : thn2 (thn2 p q) r = thn2 p (thn2 q r) := by
  unfold thn2
  ext <;> simp <;> grind
theorem thn_one (p : Mv) : thn2 p one2 = p := by
  unfold thn2 one2
  ext <;> simp <;> grind
theorem one_thn (p : Mv) : thn2 one2 p = p := by
  unfold thn2 one2
  ext <;> simp <;> grind
theorem bck_thn {p : Mv} (h : p.1 ≠ 0) : thn2 (bck p) p = one2 := by
  unfold thn2 bck one2
  ext <;> simp <;> grind
theorem thn_bck {p : Mv} (h : p.1 ≠ 0) : thn2 p (bck p) = one2 := by
  unfold thn2 bck one2
  ext <;> simp <;> grind
theorem bck_ne {p : Mv} (h : p.1 ≠ 0) : (bck p).1 ≠ 0 := by
  unfold bck
  intro z
  have : p.1 * (1 / p.1) = 1 := by grind
  rw [show (1 : Rat) / p.1 = 0 from z] at this
  grind
theorem thn_ne {p q : Mv} (h : p.1 ≠ 0) (g : q.1 ≠ 0) : (thn2 p q).1 ≠ 0 := by
  unfold thn2
  intro z
  rcases Rat.mul_eq_zero.mp z with z | z
  · exact g z
  · exact h z
theorem bck_bck {p : Mv} (h : p.1 ≠ 0) : bck (bck p) = p := by
  have e : thn2 (bck (bck p)) (thn2 (bck p) p) = p := by rw [← thn_assoc, bck_thn (bck_ne h), one_thn]
  rwa [bck_thn h, thn_one] at e
theorem bck_thn2 {p q : Mv} (h : p.1 ≠ 0) (g : q.1 ≠ 0) : bck (thn2 p q) = thn2 (bck q) (bck p) := by
  have e : thn2 (bck (thn2 p q)) (thn2 (thn2 p q) (thn2 (bck q) (bck p))) = thn2 (bck q) (bck p) := by rw [← thn_assoc, bck_thn (thn_ne h g), one_thn]
  rw [thn_assoc p q, ← thn_assoc q, thn_bck g, one_thn, thn_bck h, thn_one] at e
  exact e
section
variable {P : Str → Mv}
theorem rel_self {x : Str} (h : (P x).1 ≠ 0) : rel P x x = one2 := bck_thn h
theorem rel_thn {x y z : Str} (h : (P y).1 ≠ 0) : thn2 (rel P x y) (rel P y z) = rel P x z := by
  unfold rel
  rw [thn_assoc, ← thn_assoc (P y), thn_bck h, one_thn]
theorem rel_bck {x y : Str} (hx : (P x).1 ≠ 0) (hy : (P y).1 ≠ 0) : bck (rel P x y) = rel P y x := by
  unfold rel
  rw [bck_thn2 (bck_ne hx) hy, bck_bck hx]
end
inductive Joined (ts : List Tel) : Str → Str → Prop
  | refl (x : Str) : Joined ts x x
  | step {x y : Str} {t : Tel} (m : t ∈ ts) (j : Joined ts x y) (e : y = t.st) : Joined ts x t.en
  | back {x y : Str} {t : Tel} (m : t ∈ ts) (j : Joined ts x y) (e : y = t.en) : Joined ts x t.st
theorem Joined.trans {ts : List Tel} {x y z : Str} (a : Joined ts x y) (b : Joined ts y z) : Joined ts x z := by
  induction b with
  | refl => exact a
  | step m _ e ih => exact .step m ih e
  | back m _ e ih => exact .back m ih e
theorem Joined.of {ts : List Tel} {t : Tel} (m : t ∈ ts) : Joined ts t.st t.en := .step m (.refl _) rfl
theorem Joined.of' {ts : List Tel} {t : Tel} (m : t ∈ ts) : Joined ts t.en t.st := .back m (.refl _) rfl
theorem Joined.symm {ts : List Tel} {x y : Str} (a : Joined ts x y) : Joined ts y x := by
  induction a with
  | refl => exact .refl _
  | step m _ e ih => subst e; exact (Joined.of' m).trans ih
  | back m _ e ih => subst e; exact (Joined.of m).trans ih
theorem Joined.mono {ts us : List Tel} (h : ∀ t ∈ ts, t ∈ us) {x y : Str} (a : Joined ts x y) : Joined us x y := by
  induction a with
  | refl => exact .refl _
  | step m _ e ih => exact .step (h _ m) ih e
  | back m _ e ih => exact .back (h _ m) ih e
/-- where every telling of ts has both ends joined in us -/
theorem Joined.into {ts us : List Tel} (h : ∀ t ∈ ts, Joined us t.st t.en) {x y : Str} (a : Joined ts x y) : Joined us x y := by
  induction a with
  | refl => exact .refl _
  | step m _ e ih => subst e; exact ih.trans (h _ m)
  | back m _ e ih => subst e; exact ih.trans (h _ m).symm
def reMark (mk : Str → Str) (near far : Str) : Str → Str := fun x => if mk x = far then near else mk x
def ties : (Str → Str) → List Tel → List Tel
  | _, [] => []
  | mk, t :: r => if mk t.st = mk t.en then ties mk r else t :: ties (reMark mk (mk t.st) (mk t.en)) r
def tieRows (ts : List Tel) : List Tel := ties id (sortTel ts)
theorem ties_sub : ∀ (l : List Tel) (mk : Str → Str), (ties mk l).Sublist l
  | [], _ => List.Sublist.slnil
  | t :: r, mk => by
    unfold ties
    split
    · exact (ties_sub r _).cons _
    · exact (ties_sub r _).cons_cons _
/-- a telling that P agrees with -/
def Agrees (P : Str → Mv) (t : Tel) : Prop := (t.a, t.b) = rel P t.st t.en
/-- marks tell what is joined -/
theorem ties_spec : ∀ (l : List Tel) (mk : Str → Str) (F : List Tel) (P : Str → Mv), (∀ x, (P x).1 ≠ 0) → (∀ t ∈ l, t.a ≠ 0) → (∀ x y, mk x = mk y → Joined F x y) → (∀ t ∈ F, mk t.st = mk t.en) → (∀ t ∈ F, Agrees P t) →
    ∃ P' : Str → Mv, (∀ x, (P' x).1 ≠ 0) ∧ (∀ t ∈ F ++ ties mk l, Agrees P' t) ∧ ∀ t ∈ l, Joined (F ++ ties mk l) t.st t.en
  | [], mk, F, P, hP, ha, hj, hm, hg => ⟨P, hP, by simpa [ties] using hg, by simp⟩
  | t :: r, mk, F, P, hP, ha, hj, hm, hg => by
    unfold ties
    by_cases e : mk t.st = mk t.en
    · rw [if_pos e]
      obtain ⟨P', h1, h2, h3⟩ := ties_spec r mk F P hP (fun u hu => ha u (List.mem_cons_of_mem _ hu)) hj hm hg
      refine ⟨P', h1, h2, fun u hu => ?_⟩
      rcases List.mem_cons.mp hu with rfl | hu
      · exact (hj _ _ e).mono fun v hv => List.mem_append_left _ hv
      · exact h3 u hu
    · rw [if_neg e]
      let G : Mv := thn2 (thn2 (P t.st) (t.a, t.b)) (bck (P t.en))
      let P1 : Str → Mv := fun x => if mk x = mk t.en then thn2 G (P x) else P x
      have a0 : t.a ≠ 0 := ha t (List.mem_cons_self ..)
      have G0 : G.1 ≠ 0 := thn_ne (thn_ne (hP _) a0) (bck_ne (hP _))
      have hP1 : ∀ x, (P1 x).1 ≠ 0 := fun x => by
        show (if mk x = mk t.en then thn2 G (P x) else P x).1 ≠ 0
        split
        · exact thn_ne G0 (hP x)
        · exact hP x
      have same : ∀ x y, mk x = mk y → rel P1 x y = rel P x y := fun x y exy => by
        show thn2 (bck (if mk x = mk t.en then thn2 G (P x) else P x)) (if mk y = mk t.en then thn2 G (P y) else P y) = _
        rw [← exy]
        split
        · rw [bck_thn2 G0 (hP x), thn_assoc, ← thn_assoc (bck G), bck_thn G0, one_thn]
          rfl
        · rfl
      have new : Agrees P1 t := by
        show (t.a, t.b) = thn2 (bck (if mk t.st = mk t.en then thn2 G (P t.st) else P t.st)) (if mk t.en = mk t.en then thn2 G (P t.en) else P t.en)
        rw [if_neg e, if_pos rfl]
        show _ = thn2 (bck (P t.st)) (thn2 (thn2 (thn2 (P t.st) (t.a, t.b)) (bck (P t.en))) (P t.en))
        rw [thn_assoc _ (bck (P t.en)), bck_thn (hP _), thn_one, ← thn_assoc, bck_thn (hP _), one_thn]
      have c1 : ∀ x y, reMark mk (mk t.st) (mk t.en) x = reMark mk (mk t.st) (mk t.en) y → Joined (F ++ [t]) x y := by
        intro x y exy
        have up : ∀ {x y}, mk x = mk y → Joined (F ++ [t]) x y := fun z => (hj _ _ z).mono fun v hv => List.mem_append_left _ hv
        have jt : Joined (F ++ [t]) t.st t.en := Joined.of (by simp)
        unfold reMark at exy
        split at exy
        · rename_i zx
          split at exy
          · rename_i zy
            exact up (zx.trans zy.symm)
          · exact ((up zx).trans jt.symm).trans (up exy)
        · split at exy
          · rename_i zy
            exact ((up exy).trans jt).trans (up zy.symm)
          · exact up exy
      have c2 : ∀ u ∈ F ++ [t], reMark mk (mk t.st) (mk t.en) u.st = reMark mk (mk t.st) (mk t.en) u.en := by
        intro u hu
        rcases List.mem_append.mp hu with z | z
        · unfold reMark
          rw [hm u z]
        · rw [List.mem_singleton.mp z]
          unfold reMark
          rw [if_neg e, if_pos rfl]
      have c3 : ∀ u ∈ F ++ [t], Agrees P1 u := by
        intro u hu
        rcases List.mem_append.mp hu with z | z
        · unfold Agrees
          rw [same _ _ (hm u z)]
          exact hg u z
        · rw [List.mem_singleton.mp z]
          exact new
      obtain ⟨P', h1, h2, h3⟩ := ties_spec r (reMark mk (mk t.st) (mk t.en)) (F ++ [t]) P1 hP1 (fun u hu => ha u (List.mem_cons_of_mem _ hu)) c1 c2 c3
      have ea : F ++ [t] ++ ties (reMark mk (mk t.st) (mk t.en)) r = F ++ t :: ties (reMark mk (mk t.st) (mk t.en)) r := by simp
      rw [ea] at h2 h3
      refine ⟨P', h1, h2, fun u hu => ?_⟩
      rcases List.mem_cons.mp hu with rfl | hu
      · exact Joined.of (by simp)
      · exact h3 u hu
/-- readings that all ties tell; every telling's ends are joined by ties -/
theorem tieRows_spec {ts : List Tel} (ha : ∀ t ∈ ts, t.a ≠ 0) : ∃ P : Str → Mv, (∀ x, (P x).1 ≠ 0) ∧ (∀ t ∈ tieRows ts, Agrees P t) ∧ ∀ t ∈ ts, Joined (tieRows ts) t.st t.en := by
  obtain ⟨P, h1, h2, h3⟩ := ties_spec (sortTel ts) id [] (fun _ => one2) (fun _ => by show (1 : Rat) ≠ 0; decide) (fun t ht => ha t ((sort_perm ts).mem_iff.mp ht)) (fun x y e => by
    rw [show x = y from e]
    exact .refl _) (by simp) (by simp)
  rw [List.nil_append] at h2 h3
  exact ⟨P, h1, h2, fun t ht => h3 t ((sort_perm ts).mem_iff.mpr ht)⟩
theorem tieRows_mem {ts : List Tel} {t : Tel} (h : t ∈ tieRows ts) : t ∈ ts := (sort_perm ts).mem_iff.mp ((ties_sub _ _).mem h)
end Sb
set_option Elab.async false
set_option linter.all false
set_option maxRecDepth 100000
set_option maxHeartbeats 4000000
namespace Sb
open PySem
theorem valP_mem {l : List (L2.Key × PV)} {k : L2.Key} {v : PV} (e : valP l k = some v) : (k, v) ∈ l := by
  unfold valP at e
  obtain ⟨kv, h1, h2⟩ := Option.map_eq_some_iff.mp e
  have := List.find?_some h1
  have hk : kv.1 = k := of_decide_eq_true this
  have := List.mem_of_find?_eq_some h1
  rw [← hk, ← h2]
  exact this
theorem valP_none {l : List (L2.Key × PV)} {k : L2.Key} (e : valP l k = none) : k ∉ l.map (·.1) := by
  unfold valP at e
  rw [Option.map_eq_none_iff, List.find?_eq_none] at e
  intro h
  obtain ⟨kv, h1, h2⟩ := List.mem_map.mp h
  exact e kv h1 (decide_eq_true h2)
theorem any_none {l : List (L2.Key × PV)} {k : L2.Key} (e : k ∉ l.map (·.1)) : ¬ (l.any fun kv => decide (kv.1 = k)) = true := fun h => by
  obtain ⟨kv, h1, h2⟩ := List.any_eq_true.mp h
  exact e (List.mem_map.mpr ⟨kv, h1, of_decide_eq_true h2⟩)
theorem put_new {l : List (L2.Key × PV)} {k : L2.Key} {v : PV} (e : k ∉ l.map (·.1)) : putP l k v = l ++ [(k, v)] := by
  unfold putP
  rw [if_neg (any_none e)]
theorem merge_app : ∀ (m acc : List (L2.Key × PV)), ((acc ++ m).map (·.1)).Nodup → mergeP acc m = acc ++ m
  | [], acc, _ => by simp [mergeP]
  | (k, v) :: m, acc, nd => by
    show mergeP (putP acc k v) m = _
    have h0 : k ∉ acc.map (·.1) := fun h => by
      rw [List.map_append, List.nodup_append] at nd
      exact nd.2.2 _ h _ (by simp) rfl
    rw [put_new h0, merge_app m (acc ++ [(k, v)]) (by simpa using nd)]
    simp
theorem keys_remark (a b : Str) (l : List (L2.Key × PV)) : (remarkL a b l).map (·.1) = l.map (·.1) := by
  unfold remarkL
  simp
def reV (a b : Str) : PV → PV
  | .str m => .str (if m = b then a else m)
  | v => v
theorem val_remark (a b : Str) (k : L2.Key) : ∀ l : List (L2.Key × PV), valP (remarkL a b l) k = (valP l k).map (reV a b)
  | [] => rfl
  | (k', v) :: l => by
    have ih := val_remark a b k l
    have e : remarkL a b ((k', v) :: l) = (k', reV a b v) :: remarkL a b l := by
      unfold remarkL
      rw [List.map_cons]
      cases v <;> rfl
    rw [e]
    unfold valP at ih ⊢
    by_cases z : k' = k
    · simp [z]
    · simp [z]
      simpa using ih
structure MkOk (l : List (L2.Key × PV)) (mk : Str → Str) : Prop where
  nd : (l.map (·.1)).Nodup
  st : ∀ kv ∈ l, ∃ y, kv.2 = .str y
  at_ : ∀ x, valP l (.inr x) = some (.str (mk x)) ∨ (valP l (.inr x) = none ∧ mk x = x)
  pr : ∀ x, valP l (.inr x) ≠ none → valP l (.inr (mk x)) ≠ none
theorem MkOk.setd {l : List (L2.Key × PV)} {mk : Str → Str} {x : Str} (m : MkOk l mk) (e : valP l (.inr x) = none) : MkOk (putP l (.inr x) (.str x)) mk := by
  have ex : mk x = x := by
    rcases m.at_ x with z | z
    · rw [e] at z
      cases z
    · exact z.2
  have np := valP_none e
  refine ⟨?_, fun kv h => ?_, fun y => ?_, fun y hy => ?_⟩
  · rw [put_new np, List.map_append, List.nodup_append]
    refine ⟨m.nd, by simp, fun a ha b hb z => np ?_⟩
    simp at hb
    rw [← hb, ← z]
    exact ha
  · rw [put_new np] at h
    rcases List.mem_append.mp h with z | z
    · exact m.st kv z
    · rw [List.mem_singleton.mp z]
      exact ⟨x, rfl⟩
  · rw [val_put]
    by_cases z : y = x
    · subst z
      rw [if_pos rfl, ex]
      exact .inl rfl
    · rw [if_neg (by simpa using z)]
      exact m.at_ y
  · rw [val_put] at hy ⊢
    by_cases z : y = x
    · subst z
      rw [ex, if_pos rfl]
      simp
    · rw [if_neg (by simpa using z)] at hy
      split
      · simp
      · exact m.pr y hy
theorem MkOk.re {l : List (L2.Key × PV)} {mk : Str → Str} {s e : Str} (m : MkOk l mk) (hs : valP l (.inr s) ≠ none) (he : valP l (.inr e) ≠ none) : MkOk (mergeP [] (remarkL (mk s) (mk e) l)) (reMark mk (mk s) (mk e)) := by
  have em : mergeP [] (remarkL (mk s) (mk e) l) = remarkL (mk s) (mk e) l := by
    have := merge_app (remarkL (mk s) (mk e) l) [] (by rw [List.nil_append, keys_remark]; exact m.nd)
    simpa using this
  rw [em]
  refine ⟨by rw [keys_remark]; exact m.nd, fun kv h => ?_, fun y => ?_, fun y hy => ?_⟩
  · unfold remarkL at h
    obtain ⟨kv', h1, rfl⟩ := List.mem_map.mp h
    obtain ⟨z, ez⟩ := m.st kv' h1
    refine ⟨if z = mk e then mk s else z, ?_⟩
    show (match kv'.2 with | .str m => PV.str (if m = mk e then mk s else m) | v => v) = _
    rw [ez]
  · rw [val_remark]
    rcases m.at_ y with z | ⟨z1, z2⟩
    · rw [z]
      exact .inl rfl
    · rw [z1]
      refine .inr ⟨rfl, ?_⟩
      unfold reMark
      rw [z2, if_neg]
      intro ye
      have := m.pr e he
      rw [← ye] at this
      exact this z1
  · rw [val_remark] at hy ⊢
    have hy' : valP l (.inr y) ≠ none := fun z => hy (by rw [z]; rfl)
    have : valP l (.inr (reMark mk (mk s) (mk e) y)) ≠ none := by
      unfold reMark
      split
      · exact m.pr s hs
      · exact m.pr y hy'
    intro z
    exact this (Option.map_eq_none_iff.mp z)
theorem MkOk.strs {l : List (L2.Key × PV)} (h : ∀ kv ∈ l, ∃ y, kv.2 = PV.str y) : ∃ xs, strsOf (l.map (·.2)) = some xs := by
  induction l with
  | nil => exact ⟨[], rfl⟩
  | cons kv r ih =>
    obtain ⟨xs, e⟩ := ih fun z hz => h z (List.mem_cons_of_mem _ hz)
    obtain ⟨y, ey⟩ := h kv (List.mem_cons_self ..)
    refine ⟨y :: xs, ?_⟩
    rw [List.map_cons, ey]
    show (strsOf (r.map (·.2))).map (y :: ·) = _
    rw [e]
    rfl
theorem remark_len (a b : Str) (l : List (L2.Key × PV)) : (remarkL a b l).length = l.length := by
  unfold remarkL
  simp
theorem setd_eq {h : PH} {d : Nat} {l : List (L2.Key × PV)} {mk : Str → Str} (x : Str) (e : h[d]? = some (.dct l)) (m : MkOk l mk) (hl : l.length < 999999) : ∃ l' h', mtF .setd (.ref d) [.str x, .str x] h = .ok (.str (mk x)) h' ∧ h'[d]? = some (.dct l') ∧ MkOk l' mk ∧ valP l' (.inr x) ≠ none ∧ l'.length ≤ l.length + 1 ∧ (∀ n, n ≠ d → h'[n]? = h[n]?) ∧ h'.length = h.length ∧ ∀ y, valP l (.inr y) ≠ none → valP l' (.inr y) ≠ none := by
  have lo : lineOk (l.length + 1) = true := line_small (by omega)
  rcases m.at_ x with z | ⟨z1, z2⟩
  · refine ⟨l, h, ?_, e, m, by rw [z]; simp, by omega, fun _ _ => rfl, rfl, fun _ z => z⟩
    simp only [mtF, mtSetd, e, keyOf, lo, if_true, z]
  · refine ⟨putP l (.inr x) (.str x), h.set d (.dct (putP l (.inr x) (.str x))), ?_, set_at e, m.setd z1, by rw [val_put, if_pos rfl]; simp, put_len .., fun n hn => set_ne' (Ne.symm hn), by simp, fun y hy => ?_⟩
    · simp only [mtF, mtSetd, e, keyOf, lo, if_true, z1, z2]
    · rw [val_put]
      split
      · simp
      · exact hy
section
variable {C : Calls} {t : Bool} {ρ : Env} {h : PH}
@[simp] theorem g_remark (d a b : Nat) : evG C (.remark d a b) t ρ h = fin t (remarkP (ρ.get d) (ρ.get a) (ρ.get b) h) := by rfl
@[simp] theorem g_firsts (j : Nat) : evG C (.firsts j) t ρ h = fin t (firstsP (ρ.get j) h) := by rfl
end
theorem remark_eq {h : PH} {d : Nat} {l : List (L2.Key × PV)} {a b : Str} (e : h[d]? = some (.dct l)) (st : ∀ kv ∈ l, ∃ y, kv.2 = PV.str y) (hl : l.length < 999999) : remarkP (some (.ref d)) (some (.str a)) (some (.str b)) h = .ok (.ref h.length) (h ++ [.dct (mergeP [] (remarkL a b l))]) := by
  obtain ⟨xs, ex⟩ := MkOk.strs st
  have lo : lineOk (l.length + 1) = true := line_small (by omega)
  simp only [remarkP, e, ex, lo, if_true]
  rfl
theorem ty_dct {h : PH} {m : Nat} {l : List (L2.Key × PV)} (e : h[m]? = some (.dct l)) : tyOf h (.ref m) = some .dict := by simp only [tyOf, e]
section
variable {tbl : Nat → Fn} {k : Nat} {h : PH}
theorem tie_rows_sat (h32 : tbl 32 = F_in_order) (h39 : tbl 39 = F_tie_rows) {v : PV} {ts : List Tel} (e : seqOf h v = some (ts.map Tel.pv)) (nd : (ts.map Tel.name).Nodup) (hl : ts.length ≤ 1000) {Q : PV → PH → Prop}
    (q : ∀ n h', h'[n]? = some (.lst ((tieRows ts).map Tel.pv)) → h.length ≤ n → Fr [] h h' → Q (.ref n) h') : (call tbl (k + 2) 39 [v] h).Sat Q := by
  rw [call_succ, h39]
  refine fn_sat rfl ?_
  simp only [F_tie_rows, startP, List.map, List.length, List.replicate, List.cons_append, List.nil_append]
  rw [x_cons]
  simp [pairUp, mergeP, allocD]
  rw [x_cons]
  simp [alloc_small]
  rw [x_cons]
  have e2 : seqOf (h ++ [PO.dct [], PO.lst []]) v = some (ts.map Tel.pv) := by
    cases v with
    | ref n =>
      cases hn : h[n]? with
      | none => simp [seqOf, hn] at e
      | some o =>
        have : (h ++ [PO.dct [], PO.lst []])[n]? = some o := by
          rw [List.getElem?_append_left (List.getElem?_eq_some_iff.mp hn).1]
          exact hn
        simp only [seqOf, this]
        simpa only [seqOf, hn] using e
    | _ => exact e
  have io := in_order_eq (k := k) h32 e2 nd hl
  generalize hS : sortTel ts = S at io
  have sl : S.length = ts.length := by rw [← hS, sort_len]
  have ll : (h ++ [PO.dct [], PO.lst []]).length = h.length + 2 := by simp
  rw [ll] at io
  generalize hh : h ++ [PO.dct [], PO.lst []] ++ [PO.lst (S.map Tel.pv)] = h1 at io
  have l1 : h1.length = h.length + 3 := by rw [← hh]; simp
  have a0 : h1[h.length]? = some (.dct []) := by rw [← hh]; simp
  have a1 : h1[h.length + 1]? = some (.lst []) := by rw [← hh]; simp
  have a2 : h1[h.length + 2]? = some (.lst (S.map Tel.pv)) := by rw [← hh]; simp
  have f1 : Fr [] h h1 := by rw [← hh, List.append_assoc]; exact Fr.app
  obtain ⟨I, hI⟩ : ∃ I : Nat → Env → PH → Prop, I = fun i ρ h' => ∃ (o3 o4 o5 : Option PV) (d : Nat) (l : List (L2.Key × PV)) (mk : Str → Str) (acc : List Tel), ρ = [some v, some (.ref d), some (.ref (h.length + 1)), o3, o4, o5, none, none] ∧ h'[d]? = some (.dct l) ∧ h.length ≤ d ∧ MkOk l mk ∧ l.length ≤ 2 * i ∧ h'[h.length + 1]? = some (.lst (acc.map Tel.pv)) ∧ acc.length ≤ i ∧ acc ++ ties mk (S.drop i) = ties id S ∧ h'[h.length + 2]? = some (.lst (S.map Tel.pv)) ∧ Fr [] h h' ∧ d ≠ h.length + 1 ∧ d ≠ h.length + 2 := ⟨_, rfl⟩
  refine x_forE (l := [.ref (h.length + 2)]) (h1 := h1) (by simp [io]) (walk_ref a2) I (by
    rw [hI]
    exact ⟨none, none, none, h.length, [], id, [], rfl, a0, Nat.le_refl _, ⟨by simp, by simp, fun x => .inr ⟨rfl, rfl⟩, fun x hx => absurd rfl hx⟩, by simp, a1, by simp, by simp, a2, f1, by omega, by omega⟩) ?_ ?_
  · intro i x ρ h2 hx hi
    rw [hI] at hi
    obtain ⟨o3, o4, o5, d, l, mk, acc, rfl, b1, b2, mo, b3, b4, b5, b6, b7, f2, d1, d2⟩ := hi
    rw [List.getElem?_map] at hx
    obtain ⟨t, ht, rfl⟩ := Option.map_eq_some_iff.mp hx
    have hi := (List.getElem?_eq_some_iff.mp ht).1
    refine ⟨stays_one b7, _, rfl, ?_⟩
    simp only [List.set]
    obtain ⟨l3, h3, c1, c2, c3, c4, c5, c6, c7, c8⟩ := setd_eq t.st b1 mo (by omega)
    obtain ⟨l4, h4, g1, g2, g3, g4, g5, g6, g7, g8⟩ := setd_eq t.en c2 c3 (by omega)
    rw [x_cons]
    simp [ty_dct b1, MT.ty, pv1, c1]
    rw [x_cons]
    simp [ty_dct c2, MT.ty, pv2, g1]
    have fr4 : Fr [] h h4 := ⟨by rw [g7, c7]; exact f2.len, fun n hn hl => by rw [g6 n (by omega), c6 n (by omega)]; exact f2.at_ n hn hl⟩
    have e4f : h4[h.length + 1]? = some (.lst (acc.map Tel.pv)) := by rw [g6 _ (Ne.symm d1), c6 _ (Ne.symm d1)]; exact b4
    have e4s : h4[h.length + 2]? = some (.lst (S.map Tel.pv)) := by rw [g6 _ (Ne.symm d2), c6 _ (Ne.symm d2)]; exact b7
    have ds : S.drop i = t :: S.drop (i + 1) := by
      rw [List.drop_eq_getElem_cons hi, (List.getElem?_eq_some_iff.mp ht).2]
    rw [ds, show ties mk (t :: S.drop (i + 1)) = if mk t.st = mk t.en then ties mk (S.drop (i + 1)) else t :: ties (reMark mk (mk t.st) (mk t.en)) (S.drop (i + 1)) from rfl] at b6
    have cn : ∀ x y : Str, cmpop .NotEq (.str x) (.str y) h4 = .ok (.bl (!decide (x = y))) h4 := fun _ _ => rfl
    simp [cn]
    by_cases me : mk t.st = mk t.en
    · rw [if_pos me] at b6
      simp [me]
      rw [hI]
      exact ⟨_, _, _, d, l4, mk, acc, rfl, g2, b2, g3, by omega, e4f, by omega, b6, e4s, fr4, d1, d2⟩
    · rw [if_neg me] at b6
      simp [me]
      have re := remark_eq (a := mk t.st) (b := mk t.en) g2 g3.st (by omega)
      rw [x_cons]
      simp [re]
      have n4 : (h4 ++ [PO.dct (mergeP [] (remarkL (mk t.st) (mk t.en) l4))])[h.length + 1]? = some (.lst (acc.map Tel.pv)) := (Fr.app (S := [])).some (by simp) e4f
      have n4s : (h4 ++ [PO.dct (mergeP [] (remarkL (mk t.st) (mk t.en) l4))])[h.length + 2]? = some (.lst (S.map Tel.pv)) := (Fr.app (S := [])).some (by simp) e4s
      have lt4 := (List.getElem?_eq_some_iff.mp e4s).1
      simp [ty_ref n4, MT.ty, mt_append n4 (by simp; omega)]
      have mr := g3.re (g8 _ c4) g4
      rw [hI]
      refine ⟨_, _, _, h4.length, _, _, acc ++ [t], rfl, by rw [set_ne' (by omega)]; simp, by omega, mr, ?_, by rw [set_at n4]; simp, by simp; omega, by rw [← b6]; simp, by rw [set_ne' (by omega)]; exact n4s, fr4.appNew.setNew (by omega), by omega, by omega⟩
      rw [show mergeP [] (remarkL (mk t.st) (mk t.en) l4) = remarkL (mk t.st) (mk t.en) l4 by
        have := merge_app (remarkL (mk t.st) (mk t.en) l4) [] (by rw [List.nil_append, keys_remark]; exact g3.nd)
        simpa using this, remark_len]
      omega
  · intro ρ h2 hi
    rw [hI] at hi
    obtain ⟨o3, o4, o5, d, l, mk, acc, rfl, b1, b2, mo, b3, b4, b5, b6, b7, f2, d1, d2⟩ := hi
    refine ⟨stays_one b7, ?_⟩
    rw [List.length_map, List.drop_length] at b6
    have : acc = tieRows ts := by
      unfold tieRows
      rw [hS, ← b6]
      simp [ties]
    subst this
    simp
    exact q _ h2 b4 (by omega) f2
end
end Sb
set_option Elab.async false
set_option linter.all false
set_option maxRecDepth 100000
set_option maxHeartbeats 4000000
namespace Sb
open PySem
abbrev Step := Str × Bool
def stPV (s : Step) : PV := .tup [.str s.1, .bl s.2]
def sgPV (p : Step × Str) : PV := .tup [stPV p.1, .str p.2]
def stepOf (x : Str) (t : Tel) : List (Step × Str) := (if t.st = x then [((t.name, true), t.en)] else []) ++ (if t.en = x then [((t.name, false), t.st)] else [])
def stepsOf (rows : List Tel) (x : Str) : List (Step × Str) := rows.flatMap (stepOf x)
theorem steps_len (x : Str) : ∀ rows : List Tel, (stepsOf rows x).length ≤ 2 * rows.length
  | [] => Nat.le_refl _
  | t :: r => by
    have ih := steps_len x r
    have : stepsOf (t :: r) x = stepOf x t ++ stepsOf r x := by simp [stepsOf]
    rw [this, List.length_append, List.length_cons]
    have : (stepOf x t).length ≤ 2 := by
      unfold stepOf
      split <;> split <;> simp
    omega
theorem steps_mem {rows : List Tel} {x : Str} {p : Step × Str} (h : p ∈ stepsOf rows x) : ∃ t ∈ rows, (p = ((t.name, true), t.en) ∧ t.st = x) ∨ (p = ((t.name, false), t.st) ∧ t.en = x) := by
  obtain ⟨t, ht, hp⟩ := List.mem_flatMap.mp h
  refine ⟨t, ht, ?_⟩
  unfold stepOf at hp
  rcases List.mem_append.mp hp with z | z
  · split at z
    · rename_i e
      exact .inl ⟨by simpa using z, e⟩
    · simp at z
  · split at z
    · rename_i e
      exact .inr ⟨by simpa using z, e⟩
    · simp at z
theorem steps_forth {rows : List Tel} {t : Tel} (h : t ∈ rows) : ((t.name, true), t.en) ∈ stepsOf rows t.st := List.mem_flatMap.mpr ⟨t, h, by simp [stepOf]⟩
theorem steps_back {rows : List Tel} {t : Tel} (h : t ∈ rows) : ((t.name, false), t.st) ∈ stepsOf rows t.en := List.mem_flatMap.mpr ⟨t, h, by simp [stepOf]⟩
/-- a walk -/
inductive Walk (rows : List Tel) (s : Str) : List Step → Str → Prop
  | nil : Walk rows s [] s
  | snoc {c : List Step} {x : Str} {p : Step × Str} (w : Walk rows s c x) (m : p ∈ stepsOf rows x) : Walk rows s (c ++ [p.1]) p.2
/-- a walk that comes to no scale twice: vs the scales that it comes to -/
inductive Path (rows : List Tel) (s : Str) : List Str → List Step → Str → Prop
  | nil : Path rows s [s] [] s
  | snoc {vs : List Str} {c : List Step} {x : Str} {p : Step × Str} (w : Path rows s vs c x) (m : p ∈ stepsOf rows x) (n : p.2 ∉ vs) : Path rows s (vs ++ [p.2]) (c ++ [p.1]) p.2
theorem Path.walk {rows : List Tel} {s x : Str} {vs : List Str} {c : List Step} (w : Path rows s vs c x) : Walk rows s c x := by
  induction w with
  | nil => exact .nil
  | snoc w m n ih => exact ih.snoc m
def PathE (rows : List Tel) (s : Str) (c : List Step) (x : Str) : Prop := ∃ vs, Path rows s vs c x
theorem PathE.walk {rows : List Tel} {s x : Str} {c : List Step} (w : PathE rows s c x) : Walk rows s c x := w.elim fun _ w => w.walk
theorem Walk.joined {rows : List Tel} {s x : Str} {c : List Step} (w : Walk rows s c x) : Joined rows s x := by
  induction w with
  | nil => exact .refl _
  | snoc _ m ih =>
    obtain ⟨t, ht, ⟨rfl, e⟩ | ⟨rfl, e⟩⟩ := steps_mem m
    · exact .step ht ih e.symm
    · exact .back ht ih e.symm
section
variable {tbl : Nat → Fn} {k : Nat} {h : PH}
theorem steps_from_eq (h40 : tbl 40 = F_steps_from) {r : Nat} {rows : List Tel} (e : h[r]? = some (.lst (rows.map Tel.pv))) (hl : rows.length ≤ 1000) (x : Str) : call tbl (k + 1) 40 [.ref r, .str x] h = .ok (.ref h.length) (h ++ [.lst ((stepsOf rows x).map sgPV)]) := by
  refine R.Sat.eq ?_
  rw [call_succ, h40]
  refine fn_sat rfl ?_
  simp only [F_steps_from, startP, List.map, List.length, List.replicate, List.cons_append, List.nil_append]
  rw [x_cons]
  simp [alloc_small]
  rw [x_cons]
  have e1 : ∀ l, (h ++ [PO.lst l])[r]? = some (.lst (rows.map Tel.pv)) := fun l => (Fr.app (S := [])).some (by simp) e
  obtain ⟨I, hI⟩ : ∃ I : Nat → Env → PH → Prop, I = fun i ρ h' => (∃ o3 o4 o5, ρ = [some (.ref r), some (.str x), some (.ref h.length), o3, o4, o5, none]) ∧ h' = h ++ [.lst ((stepsOf (rows.take i) x).map sgPV)] := ⟨_, rfl⟩
  refine x_forE (l := [.ref r]) (h1 := h ++ [.lst []]) (by simp) (walk_ref (e1 _)) I (by rw [hI]; exact ⟨⟨_, _, _, rfl⟩, by simp [stepsOf]⟩) ?_ ?_
  · intro i y ρ h' hy hi
    rw [hI] at hi
    obtain ⟨⟨o3, o4, o5, rfl⟩, rfl⟩ := hi
    rw [List.getElem?_map] at hy
    obtain ⟨t, ht, rfl⟩ := Option.map_eq_some_iff.mp hy
    refine ⟨stays_one (e1 _), [some (.ref r), some (.str x), some (.ref h.length), some (.str t.name), some (.str t.st), some (.str t.en), none], by simp [setTg, Tel.pv, setAll], ?_⟩
    have lt := steps_len x (rows.take i)
    have ltk : (rows.take i).length ≤ 1000 := by rw [List.length_take]; omega
    have es : stepsOf (rows.take (i + 1)) x = stepsOf (rows.take i) x ++ stepOf x t := by
      rw [List.take_add_one, ht]
      simp [stepsOf]
    have at_ : ∀ l : List PV, (h ++ [PO.lst l])[h.length]? = some (.lst l) := fun l => by simp
    have up : ∀ (l : List PV) v, l.length < 999999 → mtF .append (.ref h.length) [v] (h ++ [.lst l]) = .ok .non (h ++ [.lst (l ++ [v])]) := fun l v hl => by
      rw [mt_append (at_ l) (by omega)]
      simp
    have ty : ∀ l : List PV, tyOf (h ++ [PO.lst l]) (.ref h.length) = some .list := fun l => ty_ref (at_ l)
    have e2 : stepOf x t = (if t.st = x then [((t.name, true), t.en)] else []) ++ (if t.en = x then [((t.name, false), t.st)] else []) := rfl
    generalize hl0 : (stepsOf (rows.take i) x).map sgPV = L0
    have ll0 : L0.length ≤ 2000 := by rw [← hl0, List.length_map]; omega
    have last : ∀ L1 : List PV, L1.length ≤ 2001 → L1 = L0 ++ (if t.st = x then [sgPV ((t.name, true), t.en)] else []) →
        (exSs (call tbl k) [.ifs (.cmp .Eq (.var 5) (.var 1)) [.ex (.mth .append (.var 2) [(.tup [(.tup [(.var 3), (.lit (.bl false))]), (.var 4)])])] []] [some (.ref r), some (.str x), some (.ref h.length), some (.str t.name), some (.str t.st), some (.str t.en), none] (h ++ [.lst L1])).Sat (I (i + 1)) fun v h_1 => v = .ref h.length ∧ h_1 = h ++ [.lst ((stepsOf rows x).map sgPV)] := by
      intro L1 l1 eL
      by_cases c2 : t.en = x
      · simp [c2, ty, MT.ty, up L1 _ (by omega)]
        rw [hI]
        refine ⟨⟨_, _, _, rfl⟩, ?_⟩
        rw [es, e2, if_pos c2, List.map_append, hl0, eL]
        split <;> simp [sgPV, stPV]
      · simp [c2]
        rw [hI]
        refine ⟨⟨_, _, _, rfl⟩, ?_⟩
        rw [es, e2, if_neg c2, List.map_append, hl0, eL]
        split <;> simp [sgPV, stPV]
    rw [x_cons]
    by_cases c1 : t.st = x
    · simp [c1, ty, MT.ty, up L0 _ (by omega)]
      have := last (L0 ++ [sgPV ((t.name, true), t.en)]) (by simp; omega) (by rw [if_pos c1])
      simpa [sgPV, stPV, c1, ty, MT.ty] using this
    · simp [c1]
      have := last L0 (by omega) (by rw [if_neg c1]; simp)
      simpa using this
  · intro ρ h' hi
    rw [hI] at hi
    obtain ⟨⟨o3, o4, o5, rfl⟩, rfl⟩ := hi
    refine ⟨stays_one (e1 _), ?_⟩
    simp
end
end Sb
set_option Elab.async false
set_option linter.all false
set_option maxRecDepth 100000
set_option maxHeartbeats 4000000
namespace Sb
open PySem
theorem nodup_len {α : Type} [DecidableEq α] : ∀ {A B : List α}, A.Nodup → (∀ x ∈ A, x ∈ B) → A.length ≤ B.length
  | [], _, _, _ => Nat.zero_le _
  | a :: A, B, nd, h => by
    obtain ⟨n1, n2⟩ := List.nodup_cons.mp nd
    have ha := h a (List.mem_cons_self ..)
    have := nodup_len (A := A) (B := B.erase a) n2 fun x hx => (List.mem_erase_of_ne (fun z => n1 (by rw [← z]; exact hx))).mpr (h x (List.mem_cons_of_mem _ hx))
    rw [List.length_erase_of_mem ha] at this
    have : 0 < B.length := List.length_pos_of_mem ha
    rw [List.length_cons]
    omega
def ends (rows : List Tel) : List Str := rows.flatMap fun t => [t.st, t.en]
theorem ends_len : ∀ rows : List Tel, (ends rows).length = 2 * rows.length
  | [] => rfl
  | t :: r => by
    have : ends (t :: r) = t.st :: t.en :: ends r := by simp [ends]
    rw [this, List.length_cons, List.length_cons, ends_len r, List.length_cons]
    omega
theorem steps_ends {rows : List Tel} {x : Str} {p : Step × Str} (h : p ∈ stepsOf rows x) : p.2 ∈ ends rows := by
  obtain ⟨t, ht, ⟨rfl, _⟩ | ⟨rfl, _⟩⟩ := steps_mem h
  · exact List.mem_flatMap.mpr ⟨t, ht, by simp⟩
  · exact List.mem_flatMap.mpr ⟨t, ht, by simp⟩
/-- a path whose scales are among the keys -/
def Pth (rows : List Tel) (s : Str) (l : List (L2.Key × PV)) (ch : List Step) (x : Str) : Prop := ∃ vs, Path rows s vs ch x ∧ ∀ v ∈ vs, valP l (.inr v) ≠ none
theorem Pth.up {rows : List Tel} {s x y : Str} {l : List (L2.Key × PV)} {v : PV} {ch : List Step} (w : Pth rows s l ch x) : Pth rows s (putP l (.inr y) v) ch x := by
  obtain ⟨vs, w1, w2⟩ := w
  refine ⟨vs, w1, fun z hz => ?_⟩
  rw [val_put]
  split
  · simp
  · exact w2 z hz
theorem Pth.snoc {rows : List Tel} {s x : Str} {l : List (L2.Key × PV)} {v : PV} {ch : List Step} (w : Pth rows s l ch x) {p : Step × Str} (m : p ∈ stepsOf rows x) (n : valP l (.inr p.2) = none) : Pth rows s (putP l (.inr p.2) v) (ch ++ [p.1]) p.2 := by
  obtain ⟨vs, w1, w2⟩ := w
  refine ⟨vs ++ [p.2], w1.snoc m fun hp => w2 _ hp n, fun z hz => ?_⟩
  rw [val_put]
  split
  · simp
  · rename_i hne
    rcases List.mem_append.mp hz with q | q
    · exact w2 z q
    · rw [List.mem_singleton.mp q] at hne
      exact absurd rfl hne
theorem Pth.pathE {rows : List Tel} {s x : Str} {l : List (L2.Key × PV)} {ch : List Step} (w : Pth rows s l ch x) : PathE rows s ch x := w.elim fun vs w => ⟨vs, w.1⟩
theorem Pth.walk {rows : List Tel} {s x : Str} {l : List (L2.Key × PV)} {ch : List Step} (w : Pth rows s l ch x) : Walk rows s ch x := w.pathE.walk
/-- the roads found so far -/
structure RdOk (rows : List Tel) (s : Str) (h : PH) (lo d w : Nat) (l : List (L2.Key × PV)) : Prop where
  nd : (l.map (·.1)).Nodup
  ky : ∀ kv ∈ l, ∃ x m ch, kv = (.inr x, .ref m) ∧ h[m]? = some (.lst (ch.map stPV)) ∧ Pth rows s l ch x ∧ ch.length < l.length ∧ lo ≤ m ∧ m ≠ d ∧ m ≠ w ∧ (x = s ∨ x ∈ ends rows)
theorem RdOk.len {rows : List Tel} {s : Str} {h : PH} {lo d w : Nat} {l : List (L2.Key × PV)} (r : RdOk rows s h lo d w l) : l.length ≤ 2 * rows.length + 1 := by
  have := nodup_len (A := l.map (·.1)) (B := (s :: ends rows).map Sum.inr) r.nd fun k hk => by
    obtain ⟨kv, h1, rfl⟩ := List.mem_map.mp hk
    obtain ⟨x, m, ch, rfl, _, _, _, _, _, _, hx⟩ := r.ky kv h1
    exact List.mem_map.mpr ⟨x, by simpa using hx, rfl⟩
  rw [List.length_map, List.length_map, List.length_cons, ends_len] at this
  exact this
theorem RdOk.frame {rows : List Tel} {s : Str} {h h' : PH} {lo d w : Nat} {l : List (L2.Key × PV)} (r : RdOk rows s h lo d w l) (f : ∀ m, m ≠ d → m ≠ w → ∀ o, h[m]? = some o → h'[m]? = some o) : RdOk rows s h' lo d w l := ⟨r.nd, fun kv hk => by
  obtain ⟨x, m, ch, e, h1, h2, h3, h4, h5, h6, h7⟩ := r.ky kv hk
  exact ⟨x, m, ch, e, f m h5 h6 _ h1, h2, h3, h4, h5, h6, h7⟩⟩
theorem RdOk.get {rows : List Tel} {s : Str} {h : PH} {lo d w : Nat} {l : List (L2.Key × PV)} (r : RdOk rows s h lo d w l) {x : Str} {v : PV} (e : valP l (.inr x) = some v) : ∃ m ch, v = .ref m ∧ h[m]? = some (.lst (ch.map stPV)) ∧ Pth rows s l ch x ∧ ch.length < l.length ∧ m ≠ d ∧ m ≠ w := by
  obtain ⟨y, m, ch, e1, h1, h2, h3, h4, h5, h6, _⟩ := r.ky _ (valP_mem e)
  cases e1
  exact ⟨m, ch, rfl, h1, h2, h3, h5, h6⟩
theorem RdOk.add {rows : List Tel} {s : Str} {h : PH} {lo d w m : Nat} {l : List (L2.Key × PV)} {y : Str} {ch : List Step} (r : RdOk rows s h lo d w l) (n : valP l (.inr y) = none) (e : h[m]? = some (.lst (ch.map stPV))) (wk : Pth rows s (putP l (.inr y) (.ref m)) ch y) (hc : ch.length ≤ l.length) (h1 : lo ≤ m) (h2 : m ≠ d) (h3 : m ≠ w) (hy : y ∈ ends rows) : RdOk rows s h lo d w (putP l (.inr y) (.ref m)) := by
  have np := valP_none n
  have pu : ∀ {x ch}, Pth rows s l ch x → Pth rows s (l ++ [(.inr y, .ref m)]) ch x := fun {x ch} w => by
    have := w.up (y := y) (v := .ref m)
    rwa [put_new np] at this
  rw [put_new np] at wk ⊢
  refine ⟨?_, fun kv hk => ?_⟩
  · rw [List.map_append, List.nodup_append]
    refine ⟨r.nd, by simp, fun a ha b hb z => np ?_⟩
    simp at hb
    rw [← hb, ← z]
    exact ha
  · rcases List.mem_append.mp hk with z | z
    · obtain ⟨x, m, ch, e, h1, h2, h3, h4⟩ := r.ky kv z
      exact ⟨x, m, ch, e, h1, pu h2, by simp; omega, h4⟩
    · rw [List.mem_singleton.mp z]
      exact ⟨y, m, ch, rfl, e, wk, by simp; omega, h1, h2, h3, .inr hy⟩
theorem in_dct {h : PH} {d : Nat} {l : List (L2.Key × PV)} (e : h[d]? = some (.dct l)) (x : Str) : cmpop .NotIn (.str x) (.ref d) h = .ok (.bl (!(valP l (.inr x)).isSome)) h := by
  show ofO ((inP h (.str x) (.ref d)).map fun b => PV.bl (!b)) h = _
  simp only [inP, e, keyOf]
  rfl
theorem b_addL {h : PH} {m n : Nat} {l k : List PV} (e1 : h[m]? = some (.lst l)) (e2 : h[n]? = some (.lst k)) (hl : l.length + k.length ≤ 1000000) : binop .Add (.ref m) (.ref n) h = .ok (.ref h.length) (h ++ [.lst (l ++ k)]) := by
  simp only [binop, e1, e2]
  rw [if_pos (line_small hl), alloc_small _ (by rw [List.length_append]; exact hl)]
theorem set_dct {h : PH} {n : Nat} {l : List (L2.Key × PV)} {x : Str} {v : PV} (e : h[n]? = some (.dct l)) (hl : l.length < 999999) : setop (.ref n) (.str x) v h = some (h.set n (.dct (putP l (.inr x) v))) := by
  simp only [setop, e, keyOf]
  rw [if_pos (line_small (by omega))]
section
variable {tbl : Nat → Fn} {k : Nat} {h : PH}
/-- roads: d the dict; every scale that is joined to the start has a road, a walk -/
theorem roads_sat (h40 : tbl 40 = F_steps_from) (h41 : tbl 41 = F_roads_among) {r : Nat} {rows : List Tel} (e : h[r]? = some (.lst (rows.map Tel.pv))) (hl : rows.length ≤ 1000) (s : Str) {Q : PV → PH → Prop}
    (q : ∀ d l w h', h'[d]? = some (.dct l) → h.length ≤ d → RdOk rows s h' h.length d w l → (∀ x, valP l (.inr x) ≠ none ↔ Joined rows s x) → Fr [] h h' → Q (.ref d) h') : (call tbl (k + 2) 41 [.ref r, .str s] h).Sat Q := by
  rw [call_succ, h41]
  refine fn_sat rfl ?_
  have rl := (List.getElem?_eq_some_iff.mp e).1
  simp only [F_roads_among, startP, List.map, List.length, List.replicate, List.cons_append, List.nil_append]
  rw [x_cons]
  simp [alloc_small, pairUp, keyOf, mergeP, putP, allocD]
  rw [x_cons]
  simp [alloc_small]
  rw [x_cons]
  generalize hd : h.length + 1 = d
  generalize hw : h.length + 1 + 1 = w
  generalize hh1 : h ++ [PO.lst [], PO.dct [(Sum.inr s, .ref h.length)], PO.lst [.str s]] = h1
  have a0 : h1[h.length]? = some (.lst []) := by rw [← hh1]; simp
  have a1 : h1[d]? = some (.dct [(Sum.inr s, .ref h.length)]) := by rw [← hh1, ← hd]; simp
  have a2 : h1[w]? = some (.lst [.str s]) := by
    rw [← hh1, ← hw]
    show (h ++ [PO.lst [], PO.dct [(Sum.inr s, .ref h.length)], PO.lst [.str s]])[h.length + 2]? = _
    simp
  have f1 : Fr [] h h1 := by rw [← hh1]; exact Fr.app
  have dw : d ≠ w := by omega
  have dl : h.length ≤ d := by omega
  have wl : h.length ≤ w := by omega
  obtain ⟨I, hI⟩ : ∃ I : Nat → Env → PH → Prop, I = fun n ρ h' => ∃ (o4 o5 o6 : Option PV) (l : List (L2.Key × PV)) (ws : List Str), n = 2 * (2 * rows.length + 1 - l.length) + ws.length ∧ ρ = [some (.ref r), some (.str s), some (.ref d), some (.ref w), o4, o5, o6] ∧ h'[d]? = some (.dct l) ∧ h'[w]? = some (.lst (ws.map PV.str)) ∧ RdOk rows s h' h.length d w l ∧ Fr [] h h' ∧ (∀ y ∈ ws, valP l (.inr y) ≠ none) ∧ valP l (.inr s) ≠ none ∧ (∀ y, valP l (.inr y) ≠ none → y ∉ ws → ∀ p ∈ stepsOf rows y, valP l (.inr p.2) ≠ none) ∧ ws.length ≤ l.length := ⟨_, rfl⟩
  refine x_whl I (2 * (2 * rows.length + 1 - 1) + 1) ?_ ?_
  · rw [hI]
    refine ⟨none, none, none, [(Sum.inr s, .ref h.length)], [s], rfl, rfl, a1, a2, ⟨by simp, fun kv hk => ?_⟩, f1, fun y hy => ?_, ?_, fun y hy hn => ?_, by simp⟩
    · rw [List.mem_singleton.mp hk]
      exact ⟨s, h.length, [], rfl, a0, ⟨[s], .nil, by simp [valP]⟩, by simp, Nat.le_refl _, by omega, by omega, .inl rfl⟩
    · rw [List.mem_singleton.mp hy]
      simp [valP]
    · simp [valP]
    · exfalso
      apply hy
      have : ¬ s = y := fun z => hn (by simp [z])
      simp [valP, this]
  · intro n ρ h2 hi
    rw [hI] at hi
    obtain ⟨o4, o5, o6, l, ws, rfl, rfl, b1, b2, rk, f2, c1, c2, c3, c4⟩ := hi
    have bl : biF .len [.ref w] h2 = .ok (.int (ws.length : Nat)) h2 := by rw [bi_len_ref b2, List.length_map]
    simp [bl]
    cases ws with
    | nil =>
      simp
      refine q d l w h2 b1 dl rk (fun x => ⟨fun hx => ?_, fun j => ?_⟩) f2
      · cases hv : valP l (.inr x) with
        | none => exact absurd hv hx
        | some v =>
          obtain ⟨m, ch, _, _, wk, _⟩ := rk.get hv
          exact wk.walk.joined
      · induction j with
        | refl => exact c2
        | @step y t m j ey ih =>
          have := c3 _ ih (by simp) ((t.name, true), t.en) (by rw [ey]; exact steps_forth m)
          exact this
        | @back y t m j ey ih =>
          have := c3 _ ih (by simp) ((t.name, false), t.st) (by rw [ey]; exact steps_back m)
          exact this
    | cons x ws =>
      simp
      have pp := pop_at (h := h2) (i := 0) (v := .str x) b2 (by decide) rfl
      rw [x_cons]
      simp [ty_ref b2, MT.ty, pp]
      -- the steps from x
      generalize hh3 : h2.set w (.lst (ws.map PV.str)) = h3
      have d3 : h3[d]? = some (.dct l) := by rw [← hh3, set_ne' (Ne.symm dw)]; exact b1
      have w3 : h3[w]? = some (.lst (ws.map PV.str)) := by rw [← hh3]; exact set_at b2
      have f3 : Fr [] h h3 := by rw [← hh3]; exact f2.setNew wl
      have rk3 : RdOk rows s h3 h.length d w l := rk.frame fun m _ hm o eo => by rw [← hh3, set_ne' (Ne.symm hm)]; exact eo
      have r3 := f3.some (n := r) (by simp) e
      have sf := steps_from_eq (k := k) h40 r3 hl x
      have x0 : valP l (.inr x) ≠ none := c1 x (List.mem_cons_self ..)
      have sl := steps_len x rows
      have lq : h3.length ≠ d ∧ h3.length ≠ w := by
        have z1 := (List.getElem?_eq_some_iff.mp d3).1
        have z2 := (List.getElem?_eq_some_iff.mp w3).1
        omega
      have hlen := f3.len
      generalize hqq : h3.length = qq at sf lq
      generalize hh4 : h3 ++ [PO.lst ((stepsOf rows x).map sgPV)] = h4 at sf
      have q4 : h4[qq]? = some (.lst ((stepsOf rows x).map sgPV)) := by rw [← hh4, ← hqq]; simp
      have up4 : ∀ m o, h3[m]? = some o → h4[m]? = some o := fun m o eo => by rw [← hh4]; exact (Fr.app (S := [])).some (by simp) eo
      generalize hL0 : l.length = L0
      obtain ⟨J, hJ⟩ : ∃ J : Nat → Env → PH → Prop, J = fun i ρ h' => ∃ (o5 o6 : Option PV) (l : List (L2.Key × PV)) (vs : List Str), ρ = [some (.ref r), some (.str s), some (.ref d), some (.ref w), some (.str x), o5, o6] ∧ h'[d]? = some (.dct l) ∧ h'[w]? = some (.lst (vs.map PV.str)) ∧ RdOk rows s h' h.length d w l ∧ Fr [] h h' ∧ h'[qq]? = some (.lst ((stepsOf rows x).map sgPV)) ∧ (∀ y ∈ vs, valP l (.inr y) ≠ none) ∧ valP l (.inr x) ≠ none ∧ valP l (.inr s) ≠ none ∧ (∀ y, valP l (.inr y) ≠ none → y ∉ vs → y ≠ x → ∀ p ∈ stepsOf rows y, valP l (.inr p.2) ≠ none) ∧ (∀ p ∈ (stepsOf rows x).take i, valP l (.inr p.2) ≠ none) ∧ 2 * (2 * rows.length + 1 - l.length) + vs.length ≤ 2 * (2 * rows.length + 1 - L0) + ws.length ∧ vs.length ≤ l.length := ⟨_, rfl⟩
      refine x_forE (l := [.ref qq]) (h1 := h4) (by simp [sf]) (walk_ref q4) J ?_ ?_ ?_
      · rw [hJ]
        exact ⟨_, _, l, ws, rfl, up4 _ _ d3, up4 _ _ w3, rk3.frame fun m _ _ o eo => up4 m o eo, by rw [← hh4]; exact f3.appNew, q4, fun y hy => c1 y (List.mem_cons_of_mem _ hy), x0, c2, fun y hy hn hx p hp => c3 y hy (by simp [hn, hx]) p hp, by simp, by omega, by rw [List.length_cons] at c4; omega⟩
      · intro i y ρ h5 hy hi
        rw [hJ] at hi
        obtain ⟨o5, o6, l5, vs, rfl, d5, w5, rk5, f5, q5, k1, k2, k3, k4, k5, k6, k7⟩ := hi
        rw [List.getElem?_map] at hy
        obtain ⟨p, hp, rfl⟩ := Option.map_eq_some_iff.mp hy
        have pm := List.mem_of_getElem? hp
        have hip := (List.getElem?_eq_some_iff.mp hp).1
        have l5l := rk5.len
        refine ⟨stays_one q5, [some (.ref r), some (.str s), some (.ref d), some (.ref w), some (.str x), some (stPV p.1), some (.str p.2)], by simp [setTg, sgPV, setAll], ?_⟩
        have tk : ∀ l', (∀ y, valP l5 (.inr y) ≠ none → valP l' (.inr y) ≠ none) → valP l' (.inr p.2) ≠ none → ∀ p' ∈ (stepsOf rows x).take (i + 1), valP l' (.inr p'.2) ≠ none := fun l' up hp2 p' hp' => by
          rw [List.take_add_one, hp] at hp'
          rcases List.mem_append.mp hp' with z | z
          · exact up _ (k5 p' z)
          · rw [show p' = p by simpa using z]
            exact hp2
        rw [x_one]
        simp only [x_if, x_nil]
        simp [in_dct d5]
        cases hv : valP l5 (.inr p.2) with
        | some v =>
          simp
          rw [hJ]
          exact ⟨_, _, l5, vs, rfl, d5, w5, rk5, f5, q5, k1, k2, k3, k4, tk l5 (fun _ z => z) (by rw [hv]; simp), k6, k7⟩
        | none =>
          simp
          cases hx5 : valP l5 (.inr x) with
          | none => exact absurd hx5 k2
          | some v =>
            obtain ⟨m, ch, rfl, m1, m2, m3, m4, m5⟩ := rk5.get hx5
            rw [x_cons]
            have ml := (List.getElem?_eq_some_iff.mp m1).1
            have m6 : (h5 ++ [PO.lst [stPV p.1]])[m]? = some (.lst (ch.map stPV)) := (Fr.app (S := [])).some (by simp) m1
            have ad := b_addL (h := h5 ++ [PO.lst [stPV p.1]]) (m := m) (n := h5.length) (l := ch.map stPV) (k := [stPV p.1]) m6 (by simp) (by simp; omega)
            have d6 : (h5 ++ [PO.lst [stPV p.1], PO.lst (ch.map stPV ++ [stPV p.1])])[d]? = some (.dct l5) := (Fr.app (S := [])).some (by simp) d5
            have w6 : (h5 ++ [PO.lst [stPV p.1], PO.lst (ch.map stPV ++ [stPV p.1])])[w]? = some (.lst (vs.map PV.str)) := (Fr.app (S := [])).some (by simp) w5
            have q6 : (h5 ++ [PO.lst [stPV p.1], PO.lst (ch.map stPV ++ [stPV p.1])])[qq]? = some (.lst ((stepsOf rows x).map sgPV)) := (Fr.app (S := [])).some (by simp) q5
            simp [idx_dct d5 hx5, alloc_small, ad, set_dct d6 (show l5.length < 999999 by omega)]
            generalize hh7 : (h5 ++ [PO.lst [stPV p.1], PO.lst (ch.map stPV ++ [stPV p.1])]).set d (.dct (putP l5 (.inr p.2) (.ref (h5.length + 1)))) = h7
            have d7 : h7[d]? = some (.dct (putP l5 (.inr p.2) (.ref (h5.length + 1)))) := by rw [← hh7]; exact set_at d6
            have w7 : h7[w]? = some (.lst (vs.map PV.str)) := by rw [← hh7, set_ne' dw]; exact w6
            have q7 : h7[qq]? = some (.lst ((stepsOf rows x).map sgPV)) := by rw [← hh7, set_ne' (Ne.symm lq.1)]; exact q6
            have dlt := (List.getElem?_eq_some_iff.mp d5).1
            have wlt := (List.getElem?_eq_some_iff.mp w5).1
            have n7 : h7[h5.length + 1]? = some (.lst ((ch ++ [p.1]).map stPV)) := by
              rw [← hh7, set_ne' (by omega)]
              simp
            have rk7 : RdOk rows s h7 h.length d w l5 := rk5.frame fun m' hm _ o eo => by
              rw [← hh7, set_ne' (Ne.symm hm)]
              exact (Fr.app (S := [])).some (by simp) eo
            have rk8 := rk7.add hv n7 (m2.snoc pm hv) (by simp; omega) (by have := f5.len; omega) (by omega) (by omega) (steps_ends pm)
            have l8 := rk8.len
            have np := valP_none hv
            have le : (putP l5 (.inr p.2) (.ref (h5.length + 1))).length = l5.length + 1 := by rw [put_new np]; simp
            simp [ty_ref w7, MT.ty, mt_append w7 (by simp; omega)]
            rw [hJ]
            have up : ∀ y, valP l5 (.inr y) ≠ none → valP (putP l5 (.inr p.2) (.ref (h5.length + 1))) (.inr y) ≠ none := fun y hy => by
              rw [val_put]
              split
              · simp
              · exact hy
            have pn : valP (putP l5 (.inr p.2) (.ref (h5.length + 1))) (.inr p.2) ≠ none := by rw [val_put, if_pos rfl]; simp
            refine ⟨_, _, _, vs ++ [p.2], rfl, by rw [set_ne' (Ne.symm dw)]; exact d7, by rw [set_at w7]; simp, rk8.frame fun m' _ hm o eo => by rw [set_ne' (Ne.symm hm)]; exact eo, ?_, by rw [set_ne' (Ne.symm lq.2)]; exact q7, fun y hy => ?_, up _ k2, up _ k3, fun y hy hn hx p' hp' => ?_, tk _ up pn, by rw [le] at l8 ⊢; simp; omega, by rw [le]; simp; omega⟩
            · have : Fr [] h h7 := by rw [← hh7]; exact f5.appNew.setNew dl
              exact this.setNew wl
            · rcases List.mem_append.mp hy with z | z
              · exact up _ (k1 y z)
              · rw [List.mem_singleton.mp z]
                exact pn
            · rw [val_put] at hy
              have ny : ¬ y = p.2 := fun z => hn (by simp [z])
              rw [if_neg (by simpa using ny)] at hy
              exact up _ (k4 y hy (fun z => hn (List.mem_append_left _ z)) hx p' hp')
      · intro ρ h5 hi
        rw [hJ] at hi
        obtain ⟨o5, o6, l5, vs, rfl, d5, w5, rk5, f5, q5, k1, k2, k3, k4, k5, k6, k7⟩ := hi
        refine ⟨stays_one q5, ?_⟩
        rw [List.length_map, List.take_length] at k5
        have := rk.len
        refine ⟨2 * (2 * rows.length + 1 - l5.length) + vs.length, by omega, ?_⟩
        rw [hI]
        refine ⟨_, _, _, l5, vs, rfl, rfl, d5, w5, rk5, f5, k1, k3, fun y hy hn p hp => ?_, k7⟩
        by_cases hx : y = x
        · subst hx
          exact k5 p hp
        · exact k4 y hy hn hx p hp
end
end Sb
set_option Elab.async false
set_option linter.all false
set_option maxRecDepth 100000
set_option maxHeartbeats 4000000
namespace Sb
open PySem
theorem RdOk.len2 {rows : List Tel} {s : Str} {h : PH} {lo d w : Nat} {l : List (L2.Key × PV)} (r : RdOk rows s h lo d w l) {ns : List Str} (hs : s ∈ ns) (he : ∀ x ∈ ends rows, x ∈ ns) : l.length ≤ ns.length := by
  have := nodup_len (A := l.map (·.1)) (B := ns.map Sum.inr) r.nd fun k hk => by
    obtain ⟨kv, h1, rfl⟩ := List.mem_map.mp hk
    obtain ⟨x, m, ch, rfl, _, _, _, _, _, _, hx⟩ := r.ky kv h1
    exact List.mem_map.mpr ⟨x, hx.elim (fun z => by rw [z]; exact hs) (he x), rfl⟩
  rwa [List.length_map, List.length_map] at this
section
variable {C : Calls} {t : Bool} {ρ : Env} {h : PH} {a b : E}
theorem g_dcomp (tg : List Nat) (one : TgK) (k : ITK) (its : List E) (cond : Option E) (own : List Nat) : evG C (.dcomp a b tg one k its cond own) t ρ h = fin t ((evGs C its ρ h).bind fun l h1 =>
      match walkF k l h1 with
      | some (items, kp) => (dcompLoop kp (fun x => setTg (wipeP ρ own) tg one x) (fun ρ1 h2 => (evGc C cond ρ1 h2).calm) (fun ρ1 h2 => (evG C a false ρ1 h2).calm) (fun ρ1 h2 => (evG C b false ρ1 h2).calm) items [] h1).bind fun l h2 => allocD l h2
      | none => .no) := by rfl
end
theorem dcomp_sat {kp : Keep} {bind : PV → Option Env} {t : Env → PH → R Bool} {ek ev : Env → PH → R PV} {Q : List (L2.Key × PV) → PH → Prop} (I : Nat → List (L2.Key × PV) → PH → Prop) : ∀ (items : List PV) (j : Nat) (acc : List (L2.Key × PV)) (h : PH), I j acc h →
    (∀ (i : Nat) (x : PV) acc h, items[i]? = some x → I (j + i) acc h → stays kp h ∧ ∃ ρ1, bind x = some ρ1 ∧ (t ρ1 h).Sat fun b h1 => if b = true then (ek ρ1 h1).Sat fun k h2 => (ev ρ1 h2).Sat fun v h3 => ∃ kk, keyOf k = some kk ∧ lineOk (acc.length + 1) = true ∧ I (j + i + 1) (putP acc kk v) h3 else I (j + i + 1) acc h1) →
    (∀ acc h, I (j + items.length) acc h → stays kp h ∧ Q acc h) → (dcompLoop kp bind t ek ev items acc h).Sat Q
  | [], j, acc, h, hi, _, hd => by
    obtain ⟨h1, h2⟩ := hd acc h hi
    unfold dcompLoop
    rw [if_pos h1]
    exact h2
  | x :: xs, j, acc, h, hi, hs, hd => by
    obtain ⟨h1, ρ1, h2, h3⟩ := hs 0 x acc h rfl hi
    unfold dcompLoop
    rw [if_pos h1, h2]
    show ((t ρ1 h).bind _).Sat Q
    rw [sat_bind]
    have go : ∀ acc' h', I (j + 1) acc' h' → (dcompLoop kp bind t ek ev xs acc' h').Sat Q := fun acc' h' hi' => dcomp_sat I xs (j + 1) acc' h' hi' (fun i y ρ h e q => by
      have := hs (i + 1) y ρ h (by simpa using e)
      rw [show j + (i + 1) = j + 1 + i by omega] at this
      exact this q) (fun ρ h q => hd ρ h (by rw [List.length_cons, show j + (xs.length + 1) = j + 1 + xs.length by omega]; exact q))
    refine h3.imp fun b h4 q => ?_
    cases b with
    | false => exact go acc h4 (by simpa using q)
    | true =>
      simp only [if_true] at q ⊢
      rw [sat_bind]
      refine q.imp fun kv h5 q1 => ?_
      rw [sat_bind]
      refine q1.imp fun v h6 ⟨kk, e1, e2, e3⟩ => ?_
      rw [e1]
      show (if lineOk (acc.length + 1) = true then _ else _ : R _).Sat Q
      rw [if_pos e2]
      exact go _ h6 e3
theorem v_dcompE {C : Calls} {tg : List Nat} {one : TgK} {k : ITK} {its : List E} {cond : Option E} {own : List Nat} {a b : E} {ρ : Env} {h h1 : PH} {Q : PV → PH → Prop} {l items : List PV} {kp : Keep} (e1 : evGs C its ρ h = .ok l h1) (e2 : walkF k l h1 = some (items, kp)) (I : Nat → List (L2.Key × PV) → PH → Prop) (h0 : I 0 [] h1)
    (hs : ∀ (i : Nat) (x : PV) acc h, items[i]? = some x → I i acc h → stays kp h ∧ ∃ ρ1, setTg (wipeP ρ own) tg one x = some ρ1 ∧ (evGc C cond ρ1 h).Sat fun c h1 => if c = true then (evG C a false ρ1 h1).Sat fun k h2 => (evG C b false ρ1 h2).Sat fun v h3 => ∃ kk, keyOf k = some kk ∧ lineOk (acc.length + 1) = true ∧ I (i + 1) (putP acc kk v) h3 else I (i + 1) acc h1)
    (hd : ∀ acc h, I items.length acc h → stays kp h ∧ Q (.ref h.length) (h ++ [.dct acc])) : (evG C (.dcomp a b tg one k its cond own) false ρ h).Sat Q := by
  rw [g_dcomp, fin_f, e1, R.bind_ok, e2]
  show ((dcompLoop kp _ _ _ _ items [] h1).bind _).Sat Q
  rw [sat_bind]
  refine dcomp_sat I items 0 [] h1 h0 (fun i x acc h e q => ?_) fun acc h q => hd acc h (by simpa using q)
  obtain ⟨q1, ρ1, q2, q3⟩ := hs i x acc h e (by simpa using q)
  refine ⟨q1, ρ1, q2, ?_⟩
  rw [sat_calm]
  refine q3.imp fun c h2 q4 => ?_
  cases c with
  | false => simpa using q4
  | true =>
    simp only [if_true] at q4 ⊢
    rw [sat_calm]
    refine q4.imp fun kv h3 q5 => ?_
    rw [sat_calm]
    simpa using q5
theorem get1_dct {h : PH} {d : Nat} {l : List (L2.Key × PV)} (e : h[d]? = some (.dct l)) (x : Str) : mtF .get1 (.ref d) [.str x] h = .ok ((valP l (.inr x)).getD .non) h := by
  simp only [mtF, mtGet1, e, keyOf]
section
variable {tbl : Nat → Fn} {k : Nat} {h : PH}
theorem road_sat (h40 : tbl 40 = F_steps_from) (h41 : tbl 41 = F_roads_among) (h42 : tbl 42 = F_road_among) {r : Nat} {rows : List Tel} (e : h[r]? = some (.lst (rows.map Tel.pv))) (hl : rows.length ≤ 1000) {s x : Str} {ns : List Str} (hs : s ∈ ns) (he : ∀ x ∈ ends rows, x ∈ ns) {Q : PV → PH → Prop}
    (q1 : Joined rows s x → ∀ m ch h', h'[m]? = some (.lst (ch.map stPV)) → h.length ≤ m → PathE rows s ch x → ch.length < ns.length → Fr [] h h' → Q (.ref m) h') (q2 : ¬ Joined rows s x → ∀ h', Fr [] h h' → Q .non h') : (call tbl (k + 3) 42 [.ref r, .str s, .str x] h).Sat Q := by
  rw [call_succ, h42]
  refine fn_sat rfl ?_
  simp only [F_road_among, startP, List.map, List.length, List.replicate, List.cons_append, List.nil_append]
  simp
  refine roads_sat h40 h41 (k := k) e hl s fun d l w h' e1 dl rk jn fr => ?_
  refine ⟨by rw [ty_dct e1]; rfl, ?_⟩
  simp [get1_dct e1]
  cases hv : valP l (.inr x) with
  | none =>
    refine q2 (fun j => ?_) h' fr
    exact (jn x).mpr j hv
  | some v =>
    obtain ⟨y, m, ch, e2, h1, h2, h3, h4, h5, h6, h7⟩ := rk.ky _ (valP_mem hv)
    cases e2
    have := rk.len2 hs he
    exact q1 ((jn x).mp (by rw [hv]; simp)) m ch h' h1 h4 h2.pathE (by omega) fr
end
end Sb
set_option Elab.async false
set_option linter.all false
set_option maxRecDepth 100000
set_option maxHeartbeats 4000000
namespace Sb
open PySem
theorem Walk.pre {rows : List Tel} {s x : Str} {c : List Step} (w : Walk rows s c x) : ∀ i, i ≤ c.length → ∃ y, Walk rows s (c.take i) y := by
  induction w with
  | nil => exact fun i _ => ⟨s, by simpa using Walk.nil⟩
  | @snoc c x p w m ih =>
    intro i hi
    rw [List.length_append] at hi
    simp at hi
    by_cases h : i ≤ c.length
    · obtain ⟨y, hy⟩ := ih i h
      refine ⟨y, ?_⟩
      rw [List.take_append_of_le_length h]
      exact hy
    · have : i = (c ++ [p.1]).length := by simp; omega
      rw [this, List.take_length]
      exact ⟨p.2, w.snoc m⟩
theorem Walk.last {rows : List Tel} {s y : Str} {c : List Step} {a : Step} (w : Walk rows s (c ++ [a]) y) : ∃ x p, Walk rows s c x ∧ p ∈ stepsOf rows x ∧ p.1 = a ∧ p.2 = y := by
  generalize e : c ++ [a] = d at w
  cases w with
  | nil => simp at e
  | @snoc c' x p w m =>
    obtain ⟨h1, h2⟩ := List.append_inj' e (by simp)
    subst h1
    exact ⟨x, p, w, m, by simpa using h2.symm, rfl⟩
theorem Walk.end_nil {rows : List Tel} {s y : Str} (w : Walk rows s [] y) : y = s := by
  generalize e : ([] : List Step) = d at w
  cases w with
  | nil => rfl
  | snoc w m => simp at e
/-- the moves by names -/
theorem name_take {ts : List Tel} (nd : (ts.map Tel.name).Nodup) {i : Nat} {t u : Tel} (ht : ts[i]? = some t) (hu : u ∈ ts.take i) : u.name ≠ t.name := by
  obtain ⟨j, hj⟩ := mem_get hu
  have hlt : j < i := by
    have := (List.getElem?_eq_some_iff.mp hj).1
    rw [List.length_take] at this
    omega
  rw [List.getElem?_take, if_pos hlt] at hj
  intro z
  have e1 : (ts.map Tel.name)[j]? = some u.name := by rw [List.getElem?_map, hj]; rfl
  have e2 : (ts.map Tel.name)[i]? = some t.name := by rw [List.getElem?_map, ht]; rfl
  have := (List.getElem?_inj (j := i) (List.getElem?_eq_some_iff.mp e1).1 nd).mp (by rw [e1, e2, z])
  omega
/-- what is asked of rows and readings -/
structure Rows (ts rows : List Tel) (P : Str → Mv) : Prop where
  nd : (ts.map Tel.name).Nodup
  sub : ∀ t ∈ rows, t ∈ ts
  p0 : ∀ x, (P x).1 ≠ 0
  ag : ∀ t ∈ rows, Agrees P t
  qa : ∀ t ∈ ts, t.a ≠ 0 ∧ Qs 40 t.a ∧ Qs 100 t.b
section
variable {tbl : Nat → Fn} {k : Nat} {h : PH}
theorem chain_move_sat (t : TM tbl) (h44 : tbl 44 = F_chain_move) {v : PV} {c : Nat} {ts rows : List Tel} {P : Str → Mv} (R : Rows ts rows P) (e : seqOf h v = some (ts.map Tel.pv)) (hl : ts.length ≤ 1000) {ch : List Step} (ec : h[c]? = some (.lst (ch.map stPV))) (hc : ch.length ≤ 26) {s x : Str} (wk : Walk rows s ch x) {Q : PV → PH → Prop}
    (q : ∀ h', Fr [] h h' → Q (mq (rel P s x).1 (rel P s x).2) h') : (call tbl (k + 7) 44 [v, .ref c] h).Sat Q := by
  rw [call_succ, h44]
  refine fn_sat rfl ?_
  simp only [F_chain_move, startP, List.map, List.length, List.replicate, List.cons_append, List.nil_append]
  rw [x_cons, x_set]
  obtain ⟨kp, wkp, skp⟩ := walk_seqV e
  refine v_dcompE (l := [v]) (h1 := h) (by simp) wkp (fun i acc h' => h' = h ∧ acc.length ≤ i ∧ ∀ t ∈ ts.take i, valP acc (.inr t.name) = some (mq t.a t.b)) ⟨rfl, by simp, by simp⟩ ?_ ?_
  · rintro i y acc h1 hy ⟨rfl, al, av⟩
    rw [List.getElem?_map] at hy
    obtain ⟨u, hu, rfl⟩ := Option.map_eq_some_iff.mp hy
    have hi := (List.getElem?_eq_some_iff.mp hu).1
    refine ⟨skp _ e, _, rfl, ?_⟩
    simp [wipeP, pv0, pv3]
    refine ⟨.inr u.name, rfl, line_small (by omega), Nat.le_trans (put_len ..) (by omega), fun v hv => ?_⟩
    rw [List.take_add_one, hu] at hv
    rw [val_put]
    rcases List.mem_append.mp hv with z | z
    · rw [if_neg (by simpa using name_take R.nd hu z)]
      exact av v z
    · rw [show v = u by simpa using z, if_pos rfl]
  · rintro acc h1 ⟨rfl, al, av⟩
    refine ⟨skp _ e, ?_⟩
    rw [List.length_map, List.take_length] at av
    simp only [List.set]
    rw [x_cons]
    simp
    rw [x_cons]
    generalize hh2 : h1 ++ [PO.dct acc] = h2
    have d2 : h2[h1.length]? = some (.dct acc) := by rw [← hh2]; simp
    have c2 : h2[c]? = some (.lst (ch.map stPV)) := by rw [← hh2]; exact (Fr.app (S := [])).some (by simp) ec
    have f2 : Fr [] h1 h2 := by rw [← hh2]; exact Fr.app
    obtain ⟨I, hI⟩ : ∃ I : Nat → Env → PH → Prop, I = fun i ρ h' => h' = h2 ∧ ∃ (o4 o5 : Option PV) (m : Mv), ρ = [some v, some (.ref c), some (.ref h1.length), some (mq m.1 m.2), o4, o5, none] ∧ Qs (1 + 285 * i) m.1 ∧ Qs (1 + 285 * i) m.2 ∧ ∀ y, Walk rows s (ch.take i) y → m = rel P s y := ⟨_, rfl⟩
    refine x_forE (l := [.ref c]) (h1 := h2) (by simp) (walk_ref c2) I ?_ ?_ ?_
    · rw [hI]
      refine ⟨rfl, none, none, one2, rfl, q1, q0, fun y w => ?_⟩
      have ey : y = s := Walk.end_nil (rows := rows) (by simpa using w)
      rw [ey, rel_self (R.p0 s)]
    · intro i y ρ h3 hy hi
      rw [hI] at hi
      obtain ⟨rfl, o4, o5, m, rfl, qm1, qm2, hm⟩ := hi
      rw [List.getElem?_map] at hy
      obtain ⟨st, hst, rfl⟩ := Option.map_eq_some_iff.mp hy
      have hi := (List.getElem?_eq_some_iff.mp hst).1
      have tk : ch.take (i + 1) = ch.take i ++ [st] := by rw [List.take_add_one, hst]; rfl
      obtain ⟨y, hy⟩ := wk.pre (i + 1) (by omega)
      rw [tk] at hy
      obtain ⟨x', p, w', pm, ep, _⟩ := hy.last
      obtain ⟨u, hu, hcase⟩ := steps_mem pm
      have ua := R.qa u (R.sub u hu)
      have uv := av u (R.sub u hu)
      have ag := R.ag u hu
      refine ⟨stays_one c2, [some v, some (.ref c), some (.ref h1.length), some (mq m.1 m.2), some (.str st.1), some (.bl st.2), none], by simp [setTg, stPV, setAll], ?_⟩
      -- the end of the step, whatever the walk
      have fin_ : ∀ cd : Mv, Qs 142 cd.1 → Qs 142 cd.2 → (∀ y', Walk rows s (ch.take i ++ [st]) y' → thn2 m cd = rel P s y') → I (i + 1) [some v, some (.ref c), some (.ref h1.length), some (mq (cd.1 * m.1) (cd.1 * m.2 + cd.2)), some (.str st.1), some (.bl st.2), none] h3 := by
        intro cd qc qd hw
        rw [hI]
        refine ⟨rfl, _, _, thn2 m cd, rfl, (qc.mul qm1).mono (by omega), ((qc.mul qm2).add qd).mono (by omega), fun y' w => ?_⟩
        rw [tk] at w
        exact hw y' w
      have uniq : ∀ {v : Tel}, v ∈ rows → v.name = u.name → v = u := fun {v} hv en => by
        obtain ⟨a1, b1⟩ := mem_get (R.sub v hv)
        obtain ⟨a2, b2⟩ := mem_get (R.sub u hu)
        have e1 : (ts.map Tel.name)[a1]? = some v.name := by rw [List.getElem?_map, b1]; rfl
        have e2 : (ts.map Tel.name)[a2]? = some u.name := by rw [List.getElem?_map, b2]; rfl
        have := (List.getElem?_inj (j := a2) (List.getElem?_eq_some_iff.mp e1).1 R.nd).mp (by rw [e1, e2, en])
        subst this
        rw [b1] at b2
        exact Option.some.inj b2
      rcases hcase with ⟨pe, hx⟩ | ⟨pe, hx⟩
      · have est : st = (u.name, true) := by rw [← ep, pe]
        subst est
        have th := then_eq t (k := k) (h := h3) qm1 qm2 (ua.2.1.mono (show 40 ≤ 142 by decide)) (ua.2.2.mono (show 100 ≤ 142 by decide)) (by omega)
        simp [idx_dct d2 uv, th]
        refine fin_ (u.a, u.b) (ua.2.1.mono (by decide)) (ua.2.2.mono (by decide)) fun y' w2 => ?_
        obtain ⟨x2, p2, w3, pm2, ep2, ey2⟩ := w2.last
        obtain ⟨v, hv, ⟨pv, hx2⟩ | ⟨pv, hx2⟩⟩ := steps_mem pm2
        · rw [pv] at ep2 ey2
          have ev := uniq hv (congrArg Prod.fst ep2)
          subst ev
          rw [hm x2 w3, ag, ← ey2, ← hx2]
          exact rel_thn (R.p0 _)
        · rw [pv] at ep2
          cases congrArg Prod.snd ep2
      · have est : st = (u.name, false) := by rw [← ep, pe]
        subst est
        have bk := back_eq t (k := k + 2) (h := h3) ua.2.1 ua.2.2 ua.1 (by decide)
        have qa1 : Qs 142 (1 / u.a) := (q1.div ua.2.1 (num_ne ua.1)).mono (by decide)
        have qb1 : Qs 142 ((0 - u.b) / u.a) := ((q0.sub ua.2.2).div ua.2.1 (num_ne ua.1)).mono (by decide)
        have th := then_eq t (k := k) (h := h3) qm1 qm2 qa1 qb1 (by omega)
        simp [idx_dct d2 uv, bk, th]
        refine fin_ (bck (u.a, u.b)) qa1 qb1 fun y' w2 => ?_
        obtain ⟨x2, p2, w3, pm2, ep2, ey2⟩ := w2.last
        obtain ⟨v, hv, ⟨pv, hx2⟩ | ⟨pv, hx2⟩⟩ := steps_mem pm2
        · rw [pv] at ep2
          cases congrArg Prod.snd ep2
        · rw [pv] at ep2 ey2
          have ev := uniq hv (congrArg Prod.fst ep2)
          subst ev
          rw [hm x2 w3, ag, rel_bck (R.p0 _) (R.p0 _), ← ey2, ← hx2]
          exact rel_thn (R.p0 _)
    · intro ρ h3 hi
      rw [hI] at hi
      obtain ⟨rfl, o4, o5, m, rfl, qm1, qm2, hm⟩ := hi
      refine ⟨stays_one c2, ?_⟩
      rw [List.length_map, List.take_length] at hm
      simp
      rw [hm x wk]
      exact q _ f2
end
end Sb
set_option Elab.async false
set_option linter.all false
set_option maxRecDepth 100000
set_option maxHeartbeats 4000000
namespace Sb
open PySem
/-- tellings over scales -/
structure Bk (ns : List Str) (ts : List Tel) : Prop where
  nd : (ts.map Tel.name).Nodup
  ok : ∀ t ∈ ts, TelW ns t
  len : ts.length ≤ 1000
  nl : ns.length ≤ 26
/-- the defs of the forest -/
structure TF (tbl : Nat → Fn) : Prop where
  h32 : tbl 32 = F_in_order
  h39 : tbl 39 = F_tie_rows
  h40 : tbl 40 = F_steps_from
  h41 : tbl 41 = F_roads_among
  h42 : tbl 42 = F_road_among
  h43 : tbl 43 = F_road_of
  h44 : tbl 44 = F_chain_move
  h45 : tbl 45 = F_move_of
/-- .. those of roads alone -/
structure TR (tbl : Nat → Fn) : Prop where
  h32 : tbl 32 = F_in_order
  h39 : tbl 39 = F_tie_rows
  h40 : tbl 40 = F_steps_from
  h41 : tbl 41 = F_roads_among
  h42 : tbl 42 = F_road_among
  h43 : tbl 43 = F_road_of
theorem TF.tr {tbl : Nat → Fn} (f : TF tbl) : TR tbl := ⟨f.h32, f.h39, f.h40, f.h41, f.h42, f.h43⟩
/-- .. those of words alone -/
structure TW (tbl : Nat → Fn) : Prop where
  h32 : tbl 32 = F_in_order
  h39 : tbl 39 = F_tie_rows
  h40 : tbl 40 = F_steps_from
  h41 : tbl 41 = F_roads_among
  h42 : tbl 42 = F_road_among
  h44 : tbl 44 = F_chain_move
theorem TF.tw {tbl : Nat → Fn} (f : TF tbl) : TW tbl := ⟨f.h32, f.h39, f.h40, f.h41, f.h42, f.h44⟩
theorem Bk.ends {ns : List Str} {ts rows : List Tel} (b : Bk ns ts) (sub : ∀ t ∈ rows, t ∈ ts) : ∀ x ∈ ends rows, x ∈ ns := fun x hx => by
  obtain ⟨t, ht, hm⟩ := List.mem_flatMap.mp hx
  simp at hm
  rcases hm with rfl | rfl
  · exact (b.ok t (sub t ht)).st
  · exact (b.ok t (sub t ht)).en
theorem Bk.rows {ns : List Str} {ts : List Tel} (b : Bk ns ts) : ∃ P, Rows ts (tieRows ts) P ∧ ∀ t ∈ ts, Joined (tieRows ts) t.st t.en := by
  obtain ⟨P, h1, h2, h3⟩ := tieRows_spec fun t ht => (b.ok t ht).a0
  exact ⟨P, ⟨b.nd, fun t => tieRows_mem, h1, h2, fun t ht => ⟨(b.ok t ht).a0, (b.ok t ht).qa, (b.ok t ht).qb⟩⟩, h3⟩
theorem tieRows_len (ts : List Tel) : (tieRows ts).length ≤ ts.length := by
  have := (ties_sub (sortTel ts) id).length_le
  rwa [sort_len] at this
section
variable {tbl : Nat → Fn} {k : Nat} {h : PH}
theorem road_of_satR (f : TR tbl) {v : PV} {ts : List Tel} {ns : List Str} (b : Bk ns ts) (e : seqOf h v = some (ts.map Tel.pv)) {s x : Str} (hs : s ∈ ns) (j : Joined (tieRows ts) s x) {Q : PV → PH → Prop}
    (q : ∀ m ch h', h'[m]? = some (.lst (ch.map stPV)) → PathE (tieRows ts) s ch x → ch.length < ns.length → Fr [] h h' → Q (.ref m) h') : (call tbl (k + 4) 43 [v, .str s, .str x] h).Sat Q := by
  rw [call_succ, f.h43]
  refine fn_sat rfl ?_
  simp only [F_road_of, startP, List.map, List.length, List.replicate, List.cons_append, List.nil_append]
  rw [x_cons, x_set]
  simp
  refine tie_rows_sat f.h32 f.h39 (k := k + 1) (v := v) e b.nd b.len fun n h1 e1 nl f1 => ?_
  have tl := tieRows_len ts
  have bl := b.len
  refine road_sat f.h40 f.h41 f.h42 (k := k) e1 (by omega) hs (b.ends fun t => tieRows_mem) (fun _ m ch h2 e2 _ wk cl f2 => ?_) fun nj => absurd j nj
  simp [x_cons, isNonP]
  exact q m ch h2 e2 wk cl (f1.trans f2)
theorem road_of_sat (f : TF tbl) {v : PV} {ts : List Tel} {ns : List Str} (b : Bk ns ts) (e : seqOf h v = some (ts.map Tel.pv)) {s x : Str} (hs : s ∈ ns) (j : Joined (tieRows ts) s x) {Q : PV → PH → Prop}
    (q : ∀ m ch h', h'[m]? = some (.lst (ch.map stPV)) → PathE (tieRows ts) s ch x → ch.length < ns.length → Fr [] h h' → Q (.ref m) h') : (call tbl (k + 4) 43 [v, .str s, .str x] h).Sat Q := road_of_satR f.tr b e hs j q
theorem move_of_sat (f : TF tbl) (tm : TM tbl) {v : PV} {ts : List Tel} {ns : List Str} (b : Bk ns ts) (e : seqOf h v = some (ts.map Tel.pv)) {P : Str → Mv} (R : Rows ts (tieRows ts) P) {s x : Str} (hs : s ∈ ns) (j : Joined (tieRows ts) s x) {Q : PV → PH → Prop}
    (q : ∀ h', Fr [] h h' → Q (mq (rel P s x).1 (rel P s x).2) h') : (call tbl (k + 8) 45 [v, .str s, .str x] h).Sat Q := by
  rw [call_succ, f.h45]
  refine fn_sat rfl ?_
  simp only [F_move_of, startP, List.map, List.length, List.replicate, List.cons_append, List.nil_append]
  simp
  refine road_of_sat f (k := k + 3) b e hs j fun m ch h1 e1 wk cl f1 => ?_
  have nl := b.nl
  exact chain_move_sat tm f.h44 (k := k) R (f1.seq e) b.len e1 (by omega) wk.walk fun h2 f2 => q h2 (f1.trans f2)
end
end Sb
set_option Elab.async false
set_option linter.all false
set_option maxRecDepth 100000
set_option maxHeartbeats 4000000
namespace Sb
open PySem
theorem any_addK (l : List L2.Key) (k j : L2.Key) : (addK l k).any (fun i => decide (i = j)) = (l.any (fun i => decide (i = j)) || decide (k = j)) := by
  unfold addK
  split
  · rename_i e
    by_cases z : k = j
    · subst z
      rw [e]
      rfl
    · rw [decide_eq_false z, Bool.or_false]
  · rw [List.any_append]
    simp
theorem any_fold (j : L2.Key) : ∀ (ks l : List L2.Key), (ks.foldl addK l).any (fun i => decide (i = j)) = (l.any (fun i => decide (i = j)) || ks.any fun i => decide (i = j))
  | [], l => by simp
  | k :: ks, l => by
    rw [List.foldl_cons, any_fold j ks, any_addK, Bool.or_assoc]
    rfl
theorem firsts_eq {h : PH} {n : Nat} {rows : List Tel} (e : h[n]? = some (.lst (rows.map Tel.pv))) (hl : rows.length < 1000) : firstsP (some (.ref n)) h = .ok (.ste ((rows.map fun t => Sum.inr t.name).foldl addK [])) h := by
  have m : mapO firstK (rows.map Tel.pv) = some (rows.map fun t => Sum.inr t.name) := by
    have := mapO_some (f := firstK) (l := rows.map Tel.pv) (g := fun v => (firstK v).getD (.inl 0)) (fun v hv => by
      obtain ⟨t, _, rfl⟩ := List.mem_map.mp hv
      rfl)
    rw [this, List.map_map]
    rfl
  simp only [firstsP, e, m, List.length_map, hl, if_true]
theorem notin_ste {h : PH} {rows : List Tel} (x : Str) : cmpop .NotIn (.str x) (.ste ((rows.map fun t => Sum.inr t.name).foldl addK [])) h = .ok (.bl (!decide (x ∈ rows.map Tel.name))) h := by
  show ofO ((inP h (.str x) (.ste _)).map fun b => PV.bl (!b)) h = _
  simp only [inP, keyOf, Option.map_some, any_fold, List.any_nil, Bool.false_or]
  show R.ok (PV.bl (!((rows.map fun t => Sum.inr t.name).any fun i => decide (i = Sum.inr x)))) h = _
  congr 3
  rw [Bool.eq_iff_iff, List.any_eq_true, decide_eq_true_iff]
  constructor
  · rintro ⟨k, hk, e⟩
    obtain ⟨t, ht, rfl⟩ := List.mem_map.mp hk
    have : t.name = x := by simpa using e
    exact List.mem_map.mpr ⟨t, ht, this⟩
  · intro hx
    obtain ⟨t, ht, rfl⟩ := List.mem_map.mp hx
    exact ⟨_, List.mem_map.mpr ⟨t, ht, rfl⟩, by simp⟩
theorem tel_uniq {ts : List Tel} (nd : (ts.map Tel.name).Nodup) {u v : Tel} (hu : u ∈ ts) (hv : v ∈ ts) (en : v.name = u.name) : v = u := by
  obtain ⟨a1, b1⟩ := mem_get hv
  obtain ⟨a2, b2⟩ := mem_get hu
  have e1 : (ts.map Tel.name)[a1]? = some v.name := by rw [List.getElem?_map, b1]; rfl
  have e2 : (ts.map Tel.name)[a2]? = some u.name := by rw [List.getElem?_map, b2]; rfl
  have := (List.getElem?_inj (j := a2) (List.getElem?_eq_some_iff.mp e1).1 nd).mp (by rw [e1, e2, en])
  subst this
  rw [b1] at b2
  exact Option.some.inj b2
/-- a telling is no tie -/
def bar (ts : List Tel) (t : Tel) : Bool := !decide (t.name ∈ (tieRows ts).map Tel.name)
/-- the bars: a road of ties for each telling that is no tie -/
structure Bars (ns : List Str) (ts : List Tel) (h : PH) (l : List (L2.Key × PV)) : Prop where
  no : ∀ t ∈ ts, bar ts t = false → valP l (.inr t.name) = none
  yes : ∀ t ∈ ts, bar ts t = true → ∃ m ch, valP l (.inr t.name) = some (.ref m) ∧ h[m]? = some (.lst (ch.map stPV)) ∧ PathE (tieRows ts) t.st ch t.en ∧ ch.length < ns.length
section
variable {tbl : Nat → Fn} {k : Nat} {h : PH}
theorem bars_satW (f : TW tbl) (h46 : tbl 46 = F_bars_of) {v : PV} {ts : List Tel} {ns : List Str} (b : Bk ns ts) (hb : ts.length < 1000) (e : seqOf h v = some (ts.map Tel.pv)) (J : ∀ t ∈ ts, Joined (tieRows ts) t.st t.en) {Q : PV → PH → Prop}
    (q : ∀ d l h', h'[d]? = some (.dct l) → h.length ≤ d → Bars ns ts h' l → Fr [] h h' → Q (.ref d) h') : (call tbl (k + 4) 46 [v] h).Sat Q := by
  rw [call_succ, h46]
  refine fn_sat rfl ?_
  have tl := tieRows_len ts
  simp only [F_bars_of, startP, List.map, List.length, List.replicate, List.cons_append, List.nil_append]
  rw [x_cons, x_set]
  simp
  refine tie_rows_sat f.h32 f.h39 (k := k + 1) (v := v) e b.nd b.len fun n h1 e1 nl f1 => ?_
  rw [x_cons]
  simp [firsts_eq e1 (by omega)]
  rw [x_cons, x_set]
  have er := f1.seq e
  have io := in_order_eq (k := k + 2) (h := h1) (v := v) f.h32 er b.nd b.len
  generalize hS : sortTel ts = S at io
  have sm : ∀ t, t ∈ S ↔ t ∈ ts := fun t => by rw [← hS]; exact (sort_perm ts).mem_iff
  have sl : S.length = ts.length := by rw [← hS, sort_len]
  have snd : (S.map Tel.name).Nodup := by rw [← hS]; exact sort_nd b.nd
  generalize hh2 : h1 ++ [PO.lst (S.map Tel.pv)] = h2 at io
  have e2 : h2[h1.length]? = some (.lst (S.map Tel.pv)) := by rw [← hh2]; simp
  have f2 : Fr [] h h2 := by rw [← hh2]; exact f1.appNew
  have n2 : h2[n]? = some (.lst ((tieRows ts).map Tel.pv)) := by rw [← hh2]; exact (Fr.app (S := [])).some (by simp) e1
  refine v_compE (l := [.ref h1.length]) (h1 := h2) (by simp [io]) (walk_ref e2) (fun i acc h' => h' = h2 ∧ acc = ((S.take i).filter (bar ts)).map Tel.pv) ⟨rfl, by simp⟩ ?_ ?_
  · rintro i y acc h' hy ⟨rfl, rfl⟩
    rw [List.getElem?_map] at hy
    obtain ⟨u, hu, rfl⟩ := Option.map_eq_some_iff.mp hy
    have hi := (List.getElem?_eq_some_iff.mp hu).1
    refine ⟨stays_one e2, _, rfl, ?_⟩
    have fl : ((S.take i).filter (bar ts)).length ≤ i := Nat.le_trans (List.length_filter_le ..) (by rw [List.length_take]; omega)
    simp [wipeP, pv0, notin_ste]
    by_cases hbar : u.name ∈ (tieRows ts).map Tel.name
    · left
      obtain ⟨v, hv, ev⟩ := List.mem_map.mp hbar
      refine ⟨⟨v, hv, ev⟩, ?_⟩
      rw [List.take_add_one, hu]
      have hbt : bar ts u = false := by
        unfold bar
        rw [decide_eq_true hbar]
        rfl
      simp [List.filter_append, List.filter, hbt]
    · right
      refine ⟨fun v hv ev => hbar (List.mem_map.mpr ⟨v, hv, ev⟩), line_small (by omega), ?_⟩
      rw [List.take_add_one, hu]
      have hbt : bar ts u = true := by
        unfold bar
        rw [decide_eq_false hbar]
        rfl
      simp [List.filter_append, List.filter, hbt]
  · rintro acc h' ⟨rfl, rfl⟩
    have fl : (S.filter (bar ts)).length ≤ S.length := List.length_filter_le ..
    have ls : (S.map Tel.pv).length = S.length := List.length_map ..
    rw [ls, List.take_length]
    refine ⟨stays_one e2, line_small (by rw [List.length_map]; omega), ?_⟩
    generalize hB : S.filter (bar ts) = B at fl
    have bm : ∀ t, t ∈ B ↔ t ∈ ts ∧ bar ts t = true := fun t => by rw [← hB, List.mem_filter, sm]
    have bnd : (B.map Tel.name).Nodup := by
      rw [← hB]
      exact (List.filter_sublist.map Tel.name).nodup snd
    generalize hh3 : h' ++ [PO.lst (B.map Tel.pv)] = h3
    have e3 : h3[h'.length]? = some (.lst (B.map Tel.pv)) := by rw [← hh3]; simp
    have n3 : h3[n]? = some (.lst ((tieRows ts).map Tel.pv)) := by rw [← hh3]; exact (Fr.app (S := [])).some (by simp) n2
    have f3 : Fr [] h h3 := by rw [← hh3]; exact f2.appNew
    rw [x_one, x_ret]
    refine v_dcompE (l := [.ref h'.length]) (h1 := h3) (by simp) (walk_ref e3) (fun i acc g => Fr [] h3 g ∧ acc.length ≤ i ∧ (∀ t ∈ B.take i, ∃ m ch, valP acc (.inr t.name) = some (.ref m) ∧ g[m]? = some (.lst (ch.map stPV)) ∧ PathE (tieRows ts) t.st ch t.en ∧ ch.length < ns.length) ∧ ∀ x, (∀ t ∈ B.take i, t.name ≠ x) → valP acc (.inr x) = none) ⟨Fr.refl _ _, by simp, by simp, fun _ _ => rfl⟩ ?_ ?_
    · rintro i y acc g hy ⟨fg, al, c1, c2⟩
      rw [List.getElem?_map] at hy
      obtain ⟨u, hu, rfl⟩ := Option.map_eq_some_iff.mp hy
      have hi := (List.getElem?_eq_some_iff.mp hu).1
      have um := (bm u).mp (List.mem_of_getElem? hu)
      have uk := b.ok u um.1
      refine ⟨stays_one (fg.some (by simp) e3), _, rfl, ?_⟩
      simp [wipeP, pv0, pv1, pv2]
      refine road_sat f.h40 f.h41 f.h42 (k := k) (fg.some (by simp) n3) (by omega) uk.st (b.ends fun t => tieRows_mem) (fun _ m ch g2 m1 _ wk cl fg2 => ?_) fun nj => absurd (J u um.1) nj
      refine ⟨.inr u.name, rfl, line_small (by omega), fg.trans fg2, Nat.le_trans (put_len ..) (by omega), fun t ht => ?_, fun x hx => ?_⟩
      · rw [List.take_add_one, hu] at ht
        rcases List.mem_append.mp ht with z | z
        · obtain ⟨m', ch', z1, z2, z3⟩ := c1 t z
          refine ⟨m', ?_, ch', fg2.some (by simp) z2, z3⟩
          rw [val_put, if_neg (by simpa using name_take bnd hu z)]
          exact z1
        · rw [show t = u by simpa using z]
          exact ⟨m, by rw [val_put, if_pos rfl], ch, m1, wk, cl⟩
      · rw [List.take_add_one, hu] at hx
        have xu : ¬ x = u.name := fun z => hx u (by simp) z.symm
        rw [val_put, if_neg (by simpa using xu)]
        exact c2 x fun t ht => hx t (List.mem_append_left _ ht)
    · rintro acc g ⟨fg, al, c1, c2⟩
      rw [List.length_map, List.take_length] at c1 c2
      refine ⟨stays_one (fg.some (by simp) e3), ?_⟩
      refine q g.length acc (g ++ [.dct acc]) (by simp) (Nat.le_trans f3.len fg.len) ⟨fun t ht hbt => ?_, fun t ht hbt => ?_⟩ ((f3.trans fg).appNew)
      · refine c2 _ fun u hu en => ?_
        have := (bm u).mp hu
        rw [tel_uniq b.nd ht this.1 en, hbt] at this
        cases this.2
      · obtain ⟨m, ch, z1, z2, z3⟩ := c1 t ((bm t).mpr ⟨ht, hbt⟩)
        exact ⟨m, ch, z1, (Fr.app (S := [])).some (by simp) z2, z3⟩
end
end Sb
set_option Elab.async false
set_option linter.all false
set_option maxRecDepth 100000
set_option maxHeartbeats 4000000
namespace Sb
open PySem
theorem eq_mq (h : PH) (a b c d : Rat) : cmpop .Eq (mq a b) (mq c d) h = .ok (.bl (decide ((a, b) = (c, d)))) h := by
  show ofO ((eqP h (mq a b) (mq c d)).map PV.bl) h = _
  have e : eqP h (mq a b) (mq c d) = some (((a.num == c.num) && (((a.den : Int) == (c.den : Int)) && true)) && (((b.num == d.num) && (((b.den : Int) == (d.den : Int)) && true)) && true)) := by
    simp [eqP, mq, fq, pd, mapO, PyData.eqv, PyData.eqvAll]
  rw [e]
  show R.ok (PV.bl _) h = _
  congr 2
  rw [Bool.eq_iff_iff]
  simp only [Bool.and_eq_true, beq_iff_eq, Bool.and_true, decide_eq_true_iff, Prod.mk.injEq]
  constructor
  · rintro ⟨⟨h1, h2⟩, h3, h4⟩
    exact ⟨Rat.ext h1 (by omega), Rat.ext h3 (by omega)⟩
  · rintro ⟨rfl, rfl⟩
    exact ⟨⟨rfl, rfl⟩, rfl, rfl⟩
def wordOf (ts : List Tel) (P : Str → Mv) (t : Tel) : Str := if bar ts t = true then (if rel P t.st t.en = (t.a, t.b) then "fits" else "aside") else "tie"
def wpv (ts : List Tel) (P : Str → Mv) (t : Tel) : PV := .tup [.str t.name, .str (wordOf ts P t)]
theorem in_dct' {h : PH} {d : Nat} {l : List (L2.Key × PV)} (e : h[d]? = some (.dct l)) (x : Str) : cmpop .In (.str x) (.ref d) h = .ok (.bl (valP l (.inr x)).isSome) h := by
  show ofO ((inP h (.str x) (.ref d)).map PV.bl) h = _
  simp only [inP, e, keyOf]
  rfl
section
variable {tbl : Nat → Fn} {k : Nat} {h : PH}
theorem words_satW (f : TW tbl) (tm : TM tbl) (h46 : tbl 46 = F_bars_of) (h47 : tbl 47 = F_words_of) {v : PV} {ts : List Tel} {ns : List Str} (b : Bk ns ts) (hb : ts.length < 1000) (e : seqOf h v = some (ts.map Tel.pv)) {P : Str → Mv} (R : Rows ts (tieRows ts) P) (J : ∀ t ∈ ts, Joined (tieRows ts) t.st t.en) {Q : PV → PH → Prop}
    (q : ∀ n h', h'[n]? = some (.lst ((sortTel ts).map (wpv ts P))) → h.length ≤ n → Fr [] h h' → Q (.ref n) h') : (call tbl (k + 8) 47 [v] h).Sat Q := by
  rw [call_succ, h47]
  refine fn_sat rfl ?_
  simp only [F_words_of, startP, List.map, List.length, List.replicate, List.cons_append, List.nil_append]
  rw [x_cons, x_set]
  simp
  refine bars_satW f h46 (k := k + 3) b hb e J fun d l h1 e1 dl br f1 => ?_
  rw [x_cons]
  simp [alloc_small]
  rw [x_cons]
  have dl1 := (List.getElem?_eq_some_iff.mp e1).1
  have e1' : seqOf (h1 ++ [PO.lst []]) v = some (ts.map Tel.pv) := (f1.appNew).seq e
  have io := in_order_eq (k := k + 6) (h := h1 ++ [PO.lst []]) (v := v) f.h32 e1' b.nd b.len
  generalize hS : sortTel ts = S at io
  have sm : ∀ t, t ∈ S ↔ t ∈ ts := fun t => by rw [← hS]; exact (sort_perm ts).mem_iff
  have sl : S.length = ts.length := by rw [← hS, sort_len]
  have ll : (h1 ++ [PO.lst []]).length = h1.length + 1 := by simp
  rw [ll] at io
  generalize hh2 : h1 ++ [PO.lst []] ++ [PO.lst (S.map Tel.pv)] = h2 at io
  have a1 : h2[h1.length]? = some (.lst []) := by rw [← hh2]; simp
  have a2 : h2[h1.length + 1]? = some (.lst (S.map Tel.pv)) := by rw [← hh2]; simp
  have f2 : Fr [] h1 h2 := by rw [← hh2]; exact Fr.app.appNew
  have hl1 := f1.len
  obtain ⟨I, hI⟩ : ∃ I : Nat → Env → PH → Prop, I = fun i ρ h' => ∃ (o3 o4 o5 o6 : Option PV), ρ = [some v, some (.ref d), some (.ref h1.length), o3, o4, o5, o6] ∧ h'[h1.length]? = some (.lst ((S.take i).map (wpv ts P))) ∧ h'[h1.length + 1]? = some (.lst (S.map Tel.pv)) ∧ Fr [] h1 h' := ⟨_, rfl⟩
  refine x_forE (l := [.ref (h1.length + 1)]) (h1 := h2) (by simp [io]) (walk_ref a2) I (by rw [hI]; exact ⟨none, none, none, none, rfl, a1, a2, f2⟩) ?_ ?_
  · intro i y ρ h3 hy hi
    rw [hI] at hi
    obtain ⟨o3, o4, o5, o6, rfl, b1, b2, f3⟩ := hi
    rw [List.getElem?_map] at hy
    obtain ⟨u, hu, rfl⟩ := Option.map_eq_some_iff.mp hy
    have hi := (List.getElem?_eq_some_iff.mp hu).1
    have um := (sm u).mp (List.mem_of_getElem? hu)
    refine ⟨stays_one b2, _, rfl, ?_⟩
    simp only [List.set]
    rw [x_cons]
    simp [pv0, pv3, setAll]
    rw [x_cons]
    simp
    rw [x_cons]
    have last : ∀ (w : Str) (h4 : PH), w = wordOf ts P u → h4[h1.length]? = some (.lst ((S.take i).map (wpv ts P))) → h4[h1.length + 1]? = some (.lst (S.map Tel.pv)) → Fr [] h1 h4 →
        (exSs (call tbl (k + 7)) [.ex (.mth .append (.var 2) [(.tup [(.var 4), (.var 6)])])] [some v, some (.ref d), some (.ref h1.length), some u.pv, some (.str u.name), some (mq u.a u.b), some (.str w)] h4).Sat (I (i + 1)) Q := by
      intro w h4 hw c1 c2 f4
      have c3 := (List.getElem?_eq_some_iff.mp c1).1
      simp [ty_ref c1, MT.ty, mt_append c1 (by simp; omega)]
      rw [hI]
      refine ⟨_, _, _, _, rfl, ?_, by rw [set_ne' (by omega)]; exact c2, f4.setNew (Nat.le_refl _)⟩
      rw [set_at c1, List.take_add_one, hu, hw]
      simp [wpv]
    have d3 := f3.some (by simp) e1
    simp [in_dct' d3]
    cases hbu : bar ts u with
    | false =>
      have z := br.no u um hbu
      simp [z]
      have := last "tie" h3 (by unfold wordOf; rw [hbu]; rfl) b1 b2 f3
      simpa using this
    | true =>
      obtain ⟨m, ch, z1, z2, z3, z4⟩ := br.yes u um hbu
      simp [z1, idx_dct d3 z1]
      have nl := b.nl
      have r3 := f3.seq (f1.seq e)
      refine chain_move_sat tm f.h44 (k := k) R r3 b.len (f3.some (by simp) z2) (by omega) z3.walk fun h4 f4 => ?_
      simp [eq_mq]
      have c1 := f4.some (by simp) b1
      have c2 := f4.some (by simp) b2
      by_cases hr : rel P u.st u.en = (u.a, u.b)
      · have := last "fits" h4 (by unfold wordOf; rw [if_pos hbu, if_pos hr]) c1 c2 (f3.trans f4)
        simp [hr]
        simpa using this
      · have := last "aside" h4 (by unfold wordOf; rw [if_pos hbu, if_neg hr]) c1 c2 (f3.trans f4)
        have hr' : ¬ ((rel P u.st u.en).1 = u.a ∧ (rel P u.st u.en).2 = u.b) := fun z => hr (Prod.ext z.1 z.2)
        simp [hr']
        have hr2 : (rel P u.st u.en).1 = u.a → ¬ (rel P u.st u.en).2 = u.b := fun z1 z2 => hr' ⟨z1, z2⟩
        have hr3 : ((rel P u.st u.en).1 = u.a → ¬ (rel P u.st u.en).2 = u.b) = True := eq_true hr2
        simp only [hr3, true_and]
        simpa using this
  · intro ρ h3 hi
    rw [hI] at hi
    obtain ⟨o3, o4, o5, o6, rfl, b1, b2, f3⟩ := hi
    refine ⟨stays_one b2, ?_⟩
    rw [List.length_map, List.take_length] at b1
    simp
    exact q _ h3 (by rw [hS]; exact b1) hl1 (f1.trans f3)
theorem words_sat (f : TF tbl) (tm : TM tbl) (h46 : tbl 46 = F_bars_of) (h47 : tbl 47 = F_words_of) {v : PV} {ts : List Tel} {ns : List Str} (b : Bk ns ts) (hb : ts.length < 1000) (e : seqOf h v = some (ts.map Tel.pv)) {P : Str → Mv} (R : Rows ts (tieRows ts) P) (J : ∀ t ∈ ts, Joined (tieRows ts) t.st t.en) {Q : PV → PH → Prop}
    (q : ∀ n h', h'[n]? = some (.lst ((sortTel ts).map (wpv ts P))) → h.length ≤ n → Fr [] h h' → Q (.ref n) h') : (call tbl (k + 8) 47 [v] h).Sat Q := words_satW f.tw tm h46 h47 b hb e R J q
end
end Sb
set_option Elab.async false
set_option linter.all false
set_option maxRecDepth 100000
set_option maxHeartbeats 4000000
namespace Sb
open PySem
theorem joined_snoc {F : List Tel} {t : Tel} {x y : Str} (j : Joined (F ++ [t]) x y) : Joined F x y ∨ (Joined F x t.st ∧ Joined F t.en y) ∨ (Joined F x t.en ∧ Joined F t.st y) := by
  induction j with
  | refl => exact .inl (.refl _)
  | @step y u m j e ih =>
    rcases List.mem_append.mp m with hm | hm
    · rcases ih with a | ⟨a, b⟩ | ⟨a, b⟩
      · exact .inl (.step hm a e)
      · exact .inr (.inl ⟨a, .step hm b e⟩)
      · exact .inr (.inr ⟨a, .step hm b e⟩)
    · have hu := List.mem_singleton.mp hm
      subst hu
      subst e
      rcases ih with a | ⟨a, b⟩ | ⟨a, b⟩
      · exact .inr (.inl ⟨a, .refl _⟩)
      · exact .inl (a.trans b.symm)
      · exact .inl a
  | @back y u m j e ih =>
    rcases List.mem_append.mp m with hm | hm
    · rcases ih with a | ⟨a, b⟩ | ⟨a, b⟩
      · exact .inl (.back hm a e)
      · exact .inr (.inl ⟨a, .back hm b e⟩)
      · exact .inr (.inr ⟨a, .back hm b e⟩)
    · have hu := List.mem_singleton.mp hm
      subst hu
      subst e
      rcases ih with a | ⟨a, b⟩ | ⟨a, b⟩
      · exact .inr (.inr ⟨a, .refl _⟩)
      · exact .inl a
      · exact .inl (a.trans b.symm)
theorem joined_snoc_iff {F : List Tel} {t : Tel} {x y : Str} : Joined (F ++ [t]) x y ↔ Joined F x y ∨ (Joined F x t.st ∧ Joined F t.en y) ∨ (Joined F x t.en ∧ Joined F t.st y) := by
  refine ⟨joined_snoc, fun q => ?_⟩
  have up : ∀ {x y}, Joined F x y → Joined (F ++ [t]) x y := fun j => j.mono fun u hu => List.mem_append_left _ hu
  have jt : Joined (F ++ [t]) t.st t.en := Joined.of (by simp)
  rcases q with a | ⟨a, b⟩ | ⟨a, b⟩
  · exact up a
  · exact ((up a).trans jt).trans (up b)
  · exact ((up a).trans jt.symm).trans (up b)
theorem joined_congr {F G : List Tel} (h : ∀ t, t ∈ F ↔ t ∈ G) {x y : Str} : Joined F x y ↔ Joined G x y := ⟨fun j => j.mono fun t => (h t).mp, fun j => j.mono fun t => (h t).mpr⟩
theorem joined_skip {F : List Tel} {t : Tel} (h : Joined F t.st t.en) {x y : Str} : Joined (F ++ [t]) x y ↔ Joined F x y := ⟨fun j => j.into fun u hu => by
  rcases List.mem_append.mp hu with z | z
  · exact .of z
  · rw [List.mem_singleton.mp z]
    exact h, fun j => j.mono fun u hu => List.mem_append_left _ hu⟩
theorem ltT_irr (t : Tel) : ltT t t = false := by
  have := leTel_total t.key t.key
  simp at this
  simp [ltT, leT, this]
theorem lt_not {u t : Tel} (h : leT t u = true) : ltT u t = false := by simp [ltT, h]
theorem lt_of_le {u t : Tel} (h : leT u t = true) (n : u.name ≠ t.name) : ltT u t = true := by
  unfold ltT
  cases h2 : leT t u with
  | false => rfl
  | true => exact absurd (congrArg Prod.snd (leTel_anti h h2)) n
theorem le_of_lt {u t : Tel} (h : ltT u t = true) : leT u t = true := by
  have := leTel_total u.key t.key
  unfold ltT at h
  unfold leT at h ⊢
  cases h2 : leTel u.key t.key with
  | true => rfl
  | false =>
    rw [h2] at this
    simp at this
    rw [this] at h
    cases h
/-- those ahead of one -/
def ahead (ts : List Tel) (t : Tel) : List Tel := ts.filter fun u => ltT u t
theorem mem_ahead {ts : List Tel} {t u : Tel} : u ∈ ahead ts t ↔ u ∈ ts ∧ ltT u t = true := List.mem_filter
/-- it joins two groups -/
def IsTie (ts : List Tel) (t : Tel) : Prop := ¬ Joined (ahead ts t) t.st t.en
theorem pre_ahead {ts A C : List Tel} {t : Tel} (nd : (ts.map Tel.name).Nodup) (es : sortTel ts = A ++ t :: C) : ∀ u, u ∈ A ↔ u ∈ ahead ts t := by
  intro u
  have o := sort_pair ts
  have nd' := sort_nd nd
  have sm : u ∈ ts ↔ u ∈ A ++ t :: C := by rw [← es]; exact (sort_perm ts).mem_iff.symm
  rw [es] at o nd'
  rw [List.pairwise_append] at o
  obtain ⟨_, o2, o3⟩ := o
  rw [List.pairwise_cons] at o2
  rw [List.map_append, List.nodup_append] at nd'
  rw [mem_ahead, sm]
  constructor
  · intro hu
    refine ⟨List.mem_append_left _ hu, lt_of_le (o3 u hu t (List.mem_cons_self ..)) ?_⟩
    exact nd'.2.2 _ (List.mem_map.mpr ⟨u, hu, rfl⟩) _ (List.mem_map.mpr ⟨t, List.mem_cons_self .., rfl⟩)
  · rintro ⟨hm, hl⟩
    rcases List.mem_append.mp hm with z | z
    · exact z
    · rcases List.mem_cons.mp z with rfl | z
      · rw [ltT_irr] at hl
        cases hl
      · rw [lt_not (o2.1 u z)] at hl
        cases hl
open Classical in
/-- the ties of a list, those of pre being ahead -/
noncomputable def tiesJ : List Tel → List Tel → List Tel
  | _, [] => []
  | pre, t :: r => if Joined pre t.st t.en then tiesJ (pre ++ [t]) r else t :: tiesJ (pre ++ [t]) r
theorem ties_J : ∀ (l : List Tel) (mk : Str → Str) (pre : List Tel), (∀ x y, mk x = mk y ↔ Joined pre x y) → ties mk l = tiesJ pre l
  | [], _, _, _ => rfl
  | t :: r, mk, pre, hj => by
    unfold ties tiesJ
    by_cases e : mk t.st = mk t.en
    · have j := (hj _ _).mp e
      rw [if_pos e, if_pos j]
      exact ties_J r mk _ fun x y => (hj x y).trans (joined_skip j).symm
    · have j : ¬ Joined pre t.st t.en := fun z => e ((hj _ _).mpr z)
      rw [if_neg e, if_neg j]
      congr 1
      refine ties_J r _ _ fun x y => ?_
      rw [joined_snoc_iff, ← hj, ← hj, ← hj, ← hj, ← hj]
      unfold reMark
      by_cases hx : mk x = mk t.en
      · rw [if_pos hx]
        by_cases hy : mk y = mk t.en
        · rw [if_pos hy]
          exact ⟨fun _ => .inl (hx.trans hy.symm), fun _ => rfl⟩
        · rw [if_neg hy]
          constructor
          · intro z
            exact .inr (.inr ⟨hx, z⟩)
          · rintro (z | ⟨_, z⟩ | ⟨_, z⟩)
            · exact absurd (z.symm.trans hx) hy
            · exact absurd z.symm hy
            · exact z
      · rw [if_neg hx]
        by_cases hy : mk y = mk t.en
        · rw [if_pos hy]
          constructor
          · intro z
            exact .inr (.inl ⟨z, hy.symm⟩)
          · rintro (z | ⟨z, _⟩ | ⟨z, _⟩)
            · exact absurd (z.trans hy) hx
            · exact z
            · exact absurd z hx
        · rw [if_neg hy]
          constructor
          · intro z
            exact .inl z
          · rintro (z | ⟨_, z⟩ | ⟨z, _⟩)
            · exact z
            · exact absurd z.symm hy
            · exact absurd z hx
open Classical in
theorem tiesJ_filter {ts : List Tel} (nd : (ts.map Tel.name).Nodup) : ∀ (l pre : List Tel), sortTel ts = pre ++ l → tiesJ pre l = l.filter fun t => decide (IsTie ts t)
  | [], _, _ => rfl
  | t :: r, pre, es => by
    have ih := tiesJ_filter nd r (pre ++ [t]) (by rw [es]; simp)
    unfold tiesJ
    have jc : Joined pre t.st t.en ↔ Joined (ahead ts t) t.st t.en := joined_congr (pre_ahead nd es)
    by_cases j : Joined pre t.st t.en
    · rw [if_pos j, ih, List.filter_cons_of_neg]
      rw [decide_eq_true_eq]
      exact fun z => z (jc.mp j)
    · rw [if_neg j, ih, List.filter_cons_of_pos]
      rw [decide_eq_true_eq]
      exact fun z => j (jc.mpr z)
theorem joined_nil {x y : Str} (j : Joined [] x y) : x = y := by
  induction j with
  | refl => rfl
  | step m => cases m
  | back m => cases m
open Classical in
theorem tieRows_eq {ts : List Tel} (nd : (ts.map Tel.name).Nodup) : tieRows ts = (sortTel ts).filter fun t => decide (IsTie ts t) := by
  unfold tieRows
  rw [ties_J (sortTel ts) id [] fun x y => ⟨fun e => by rw [show x = y from e]; exact .refl _, joined_nil⟩]
  exact tiesJ_filter nd _ _ rfl
theorem mem_ties {ts : List Tel} (nd : (ts.map Tel.name).Nodup) {t : Tel} : t ∈ tieRows ts ↔ t ∈ ts ∧ IsTie ts t := by
  rw [tieRows_eq nd, List.mem_filter, (sort_perm ts).mem_iff]
  simp
/-- what is joined by those ahead is so by the ties among them -/
theorem ties_prefix {ts : List Tel} (nd : (ts.map Tel.name).Nodup) : ∀ (i : Nat), ∀ u ∈ (sortTel ts).take i, Joined ((tieRows ts).filter fun v => leT v u) u.st u.en
  | 0, _, h => by simp at h
  | i + 1, u, h => by
    cases hi : (sortTel ts)[i]? with
    | none =>
      rw [List.take_add_one, hi] at h
      exact ties_prefix nd i u (by simpa using h)
    | some t =>
      rw [List.take_add_one, hi] at h
      rcases List.mem_append.mp h with z | z
      · exact ties_prefix nd i u z
      · have eu : u = t := by simpa using z
        subst eu
        have um : u ∈ ts := (sort_perm ts).mem_iff.mp (List.mem_of_getElem? hi)
        by_cases ht : IsTie ts u
        · refine Joined.of (List.mem_filter.mpr ⟨(mem_ties nd).mpr ⟨um, ht⟩, ?_⟩)
          have := leTel_total u.key u.key
          simpa [leT] using this
        · have j : Joined (ahead ts u) u.st u.en := Classical.byContradiction ht
          refine j.into fun v hv => ?_
          have hi' := (List.getElem?_eq_some_iff.mp hi)
          have es : sortTel ts = (sortTel ts).take i ++ u :: (sortTel ts).drop (i + 1) := by
            conv => lhs; rw [← List.take_append_drop i (sortTel ts), List.drop_eq_getElem_cons hi'.1, hi'.2]
          have vp := (pre_ahead nd es v).mpr hv
          refine (ties_prefix nd i v vp).mono fun w hw => ?_
          obtain ⟨w1, w2⟩ := List.mem_filter.mp hw
          exact List.mem_filter.mpr ⟨w1, leTel_trans w.key v.key u.key w2 (le_of_lt (mem_ahead.mp hv).2)⟩
theorem joined_ties {ts : List Tel} (nd : (ts.map Tel.name).Nodup) {u : Tel} (h : u ∈ ts) : Joined ((tieRows ts).filter fun v => leT v u) u.st u.en := by
  refine ties_prefix nd (sortTel ts).length u ?_
  rw [List.take_length]
  exact (sort_perm ts).mem_iff.mpr h
theorem joined_ties' {ts : List Tel} (nd : (ts.map Tel.name).Nodup) {u : Tel} (h : u ∈ ts) : Joined (tieRows ts) u.st u.en := (joined_ties nd h).mono fun v hv => (List.mem_filter.mp hv).1
inductive Forest : List Tel → Prop
  | nil : Forest []
  | snoc {F : List Tel} {t : Tel} (f : Forest F) (n : ¬ Joined F t.st t.en) : Forest (F ++ [t])
theorem steps_app {F G : List Tel} {x : Str} : stepsOf (F ++ G) x = stepsOf F x ++ stepsOf G x := by simp [stepsOf]
theorem Path.vmem {rows : List Tel} {s x : Str} {vs : List Str} {c : List Step} (w : Path rows s vs c x) : x ∈ vs ∧ s ∈ vs := by
  induction w with
  | nil => simp
  | snoc w m n ih => exact ⟨by simp, List.mem_append_left _ ih.2⟩
theorem Path.split {F : List Tel} {t : Tel} (nj : ¬ Joined F t.st t.en) {s x : Str} {vs : List Str} {c : List Step} (w : Path (F ++ [t]) s vs c x) :
    Path F s vs c x ∨ (∃ v1 v2 c1 c2, vs = v1 ++ v2 ∧ c = c1 ++ [(t.name, true)] ++ c2 ∧ Path F s v1 c1 t.st ∧ Path F t.en v2 c2 x) ∨ (∃ v1 v2 c1 c2, vs = v1 ++ v2 ∧ c = c1 ++ [(t.name, false)] ++ c2 ∧ Path F s v1 c1 t.en ∧ Path F t.st v2 c2 x) := by
  have ne : t.st ≠ t.en := fun z => nj (by rw [z]; exact .refl _)
  induction w with
  | nil => exact .inl .nil
  | @snoc vs c y p w m n ih =>
    rw [steps_app, List.mem_append] at m
    rcases ih with a | ⟨v1, v2, c1, c2, rfl, rfl, a, b⟩ | ⟨v1, v2, c1, c2, rfl, rfl, a, b⟩
    · rcases m with m | m
      · exact .inl (a.snoc m n)
      · obtain ⟨u, hu, ⟨rfl, hx⟩ | ⟨rfl, hx⟩⟩ := steps_mem m
        · rw [List.mem_singleton.mp hu] at hx n ⊢
          subst hx
          exact .inr (.inl ⟨vs, [t.en], c, [], rfl, by simp, a, .nil⟩)
        · rw [List.mem_singleton.mp hu] at hx n ⊢
          subst hx
          exact .inr (.inr ⟨vs, [t.st], c, [], rfl, by simp, a, .nil⟩)
    · rcases m with m | m
      · exact .inr (.inl ⟨v1, v2 ++ [p.2], c1, c2 ++ [p.1], by simp, by simp, a, b.snoc m fun z => n (List.mem_append_right _ z)⟩)
      · obtain ⟨u, hu, ⟨rfl, hx⟩ | ⟨rfl, hx⟩⟩ := steps_mem m
        · rw [List.mem_singleton.mp hu] at hx
          subst hx
          exact absurd b.walk.joined.symm nj
        · rw [List.mem_singleton.mp hu] at hx n
          exact absurd (List.mem_append_left _ a.vmem.1) n
    · rcases m with m | m
      · exact .inr (.inr ⟨v1, v2 ++ [p.2], c1, c2 ++ [p.1], by simp, by simp, a, b.snoc m fun z => n (List.mem_append_right _ z)⟩)
      · obtain ⟨u, hu, ⟨rfl, hx⟩ | ⟨rfl, hx⟩⟩ := steps_mem m
        · rw [List.mem_singleton.mp hu] at hx n
          exact absurd (List.mem_append_left _ a.vmem.1) n
        · rw [List.mem_singleton.mp hu] at hx
          subst hx
          exact absurd b.walk.joined nj
theorem Path.uniq {F : List Tel} (fo : Forest F) : ∀ {s x : Str} {vs vs' : List Str} {c c' : List Step}, Path F s vs c x → Path F s vs' c' x → c = c' ∧ vs = vs' := by
  induction fo with
  | nil =>
    intro s x vs vs' c c' a b
    have no : ∀ {vs c x}, Path [] s vs c x → c = [] ∧ vs = [s] := fun w => by
      cases w with
      | nil => exact ⟨rfl, rfl⟩
      | snoc w m n => simp [stepsOf] at m
    rw [(no a).1, (no a).2, (no b).1, (no b).2]
    exact ⟨rfl, rfl⟩
  | @snoc F t f nj ih =>
    intro s x vs vs' c c' a b
    rcases a.split nj with a | ⟨v1, v2, c1, c2, rfl, rfl, a1, a2⟩ | ⟨v1, v2, c1, c2, rfl, rfl, a1, a2⟩ <;> rcases b.split nj with b | ⟨w1, w2, d1, d2, rfl, rfl, b1, b2⟩ | ⟨w1, w2, d1, d2, rfl, rfl, b1, b2⟩
    · exact ih a b
    · exact absurd ((b1.walk.joined.symm.trans a.walk.joined).trans b2.walk.joined.symm) nj
    · exact absurd ((b2.walk.joined.trans a.walk.joined.symm).trans b1.walk.joined) nj
    · exact absurd ((a1.walk.joined.symm.trans b.walk.joined).trans a2.walk.joined.symm) nj
    · obtain ⟨e1, e2⟩ := ih a1 b1
      obtain ⟨e3, e4⟩ := ih a2 b2
      rw [e1, e2, e3, e4]
      exact ⟨rfl, rfl⟩
    · exact absurd (a1.walk.joined.symm.trans b1.walk.joined) nj
    · exact absurd ((a2.walk.joined.trans b.walk.joined.symm).trans a1.walk.joined) nj
    · exact absurd (b1.walk.joined.symm.trans a1.walk.joined) nj
    · obtain ⟨e1, e2⟩ := ih a1 b1
      obtain ⟨e3, e4⟩ := ih a2 b2
      rw [e1, e2, e3, e4]
      exact ⟨rfl, rfl⟩
open Classical in
theorem ties_forest {ts : List Tel} (nd : (ts.map Tel.name).Nodup) : Forest (tieRows ts) := by
  have key : ∀ i, Forest (((sortTel ts).take i).filter fun t => decide (IsTie ts t)) := by
    intro i
    induction i with
    | zero => simpa using Forest.nil
    | succ i ih =>
      cases hi : (sortTel ts)[i]? with
      | none => rw [List.take_add_one, hi]; simpa using ih
      | some t =>
        rw [List.take_add_one, hi, Option.toList_some, List.filter_append]
        by_cases ht : IsTie ts t
        · rw [show [t].filter (fun t => decide (IsTie ts t)) = [t] by simp [ht]]
          refine ih.snoc fun j => ht ?_
          have hi' := (List.getElem?_eq_some_iff.mp hi)
          have es : sortTel ts = (sortTel ts).take i ++ t :: (sortTel ts).drop (i + 1) := by
            conv => lhs; rw [← List.take_append_drop i (sortTel ts), List.drop_eq_getElem_cons hi'.1, hi'.2]
          exact j.mono fun u hu => (pre_ahead nd es u).mp (List.mem_filter.mp hu).1
        · rw [show [t].filter (fun t => decide (IsTie ts t)) = [] by simp [ht], List.append_nil]
          exact ih
  have := key (sortTel ts).length
  rw [List.take_length, ← tieRows_eq nd] at this
  exact this
theorem road_uniq {ts : List Tel} (nd : (ts.map Tel.name).Nodup) {s x : Str} {c c' : List Step} (a : PathE (tieRows ts) s c x) (b : PathE (tieRows ts) s c' x) : c = c' := by
  obtain ⟨_, a⟩ := a
  obtain ⟨_, b⟩ := b
  exact (a.uniq (ties_forest nd) b).1
theorem rel_uniq {F : List Tel} {P Q : Str → Mv} (p0 : ∀ z, (P z).1 ≠ 0) (q0 : ∀ z, (Q z).1 ≠ 0) (pa : ∀ t ∈ F, Agrees P t) (qa : ∀ t ∈ F, Agrees Q t) {x y : Str} (j : Joined F x y) : rel P x y = rel Q x y := by
  induction j with
  | refl => rw [rel_self (p0 _), rel_self (q0 _)]
  | @step y u m j e ih =>
    rw [← rel_thn (y := y) (p0 _), ← rel_thn (P := Q) (y := y) (q0 _), ih, e]
    have h1 := pa u m
    have h2 := qa u m
    unfold Agrees at h1 h2
    rw [← h1, ← h2]
  | @back y u m j e ih =>
    rw [← rel_thn (y := y) (p0 _), ← rel_thn (P := Q) (y := y) (q0 _), ih, e]
    have h1 := pa u m
    have h2 := qa u m
    unfold Agrees at h1 h2
    rw [← rel_bck (p0 u.st) (p0 u.en), ← rel_bck (q0 u.st) (q0 u.en), ← h1, ← h2]
/-- these tellings, if they agree, tell of x and y this move -/
def Says (F : List Tel) (x y : Str) (m : Mv) : Prop := Joined F x y ∧ ∀ P : Str → Mv, (∀ z, (P z).1 ≠ 0) → (∀ t ∈ F, Agrees P t) → rel P x y = m
theorem says_iff {F : List Tel} {P : Str → Mv} (p0 : ∀ z, (P z).1 ≠ 0) (pa : ∀ t ∈ F, Agrees P t) {x y : Str} {m : Mv} : Says F x y m ↔ Joined F x y ∧ rel P x y = m := ⟨fun ⟨j, h⟩ => ⟨j, h P p0 pa⟩, fun ⟨j, h⟩ => ⟨j, fun Q q0 qa => by rw [← rel_uniq p0 q0 pa qa j]; exact h⟩⟩
theorem Says.mono {F G : List Tel} (h : ∀ t ∈ F, t ∈ G) {x y : Str} {m : Mv} (s : Says F x y m) : Says G x y m := ⟨s.1.mono h, fun P p0 pa => s.2 P p0 fun t ht => pa t (h t ht)⟩
open Classical in
/-- the word of a telling -/
noncomputable def word (ts : List Tel) (t : Tel) : Str := if IsTie ts t then "tie" else if Says (tieRows ts) t.st t.en (t.a, t.b) then "fits" else "aside"
theorem bar_iff {ts : List Tel} (nd : (ts.map Tel.name).Nodup) {t : Tel} (h : t ∈ ts) : bar ts t = true ↔ ¬ IsTie ts t := by
  unfold bar
  simp only [Bool.not_eq_true', decide_eq_false_iff_not]
  refine not_congr ⟨fun hm => ?_, fun hi => List.mem_map.mpr ⟨t, (mem_ties nd).mpr ⟨h, hi⟩, rfl⟩⟩
  obtain ⟨v, hv, ev⟩ := List.mem_map.mp hm
  rw [tel_uniq nd h (tieRows_mem hv) ev] at hv
  exact ((mem_ties nd).mp hv).2
theorem word_eq {ts : List Tel} {P : Str → Mv} (R : Rows ts (tieRows ts) P) {t : Tel} (h : t ∈ ts) : wordOf ts P t = word ts t := by
  unfold wordOf word
  by_cases ht : IsTie ts t
  · rw [if_pos ht, if_neg (fun z => (bar_iff R.nd h).mp z ht)]
  · rw [if_neg ht, if_pos ((bar_iff R.nd h).mpr ht)]
    have := says_iff R.p0 R.ag (x := t.st) (y := t.en) (m := (t.a, t.b))
    by_cases hs : Says (tieRows ts) t.st t.en (t.a, t.b)
    · rw [if_pos hs, if_pos (this.mp hs).2]
    · rw [if_neg hs, if_neg fun z => hs (this.mpr ⟨joined_ties' R.nd h, z⟩)]
end Sb
set_option Elab.async false
set_option linter.all false
set_option maxRecDepth 100000
set_option maxHeartbeats 4000000
namespace Sb
open PySem
theorem Path.nodup {rows : List Tel} {s x : Str} {vs : List Str} {c : List Step} (w : Path rows s vs c x) : vs.Nodup ∧ vs.length = c.length + 1 := by
  induction w with
  | nil => simp
  | snoc w m n ih =>
    refine ⟨?_, by simp [ih.2]⟩
    rw [List.nodup_append]
    refine ⟨ih.1, by simp, fun a ha b hb z => n ?_⟩
    rw [← List.mem_singleton.mp hb, ← z]
    exact ha
theorem Path.among {rows : List Tel} {s x : Str} {vs : List Str} {c : List Step} (w : Path rows s vs c x) : ∀ v ∈ vs, v = s ∨ v ∈ ends rows := by
  induction w with
  | nil => simp
  | snoc w m n ih =>
    intro v hv
    rcases List.mem_append.mp hv with z | z
    · exact ih v z
    · rw [List.mem_singleton.mp z]
      exact .inr (steps_ends m)
theorem Path.pre {rows : List Tel} {s x : Str} {vs : List Str} {c : List Step} (w : Path rows s vs c x) : ∀ v ∈ vs, ∃ vs' c', Path rows s vs' c' v := by
  induction w with
  | nil =>
    intro v hv
    rw [List.mem_singleton.mp hv]
    exact ⟨_, _, .nil⟩
  | snoc w m n ih =>
    intro v hv
    rcases List.mem_append.mp hv with z | z
    · exact ih v z
    · rw [List.mem_singleton.mp z]
      exact ⟨_, _, w.snoc m n⟩
theorem Joined.path {rows : List Tel} {s x : Str} (j : Joined rows s x) : ∃ vs c, Path rows s vs c x := by
  have add : ∀ {y : Str} {p : Step × Str}, (∃ vs c, Path rows s vs c y) → p ∈ stepsOf rows y → ∃ vs c, Path rows s vs c p.2 := by
    rintro y p ⟨vs, c, w⟩ m
    by_cases h : p.2 ∈ vs
    · exact w.pre _ h
    · exact ⟨_, _, w.snoc m h⟩
  induction j with
  | refl => exact ⟨_, _, .nil⟩
  | @step y t m j e ih => exact add ih (p := ((t.name, true), t.en)) (by rw [e]; exact steps_forth m)
  | @back y t m j e ih => exact add ih (p := ((t.name, false), t.st)) (by rw [e]; exact steps_back m)
theorem Path.short {rows : List Tel} {s x : Str} {vs : List Str} {c : List Step} (w : Path rows s vs c x) {ns : List Str} (hs : s ∈ ns) (he : ∀ x ∈ ends rows, x ∈ ns) : c.length < ns.length := by
  have := nodup_len (A := vs) (B := ns) w.nodup.1 fun v hv => (w.among v hv).elim (fun z => by rw [z]; exact hs) (he v)
  have := w.nodup.2
  omega
/-- how great the numbers of a path's move are -/
theorem Path.size {rows : List Tel} {s x : Str} {vs : List Str} {c : List Step} (w : Path rows s vs c x) {P : Str → Mv} (p0 : ∀ z, (P z).1 ≠ 0) (pa : ∀ t ∈ rows, Agrees P t) (qa : ∀ t ∈ rows, t.a ≠ 0 ∧ Qs 40 t.a ∧ Qs 100 t.b) : Qs (1 + 61 * c.length) (rel P s x).1 ∧ Qs (1 + 184 * c.length) (rel P s x).2 := by
  induction w with
  | nil =>
    rw [rel_self (p0 s)]
    exact ⟨q1, q0⟩
  | @snoc vs c y p w m n ih =>
    rw [← rel_thn (y := y) (p0 y)]
    have key : ∀ cd : Mv, Qs 41 cd.1 → Qs 142 cd.2 → Qs (1 + 61 * (c ++ [p.1]).length) (thn2 (rel P s y) cd).1 ∧ Qs (1 + 184 * (c ++ [p.1]).length) (thn2 (rel P s y) cd).2 := fun cd h1 h2 => by
      have l : (c ++ [p.1]).length = c.length + 1 := by simp
      rw [l]
      exact ⟨(h1.mul ih.1).mono (by omega), ((h1.mul ih.2).add h2).mono (by omega)⟩
    obtain ⟨t, ht, ⟨rfl, hx⟩ | ⟨rfl, hx⟩⟩ := steps_mem m
    · have := pa t ht
      unfold Agrees at this
      subst hx
      rw [← this]
      exact key (t.a, t.b) ((qa t ht).2.1.mono (by decide)) ((qa t ht).2.2.mono (by decide))
    · have := pa t ht
      unfold Agrees at this
      subst hx
      rw [← rel_bck (p0 t.st) (p0 t.en), ← this]
      have ua := qa t ht
      exact key (bck (t.a, t.b)) ((q1.div ua.2.1 (num_ne ua.1)).mono (by decide)) (((q0.sub ua.2.2).div ua.2.1 (num_ne ua.1)).mono (by decide))
structure MD (ns : List Str) (l : List (L2.Key × PV)) (f : Str → PV) (seen : Str → Prop) : Prop where
  nd : (l.map (·.1)).Nodup
  at_ : ∀ x, seen x → valP l (.inr x) = some (f x)
  no : ∀ x, ¬ seen x → valP l (.inr x) = none
  ky : ∀ kv ∈ l, ∃ x ∈ ns, kv.1 = .inr x
theorem MD.len {ns : List Str} {l : List (L2.Key × PV)} {f : Str → PV} {seen : Str → Prop} (m : MD ns l f seen) : l.length ≤ ns.length := by
  have := nodup_len (A := l.map (·.1)) (B := ns.map Sum.inr) m.nd fun k hk => by
    obtain ⟨kv, h1, rfl⟩ := List.mem_map.mp hk
    obtain ⟨x, hx, e⟩ := m.ky kv h1
    rw [e]
    exact List.mem_map.mpr ⟨x, hx, rfl⟩
  rwa [List.length_map, List.length_map] at this
open Classical in
theorem put_keys {l : List (L2.Key × PV)} {k : L2.Key} {v : PV} : (putP l k v).map (·.1) = if k ∈ l.map (·.1) then l.map (·.1) else l.map (·.1) ++ [k] := by
  by_cases h : k ∈ l.map (·.1)
  · rw [if_pos h]
    unfold putP
    rw [if_pos (by obtain ⟨kv, h1, h2⟩ := List.mem_map.mp h; exact List.any_eq_true.mpr ⟨kv, h1, by simpa using h2⟩), List.map_map]
    refine List.map_congr_left fun kv _ => ?_
    simp only [Function.comp_apply]
    split <;> rfl
  · rw [if_neg h, put_new h]
    simp
theorem MD.put {ns : List Str} {l : List (L2.Key × PV)} {f : Str → PV} {seen : Str → Prop} (m : MD ns l f seen) {x : Str} (hx : x ∈ ns) (v : PV) : MD ns (putP l (.inr x) v) (fun y => if y = x then v else f y) fun y => seen y ∨ y = x := by
  refine ⟨?_, fun y hy => ?_, fun y hy => ?_, fun kv hk => ?_⟩
  · rw [put_keys]
    split
    · exact m.nd
    · rename_i h
      rw [List.nodup_append]
      refine ⟨m.nd, by simp, fun a ha b hb z => h ?_⟩
      rw [← List.mem_singleton.mp hb, ← z]
      exact ha
  · rw [val_put]
    by_cases e : y = x
    · subst e
      rw [if_pos rfl, if_pos rfl]
    · rw [if_neg (by simpa using e), if_neg e]
      exact m.at_ y (hy.resolve_right e)
  · rw [val_put, if_neg (by simpa using fun z : y = x => hy (.inr z))]
    exact m.no y fun z => hy (.inl z)
  · have : kv.1 ∈ (putP l (.inr x) v).map (·.1) := List.mem_map.mpr ⟨kv, hk, rfl⟩
    rw [put_keys] at this
    have old : kv.1 ∈ l.map (·.1) → ∃ x ∈ ns, kv.1 = .inr x := fun h => by
      obtain ⟨kv', h1, h2⟩ := List.mem_map.mp h
      rw [← h2]
      exact m.ky kv' h1
    split at this
    · exact old this
    · rcases List.mem_append.mp this with z | z
      · exact old z
      · exact ⟨x, hx, List.mem_singleton.mp z⟩
theorem MD.nil (ns : List Str) (f : Str → PV) : MD ns [] f fun _ => False := ⟨List.nodup_nil, fun _ h => h.elim, fun _ _ => rfl, by simp⟩
open Classical in
noncomputable def tieTake (ts : List Tel) (i : Nat) : List Tel := ((sortTel ts).take i).filter fun t => decide (IsTie ts t)
theorem mem_tieTake {ts : List Tel} {i : Nat} {t : Tel} : t ∈ tieTake ts i ↔ t ∈ (sortTel ts).take i ∧ IsTie ts t := by
  unfold tieTake
  rw [List.mem_filter]
  simp
theorem tieTake_sub {ts : List Tel} (nd : (ts.map Tel.name).Nodup) {i : Nat} {t : Tel} (h : t ∈ tieTake ts i) : t ∈ tieRows ts := (mem_ties nd).mpr ⟨(sort_perm ts).mem_iff.mp (List.mem_of_mem_take (mem_tieTake.mp h).1), (mem_tieTake.mp h).2⟩
theorem split_at {ts : List Tel} {i : Nat} {t : Tel} (hi : (sortTel ts)[i]? = some t) : sortTel ts = (sortTel ts).take i ++ t :: (sortTel ts).drop (i + 1) := by
  obtain ⟨h1, h2⟩ := List.getElem?_eq_some_iff.mp hi
  conv => lhs; rw [← List.take_append_drop i (sortTel ts), List.drop_eq_getElem_cons h1, h2]
theorem take_joined {ts : List Tel} (nd : (ts.map Tel.name).Nodup) : ∀ (i : Nat), ∀ u ∈ (sortTel ts).take i, Joined (tieTake ts i) u.st u.en
  | 0, _, h => by simp at h
  | i + 1, u, h => by
    have up : ∀ {x y}, Joined (tieTake ts i) x y → Joined (tieTake ts (i + 1)) x y := fun j => j.mono fun v hv => by
      rw [mem_tieTake] at hv ⊢
      exact ⟨by rw [List.take_add_one]; exact List.mem_append_left _ hv.1, hv.2⟩
    rw [List.take_add_one] at h
    rcases List.mem_append.mp h with z | z
    · exact up (take_joined nd i u z)
    · cases hi : (sortTel ts)[i]? with
      | none => rw [hi] at z; simp at z
      | some t =>
        rw [hi] at z
        have eu : u = t := by simpa using z
        subst eu
        by_cases ht : IsTie ts u
        · refine Joined.of (mem_tieTake.mpr ⟨?_, ht⟩)
          rw [List.take_add_one, hi]
          simp
        · have j : Joined (ahead ts u) u.st u.en := Classical.byContradiction ht
          exact up (((joined_congr (pre_ahead nd (split_at hi))).mpr j).into (take_joined nd i))
theorem take_joined_iff {ts : List Tel} (nd : (ts.map Tel.name).Nodup) {i : Nat} {x y : Str} : Joined ((sortTel ts).take i) x y ↔ Joined (tieTake ts i) x y := ⟨fun j => j.into (take_joined nd i), fun j => j.mono fun t ht => (mem_tieTake.mp ht).1⟩
theorem tie_at {ts : List Tel} (nd : (ts.map Tel.name).Nodup) {i : Nat} {t : Tel} (hi : (sortTel ts)[i]? = some t) : IsTie ts t ↔ ¬ Joined ((sortTel ts).take i) t.st t.en := not_congr (joined_congr (pre_ahead nd (split_at hi))).symm
end Sb
set_option Elab.async false
set_option linter.all false
set_option maxRecDepth 100000
set_option maxHeartbeats 4000000
namespace Sb
open PySem
structure LW (ns : List Str) (ts : List Tel) (i : Nat) (mk : Str → Str) (P : Str → Mv) (seen : Str → Prop) : Prop where
  jn : ∀ x y, mk x = mk y ↔ Joined ((sortTel ts).take i) x y
  idm : ∀ x, mk (mk x) = mk x
  p0 : ∀ x, (P x).1 ≠ 0
  ag : ∀ t ∈ tieTake ts i, Agrees P t
  rt : ∀ x, P (mk x) = one2
  un : ∀ x, ¬ seen x → mk x = x ∧ P x = one2
  ms : ∀ x, seen x → seen (mk x)
  sn : ∀ x, seen x → x ∈ ns
theorem one_ne : (one2).1 ≠ 0 := by show (1 : Rat) ≠ 0; decide
section
variable {ns : List Str} {ts : List Tel} {i : Nat} {mk : Str → Str} {P : Str → Mv} {seen : Str → Prop} {t : Tel}
theorem LW.root (L : LW ns ts i mk P seen) (x : Str) : P x = rel P (mk x) x := by
  unfold rel
  rw [L.rt x]
  have : bck one2 = one2 := by
    have := thn_bck (p := one2) one_ne
    rwa [one_thn] at this
  rw [this, one_thn]
theorem LW.size (L : LW ns ts i mk P seen) (b : Bk ns ts) (hn : ns.length ≤ 16) (x : Str) : Qs 916 (P x).1 ∧ Qs 2761 (P x).2 := by
  by_cases hs : seen x
  · have j : Joined (tieTake ts i) (mk x) x := (take_joined_iff b.nd).mp ((L.jn _ _).mp (L.idm x))
    obtain ⟨vs, c, w⟩ := j.path
    have sub : ∀ t ∈ tieTake ts i, t ∈ ts := fun t ht => tieRows_mem (tieTake_sub b.nd ht)
    have l := w.short (L.sn _ (L.ms x hs)) (b.ends sub)
    have := w.size L.p0 L.ag fun t ht => ⟨(b.ok t (sub t ht)).a0, (b.ok t (sub t ht)).qa, (b.ok t (sub t ht)).qb⟩
    rw [L.root x]
    exact ⟨this.1.mono (by omega), this.2.mono (by omega)⟩
  · rw [(L.un x hs).2]
    exact ⟨q1.mono (by decide), q0.mono (by decide)⟩
theorem take_succ {i : Nat} {t : Tel} (hi : (sortTel ts)[i]? = some t) : (sortTel ts).take (i + 1) = (sortTel ts).take i ++ [t] := by rw [List.take_add_one, hi]; rfl
open Classical in
theorem tieTake_succ {i : Nat} {t : Tel} (hi : (sortTel ts)[i]? = some t) : tieTake ts (i + 1) = if IsTie ts t then tieTake ts i ++ [t] else tieTake ts i := by
  unfold tieTake
  rw [take_succ hi, List.filter_append]
  by_cases h : IsTie ts t
  · simp [h]
  · simp [h]
end
noncomputable def wW (ts : List Tel) (t : Tel) : PV := .tup [.str t.name, .str (word ts t)]
end Sb
set_option Elab.async false
set_option linter.all false
set_option maxRecDepth 100000
set_option maxHeartbeats 4000000
set_option Elab.async false
set_option linter.all false
set_option maxRecDepth 100000
set_option maxHeartbeats 4000000
namespace Sb
open PySem
theorem same_list {h : PH} {m n d : Nat} {l : List PV} (e1 : h[m]? = some (.lst l)) (e2 : h[n]? = some (.lst l)) (hl : l.length ≤ 1000000) (hs : ∀ x ∈ l, sameP h d x x) : sameP h (d + 1) (.ref m) (.ref n) := by
  unfold sameP
  refine ⟨l, l, e1, e2, rfl, hl, fun i x y hx hy => ?_⟩
  rw [hx] at hy
  cases hy
  exact hs x (List.mem_of_getElem? hx)
theorem Rows.size {ns : List Str} {ts : List Tel} {P : Str → Mv} (R : Rows ts (tieRows ts) P) (b : Bk ns ts) {s x : Str} (hs : s ∈ ns) (j : Joined (tieRows ts) s x) : Qs 1648 (rel P s x).1 ∧ Qs 4969 (rel P s x).2 := by
  obtain ⟨vs, c, w⟩ := j.path
  have l := w.short hs (b.ends fun t => tieRows_mem)
  have := w.size R.p0 R.ag fun t ht => R.qa t (R.sub t ht)
  have nl := b.nl
  exact ⟨this.1.mono (by omega), this.2.mono (by omega)⟩
section
variable {tbl : Nat → Fn} {k n n2 m m2 o : Nat} {h : PH} {a b c d x : Rat}
theorem then4 (t : TM tbl) (ha : Qs n a) (hb : Qs n2 b) (hc : Qs m c) (hd : Qs m2 d) (l : m + n2 + m2 ≤ 8000) (l2 : m + n ≤ 8000) : call tbl (k + 6) 22 [mq a b, mq c d] h = .ok (mq (c * a) (c * b + d)) h := by
  refine R.Sat.eq ?_
  rw [call_succ, t.h22]
  refine fn_sat rfl ?_
  simp only [F_move_then, startP, List.map, List.length, List.replicate, List.cons_append, List.nil_append]
  simp [mq0, mq1, times_eq t.h0 t.h15 t.h18 hc ha (by omega), read_eq t hc hd hb (by omega)]
  rfl
end
section
variable {tbl : Nat → Fn} {k : Nat} {h : PH}
theorem named_eq (h51 : tbl 51 = F_named) {v : PV} {ts : List Tel} (e : seqOf h v = some (ts.map Tel.pv)) (nd : (ts.map Tel.name).Nodup) {t : Tel} (m : t ∈ ts) : call tbl (k + 1) 51 [v, .str t.name] h = .ok t.pv h := by
  refine R.Sat.eq ?_
  rw [call_succ, h51]
  refine fn_sat rfl ?_
  simp only [F_named, startP, List.map, List.length, List.replicate, List.cons_append, List.nil_append]
  rw [x_cons]
  obtain ⟨kp, wkp, skp⟩ := walk_seqV e
  obtain ⟨i0, hi0⟩ := mem_get m
  have i0l := (List.getElem?_eq_some_iff.mp hi0).1
  refine x_forE (l := [v]) (h1 := h) (by simp) wkp (fun i ρ g => g = h ∧ i ≤ i0 ∧ ∃ o, ρ = [some v, some (.str t.name), o]) ⟨rfl, by omega, none, rfl⟩ ?_ ?_
  · rintro i y ρ g hy ⟨rfl, il, o, rfl⟩
    rw [List.getElem?_map] at hy
    obtain ⟨u, hu, rfl⟩ := Option.map_eq_some_iff.mp hy
    refine ⟨skp _ e, _, rfl, ?_⟩
    simp [pv0]
    by_cases hn : u.name = t.name
    · have := tel_uniq nd m (List.mem_of_getElem? hu) hn
      simp [hn, this]
    · have : i ≠ i0 := fun z => hn (by rw [z, hi0] at hu; cases hu; rfl)
      simp [hn]
      omega
  · rintro ρ g ⟨_, hl, _⟩
    rw [List.length_map] at hl
    omega
theorem ring_of_sat (f : TF tbl) (tm : TM tbl) (h51 : tbl 51 = F_named) (h52 : tbl 52 = F_ring_of) {v : PV} {ts : List Tel} {ns : List Str} (b : Bk ns ts) (e : seqOf h v = some (ts.map Tel.pv)) {P : Str → Mv} (R : Rows ts (tieRows ts) P) {t : Tel} (m : t ∈ ts) {Q : PV → PH → Prop}
    (q : ∀ h', Fr [] h h' → Q (mq (thn2 (t.a, t.b) (rel P t.en t.st)).1 (thn2 (t.a, t.b) (rel P t.en t.st)).2) h') : (call tbl (k + 9) 52 [v, .str t.name] h).Sat Q := by
  rw [call_succ, h52]
  refine fn_sat rfl ?_
  simp only [F_ring_of, startP, List.map, List.length, List.replicate, List.cons_append, List.nil_append]
  rw [x_cons]
  have nm := named_eq h51 (k := k + 7) e b.nd m
  simp [nm, pv1, pv2, pv3]
  have ok := b.ok t m
  have j := (joined_ties' b.nd m).symm
  refine move_of_sat f tm (k := k) b e R ok.en j fun h1 f1 => ?_
  have z := R.size b ok.en j
  have th := then4 tm (k := k + 2) (h := h1) ok.qa ok.qb z.1 z.2 (by decide) (by decide)
  rw [th]
  exact q h1 f1
end
end Sb
set_option Elab.async false
set_option linter.all false
set_option maxRecDepth 100000
set_option maxHeartbeats 4000000
namespace Sb
open PySem
structure Sh (f : Tel → Tel) : Prop where
  name : ∀ t, (f t).name = t.name
  st : ∀ t, (f t).st = t.st
  en : ∀ t, (f t).en = t.en
  tr : ∀ t, (f t).tr = t.tr
section
variable {f : Tel → Tel} {ts : List Tel}
theorem Sh.le (s : Sh f) (a b : Tel) : leT (f a) (f b) = leT a b := by unfold leT Tel.key; rw [s.name, s.name, s.tr, s.tr]
theorem Sh.lt (s : Sh f) (a b : Tel) : ltT (f a) (f b) = ltT a b := by unfold ltT; rw [s.le]
theorem Sh.names (s : Sh f) : (ts.map f).map Tel.name = ts.map Tel.name := by rw [List.map_map]; exact List.map_congr_left fun t _ => s.name t
theorem Sh.joined (s : Sh f) {x y : Str} : Joined (ts.map f) x y ↔ Joined ts x y := by
  constructor
  · intro j
    refine Joined.into (ts := ts.map f) (fun u hu => ?_) j
    obtain ⟨t, ht, rfl⟩ := List.mem_map.mp hu
    rw [s.st, s.en]
    exact .of ht
  · intro j
    refine j.into fun t ht => ?_
    have := Joined.of (ts := ts.map f) (List.mem_map.mpr ⟨t, ht, rfl⟩)
    rwa [s.st, s.en] at this
end
end Sb
set_option Elab.async false
set_option linter.all false
set_option maxRecDepth 100000
set_option maxHeartbeats 4000000
namespace Sb
open PySem
theorem nin2 {n a b : Nat} (h1 : n ≠ a) (h2 : n ≠ b) : n ∉ [a, b] := by
  rw [List.mem_cons, List.mem_singleton]
  omega
theorem Bk.sub {ns : List Str} {ts us : List Tel} (b : Bk ns ts) (h : us.Sublist ts) : Bk ns us := ⟨(h.map Tel.name).nodup b.nd, fun t ht => b.ok t (h.mem ht), Nat.le_trans h.length_le b.len, b.nl⟩
end Sb
set_option Elab.async false
set_option linter.all false
set_option maxRecDepth 100000
set_option maxHeartbeats 4000000
set_option Elab.async false
set_option linter.all false
set_option maxRecDepth 100000
set_option maxHeartbeats 4000000
namespace Sb
open PySem
structure SOk (t : Tel) : Prop where
  name : strOkP t.name = true
  st : strOkP t.st = true
  en : strOkP t.en = true
/-- a comprehension whose parts change nothing -/
theorem v_filt {α : Type} {C : Calls} {tg : List Nat} {one : TgK} {k : ITK} {its : List E} {cond : Option E} {own : List Nat} {a : E} {ρ : Env} {h h1 : PH} {Q : PV → PH → Prop} {l : List PV} {kp : Keep} (xs : List α) (f g : α → PV) (p : α → Bool) (e1 : evGs C its ρ h = .ok l h1) (e2 : walkF k l h1 = some (xs.map f, kp)) (hk : stays kp h1) (hl : xs.length ≤ 1000000)
    (hs : ∀ x ∈ xs, ∃ ρ1, setTg (wipeP ρ own) tg one (f x) = some ρ1 ∧ evGc C cond ρ1 h1 = .ok (p x) h1 ∧ (p x = true → evG C a false ρ1 h1 = .ok (g x) h1))
    (hd : Q (.ref h1.length) (h1 ++ [.lst ((xs.filter p).map g)])) : (evG C (.comp a tg one k its cond own) false ρ h).Sat Q := by
  refine v_compE e1 e2 (fun i acc h' => h' = h1 ∧ acc = ((xs.take i).filter p).map g) ⟨rfl, by simp⟩ ?_ ?_
  · rintro i y acc h' hy ⟨rfl, rfl⟩
    rw [List.getElem?_map] at hy
    obtain ⟨u, hu, rfl⟩ := Option.map_eq_some_iff.mp hy
    have hi := (List.getElem?_eq_some_iff.mp hu).1
    obtain ⟨ρ1, h2, h3, h4⟩ := hs u (List.mem_of_getElem? hu)
    refine ⟨hk, ρ1, h2, ?_⟩
    have fl : ((xs.take i).filter p).length ≤ i := Nat.le_trans (List.length_filter_le ..) (by rw [List.length_take]; omega)
    rw [h3, sat_ok]
    cases hp : p u with
    | false =>
      rw [if_neg Bool.false_ne_true, List.take_add_one, hu]
      simp [List.filter_append, List.filter, hp]
    | true =>
      rw [if_pos rfl, h4 hp, sat_ok]
      refine ⟨line_small (by rw [List.length_map]; omega), rfl, ?_⟩
      rw [List.take_add_one, hu]
      simp [List.filter_append, List.filter, hp]
  · rintro acc h' ⟨rfl, rfl⟩
    have fl : ((xs.take xs.length).filter p).length ≤ xs.length := Nat.le_trans (List.length_filter_le ..) (by rw [List.length_take]; omega)
    simp only [List.length_map, List.take_length] at fl ⊢
    exact ⟨hk, line_small (by omega), hd⟩
@[simp] theorem fin_tb (b : Bool) (h : PH) : fin true (.ok (.bl b) h) = .ok (.bl b) h := rfl
@[simp] theorem asB_b (b : Bool) (h : PH) : asB (.ok (.bl b) h) = .ok b h := rfl
theorem filter_true {α : Type} (l : List α) : l.filter (fun _ => true) = l := by simp
section
variable {tbl : Nat → Fn} {k : Nat} {h : PH}
theorem ties_of_sat (h32 : tbl 32 = F_in_order) (h39 : tbl 39 = F_tie_rows) (h56 : tbl 56 = F_ties_of) {v : PV} {ts : List Tel} (e : seqOf h v = some (ts.map Tel.pv)) (nd : (ts.map Tel.name).Nodup) (hl : ts.length ≤ 1000) {Q : PV → PH → Prop}
    (q : ∀ n h', h'[n]? = some (.lst (((tieRows ts).map Tel.name).map PV.str)) → h.length ≤ n → Fr [] h h' → Q (.ref n) h') : (call tbl (k + 3) 56 [v] h).Sat Q := by
  rw [call_succ, h56]
  refine fn_sat rfl ?_
  simp only [F_ties_of, startP, List.map, List.length, List.replicate, List.cons_append, List.nil_append]
  rw [x_one, x_ret]
  have tl := tieRows_len ts
  refine v_comp ?_
  simp
  refine tie_rows_sat h32 h39 (k := k) e nd hl fun n h1 e1 nl f1 => ?_
  refine ⟨_, _, walk_ref e1, fun i acc g => g = h1 ∧ acc = (((tieRows ts).take i).map Tel.name).map PV.str, ⟨rfl, by simp⟩, ?_, ?_⟩
  · rintro i y acc g hy ⟨rfl, rfl⟩
    rw [List.getElem?_map] at hy
    obtain ⟨u, hu, rfl⟩ := Option.map_eq_some_iff.mp hy
    have hi := (List.getElem?_eq_some_iff.mp hu).1
    refine ⟨stays_one e1, _, rfl, ?_⟩
    simp [wipeP, pv0]
    refine ⟨line_small (by omega), ?_⟩
    rw [List.take_add_one, List.getElem?_map, hu]
    simp
  · rintro acc g ⟨rfl, rfl⟩
    simp only [List.length_map, List.take_length]
    refine ⟨stays_one e1, line_small (by omega), ?_⟩
    have ll := f1.len
    exact q _ _ (by simp) ll f1.appNew
end
end Sb
set_option Elab.async false
set_option linter.all false
set_option maxRecDepth 100000
set_option maxHeartbeats 4000000
namespace Sb
open PySem
/-- the refusal of a road -/
def xNotJoined (s x : Str) : Exn := ⟨"NotJoined", ["end", "start"], [.str x, .str s]⟩
section
variable {tbl : Nat → Fn} {k : Nat} {h : PH}
theorem road_of_exR (f : TR tbl) {v : PV} {ts : List Tel} {ns : List Str} (b : Bk ns ts) (e : seqOf h v = some (ts.map Tel.pv)) {s x : Str} (hs : s ∈ ns) (j : ¬ Joined (tieRows ts) s x) : ∃ h', Fr [] h h' ∧ call tbl (k + 4) 43 [v, .str s, .str x] h = .ex (xNotJoined s x) h' := by
  have a1 := tie_rows_sat f.h32 f.h39 (k := k + 1) (h := h) (v := v) e b.nd b.len (Q := fun v h' => ∃ n, v = .ref n ∧ h'[n]? = some (.lst ((tieRows ts).map Tel.pv)) ∧ Fr [] h h') fun n h' e1 _ f1 => ⟨n, rfl, e1, f1⟩
  obtain ⟨_, h1, e1, n, rfl, n1, f1⟩ := a1.ex
  have tl := tieRows_len ts
  have bl := b.len
  have a2 := road_sat f.h40 f.h41 f.h42 (k := k) n1 (by omega) hs (b.ends fun t => tieRows_mem) (x := x) (Q := fun v h' => v = .non ∧ Fr [] h1 h') (fun z => absurd z j) fun _ h' f2 => ⟨rfl, f2⟩
  obtain ⟨_, h2, e2, rfl, f2⟩ := a2.ex
  refine ⟨h2, f1.trans f2, ?_⟩
  rw [call_succ, f.h43]
  simp only [runFn, F_road_of, startP, List.length, List.map, List.replicate, List.cons_append, List.nil_append]
  rw [if_pos trivial]
  simp [exSs, exS, evT, asB, e1, e2, stTg, isNonP, fin, truthy, RS.toR]
  rfl
theorem road_of_ex (f : TF tbl) {v : PV} {ts : List Tel} {ns : List Str} (b : Bk ns ts) (e : seqOf h v = some (ts.map Tel.pv)) {s x : Str} (hs : s ∈ ns) (j : ¬ Joined (tieRows ts) s x) : ∃ h', Fr [] h h' ∧ call tbl (k + 4) 43 [v, .str s, .str x] h = .ex (xNotJoined s x) h' := road_of_exR f.tr b e hs j
end
end Sb
set_option Elab.async false
set_option linter.all false
set_option maxRecDepth 100000
set_option maxHeartbeats 4000000
set_option Elab.async false
set_option linter.all false
set_option maxRecDepth 100000
set_option maxHeartbeats 4000000
namespace Sb
open PySem
theorem Path.used {rows : List Tel} {s x : Str} {vs : List Str} {c : List Step} (nd : (rows.map Tel.name).Nodup) (w : Path rows s vs c x) : (c.map (·.1)).Nodup ∧ (∀ t ∈ rows, t.name ∈ c.map (·.1) → t.st ∈ vs ∧ t.en ∈ vs) ∧ ∀ m ∈ c.map (·.1), m ∈ rows.map Tel.name := by
  induction w with
  | nil => simp
  | @snoc vs c y p w m n ih =>
    obtain ⟨i1, i2, i3⟩ := ih
    have key : ∃ t ∈ rows, p.1.1 = t.name ∧ ((t.st = y ∧ t.en = p.2) ∨ (t.en = y ∧ t.st = p.2)) := by
      obtain ⟨t, ht, ⟨rfl, hx⟩ | ⟨rfl, hx⟩⟩ := steps_mem m
      · exact ⟨t, ht, rfl, .inl ⟨hx, rfl⟩⟩
      · exact ⟨t, ht, rfl, .inr ⟨hx, rfl⟩⟩
    obtain ⟨t, ht, en, he⟩ := key
    have yv := w.vmem.1
    refine ⟨?_, fun u hu hm => ?_, fun z hz => ?_⟩
    · rw [List.map_append, List.nodup_append]
      refine ⟨i1, by simp, fun a ha b hb e => ?_⟩
      simp at hb
      rw [e, hb, en] at ha
      obtain ⟨h1, h2⟩ := i2 t ht ha
      rcases he with ⟨_, h⟩ | ⟨_, h⟩
      · exact n (by rw [← h]; exact h2)
      · exact n (by rw [← h]; exact h1)
    · rw [List.map_append] at hm
      rcases List.mem_append.mp hm with z | z
      · exact ⟨List.mem_append_left _ (i2 u hu z).1, List.mem_append_left _ (i2 u hu z).2⟩
      · simp at z
        have eu := tel_uniq nd ht hu (z.trans en)
        subst eu
        rcases he with ⟨h1, h2⟩ | ⟨h1, h2⟩
        · exact ⟨by rw [h1]; exact List.mem_append_left _ yv, by rw [h2]; simp⟩
        · exact ⟨by rw [h2]; simp, by rw [h1]; exact List.mem_append_left _ yv⟩
    · rw [List.map_append] at hz
      rcases List.mem_append.mp hz with q | q
      · exact i3 z q
      · simp at q
        rw [q, en]
        exact List.mem_map.mpr ⟨t, ht, rfl⟩
theorem Path.few {rows : List Tel} {s x : Str} {vs : List Str} {c : List Step} (nd : (rows.map Tel.name).Nodup) (w : Path rows s vs c x) : c.length ≤ rows.length := by
  have u := w.used nd
  have := nodup_len u.1 u.2.2
  simpa using this
end Sb
set_option Elab.async false
set_option linter.all false
set_option maxRecDepth 100000
set_option maxHeartbeats 4000000
set_option Elab.async false
set_option linter.all false
set_option maxRecDepth 100000
set_option maxHeartbeats 4000000
namespace Sb
open PySem
structure Kw (h : PH) (B : Nat) (L : List (Nat × PO)) : Prop where
  st : St h 2 0 1 B
  at_ : ∀ p ∈ L, h[p.1]? = some p.2
  nd : (L.map (·.1)).Nodup
  hi : ∀ p ∈ L, 3 ≤ p.1
section
variable {h h' : PH} {B B' n : Nat} {o o' : PO} {L : List (Nat × PO)}
theorem Kw.get (K : Kw h B L) (i : Nat) (e : L[i]? = some (n, o) := by rfl) : h[n]? = some o := K.at_ (n, o) (List.mem_of_getElem? e)
theorem Kw.ge (K : Kw h B L) (i : Nat) (e : L[i]? = some (n, o) := by rfl) : 3 ≤ n := K.hi (n, o) (List.mem_of_getElem? e)
theorem Kw.mem_lt (K : Kw h B L) {p : Nat × PO} (m : p ∈ L) : p.1 < h.length := (List.getElem?_eq_some_iff.mp (K.at_ p m)).1
theorem Kw.frS (K : Kw h B L) (f : Fr [2, 0] h h') (st : St h' 2 0 1 B') : Kw h' B' L := ⟨st, fun p hp => f.some (by have := K.hi p hp; exact nin2 (by omega) (by omega)) (K.at_ p hp), K.nd, K.hi⟩
theorem Kw.fr (K : Kw h B L) (f : Fr [] h h') : Kw h' B L := K.frS (f.mono (by simp)) (K.st.frame f (by simp) (by simp) (by simp))
theorem Kw.len (K : Kw h B L) : 3 ≤ h.length := by
  have := K.st.lt
  omega
theorem Kw.fresh (K : Kw h B L) (hl : h.length ≤ n) : n ∉ L.map (·.1) := fun m => by
  obtain ⟨p, hp, rfl⟩ := List.mem_map.mp m
  have := K.mem_lt hp
  omega
theorem Kw.add (K : Kw h B L) (hn : n ∉ L.map (·.1)) (h3 : 3 ≤ n) (e : h[n]? = some o) : Kw h B ((n, o) :: L) := ⟨K.st, fun p hp => by
  rcases List.mem_cons.mp hp with rfl | hp
  · exact e
  · exact K.at_ p hp, by rw [List.map_cons]; exact List.nodup_cons.mpr ⟨hn, K.nd⟩, fun p hp => by
  rcases List.mem_cons.mp hp with rfl | hp
  · exact h3
  · exact K.hi p hp⟩
theorem Kw.new (K : Kw h B L) (f : Fr [] h h') (hl : h.length ≤ n) (e : h'[n]? = some o) : Kw h' B ((n, o) :: L) := (K.fr f).add (K.fresh hl) (by have := K.len; omega) e
theorem Kw.push (K : Kw h B L) (o : PO) : Kw (h ++ [o]) B ((h.length, o) :: L) := K.new Fr.app (Nat.le_refl _) (by simp)
theorem Kw.app (K : Kw h B L) (t : PH) : Kw (h ++ t) B L := K.fr Fr.app
theorem Kw.up (K : Kw h B L) (hb : B ≤ B') : Kw h B' L := ⟨K.st.up hb, K.at_, K.nd, K.hi⟩
theorem Kw.sub {L' : List (Nat × PO)} (K : Kw h B L) (s : L'.Sublist L) : Kw h B L' := ⟨K.st, fun p hp => K.at_ p (s.subset hp), (s.map _).nodup K.nd, fun p hp => K.hi p (s.subset hp)⟩
theorem Kw.tl {p : Nat × PO} (K : Kw h B (p :: L)) : Kw h B L := K.sub (List.sublist_cons_self _ _)
theorem Kw.set0 (K : Kw h B ((n, o) :: L)) (o' : PO) : Kw (h.set n o') B ((n, o') :: L) := by
  have g3 := K.hi (n, o) (by simp)
  refine ⟨K.st.setNew (by simp at g3; omega) (by simp at g3; omega) (by simp at g3; omega), fun p hp => ?_, K.nd, fun p hp => ?_⟩
  · rcases List.mem_cons.mp hp with rfl | hp
    · exact set_at (K.at_ (n, o) (by simp))
    · have := (List.nodup_cons.mp K.nd).1
      rw [set_ne' (fun z => this (List.mem_map.mpr ⟨p, hp, z.symm⟩))]
      exact K.at_ p (List.mem_cons_of_mem _ hp)
  · rcases List.mem_cons.mp hp with rfl | hp
    · exact g3
    · exact K.hi p (List.mem_cons_of_mem _ hp)
theorem Kw.perm {L' : List (Nat × PO)} (K : Kw h B L) (s : L.Perm L') : Kw h B L' := ⟨K.st, fun p hp => K.at_ p (s.mem_iff.mpr hp), (s.map _).nodup_iff.mp K.nd, fun p hp => K.hi p (s.mem_iff.mpr hp)⟩
theorem Kw.set {i : Nat} (K : Kw h B L) (e : L[i]? = some (n, o)) (o' : PO) : Kw (h.set n o') B (L.set i (n, o')) := by
  obtain ⟨hi, e1⟩ := List.getElem?_eq_some_iff.mp e
  have p1 : L.Perm ((n, o) :: L.eraseIdx i) := (perm_erase e).symm
  have K1 := (K.perm p1).set0 o'
  refine K1.perm ?_
  have : (L.set i (n, o'))[i]? = some (n, o') := by simp [hi]
  have p2 := perm_erase this
  rwa [List.eraseIdx_set_eq] at p2
end
section
variable {tbl : Nat → Fn} {h : PH} {k B : Nat} {L : List (Nat × PO)}
theorem kdraw (td : TD tbl) (K : Kw h B L) (hB : B + 8 ≤ 2 ^ 20) {m : Int} (m0 : 0 < m) (m1 : m ≤ 10 ^ 62) {Q : PV → PH → Prop} (q : ∀ r h', 0 ≤ r → r < m → Kw h' (B + 8) L → Fr [2, 0] h h' → h'.length = h.length → Q (.int r) h') : (call tbl (k + 2) 6 [.ref 2, .int m] h).Sat Q :=
  draw_sat td.h5 td.h6 K.st hB m0 m1 fun r h' r0 r1 st fr l => q r h' r0 r1 (K.frS fr st) fr l
theorem kstart (h4 : tbl 4 = F_law_start) {ns : List Int} (hn : ns.length ≤ 63) {Q : PV → PH → Prop} (q : ∀ h', Kw h' 0 [] → h'.length = 3 → Q (.ref 2) h') : (call tbl (k + 1) 4 [.cl (ns.map PV.int)] []).Sat Q :=
  start_sat h4 (k := k) (h := []) hn fun h' st _ hl => q h' ⟨st, by simp, by simp, by simp⟩ (by simpa using hl)
/-- a thing of a list that was just made, by a draw -/
theorem klit (td : TD tbl) (K : Kw h B L) {l : List PV} (hB : B + 8 ≤ 2 ^ 20) {m : Int} (hm : m = (l.length : Nat)) (m0 : 0 < l.length) (m1 : l.length ≤ 1000000) {Q : PV → PH → Prop} (q : ∀ x h', x ∈ l → Kw h' (B + 8) L → h'.length = h.length + 1 → Q x h') : ((call tbl (k + 2) 6 [.ref 2, .int m] (h ++ [.lst l])).Sat fun r h' => (idxop (.ref h.length) r h').Sat Q) := by
  refine kdraw td (K.push (.lst l)) hB (by omega) (by omega) fun r h' r0 r1 K' f l' => ?_
  obtain ⟨x, hx⟩ : ∃ x, l[r.toNat]? = some x := ⟨_, List.getElem?_eq_getElem (by omega)⟩
  rw [idx_ref (K'.get 0) (at_pos r0 hx)]
  exact q x h' (List.mem_of_getElem? hx) K'.tl (by simpa using l')
end
end Sb
set_option Elab.async false
set_option linter.all false
set_option maxRecDepth 100000
set_option maxHeartbeats 4000000
namespace Sb
open PySem
/-- what is found so far -/
structure RF (rows : List Tel) (s : Str) (h : PH) (d : Nat) (g : PH) (fs : List Str) : Prop where
  e : g[d]? = some (.lst (fs.map PV.str))
  nd : fs.Nodup
  s0 : s ∈ fs
  jn : ∀ x ∈ fs, Joined rows s x
  am : ∀ x ∈ fs, x = s ∨ x ∈ ends rows
  fr : Fr [] h g
section
variable {rows : List Tel} {s : Str} {h g : PH} {d : Nat} {fs : List Str}
theorem RF.len (Z : RF rows s h d g fs) : fs.length ≤ 2 * rows.length + 1 := by
  have := nodup_len Z.nd (B := s :: ends rows) fun x hx => by
    rcases Z.am x hx with rfl | z
    · simp
    · exact List.mem_cons_of_mem _ z
  rw [List.length_cons, ends_len] at this
  omega
theorem mem_ends {t : Tel} (m : t ∈ rows) : t.st ∈ ends rows ∧ t.en ∈ ends rows := by
  unfold ends
  constructor
  · exact List.mem_flatMap.mpr ⟨t, m, by simp⟩
  · exact List.mem_flatMap.mpr ⟨t, m, by simp⟩
theorem RF.add (Z : RF rows s h d g fs) (dl : h.length ≤ d) {y : Str} (hy : y ∉ fs) (j : Joined rows s y) (ye : y ∈ ends rows) : RF rows s h d (g.set d (.lst (fs.map PV.str ++ [.str y]))) (fs ++ [y]) :=
  ⟨by rw [set_at Z.e]; simp, List.nodup_append.mpr ⟨Z.nd, by simp, fun a ha b hb => by rw [List.mem_singleton.mp hb]; rintro rfl; exact hy ha⟩, List.mem_append_left _ Z.s0, fun x hx => by
    rcases List.mem_append.mp hx with q | q
    · exact Z.jn x q
    · rw [List.mem_singleton.mp q]; exact j, fun x hx => by
    rcases List.mem_append.mp hx with q | q
    · exact Z.am x q
    · rw [List.mem_singleton.mp q]; exact .inr ye, Z.fr.setNew dl⟩
theorem RF.done (Z : RF rows s h d g fs) (nd : (rows.map Tel.name).Nodup) (cp : ∀ y vs c, Path rows s vs c y → c.length ≤ rows.length → y ∈ fs) (x : Str) : x ∈ fs ↔ Joined rows s x :=
  ⟨Z.jn x, fun j => by
    obtain ⟨vs, c, w⟩ := j.path
    exact cp x vs c w (w.few nd)⟩
end
end Sb
set_option Elab.async false
set_option linter.all false
set_option maxRecDepth 100000
set_option maxHeartbeats 4000000
namespace Sb
open PySem
theorem Joined.among {rows : List Tel} {s x : Str} (j : Joined rows s x) : x = s ∨ x ∈ ends rows := by
  cases j with
  | refl => exact .inl rfl
  | step m j e => exact .inr (mem_ends m).2
  | back m j e => exact .inr (mem_ends m).1
end Sb
set_option Elab.async false
set_option linter.all false
set_option maxRecDepth 100000
set_option maxHeartbeats 4000000
namespace Sb
open PySem
section
variable {C : Calls} {ρ ρ1 : Env} {h h1 : PH} {N : Env → PH → Prop} {T : PV → PH → Prop} {b hs : List S} {c f : Str} {xs : List Str} {x : Exn} {i : Option Nat} {a : E} {t : Bool}
@[simp] theorem g_xat : evG C (.xat a f c) t ρ h = fin t ((evG C a false ρ h).bind fun x h1 => xatop x f c h1) := by rw [evG]
theorem x_tryH_ok (hb : (exSs C b ρ h).Sat N T) : (exS C (.tryH b xs hs) ρ h).Sat N T := by
  simp only [exS]
  generalize exSs C b ρ h = m at hb
  cases m with
  | nx _ _ => exact hb
  | rt _ _ => exact hb
  | bk _ _ => exact hb
  | ct _ _ => exact hb
  | ex _ _ _ => exact hb.elim
  | no => exact hb
theorem x_tryH_ex (e : exSs C b ρ h = .ex x ρ1 h1) (hm : x.cls ∈ xs) (q : (exH C hs x ρ1 h1).Sat N T) : (exS C (.tryH b xs hs) ρ h).Sat N T := by
  simp only [exS]
  rw [e]
  simp only
  rw [if_pos hm]
  exact q
theorem exH_hit (hc : hitX x.cls c = true) (q : (exSs C b (setO ρ i (some (.xc x.cls x.ns x.vs))) h).Sat (fun ρ1 h1 => coolE ρ (setO ρ1 i none) ∧ coolH h h1 ∧ N (setO ρ1 i none) h1) fun v h1 => coldV v = true ∧ coolH h h1 ∧ T v h1) : (exH C (.hd c i b :: hs) x ρ h).Sat N T := by
  simp only [exH]
  rw [if_pos hc]
  generalize exSs C b (setO ρ i (some (.xc x.cls x.ns x.vs))) h = m at q
  cases m with
  | nx _ _ =>
    obtain ⟨q1, q2, q3⟩ := q
    simp only [coolS]
    rw [if_pos ⟨q1, q2⟩]
    exact q3
  | rt _ _ =>
    obtain ⟨q1, q2, q3⟩ := q
    simp only [coolS]
    rw [if_pos ⟨q1, q2⟩]
    exact q3
  | bk _ _ => exact q.elim
  | ct _ _ => exact q.elim
  | ex _ _ _ => exact q.elim
  | no => exact q.elim
end
def xNoTel (n : Str) : Exn := ⟨"NoTelling", ["name"], [.str n]⟩
section
variable {tbl : Nat → Fn} {k : Nat} {h : PH}
theorem named_no (h51 : tbl 51 = F_named) {v : PV} {ts : List Tel} (e : seqOf h v = some (ts.map Tel.pv)) {n : Str} (hn : n ∉ ts.map Tel.name) : call tbl (k + 1) 51 [v, .str n] h = .ex (xNoTel n) h := by
  rw [call_succ, h51]
  simp only [runFn, F_named, startP, List.length, List.map, List.replicate, List.cons_append, List.nil_append]
  rw [if_pos trivial]
  obtain ⟨kp, wkp, skp⟩ := walk_seqV e
  have loop : ∀ (items : List PV) (l : List Tel), items = l.map Tel.pv → (∀ t ∈ l, t.name ≠ n) → ∀ o, ∃ o', forLoop kp (fun ρ x => setTg ρ [2] .one x) (fun ρ h => exSs (call tbl k) [.ifs (.cmp .Eq (.idx (.var 2) (.lit (.int 0))) (.var 1)) [.ret (.var 2)] []] ρ h) items [some v, some (.str n), o] h = .nx [some v, some (.str n), o'] h := by
    intro items l
    induction l generalizing items with
    | nil =>
      intro ei _ o
      subst ei
      refine ⟨o, ?_⟩
      simp only [List.map]
      rw [forLoop]
      rw [if_pos (skp h e)]
    | cons t l ih =>
      intro ei hne o
      subst ei
      obtain ⟨o', ho'⟩ := ih (l.map Tel.pv) rfl (fun u hu => hne u (List.mem_cons_of_mem _ hu)) (some t.pv)
      refine ⟨o', ?_⟩
      simp only [List.map]
      rw [forLoop]
      rw [if_pos (skp h e)]
      have b1 : exSs (call tbl k) [.ifs (.cmp .Eq (.idx (.var 2) (.lit (.int 0))) (.var 1)) [.ret (.var 2)] []] [some v, some (.str n), some t.pv] h = .nx [some v, some (.str n), some t.pv] h := by
        have nt : decide (t.name = n) = false := decide_eq_false (hne t (by simp))
        simp [exSs, exS, evT, pv0, nt]
      have sg : setTg [some v, some (.str n), o] [2] .one t.pv = some [some v, some (.str n), some t.pv] := rfl
      simp only [sg]
      rw [b1]
      exact ho'
  obtain ⟨o', ho'⟩ := loop _ ts rfl (fun t ht z => hn (List.mem_map.mpr ⟨t, ht, z⟩)) none
  have e0 : exS (call tbl k) (.fr [2] .one .seq [(.var 0)] [.ifs (.cmp .Eq (.idx (.var 2) (.lit (.int 0))) (.var 1)) [.ret (.var 2)] []]) [some v, some (.str n), none] h = .nx [some v, some (.str n), o'] h := by
    simp only [exS, gs_cons, gs_nil, g_var, get0, ofO_some, fin_f, R.bind_ok, R.st_ok, wkp]
    exact ho'
  simp only [exSs, e0, RS.seq_nx]
  simp [exS, RS.toR]
  rfl
end
end Sb
set_option Elab.async false
set_option linter.all false
set_option maxRecDepth 100000
set_option maxHeartbeats 4000000
namespace Sb
open PySem
section
variable {tbl : Nat → Fn} {k : Nat} {h : PH}
theorem chain_moveT_sat (t : TM tbl) (h44 : tbl 44 = F_chain_move) {v : PV} {ts rows : List Tel} {P : Str → Mv} (R : Rows ts rows P) (e : seqOf h v = some (ts.map Tel.pv)) (hl : ts.length ≤ 1000) {ch : List Step} (hc : ch.length ≤ 26) {s x : Str} (wk : Walk rows s ch x) {Q : PV → PH → Prop}
    (q : ∀ h', Fr [] h h' → Q (mq (rel P s x).1 (rel P s x).2) h') : (call tbl (k + 7) 44 [v, .tup (ch.map stPV)] h).Sat Q := by
  rw [call_succ, h44]
  refine fn_sat rfl ?_
  simp only [F_chain_move, startP, List.map, List.length, List.replicate, List.cons_append, List.nil_append]
  rw [x_cons, x_set]
  obtain ⟨kp, wkp, skp⟩ := walk_seqV e
  refine v_dcompE (l := [v]) (h1 := h) (by simp) wkp (fun i acc h' => h' = h ∧ acc.length ≤ i ∧ ∀ t ∈ ts.take i, valP acc (.inr t.name) = some (mq t.a t.b)) ⟨rfl, by simp, by simp⟩ ?_ ?_
  · rintro i y acc h1 hy ⟨rfl, al, av⟩
    rw [List.getElem?_map] at hy
    obtain ⟨u, hu, rfl⟩ := Option.map_eq_some_iff.mp hy
    have hi := (List.getElem?_eq_some_iff.mp hu).1
    refine ⟨skp _ e, _, rfl, ?_⟩
    simp [wipeP, pv0, pv3]
    refine ⟨.inr u.name, rfl, line_small (by omega), Nat.le_trans (put_len ..) (by omega), fun v hv => ?_⟩
    rw [List.take_add_one, hu] at hv
    rw [val_put]
    rcases List.mem_append.mp hv with z | z
    · rw [if_neg (by simpa using name_take R.nd hu z)]
      exact av v z
    · rw [show v = u by simpa using z, if_pos rfl]
  · rintro acc h1 ⟨rfl, al, av⟩
    refine ⟨skp _ e, ?_⟩
    rw [List.length_map, List.take_length] at av
    simp only [List.set]
    rw [x_cons]
    simp
    rw [x_cons]
    generalize hh2 : h1 ++ [PO.dct acc] = h2
    have d2 : h2[h1.length]? = some (.dct acc) := by rw [← hh2]; simp
    have f2 : Fr [] h1 h2 := by rw [← hh2]; exact Fr.app
    obtain ⟨I, hI⟩ : ∃ I : Nat → Env → PH → Prop, I = fun i ρ h' => h' = h2 ∧ ∃ (o4 o5 : Option PV) (m : Mv), ρ = [some v, some (.tup (ch.map stPV)), some (.ref h1.length), some (mq m.1 m.2), o4, o5, none] ∧ Qs (1 + 285 * i) m.1 ∧ Qs (1 + 285 * i) m.2 ∧ ∀ y, Walk rows s (ch.take i) y → m = rel P s y := ⟨_, rfl⟩
    refine x_forE (l := [.tup (ch.map stPV)]) (h1 := h2) (by simp) (show walkF .seq [.tup (ch.map stPV)] h2 = some (ch.map stPV, []) from rfl) I ?_ ?_ ?_
    · rw [hI]
      refine ⟨rfl, none, none, one2, rfl, q1, q0, fun y w => ?_⟩
      have ey : y = s := Walk.end_nil (rows := rows) (by simpa using w)
      rw [ey, rel_self (R.p0 s)]
    · intro i y ρ h3 hy hi
      rw [hI] at hi
      obtain ⟨rfl, o4, o5, m, rfl, qm1, qm2, hm⟩ := hi
      rw [List.getElem?_map] at hy
      obtain ⟨st, hst, rfl⟩ := Option.map_eq_some_iff.mp hy
      have hi := (List.getElem?_eq_some_iff.mp hst).1
      have tk : ch.take (i + 1) = ch.take i ++ [st] := by rw [List.take_add_one, hst]; rfl
      obtain ⟨y, hy⟩ := wk.pre (i + 1) (by omega)
      rw [tk] at hy
      obtain ⟨x', p, w', pm, ep, _⟩ := hy.last
      obtain ⟨u, hu, hcase⟩ := steps_mem pm
      have ua := R.qa u (R.sub u hu)
      have uv := av u (R.sub u hu)
      have ag := R.ag u hu
      refine ⟨stays_nil _, [some v, some (.tup (ch.map stPV)), some (.ref h1.length), some (mq m.1 m.2), some (.str st.1), some (.bl st.2), none], by simp [setTg, stPV, setAll], ?_⟩
      -- the end of the step, whatever the walk
      have fin_ : ∀ cd : Mv, Qs 142 cd.1 → Qs 142 cd.2 → (∀ y', Walk rows s (ch.take i ++ [st]) y' → thn2 m cd = rel P s y') → I (i + 1) [some v, some (.tup (ch.map stPV)), some (.ref h1.length), some (mq (cd.1 * m.1) (cd.1 * m.2 + cd.2)), some (.str st.1), some (.bl st.2), none] h3 := by
        intro cd qc qd hw
        rw [hI]
        refine ⟨rfl, _, _, thn2 m cd, rfl, (qc.mul qm1).mono (by omega), ((qc.mul qm2).add qd).mono (by omega), fun y' w => ?_⟩
        rw [tk] at w
        exact hw y' w
      have uniq : ∀ {v : Tel}, v ∈ rows → v.name = u.name → v = u := fun {v} hv en => by
        obtain ⟨a1, b1⟩ := mem_get (R.sub v hv)
        obtain ⟨a2, b2⟩ := mem_get (R.sub u hu)
        have e1 : (ts.map Tel.name)[a1]? = some v.name := by rw [List.getElem?_map, b1]; rfl
        have e2 : (ts.map Tel.name)[a2]? = some u.name := by rw [List.getElem?_map, b2]; rfl
        have := (List.getElem?_inj (j := a2) (List.getElem?_eq_some_iff.mp e1).1 R.nd).mp (by rw [e1, e2, en])
        subst this
        rw [b1] at b2
        exact Option.some.inj b2
      rcases hcase with ⟨pe, hx⟩ | ⟨pe, hx⟩
      · have est : st = (u.name, true) := by rw [← ep, pe]
        subst est
        have th := then_eq t (k := k) (h := h3) qm1 qm2 (ua.2.1.mono (show 40 ≤ 142 by decide)) (ua.2.2.mono (show 100 ≤ 142 by decide)) (by omega)
        simp [idx_dct d2 uv, th]
        refine fin_ (u.a, u.b) (ua.2.1.mono (by decide)) (ua.2.2.mono (by decide)) fun y' w2 => ?_
        obtain ⟨x2, p2, w3, pm2, ep2, ey2⟩ := w2.last
        obtain ⟨v, hv, ⟨pv, hx2⟩ | ⟨pv, hx2⟩⟩ := steps_mem pm2
        · rw [pv] at ep2 ey2
          have ev := uniq hv (congrArg Prod.fst ep2)
          subst ev
          rw [hm x2 w3, ag, ← ey2, ← hx2]
          exact rel_thn (R.p0 _)
        · rw [pv] at ep2
          cases congrArg Prod.snd ep2
      · have est : st = (u.name, false) := by rw [← ep, pe]
        subst est
        have bk := back_eq t (k := k + 2) (h := h3) ua.2.1 ua.2.2 ua.1 (by decide)
        have qa1 : Qs 142 (1 / u.a) := (q1.div ua.2.1 (num_ne ua.1)).mono (by decide)
        have qb1 : Qs 142 ((0 - u.b) / u.a) := ((q0.sub ua.2.2).div ua.2.1 (num_ne ua.1)).mono (by decide)
        have th := then_eq t (k := k) (h := h3) qm1 qm2 qa1 qb1 (by omega)
        simp [idx_dct d2 uv, bk, th]
        refine fin_ (bck (u.a, u.b)) qa1 qb1 fun y' w2 => ?_
        obtain ⟨x2, p2, w3, pm2, ep2, ey2⟩ := w2.last
        obtain ⟨v, hv, ⟨pv, hx2⟩ | ⟨pv, hx2⟩⟩ := steps_mem pm2
        · rw [pv] at ep2
          cases congrArg Prod.snd ep2
        · rw [pv] at ep2 ey2
          have ev := uniq hv (congrArg Prod.fst ep2)
          subst ev
          rw [hm x2 w3, ag, rel_bck (R.p0 _) (R.p0 _), ← ey2, ← hx2]
          exact rel_thn (R.p0 _)
    · intro ρ h3 hi
      rw [hI] at hi
      obtain ⟨rfl, o4, o5, m, rfl, qm1, qm2, hm⟩ := hi
      refine ⟨stays_nil _, ?_⟩
      rw [List.length_map, List.take_length] at hm
      simp
      rw [hm x wk]
      exact q _ f2
end
theorem Path.monoP {A B : List Tel} (h : ∀ t ∈ A, t ∈ B) {s x : Str} {vs : List Str} {c : List Step} (w : Path A s vs c x) : Path B s vs c x := by
  induction w with
  | nil => exact .nil
  | snoc w m n ih =>
    refine ih.snoc ?_ n
    unfold stepsOf at m ⊢
    obtain ⟨t, ht, hp⟩ := List.mem_flatMap.mp m
    exact List.mem_flatMap.mpr ⟨t, h t ht, hp⟩
abbrev Row := Str × Str × List Step
def rowPV (r : Row) : PV := .tup [.str r.1, .str r.2.1, .tup (r.2.2.map stPV)]
def sheetPV (ns : List Str) (rs : List Row) : PV := .tup [.tup (ns.map PV.str), .tup (rs.map rowPV)]
/-- the road of ties between the ends of a telling -/
noncomputable def roadT (us : List Tel) (t : Tel) : List Step := open Classical in if h : ∃ c, PathE (tieRows us) t.st c t.en then h.choose else []
theorem roadT_path {us : List Tel} {t : Tel} (j : Joined (tieRows us) t.st t.en) : PathE (tieRows us) t.st (roadT us t) t.en := by
  have h : ∃ c, PathE (tieRows us) t.st c t.en := by
    obtain ⟨vs, c, w⟩ := j.path
    exact ⟨c, vs, w⟩
  unfold roadT
  rw [dif_pos h]
  exact h.choose_spec
theorem roadT_eq {us : List Tel} (nd : (us.map Tel.name).Nodup) {t : Tel} {c : List Step} (w : PathE (tieRows us) t.st c t.en) : c = roadT us t := road_uniq nd w (roadT_path w.walk.joined)
noncomputable def rowT (us : List Tel) (t : Tel) : Row := (t.name, word us t, roadT us t)
noncomputable def notTie (us : List Tel) (t : Tel) : Bool := open Classical in !decide (IsTie us t)
noncomputable def paperN (us : List Tel) : List Str := (tieRows us).map Tel.name
noncomputable def paperR (us : List Tel) : List Row := ((sortTel us).filter (notTie us)).map (rowT us)
def stepA (F : List Tel) (vs : List Str) (st : Step) : Option (List Str) :=
  match F.find? (fun t => decide (t.name = st.1)), vs.getLast? with
  | some t, some x => if (if st.2 then t.st else t.en) = x then some (vs ++ [if st.2 then t.en else t.st]) else none
  | _, _ => none
def alongL (F : List Tel) (s : Str) (c : List Step) : Option (List Str) := c.foldl (fun o st => o.bind fun vs => stepA F vs st) (some [s])
theorem along_snoc {F : List Tel} {s : Str} {c : List Step} {st : Step} : alongL F s (c ++ [st]) = (alongL F s c).bind fun vs => stepA F vs st := by
  simp [alongL, List.foldl_append]
theorem find_nm {F : List Tel} (nd : (F.map Tel.name).Nodup) {u : Tel} (h : u ∈ F) {x : Str} (e : u.name = x) : F.find? (fun v => decide (v.name = x)) = some u := by
  induction F with
  | nil => cases h
  | cons a r ih =>
    rw [List.map_cons, List.nodup_cons] at nd
    rcases List.mem_cons.mp h with rfl | hr
    · rw [List.find?_cons_of_pos (by simp [e])]
    · rw [List.find?_cons_of_neg, ih nd.2 hr]
      intro z
      exact nd.1 (by rw [of_decide_eq_true z, ← e]; exact List.mem_map.mpr ⟨u, hr, rfl⟩)
theorem stepA_some {F : List Tel} (nd : (F.map Tel.name).Nodup) {vs us : List Str} {st : Step} {x : Str} (hx : vs.getLast? = some x) : stepA F vs st = some us ↔ ∃ y, (st, y) ∈ stepsOf F x ∧ us = vs ++ [y] := by
  unfold stepA
  rw [hx]
  constructor
  · intro h
    cases hf : F.find? (fun t => decide (t.name = st.1)) with
    | none => rw [hf] at h; cases h
    | some t =>
      rw [hf] at h
      simp only at h
      have ht := List.mem_of_find?_eq_some hf
      have hn : t.name = st.1 := by simpa using List.find?_some hf
      by_cases hb : (if st.2 then t.st else t.en) = x
      · rw [if_pos hb] at h
        refine ⟨if st.2 then t.en else t.st, ?_, (Option.some.inj h).symm⟩
        unfold stepsOf
        refine List.mem_flatMap.mpr ⟨t, ht, ?_⟩
        unfold stepOf
        obtain ⟨n, b⟩ := st
        simp only at hn hb
        subst hn
        cases b with
        | true => simp at hb; simp [hb]
        | false => simp at hb; simp [hb]
      · rw [if_neg hb] at h
        cases h
  · rintro ⟨y, m, rfl⟩
    obtain ⟨t, ht, hc⟩ := steps_mem m
    obtain ⟨n, b⟩ := st
    rcases hc with ⟨pe, he⟩ | ⟨pe, he⟩
    · cases pe
      rw [find_nm nd ht rfl]
      simp [he]
    · cases pe
      rw [find_nm nd ht rfl]
      simp [he]
theorem along_of {F : List Tel} (nd : (F.map Tel.name).Nodup) {s : Str} : ∀ (n : Nat) (c : List Step), c.length = n → ∀ vs, alongL F s c = some vs → vs.length = c.length + 1 ∧ ∃ x, vs.getLast? = some x ∧ Walk F s c x ∧ (vs.Nodup → Path F s vs c x)
  | 0, c, hn, vs, h => by
    obtain rfl := List.length_eq_zero_iff.mp hn
    cases h
    exact ⟨rfl, s, rfl, .nil, fun _ => .nil⟩
  | n + 1, c, hn, vs, h => by
    obtain ⟨d, st, rfl⟩ : ∃ d st, c = d ++ [st] := by
      rcases List.eq_nil_or_concat c with z | ⟨d, a, z⟩
      · rw [z] at hn
        cases hn
      · exact ⟨d, a, by simpa using z⟩
    rw [along_snoc] at h
    cases hd : alongL F s d with
    | none => rw [hd] at h; cases h
    | some ws =>
      rw [hd] at h
      obtain ⟨l1, x, hx, w, pth⟩ := along_of nd n d (by simpa using hn) ws hd
      obtain ⟨y, m, rfl⟩ := (stepA_some nd hx).mp h
      refine ⟨by simp [l1], y, by simp, w.snoc (p := (st, y)) m, fun nv => ?_⟩
      rw [List.nodup_append] at nv
      exact (pth nv.1).snoc (p := (st, y)) m fun z => nv.2.2 y z y (by simp) rfl
theorem path_along {F : List Tel} (nd : (F.map Tel.name).Nodup) {s x : Str} {vs : List Str} {c : List Step} (w : Path F s vs c x) : alongL F s c = some vs ∧ vs.getLast? = some x := by
  induction w with
  | nil => exact ⟨rfl, rfl⟩
  | @snoc vs c x p w m n ih =>
    refine ⟨?_, by simp⟩
    rw [along_snoc, ih.1]
    exact (stepA_some nd ih.2).mpr ⟨p.2, m, rfl⟩
/-- a row is right of a telling, these being the ties ahead of it -/
def RowOk (F : List Tel) (t : Tel) (r : Row) : Prop := r.1 = t.name ∧ PathE F t.st r.2.2 t.en ∧ (open Classical in r.2.1 = if Says F t.st t.en (t.a, t.b) then ("fits" : Str) else ("aside" : Str))
theorem rowOk_iff {us : List Tel} {ns : List Str} (b : Bk ns us) {i : Nat} {t : Tel} (hi : (sortTel us)[i]? = some t) (nt : ¬ IsTie us t) {r : Row} : RowOk (tieTake us i) t r ↔ r = rowT us t := by
  classical
  obtain ⟨P, R, J⟩ := b.rows
  have tm : t ∈ us := (sort_perm us).mem_iff.mp (List.mem_of_getElem? hi)
  have sub : ∀ u ∈ tieTake us i, u ∈ tieRows us := fun u hu => tieTake_sub b.nd hu
  have jt : Joined (tieTake us i) t.st t.en := by
    have := mt (tie_at b.nd hi).mpr nt
    exact (take_joined_iff b.nd).mp (Classical.not_not.mp this)
  have sy : Says (tieTake us i) t.st t.en (t.a, t.b) ↔ Says (tieRows us) t.st t.en (t.a, t.b) := by
    rw [says_iff R.p0 fun u hu => R.ag u (sub u hu), says_iff R.p0 R.ag]
    exact ⟨fun z => ⟨z.1.mono sub, z.2⟩, fun z => ⟨jt, z.2⟩⟩
  have wd : word us t = if Says (tieRows us) t.st t.en (t.a, t.b) then ("fits" : Str) else ("aside" : Str) := by
    unfold word
    rw [if_neg nt]
  unfold RowOk
  constructor
  · rintro ⟨h1, ⟨vs, h2⟩, h3⟩
    obtain ⟨n, w, c⟩ := r
    have e2 := roadT_eq b.nd ⟨vs, h2.monoP sub⟩
    simp only at h1 h3 e2
    unfold rowT
    rw [h1, h3, e2, wd]
    simp only [sy]
  · rintro rfl
    refine ⟨rfl, ?_, ?_⟩
    · obtain ⟨vs, c, w⟩ := jt.path
      have e2 := roadT_eq b.nd ⟨vs, w.monoP sub⟩
      show PathE (tieTake us i) t.st (roadT us t) t.en
      rw [← e2]
      exact ⟨vs, w⟩
    · show word us t = _
      rw [wd]
      simp only [sy]
theorem rowOk_tie {us : List Tel} (nd : (us.map Tel.name).Nodup) {i : Nat} {t : Tel} (hi : (sortTel us)[i]? = some t) (it : IsTie us t) {r : Row} : ¬ RowOk (tieTake us i) t r := by
  rintro ⟨_, w, _⟩
  exact (tie_at nd hi).mp it ((take_joined_iff nd).mpr w.walk.joined)
theorem marks_join {F : List Tel} {mk : Str → Str} (jm : ∀ x y, mk x = mk y ↔ Joined F x y) (t : Tel) : ∀ x y, reMark mk (mk t.st) (mk t.en) x = reMark mk (mk t.st) (mk t.en) y ↔ Joined (F ++ [t]) x y := fun x y => by
  rw [joined_snoc_iff, ← jm, ← jm, ← jm, ← jm, ← jm]
  unfold reMark
  by_cases h1 : mk x = mk t.en <;> by_cases h2 : mk y = mk t.en
  · simp [h1, h2]
  · rw [if_pos h1, if_neg h2]
    constructor
    · intro z
      exact .inr (.inr ⟨h1, z⟩)
    · rintro (z | ⟨z1, z2⟩ | ⟨z1, z2⟩)
      · exact absurd (z.symm.trans h1) h2
      · exact absurd z2.symm h2
      · exact z2
  · rw [if_neg h1, if_pos h2]
    constructor
    · intro z
      exact .inr (.inl ⟨z, h2.symm⟩)
    · rintro (z | ⟨z1, z2⟩ | ⟨z1, z2⟩)
      · exact absurd (z.trans h2) h1
      · exact z1
      · exact absurd z1 h1
  · rw [if_neg h1, if_neg h2]
    constructor
    · exact fun z => .inl z
    · rintro (z | ⟨z1, z2⟩ | ⟨z1, z2⟩)
      · exact z
      · exact absurd z2.symm h2
      · exact absurd z1 h1
theorem marks_skip {F : List Tel} {mk : Str → Str} (jm : ∀ x y, mk x = mk y ↔ Joined F x y) {t : Tel} (h : Joined F t.st t.en) : ∀ x y, mk x = mk y ↔ Joined (F ++ [t]) x y := fun x y => by
  rw [jm, joined_skip h]
end Sb
set_option Elab.async false
set_option linter.all false
set_option maxRecDepth 100000
set_option maxHeartbeats 4000000
namespace Sb
open PySem
/-- a comprehension whose parts only add to the heap -/
theorem v_filtF {α : Type} {C : Calls} {tg : List Nat} {one : TgK} {k : ITK} {its : List E} {cond : Option E} {own : List Nat} {a : E} {ρ : Env} {h h1 : PH} {Q : PV → PH → Prop} {l : List PV} {kp : Keep} (xs : List α) (f g : α → PV) (p : α → Bool) (e1 : evGs C its ρ h = .ok l h1) (e2 : walkF k l h1 = some (xs.map f, kp)) (hk : ∀ h', Fr [] h1 h' → stays kp h') (hl : xs.length ≤ 1000000)
    (hs : ∀ x ∈ xs, ∃ ρ1, setTg (wipeP ρ own) tg one (f x) = some ρ1 ∧ ∀ h', Fr [] h1 h' → (evGc C cond ρ1 h').Sat fun b h2 => b = p x ∧ Fr [] h' h2 ∧ (p x = true → (evG C a false ρ1 h2).Sat fun v h3 => v = g x ∧ Fr [] h2 h3))
    (hd : ∀ h', Fr [] h1 h' → Q (.ref h'.length) (h' ++ [.lst ((xs.filter p).map g)])) : (evG C (.comp a tg one k its cond own) false ρ h).Sat Q := by
  refine v_compE e1 e2 (fun i acc h' => Fr [] h1 h' ∧ acc = ((xs.take i).filter p).map g) ⟨Fr.refl _ _, by simp⟩ ?_ ?_
  · rintro i y acc h' hy ⟨fr, rfl⟩
    rw [List.getElem?_map] at hy
    obtain ⟨u, hu, rfl⟩ := Option.map_eq_some_iff.mp hy
    have hi := (List.getElem?_eq_some_iff.mp hu).1
    obtain ⟨ρ1, h2, h3⟩ := hs u (List.mem_of_getElem? hu)
    refine ⟨hk _ fr, ρ1, h2, ?_⟩
    have fl : ((xs.take i).filter p).length ≤ i := Nat.le_trans (List.length_filter_le ..) (by rw [List.length_take]; omega)
    refine (h3 h' fr).imp fun b h4 => ?_
    rintro ⟨rfl, f4, h5⟩
    cases hp : p u with
    | false =>
      rw [if_neg Bool.false_ne_true, List.take_add_one, hu]
      exact ⟨fr.trans f4, by simp [List.filter_append, List.filter, hp]⟩
    | true =>
      rw [if_pos rfl]
      refine (h5 hp).imp fun v h6 => ?_
      rintro ⟨rfl, f6⟩
      refine ⟨line_small (by rw [List.length_map]; omega), fr.trans (f4.trans f6), ?_⟩
      rw [List.take_add_one, hu]
      simp [List.filter_append, List.filter, hp]
  · rintro acc h' ⟨fr, rfl⟩
    have fl : ((xs.take xs.length).filter p).length ≤ xs.length := Nat.le_trans (List.length_filter_le ..) (by rw [List.length_take]; omega)
    simp only [List.length_map, List.take_length] at fl ⊢
    exact ⟨hk _ fr, line_small (by omega), hd _ fr⟩
end Sb
set_option Elab.async false
set_option linter.all false
set_option maxRecDepth 100000
set_option maxHeartbeats 4000000
namespace Sb
open PySem
section
variable {C : Calls} {t : Bool} {ρ : Env} {h : PH} {a b : E}
@[simp] theorem g_stp : evG C (.stp a b) t ρ h = fin t ((evG C a false ρ h).bind fun x h1 => (evG C b false ρ h1).bind fun st h2 => stpop x st h2) := by rw [evG]
@[simp] theorem g_rev : evG C (.rev a) t ρ h = fin t ((evG C a false ρ h).bind fun x h1 => revop x h1) := by rw [evG]
end
theorem stp_one {h : PH} {u w : PV} : stpop (.tup [u, w]) (.int 1) h = .ok (.tup [u, w]) h := rfl
theorem stp_neg {h : PH} {u w : PV} : stpop (.tup [u, w]) (.int (-1)) h = .ok (.tup [w, u]) h := rfl
theorem c_neSq {h : PH} (x y : Str) : cmpop .NotEq (.str x) (.str y) h = .ok (.bl (!decide (x = y))) h := rfl
theorem ne_nonS {h : PH} {x : Str} (hx : strOkP x = true) : cmpop .NotEq .non (.str x) h = .ok (.bl true) h := by
  show ofO ((eqP h .non (.str x)).map fun b => PV.bl (!b)) h = _
  simp [eqP, pd, hx, PyData.eqv]
theorem get2_dct {h : PH} {n : Nat} {d : List (L2.Key × PV)} {x : Str} {w : PV} (e : h[n]? = some (.dct d)) : mtF .get2 (.ref n) [.str x, w] h = .ok ((valP d (.inr x)).getD w) h := by
  simp [mtF, mtGet2, e, keyOf]
theorem all_trues {α : Type} {h : PH} {n : Nat} {xs : List α} (e : h[n]? = some (.lst (xs.map fun _ => .bl true))) : biF .all [.ref n] h = .ok (.bl true) h := by
  have : ∀ xs : List α, boolsOf (xs.map fun _ => PV.bl true) = some (xs.map fun _ => true) := fun xs => by
    induction xs with
    | nil => rfl
    | cons a r ih => simp [boolsOf, ih]
  simp [biF, biAll, listOf, e, this]
theorem memK_iff {l : List L2.Key} {k : L2.Key} : (l.any fun j => decide (j = k)) = true ↔ k ∈ l := by
  rw [List.any_eq_true]
  constructor
  · rintro ⟨j, h1, h2⟩
    rw [← of_decide_eq_true h2]
    exact h1
  · exact fun h => ⟨k, h, by simp⟩
theorem fold_nodup : ∀ (ks l : List L2.Key), l.Nodup → ((ks.foldl addK l).length = l.length + ks.length ↔ (l ++ ks).Nodup)
  | [], l, h => by simp [h]
  | k :: ks, l, h => by
    rw [List.foldl_cons]
    have le : ∀ (ks l : List L2.Key), (ks.foldl addK l).length ≤ l.length + ks.length := fun ks => by
      induction ks with
      | nil => intro l; simp
      | cons k ks ih =>
        intro l
        rw [List.foldl_cons]
        have := ih (addK l k)
        have h2 : (addK l k).length ≤ l.length + 1 := by unfold addK; split <;> simp
        rw [List.length_cons]
        omega
    by_cases m : k ∈ l
    · have e : addK l k = l := by unfold addK; rw [if_pos (memK_iff.mpr m)]
      rw [e]
      constructor
      · intro z
        have := le ks l
        rw [List.length_cons] at z
        omega
      · intro z
        rw [List.nodup_append] at z
        exact absurd rfl (z.2.2 k m k (by simp))
    · have e : addK l k = l ++ [k] := by unfold addK; rw [if_neg (fun z => m (memK_iff.mp z))]
      rw [e]
      have nl : (l ++ [k]).Nodup := by
        rw [List.nodup_append]
        exact ⟨h, by simp, fun a ha b hb => by rw [List.mem_singleton.mp hb]; rintro rfl; exact m ha⟩
      have := fold_nodup ks (l ++ [k]) nl
      rw [List.append_assoc] at this
      simp only [List.singleton_append] at this
      rw [← this]
      simp
      omega
theorem len_set {h : PH} {n : Nat} {vs : List Str} (e : h[n]? = some (.lst (vs.map PV.str))) (hl : vs.length < 1000) : ∃ m : Nat, biF .lenSet [.ref n] h = .ok (.int m) h ∧ (m = vs.length ↔ vs.Nodup) := by
  have ke : mapO keyOf (vs.map PV.str) = some (vs.map (.inr : Str → L2.Key)) := by
    clear e hl
    induction vs with
    | nil => rfl
    | cons x r ih => simp [mapO, keyOf, ih]
  refine ⟨((vs.map (.inr : Str → L2.Key)).foldl addK []).length, ?_, ?_⟩
  · simp only [biF, biLenSet, e, ke]
    rw [if_pos (by simpa using hl)]
  · have := fold_nodup (vs.map (.inr : Str → L2.Key)) [] List.nodup_nil
    simp only [List.length_nil, Nat.zero_add, List.length_map, List.nil_append] at this
    rw [this]
    constructor
    · intro z
      exact List.Pairwise.of_map _ (fun a b (hab : (Sum.inr a : L2.Key) ≠ Sum.inr b) q => hab (by rw [q])) z
    · exact fun z => List.Pairwise.map _ (fun a b hab q => hab (Sum.inr.inj q)) z
theorem at_end {vs : List Str} {x : Str} (hx : vs.getLast? = some x) : L2.atI (vs.map PV.str) (-1) = some (.str x) := by
  have ne : vs ≠ [] := fun z => by rw [z] at hx; cases hx
  have pos : 0 < vs.length := List.length_pos_iff.mpr ne
  unfold L2.atI L2.ixN
  rw [if_neg (by decide), if_pos (by simp; omega)]
  simp only [Option.bind]
  rw [List.getElem?_map]
  have e : ((-1 : Int) + ((vs.map PV.str).length : Nat)).toNat = vs.length - 1 := by simp; omega
  rw [e]
  rw [List.getLast?_eq_getElem?] at hx
  rw [hx]
  rfl
theorem along_pre {F : List Tel} {s : Str} {c : List Step} {j : Nat} (h : alongL F s (c.take j) = none) : alongL F s c = none := by
  have e : c = c.take j ++ c.drop j := (List.take_append_drop j c).symm
  have none_ : ∀ d : List Step, d.foldl (fun o st => o.bind fun vs => stepA F vs st) (none : Option (List Str)) = none := fun d => by
    induction d with
    | nil => rfl
    | cons a r ih => exact ih
  unfold alongL at h ⊢
  rw [e, List.foldl_append, h]
  exact none_ _
section
variable {tbl : Nat → Fn} {k : Nat} {h : PH}
theorem is_step_eq (h127 : tbl 127 = F_is_step) (s : Step) : call tbl (k + 1) 127 [stPV s] h = .ok (.bl true) h := by
  have q : (call tbl (k + 1) 127 [stPV s] h).Sat fun v h' => v = .bl true ∧ h' = h := by
    rw [call_succ, h127]
    refine fn_sat rfl ?_
    simp only [F_is_step, startP, List.map, List.length, List.replicate, List.cons_append, List.nil_append]
    have i1 : biF .isinst [stPV s, .ty .tuple] h = .ok (.bl true) h := rfl
    have i2 : biF .len [stPV s] h = .ok (.int 2) h := rfl
    have i3 : biF .isinst [.str s.1, .ty .str] h = .ok (.bl true) h := rfl
    have i4 : biF .isinst [.bl s.2, .ty .bool] h = .ok (.bl true) h := rfl
    have x0 : idxop (stPV s) (.int 0) h = .ok (.str s.1) h := idx_tup rfl
    have x1 : idxop (stPV s) (.int 1) h = .ok (.bl s.2) h := idx_tup rfl
    rw [x_cons]
    simp [i1, i2, i3, i4, x0, x1]
  obtain ⟨v, h', e, rfl, rfl⟩ := q.ex
  exact e
theorem is_row_sat (h127 : tbl 127 = F_is_step) (h128 : tbl 128 = F_is_row) {r : Row} (hl : r.2.2.length ≤ 1000) {Q : PV → PH → Prop} (q : ∀ h', Fr [] h h' → Q (.bl true) h') : (call tbl (k + 2) 128 [rowPV r] h).Sat Q := by
  rw [call_succ, h128]
  refine fn_sat rfl ?_
  simp only [F_is_row, startP, List.map, List.length, List.replicate, List.cons_append, List.nil_append]
  have i1 : biF .isinst [rowPV r, .ty .tuple] h = .ok (.bl true) h := rfl
  have i2 : biF .len [rowPV r] h = .ok (.int 3) h := rfl
  have x0 : idxop (rowPV r) (.int 0) h = .ok (.str r.1) h := idx_tup rfl
  have x1 : idxop (rowPV r) (.int 1) h = .ok (.str r.2.1) h := idx_tup rfl
  have x2 : idxop (rowPV r) (.int 2) h = .ok (.tup (r.2.2.map stPV)) h := idx_tup rfl
  have i3 : ∀ x, biF .isinst [.str x, .ty .str] h = .ok (.bl true) h := fun _ => rfl
  have i4 : biF .isinst [.tup (r.2.2.map stPV), .ty .tuple] h = .ok (.bl true) h := rfl
  rw [x_cons]
  simp [i1, i2, x2, i4]
  simp [x0, x1, i3]
  refine v_filt r.2.2 stPV (fun _ => .bl true) (fun _ => true) (l := [.tup (r.2.2.map stPV)]) (h1 := h) (by simp [x2]) (show walkF .seq [.tup (r.2.2.map stPV)] h = some (r.2.2.map stPV, []) from rfl) (stays_nil _) (by omega) (fun s hs => ⟨_, rfl, by simp, fun _ => by simp [wipeP, is_step_eq h127]⟩) ?_
  rw [filter_true]
  have e : (h ++ [PO.lst (r.2.2.map fun _ => .bl true)])[h.length]? = some (.lst (r.2.2.map fun _ => .bl true)) := by simp
  rw [all_trues e]
  exact q _ Fr.app
theorem is_sheet_sat (h127 : tbl 127 = F_is_step) (h128 : tbl 128 = F_is_row) (h129 : tbl 129 = F_is_sheet) {ns : List Str} {rs : List Row} (hn : ns.length ≤ 1000) (hr : rs.length ≤ 1000) (hl : ∀ r ∈ rs, r.2.2.length ≤ 1000) {Q : PV → PH → Prop} (q : ∀ h', Fr [] h h' → Q (.bl true) h') : (call tbl (k + 3) 129 [sheetPV ns rs] h).Sat Q := by
  rw [call_succ, h129]
  refine fn_sat rfl ?_
  simp only [F_is_sheet, startP, List.map, List.length, List.replicate, List.cons_append, List.nil_append]
  have i1 : biF .isinst [sheetPV ns rs, .ty .tuple] h = .ok (.bl true) h := rfl
  have i2 : biF .len [sheetPV ns rs] h = .ok (.int 2) h := rfl
  rw [x_cons]
  simp [i1, i2]
  refine v_filt [PV.tup (ns.map PV.str), .tup (rs.map rowPV)] id (fun _ => .bl true) (fun _ => true) (l := [sheetPV ns rs]) (h1 := h) (by simp) (show walkF .seq [sheetPV ns rs] h = some (_, []) from rfl) (stays_nil _) (by simp) (fun s hs => ⟨_, rfl, by simp, fun _ => ?_⟩) ?_
  · simp at hs
    rcases hs with rfl | rfl
    · simp [wipeP]; rfl
    · simp [wipeP]; rfl
  · rw [filter_true]
    have e : (h ++ [PO.lst ([PV.tup (ns.map PV.str), .tup (rs.map rowPV)].map fun _ => .bl true)])[h.length]? = some (.lst ([PV.tup (ns.map PV.str), .tup (rs.map rowPV)].map fun _ => .bl true)) := by simp
    have f1 : Fr [] h (h ++ [PO.lst ([PV.tup (ns.map PV.str), .tup (rs.map rowPV)].map fun _ => .bl true)]) := Fr.app
    generalize h ++ [PO.lst ([PV.tup (ns.map PV.str), .tup (rs.map rowPV)].map fun _ => .bl true)] = h1 at e f1
    rw [all_trues e]
    simp
    have x0 : ∀ g, idxop (sheetPV ns rs) (.int 0) g = .ok (.tup (ns.map PV.str)) g := fun g => idx_tup rfl
    have x1 : ∀ g, idxop (sheetPV ns rs) (.int 1) g = .ok (.tup (rs.map rowPV)) g := fun g => idx_tup rfl
    refine v_filt ns PV.str (fun _ => .bl true) (fun _ => true) (l := [.tup (ns.map PV.str)]) (h1 := h1) (by simp [x0]) (show walkF .seq [.tup (ns.map PV.str)] h1 = some (_, []) from rfl) (stays_nil _) (by omega) (fun s hs => ⟨_, rfl, by simp, fun _ => by simp [wipeP]; rfl⟩) ?_
    rw [filter_true]
    have a2 : (h1 ++ [PO.lst (ns.map fun _ => .bl true)])[h1.length]? = some (.lst (ns.map fun _ => .bl true)) := by simp
    have f2 : Fr [] h (h1 ++ [PO.lst (ns.map fun _ => PV.bl true)]) := f1.appNew
    generalize h1 ++ [PO.lst (ns.map fun _ => PV.bl true)] = h2 at a2 f2
    generalize h1.length = n2 at a2
    try simp
    refine v_filtF rs rowPV (fun _ => .bl true) (fun _ => true) (l := [.tup (rs.map rowPV)]) (h1 := h2) (by simp [x1]) (show walkF .seq [.tup (rs.map rowPV)] h2 = some (_, []) from rfl) (fun _ _ => stays_nil _) (by omega) (fun r hr' => ⟨_, rfl, fun h' f' => ?_⟩) fun h3 f3 => ?_
    · simp [wipeP]
      refine ⟨Fr.refl _ _, ?_⟩
      exact is_row_sat h127 h128 (k := k) (hl r hr') fun h4 f4 => ⟨rfl, f4⟩
    · rw [filter_true]
      have a3 : (h3 ++ [PO.lst (rs.map fun _ => .bl true)])[h3.length]? = some (.lst (rs.map fun _ => .bl true)) := by simp
      have a2' : (h3 ++ [PO.lst (rs.map fun _ => PV.bl true)])[n2]? = some (.lst (ns.map fun _ => .bl true)) := (Fr.app (S := [])).some (by simp) (f3.some (by simp) a2)
      have F3 : Fr [] h (h3 ++ [PO.lst (rs.map fun _ => PV.bl true)]) := (f2.trans f3).appNew
      generalize h3 ++ [PO.lst (rs.map fun _ => PV.bl true)] = h4 at a3 a2' F3
      generalize h3.length = n3 at a3
      try simp
      rw [b_addL a2' a3 (by simp; omega)]
      simp
      have a5 : (h4 ++ [PO.lst (ns.map (fun _ => PV.bl true) ++ rs.map fun _ => PV.bl true)])[h4.length]? = some (.lst ((ns.map (fun _ => ()) ++ rs.map fun _ => ()).map fun _ => .bl true)) := by
        simp [List.map_map, Function.comp_def]
      have F5 : Fr [] h (h4 ++ [PO.lst (ns.map (fun _ => PV.bl true) ++ rs.map fun _ => PV.bl true)]) := F3.appNew
      have at5 := all_trues a5
      simp [at5]
      exact q _ F5
end
end Sb
set_option Elab.async false
set_option linter.all false
set_option maxRecDepth 100000
set_option maxHeartbeats 4000000
namespace Sb
open PySem
def prT (t : Tel) : PV := .tup [.str t.st, .str t.en]
section
variable {tbl : Nat → Fn} {k : Nat} {h : PH}
theorem find_take {F : List Tel} (nd : (F.map Tel.name).Nodup) {i : Nat} {u : Tel} (hu : F[i]? = some u) (x : Str) : (F.take (i + 1)).find? (fun t => decide (t.name = x)) = if x = u.name then some u else (F.take i).find? (fun t => decide (t.name = x)) := by
  rw [List.take_add_one, hu]
  simp only [Option.toList_some, List.find?_append]
  by_cases e : x = u.name
  · subst e
    rw [if_pos rfl]
    have n0 : (F.take i).find? (fun t => decide (t.name = u.name)) = none := by
      rw [List.find?_eq_none]
      intro v hv
      simpa using name_take nd hu hv
    rw [n0]
    simp
  · rw [if_neg e]
    have : [u].find? (fun t => decide (t.name = x)) = none := by
      rw [List.find?_eq_none]
      intro v hv
      rw [List.mem_singleton.mp hv]
      simpa using fun z => e z.symm
    rw [this]
    simp
theorem scales_along_sat (h156 : tbl 156 = F_scales_along) {n : Nat} {F : List Tel} {s : Str} {c : List Step} (e : h[n]? = some (.lst (F.map Tel.pv))) (nd : (F.map Tel.name).Nodup) (hl : F.length ≤ 1000) (hc : c.length ≤ 1000) (os : strOkP s = true) (oF : ∀ t ∈ F, strOkP t.st = true ∧ strOkP t.en = true) {Q : PV → PH → Prop}
    (q0 : alongL F s c = none → ∀ h', Fr [] h h' → Q .non h') (q1 : ∀ vs m h', alongL F s c = some vs → h'[m]? = some (.lst (vs.map PV.str)) → Fr [] h h' → Q (.ref m) h') : (call tbl (k + 1) 156 [.ref n, .str s, .tup (c.map stPV)] h).Sat Q := by
  rw [call_succ, h156]
  refine fn_sat rfl ?_
  simp only [F_scales_along, startP, List.map, List.length, List.replicate, List.cons_append, List.nil_append]
  rw [x_cons, x_set]
  refine v_dcompE (l := [.ref n]) (h1 := h) (by simp) (walk_ref e) (fun i acc h' => h' = h ∧ acc.length ≤ i ∧ ∀ x, valP acc (.inr x) = ((F.take i).find? fun t => decide (t.name = x)).map prT) ⟨rfl, by simp, fun x => rfl⟩ ?_ ?_
  · rintro i y acc h1 hy ⟨rfl, al, av⟩
    rw [List.getElem?_map] at hy
    obtain ⟨u, hu, rfl⟩ := Option.map_eq_some_iff.mp hy
    have hi := (List.getElem?_eq_some_iff.mp hu).1
    refine ⟨stays_one e, _, rfl, ?_⟩
    simp [wipeP, pv0, pv1, pv2]
    refine ⟨.inr u.name, rfl, line_small (by omega), Nat.le_trans (put_len ..) (by omega), fun x => ?_⟩
    rw [val_put, find_take nd hu, av x]
    by_cases ex : x = u.name
    · rw [if_pos (by rw [ex]), if_pos ex]
      rfl
    · rw [if_neg (by simpa using ex), if_neg ex]
  · rintro acc h1 ⟨rfl, al, av⟩
    refine ⟨stays_one e, ?_⟩
    rw [List.length_map, List.take_length] at av
    simp only [List.set]
    rw [x_cons]
    simp [alloc_small]
    rw [x_cons]
    generalize hh2 : h1 ++ [PO.dct acc, PO.lst [PV.str s]] = h2
    have d2 : h2[h1.length]? = some (.dct acc) := by rw [← hh2]; simp
    have m2 : h2[h1.length + 1]? = some (.lst [PV.str s]) := by rw [← hh2]; simp
    have f2 : Fr [] h1 h2 := by rw [← hh2]; exact Fr.app
    obtain ⟨I, hI⟩ : ∃ I : Nat → Env → PH → Prop, I = fun i ρ h' => ∃ (o5 o6 o7 o8 : Option PV) (vs : List Str), ρ = [some (.ref n), some (.str s), some (.tup (c.map stPV)), some (.ref h1.length), some (.ref (h1.length + 1)), o5, o6, o7, o8, none] ∧ alongL F s (c.take i) = some vs ∧ (∀ x ∈ vs, strOkP x = true) ∧ h'[h1.length + 1]? = some (.lst (vs.map PV.str)) ∧ h'[h1.length]? = some (.dct acc) ∧ Fr [] h1 h' := ⟨_, rfl⟩
    refine x_forE (l := [.tup (c.map stPV)]) (h1 := h2) (by simp) (show walkF .seq [.tup (c.map stPV)] h2 = some (c.map stPV, []) from rfl) I ?_ ?_ ?_
    · rw [hI]
      exact ⟨none, none, none, none, [s], rfl, rfl, by simpa using os, m2, d2, f2⟩
    · intro i y ρ h3 hy hi
      rw [hI] at hi
      obtain ⟨o5, o6, o7, o8, vs, rfl, ea, ov, m3, d3, f3⟩ := hi
      rw [List.getElem?_map] at hy
      obtain ⟨st, hst, rfl⟩ := Option.map_eq_some_iff.mp hy
      have hi := (List.getElem?_eq_some_iff.mp hst).1
      have tk : c.take (i + 1) = c.take i ++ [st] := by rw [List.take_add_one, hst]; rfl
      obtain ⟨vl, x, gx, _, _⟩ := along_of nd _ _ rfl vs ea
      have xin : x ∈ vs := List.mem_of_getLast? gx
      have vl2 : vs.length ≤ 1001 := by
        rw [vl, List.length_take]
        omega
      have nx : alongL F s (c.take (i + 1)) = stepA F vs st := by rw [tk, along_snoc, ea]; rfl
      refine ⟨stays_nil _, [some (.ref n), some (.str s), some (.tup (c.map stPV)), some (.ref h1.length), some (.ref (h1.length + 1)), some (.str st.1), some (.bl st.2), o7, o8, none], by simp [setTg, stPV, setAll], ?_⟩
      have gt := get2_dct (x := st.1) (w := .tup [.non, .non]) d3
      rw [av st.1] at gt
      have la : idxop (.ref (h1.length + 1)) (.int (-1)) h3 = .ok (.str x) h3 := idx_ref m3 (at_end gx)
      obtain ⟨nm, fw⟩ := st
      cases hf : F.find? (fun t => decide (t.name = nm)) with
      | none =>
        simp only [hf, Option.map_none, Option.getD_none] at gt
        have z : stepA F vs (nm, fw) = none := by simp [stepA, hf]
        have fin_ : Q .non h3 := q0 (along_pre (j := i + 1) (by rw [nx, z])) h3 f3
        have nn := ne_nonS (h := h3) (ov x xin)
        rw [x_cons]
        cases fw <;> simp [ty_dct d3, MT.ty, gt, stp_one, stp_neg, setAll] <;> rw [x_cons] <;> simp [la, nn, fin_]
      | some t =>
        have tm : t ∈ F := List.mem_of_find?_eq_some hf
        have tn : t.name = nm := by simpa using List.find?_some hf
        simp only [hf, Option.map_some, Option.getD_some, prT] at gt
        have z : stepA F vs (nm, fw) = if (if fw then t.st else t.en) = x then some (vs ++ [if fw then t.en else t.st]) else none := by simp [stepA, hf, gx]
        have fin1 : (if fw then t.st else t.en) ≠ x → Q .non h3 := fun ne => q0 (along_pre (j := i + 1) (by rw [nx, z, if_neg ne])) h3 f3
        have ap : ∀ w, mtF .append (.ref (h1.length + 1)) [.str w] h3 = .ok .non (h3.set (h1.length + 1) (.lst (vs.map PV.str ++ [.str w]))) := fun w => mt_append m3 (by simp; omega)
        have fin2 : ∀ o5 o6 o7 o8, (if fw then t.st else t.en) = x → I (i + 1) [some (.ref n), some (.str s), some (.tup (c.map stPV)), some (.ref h1.length), some (.ref (h1.length + 1)), o5, o6, o7, o8, none] (h3.set (h1.length + 1) (.lst (vs.map PV.str ++ [.str (if fw then t.en else t.st)]))) := fun o5 o6 o7 o8 ex => by
          rw [hI]
          refine ⟨o5, o6, o7, o8, vs ++ [if fw then t.en else t.st], rfl, by rw [nx, z, if_pos ex], fun y hy => ?_, by rw [set_at m3]; simp, by rw [set_ne' (by omega)]; exact d3, f3.setNew (by omega)⟩
          rcases List.mem_append.mp hy with hy | hy
          · exact ov y hy
          · rw [List.mem_singleton.mp hy]
            cases fw
            · exact (oF t tm).1
            · exact (oF t tm).2
        rw [x_cons]
        cases fw
        · simp at fin1 fin2
          simp [ty_dct d3, MT.ty, gt, stp_one, stp_neg, setAll]
          rw [x_cons]
          by_cases ex : t.en = x
          · simp [la, c_neSq, ex, ty_ref m3, ap, MT.ty]
            exact fin2 _ _ _ _ ex
          · simp [la, c_neSq, ex]
            exact fin1 ex
        · simp at fin1 fin2
          simp [ty_dct d3, MT.ty, gt, stp_one, stp_neg, setAll]
          rw [x_cons]
          by_cases ex : t.st = x
          · simp [la, c_neSq, ex, ty_ref m3, ap, MT.ty]
            exact fin2 _ _ _ _ ex
          · simp [la, c_neSq, ex]
            exact fin1 ex
    · intro ρ h3 hi
      rw [hI] at hi
      obtain ⟨o5, o6, o7, o8, vs, rfl, ea, ov, m3, d3, f3⟩ := hi
      rw [List.length_map, List.take_length] at ea
      refine ⟨stays_nil _, ?_⟩
      simp
      exact q1 vs _ h3 ea m3 f3
open Classical in
theorem row_holds_sat (tm : TM tbl) (h44 : tbl 44 = F_chain_move) (h156 : tbl 156 = F_scales_along) (h157 : tbl 157 = F_row_holds) {n : Nat} {F : List Tel} {u : Tel} {r : Row} {P : Str → Mv} (R : Rows F F P) (e : h[n]? = some (.lst (F.map Tel.pv))) (hl : F.length ≤ 1000) (hc : r.2.2.length ≤ 26) (ou : strOkP u.st = true) (oF : ∀ t ∈ F, strOkP t.st = true ∧ strOkP t.en = true) {Q : PV → PH → Prop}
    (q : ∀ h', Fr [] h h' → Q (.bl (decide (RowOk F u r))) h') : (call tbl (k + 8) 157 [.ref n, u.pv, rowPV r] h).Sat Q := by
  rw [call_succ, h157]
  refine fn_sat rfl ?_
  simp only [F_row_holds, startP, List.map, List.length, List.replicate, List.cons_append, List.nil_append]
  obtain ⟨nm, w, c⟩ := r
  simp only at hc
  rw [x_cons]
  simp [rowPV, setAll]
  rw [x_cons]
  simp [pv1]
  refine scales_along_sat (k := k + 6) h156 e R.nd hl (by omega) ou oF (fun hn h' f => ?_) (fun vs m h' ea em f => ?_)
  · have no : ¬ RowOk F u (nm, w, c) := by
      rintro ⟨_, ⟨vs, wp⟩, _⟩
      have := (path_along R.nd wp).1
      simp only at this
      rw [hn] at this
      cases this
    have q' := q h' f
    rw [decide_eq_false no] at q'
    rw [x_cons]
    by_cases en : nm = u.name
    · simp [pv0, c_neSq, en, isNonP, q']
    · simp [pv0, c_neSq, en, q']
  · obtain ⟨vl, x, gx, wk, pa⟩ := along_of R.nd _ _ rfl vs ea
    have rk : RowOk F u (nm, w, c) ↔ nm = u.name ∧ x = u.en ∧ vs.Nodup ∧ w = if rel P u.st u.en = (u.a, u.b) then ("fits" : Str) else ("aside" : Str) := by
      constructor
      · rintro ⟨h1, ⟨vs', wp⟩, h3⟩
        obtain ⟨e1, e2⟩ := path_along R.nd wp
        simp only at e1 h1 h3
        rw [ea] at e1
        cases e1
        rw [gx] at e2
        cases e2
        refine ⟨h1, rfl, wp.nodup.1, ?_⟩
        rw [h3]
        have sy : Says F u.st u.en (u.a, u.b) ↔ rel P u.st u.en = (u.a, u.b) := by
          rw [says_iff R.p0 R.ag]
          exact ⟨fun z => z.2, fun z => ⟨wp.walk.joined, z⟩⟩
        simp only [sy]
      · rintro ⟨h1, rfl, h2, h3⟩
        have wp := pa h2
        refine ⟨h1, ⟨vs, wp⟩, ?_⟩
        have sy : Says F u.st u.en (u.a, u.b) ↔ rel P u.st u.en = (u.a, u.b) := by
          rw [says_iff R.p0 R.ag]
          exact ⟨fun z => z.2, fun z => ⟨wp.walk.joined, z⟩⟩
        simp only [sy]
        exact h3
    have la : idxop (.ref m) (.int (-1)) h' = .ok (.str x) h' := idx_ref em (at_end gx)
    obtain ⟨z, ez, nz⟩ := len_set em (by omega)
    have ln : biF .len [.ref m] h' = .ok (.int vs.length) h' := by
      rw [bi_len_ref em]
      simp
    rw [x_cons]
    by_cases c1 : nm = u.name
    · by_cases c2 : x = u.en
      · by_cases c3 : vs.Nodup
        · have z1 := nz.mpr c3
          simp [pv0, pv2, c_neSq, isNonP, la, c1, c2, ez, ln, z1]
          subst c2
          refine chain_moveT_sat (k := k) tm h44 R (by simp only [seqOf]; rw [f.some (by simp) e]) hl (by omega) wk fun h2 f2 => ?_
          simp [pv3, eq_mq]
          have q' := q h2 (f.trans f2)
          have dd : decide (RowOk F u (nm, w, c)) = decide (w = if rel P u.st u.en = (u.a, u.b) then ("fits" : Str) else ("aside" : Str)) := by
            rw [decide_eq_decide, rk]
            simp [c1, c3]
          rw [dd] at q'
          by_cases c4 : rel P u.st u.en = (u.a, u.b)
          · rw [if_pos c4] at q'
            have : (rel P u.st u.en).1 = u.a ∧ (rel P u.st u.en).2 = u.b := by rw [c4]; exact ⟨rfl, rfl⟩
            simp [this]
            exact q'
          · rw [if_neg c4] at q'
            have : ¬ ((rel P u.st u.en).1 = u.a ∧ (rel P u.st u.en).2 = u.b) := fun z => c4 (Prod.ext z.1 z.2)
            simp [this]
            exact ⟨fun a b => this ⟨a, b⟩, q'⟩
        · have z1 : z ≠ vs.length := fun q => c3 (nz.mp q)
          have z2 : ¬ ((z : Int) = (vs.length : Int)) := by omega
          have q' := q h' f
          rw [decide_eq_false (fun z => c3 (rk.mp z).2.2.1)] at q'
          simp [pv0, pv2, c_neSq, isNonP, la, c1, c2, ez, ln, decide_eq_false z2, q']
      · have q' := q h' f
        rw [decide_eq_false (fun z => c2 (rk.mp z).2.1)] at q'
        simp [pv0, pv2, c_neSq, isNonP, la, c1, c2, q']
    · have q' := q h' f
      rw [decide_eq_false (fun z => c1 (rk.mp z).1)] at q'
      simp [pv0, c_neSq, c1, q']
end
end Sb
set_option Elab.async false
set_option linter.all false
set_option maxRecDepth 100000
set_option maxHeartbeats 4000000
namespace Sb
open PySem
theorem nd_inj {α β : Type} {f : α → β} : ∀ {l : List α}, (l.map f).Nodup → ∀ {a b : α}, a ∈ l → b ∈ l → f a = f b → a = b
  | [], _, _, _, ha, _, _ => by cases ha
  | x :: r, nd, a, b, ha, hb, e => by
    rw [List.map_cons, List.nodup_cons] at nd
    rcases List.mem_cons.mp ha with rfl | ha'
    · rcases List.mem_cons.mp hb with rfl | hb
      · rfl
      · exact absurd (List.mem_map.mpr ⟨b, hb, e.symm⟩) nd.1
    · rcases List.mem_cons.mp hb with rfl | hb'
      · exact (nd.1 (List.mem_map.mpr ⟨a, ha', e⟩)).elim
      · exact nd_inj nd.2 ha' hb' e
theorem put_same {l : List (L2.Key × PV)} {k : L2.Key} {v : PV} (e : valP l k = some v) (nd : (l.map (·.1)).Nodup) : putP l k v = l := by
  have m := valP_mem e
  have an : (l.any fun kv => decide (kv.1 = k)) = true := List.any_eq_true.mpr ⟨_, m, by simp⟩
  unfold putP
  rw [if_pos an]
  have : ∀ kv ∈ l, (if kv.1 = k then (kv.1, v) else kv) = kv := fun kv hkv => by
    by_cases z : kv.1 = k
    · rw [if_pos z]
      have := nd_inj nd hkv m z
      rw [this]
    · rw [if_neg z]
  rw [List.map_congr_left this]
  simp
theorem MkOk.put {l : List (L2.Key × PV)} {mk : Str → Str} (m : MkOk l mk) (x : Str) : MkOk (putP l (.inr x) (.str (mk x))) mk := by
  rcases m.at_ x with h | ⟨h, e⟩
  · rw [put_same h m.nd]
    exact m
  · rw [e]
    exact m.setd h
theorem get2_mk {h : PH} {d : Nat} {l : List (L2.Key × PV)} {mk : Str → Str} (e : h[d]? = some (.dct l)) (m : MkOk l mk) (x : Str) : mtF .get2 (.ref d) [.str x, .str x] h = .ok (.str (mk x)) h := by
  rw [get2_dct e]
  rcases m.at_ x with z | ⟨z, w⟩
  · rw [z]
    rfl
  · rw [z, w]
    rfl
theorem upd_dct {h : PH} {m n : Nat} {l k : List (L2.Key × PV)} (e1 : h[m]? = some (.dct l)) (e2 : h[n]? = some (.dct k)) (ne : m ≠ n) (hl : l.length + k.length ≤ 1000000) : mtF .update (.ref m) [.ref n] h = .ok .non (h.set m (.dct (mergeP l k))) := by
  simp [mtF, mtUpdate, e1, e2, ne, line_small hl]
noncomputable def nonT (us : List Tel) (i : Nat) : List Tel := ((sortTel us).take i).filter (notTie us)
theorem nonT_succ {us : List Tel} {i : Nat} {t : Tel} (hi : (sortTel us)[i]? = some t) (n : ¬ IsTie us t) : nonT us (i + 1) = nonT us i ++ [t] := by
  classical
  unfold nonT
  rw [List.take_add_one, hi]
  simp [notTie, n]
theorem nonT_same {us : List Tel} {i : Nat} {t : Tel} (hi : (sortTel us)[i]? = some t) (n : IsTie us t) : nonT us (i + 1) = nonT us i := by
  classical
  unfold nonT
  rw [List.take_add_one, hi]
  simp [notTie, n]
theorem tie_next {us : List Tel} (nd : (us.map Tel.name).Nodup) {i : Nat} {t : Tel} (hi : (sortTel us)[i]? = some t) (n : IsTie us t) : (paperN us)[(tieTake us i).length]? = some t.name := by
  classical
  unfold paperN
  rw [tieRows_eq nd]
  have e : sortTel us = (sortTel us).take i ++ t :: (sortTel us).drop (i + 1) := by
    have hl := (List.getElem?_eq_some_iff.mp hi).1
    have : (sortTel us).drop i = t :: (sortTel us).drop (i + 1) := by
      rw [List.drop_eq_getElem_cons hl, (List.getElem?_eq_some_iff.mp hi).2]
    rw [← this, List.take_append_drop]
  conv => lhs; rw [e]
  rw [List.filter_append, List.filter_cons]
  simp only [n, decide_true, if_true, List.map_append, List.map_cons]
  have l : (tieTake us i).length = (((sortTel us).take i).filter fun t => decide (IsTie us t)).length := rfl
  rw [l, List.getElem?_append_right (by simp)]
  simp
theorem non_next {us : List Tel} {i : Nat} {t : Tel} (hi : (sortTel us)[i]? = some t) (n : ¬ IsTie us t) : (paperR us)[(nonT us i).length]? = some (rowT us t) := by
  classical
  unfold paperR
  have e : sortTel us = (sortTel us).take i ++ t :: (sortTel us).drop (i + 1) := by
    have hl := (List.getElem?_eq_some_iff.mp hi).1
    have : (sortTel us).drop i = t :: (sortTel us).drop (i + 1) := by
      rw [List.drop_eq_getElem_cons hl, (List.getElem?_eq_some_iff.mp hi).2]
    rw [← this, List.take_append_drop]
  have nt : notTie us t = true := by simp [notTie, n]
  conv => lhs; rw [e]
  rw [List.filter_append, List.filter_cons]
  simp only [nt, if_true, List.map_append, List.map_cons]
  have l : (nonT us i).length = (((sortTel us).take i).filter (notTie us)).length := rfl
  rw [l, List.getElem?_append_right (by simp)]
  simp
theorem named_tie {us : List Tel} (nd : (us.map Tel.name).Nodup) {t : Tel} (tm : t ∈ us) {m : Nat} (e : (paperN us)[m]? = some t.name) : IsTie us t := by
  unfold paperN at e
  rw [List.getElem?_map] at e
  obtain ⟨u, hu, eu⟩ := Option.map_eq_some_iff.mp e
  have um := List.mem_of_getElem? hu
  have := nd_inj nd (tieRows_mem um) tm eu
  rw [← this]
  exact ((mem_ties nd).mp um).2
theorem take_snoc {α : Type} {l : List α} {m : Nat} {x : α} (e : l[m]? = some x) : l.take (m + 1) = l.take m ++ [x] := by
  rw [List.take_add_one, e]
  rfl
/-- the looker's state ahead of the ith telling -/
structure Seen (us : List Tel) (ns : List Str) (rs : List Row) (i : Nat) (l : List (L2.Key × PV)) (mk : Str → Str) : Prop where
  ok : MkOk l mk
  len : l.length ≤ 2 * i
  jn : ∀ x y, mk x = mk y ↔ Joined ((sortTel us).take i) x y
  tl : (tieTake us i).length ≤ ns.length
  te : (tieTake us i).map Tel.name = ns.take (tieTake us i).length
  rl : (nonT us i).length ≤ rs.length
  re : (nonT us i).map (rowT us) = rs.take (nonT us i).length
section
variable {tbl : Nat → Fn} {k : Nat} {h : PH}
open Classical in
theorem holds_sat (tm : TM tbl) (h32 : tbl 32 = F_in_order) (h44 : tbl 44 = F_chain_move) (h127 : tbl 127 = F_is_step) (h128 : tbl 128 = F_is_row) (h129 : tbl 129 = F_is_sheet) (h156 : tbl 156 = F_scales_along) (h157 : tbl 157 = F_row_holds) (h158 : tbl 158 = F_holds)
    {v : PV} {us : List Tel} {sc : List Str} (b : Bk sc us) (sk : ∀ t ∈ us, SOk t) (e : seqOf h v = some (us.map Tel.pv)) {ns : List Str} {rs : List Row} (hn : ns.length ≤ 1000) (hr : rs.length ≤ 1000) (hc : ∀ r ∈ rs, r.2.2.length ≤ 26) {Q : PV → PH → Prop}
    (q : ∀ h', Fr [] h h' → Q (.bl (decide (ns = paperN us ∧ rs = paperR us))) h') : (call tbl (k + 9) 158 [v, sheetPV ns rs] h).Sat Q := by
  rw [call_succ, h158]
  refine fn_sat rfl ?_
  simp only [F_holds, startP, List.map, List.length, List.replicate, List.cons_append, List.nil_append]
  rw [x_cons]
  simp
  refine is_sheet_sat (k := k + 5) h127 h128 h129 hn hr (fun r hr' => Nat.le_trans (hc r hr') (by decide)) fun h0 f0 => ?_
  simp
  rw [x_cons]
  simp [sheetPV, setAll]
  rw [x_cons]
  simp [alloc_small]
  rw [x_cons]
  simp [pairUp, mergeP, allocD]
  rw [x_cons]
  simp
  rw [x_cons]
  have e0 := f0.seq e
  generalize hA : h0 ++ [PO.lst [], PO.dct []] = h1
  have f1 : Fr [] h h1 := by rw [← hA]; exact f0.appNew
  have e1 : seqOf h1 v = some (us.map Tel.pv) := f1.seq e
  have a1 : h1[h0.length]? = some (.lst []) := by rw [← hA]; simp
  have d1 : h1[h0.length + 1]? = some (.dct []) := by rw [← hA]; simp
  have l1 : h1.length = h0.length + 2 := by rw [← hA]; simp
  have io := in_order_eq (k := k + 7) h32 e1 b.nd b.len
  have f2 : Fr [] h (h1 ++ [.lst ((sortTel us).map Tel.pv)]) := f1.appNew
  have s2 : (h1 ++ [PO.lst ((sortTel us).map Tel.pv)])[h1.length]? = some (.lst ((sortTel us).map Tel.pv)) := by simp
  have a2 : (h1 ++ [PO.lst ((sortTel us).map Tel.pv)])[h0.length]? = some (.lst []) := (Fr.app (S := [])).some (by simp) a1
  have d2 : (h1 ++ [PO.lst ((sortTel us).map Tel.pv)])[h0.length + 1]? = some (.dct []) := (Fr.app (S := [])).some (by simp) d1
  generalize h1 ++ [PO.lst ((sortTel us).map Tel.pv)] = h2 at io f2 s2 a2 d2
  rw [l1] at io s2
  have h0l : h.length ≤ h0.length := f0.len
  have slen : (sortTel us).length ≤ 1000 := by rw [sort_len]; exact b.len
  obtain ⟨P, R, J⟩ := b.rows
  obtain ⟨I, hI⟩ : ∃ I : Nat → Env → PH → Prop, I = fun i ρ h' => ∃ (o7 o8 o9 : Option PV) (d : Nat) (l : List (L2.Key × PV)) (mk : Str → Str), ρ = [some v, some (.tup [.tup (ns.map PV.str), .tup (rs.map rowPV)]), some (.tup (ns.map PV.str)), some (.tup (rs.map rowPV)), some (.ref h0.length), some (.ref d), some (.int ((nonT us i).length : Nat)), o7, o8, o9, none, none] ∧ Seen us ns rs i l mk ∧ h'[d]? = some (.dct l) ∧ h'[h0.length]? = some (.lst ((tieTake us i).map Tel.pv)) ∧ h'[h0.length + 2]? = some (.lst ((sortTel us).map Tel.pv)) ∧ Fr [] h h' ∧ h0.length < d ∧ d ≠ h0.length + 2 := ⟨_, rfl⟩
  refine x_forE (l := [.ref (h0.length + 2)]) (h1 := h2) (by simp [io]) (walk_ref s2) I ?_ ?_ ?_
  · rw [hI]
    refine ⟨none, none, none, h0.length + 1, [], id, by simp [nonT], ⟨⟨by simp, by simp, fun x => .inr ⟨rfl, rfl⟩, fun x hx => absurd rfl hx⟩, by simp, fun x y => ⟨fun z => by rw [show x = y from z]; exact .refl _, fun z => joined_nil (by simpa using z)⟩, by simp [tieTake], by simp [tieTake], by simp [nonT], by simp [nonT]⟩, d2, by simpa [tieTake] using a2, s2, f2, by omega, by omega⟩
  · intro i x ρ h3 hx hi
    rw [hI] at hi
    obtain ⟨o7, o8, o9, d, l, mk, rfl, S, d3, a3, s3, f3, dl, dn⟩ := hi
    rw [List.getElem?_map] at hx
    obtain ⟨t, ht, rfl⟩ := Option.map_eq_some_iff.mp hx
    have hi := (List.getElem?_eq_some_iff.mp ht).1
    have tin : t ∈ us := (sort_perm us).mem_iff.mp (List.mem_of_getElem? ht)
    refine ⟨stays_one s3, _, rfl, ?_⟩
    simp only [List.set]
    have g1 := get2_mk d3 S.ok t.st
    have g2 := get2_mk d3 S.ok t.en
    rw [x_cons]
    simp [ty_dct d3, MT.ty, pv1, pv2, g1, g2, setAll]
    have tie := tie_at b.nd ht
    rw [← S.jn] at tie
    have tlen : (tieTake us i).length ≤ i := by
      unfold tieTake
      exact Nat.le_trans (List.length_filter_le ..) (by rw [List.length_take]; omega)
    have la : biF .len [.ref h0.length] h3 = .ok (.int (tieTake us i).length) h3 := by
      rw [bi_len_ref a3]
      simp
    have ln : biF .len [.tup (ns.map PV.str)] h3 = .ok (.int ns.length) h3 := by
      rw [bi_len_tup]
      simp
    have lr : biF .len [.tup (rs.map rowPV)] h3 = .ok (.int rs.length) h3 := by
      rw [bi_len_tup]
      simp
    have qF : ¬ (ns = paperN us ∧ rs = paperR us) → Q (.bl false) h3 := fun z => by
      have := q h3 f3
      rwa [decide_eq_false z] at this
    by_cases A : ns[(tieTake us i).length]? = some t.name
    · have Al := (List.getElem?_eq_some_iff.mp A).1
      have ix : idxop (.tup (ns.map PV.str)) (.int ((tieTake us i).length : Nat)) h3 = .ok (.str t.name) h3 := idx_tup (atI_of (by rw [List.getElem?_map, A]; rfl))
      have Al2 : ((tieTake us i).length : Int) < (ns.length : Int) := by omega
      simp [la, ln, ix, pv0, Al2]
      rw [x_cons]
      by_cases me : mk t.st = mk t.en
      · have Z : Q (.bl false) h3 := qF fun z => by
          rw [z.1] at A
          exact (tie.mp (named_tie b.nd tin A)) me
        simp [me, Z]
      · have it : IsTie us t := tie.mpr me
        have sne : t.st ≠ t.en := fun z => me (by rw [z])
        simp [me]
        rw [x_cons]
        have mg : mergeP [] [((.inr t.st : L2.Key), PV.str (mk t.st)), (.inr t.en, .str (mk t.en))] = [((.inr t.st : L2.Key), PV.str (mk t.st)), (.inr t.en, .str (mk t.en))] := merge_app _ [] (by simp [sne])
        have d4 : (h3 ++ [PO.dct [((.inr t.st : L2.Key), PV.str (mk t.st)), (.inr t.en, .str (mk t.en))]])[d]? = some (.dct l) := (Fr.app (S := [])).some (by simp) d3
        have dlt := (List.getElem?_eq_some_iff.mp d3).1
        have slt := (List.getElem?_eq_some_iff.mp s3).1
        have up := upd_dct d4 (n := h3.length) (k := [((.inr t.st : L2.Key), PV.str (mk t.st)), (.inr t.en, .str (mk t.en))]) (by simp) (by omega) (by have := S.len; simp; omega)
        simp [ty_dct d3, MT.ty, pv1, pv2, pairUp, keyOf, allocD, mg, up]
        have Lm : mergeP l [((.inr t.st : L2.Key), PV.str (mk t.st)), (.inr t.en, .str (mk t.en))] = putP (putP l (.inr t.st) (.str (mk t.st))) (.inr t.en) (.str (mk t.en)) := rfl
        rw [Lm]
        have mo := (S.ok.put t.st).put t.en
        have v1 : valP (putP (putP l (.inr t.st) (.str (mk t.st))) (.inr t.en) (.str (mk t.en))) (.inr t.st) ≠ none := by
          rw [val_put, val_put]
          split <;> simp
        have v2 : valP (putP (putP l (.inr t.st) (.str (mk t.st))) (.inr t.en) (.str (mk t.en))) (.inr t.en) ≠ none := by
          rw [val_put]
          simp
        have ll : (putP (putP l (.inr t.st) (.str (mk t.st))) (.inr t.en) (.str (mk t.en))).length ≤ 2 * i + 2 := by
          have h1 := put_len l (.inr t.st) (.str (mk t.st))
          have h2 := put_len (putP l (.inr t.st) (.str (mk t.st))) (.inr t.en) (.str (mk t.en))
          have := S.len
          omega
        generalize putP (putP l (.inr t.st) (.str (mk t.st))) (.inr t.en) (.str (mk t.en)) = l' at mo v1 v2 ll
        have d5 : ((h3 ++ [PO.dct [((.inr t.st : L2.Key), PV.str (mk t.st)), (.inr t.en, .str (mk t.en))]]).set d (.dct l'))[d]? = some (.dct l') := set_at d4
        have a5 : ((h3 ++ [PO.dct [((.inr t.st : L2.Key), PV.str (mk t.st)), (.inr t.en, .str (mk t.en))]]).set d (.dct l'))[h0.length]? = some (.lst ((tieTake us i).map Tel.pv)) := by
          rw [set_ne' (by omega)]
          exact (Fr.app (S := [])).some (by simp) a3
        have s5 : ((h3 ++ [PO.dct [((.inr t.st : L2.Key), PV.str (mk t.st)), (.inr t.en, .str (mk t.en))]]).set d (.dct l'))[h0.length + 2]? = some (.lst ((sortTel us).map Tel.pv)) := by
          rw [set_ne' (by omega)]
          exact (Fr.app (S := [])).some (by simp) s3
        have f5 : Fr [] h ((h3 ++ [PO.dct [((.inr t.st : L2.Key), PV.str (mk t.st)), (.inr t.en, .str (mk t.en))]]).set d (.dct l')) := f3.appNew.setNew (by omega)
        have l5 : ((h3 ++ [PO.dct [((.inr t.st : L2.Key), PV.str (mk t.st)), (.inr t.en, .str (mk t.en))]]).set d (.dct l')).length = h3.length + 1 := by simp
        generalize (h3 ++ [PO.dct [((.inr t.st : L2.Key), PV.str (mk t.st)), (.inr t.en, .str (mk t.en))]]).set d (.dct l') = h5 at d5 a5 s5 f5 l5
        have re := remark_eq (a := mk t.st) (b := mk t.en) d5 mo.st (by omega)
        rw [x_cons]
        simp [re]
        have a6 : (h5 ++ [PO.dct (mergeP [] (remarkL (mk t.st) (mk t.en) l'))])[h0.length]? = some (.lst ((tieTake us i).map Tel.pv)) := (Fr.app (S := [])).some (by simp) a5
        have s6 : (h5 ++ [PO.dct (mergeP [] (remarkL (mk t.st) (mk t.en) l'))])[h0.length + 2]? = some (.lst ((sortTel us).map Tel.pv)) := (Fr.app (S := [])).some (by simp) s5
        simp [ty_ref a6, MT.ty, mt_append a6 (by simp; omega)]
        have mr := mo.re v1 v2
        have ts := tieTake_succ (ts := us) ht
        rw [if_pos it] at ts
        have tn := nonT_same ht it
        rw [hI]
        refine ⟨_, _, _, h5.length, _, _, by rw [tn], ⟨mr, ?_, ?_, ?_, ?_, by rw [tn]; exact S.rl, by rw [tn]; exact S.re⟩, by rw [set_ne' (by omega)]; simp, by rw [set_at a6, ts]; simp, by rw [set_ne' (by omega)]; exact s6, f5.appNew.setNew (by omega), by omega, by omega⟩
        · rw [merge_app _ [] (by rw [List.nil_append, keys_remark]; exact mo.nd), List.nil_append, remark_len]
          omega
        · rw [List.take_add_one, ht]
          exact marks_join S.jn t
        · rw [ts]
          simp
          omega
        · rw [ts, List.length_append, List.length_singleton, take_snoc A, List.map_append, S.te]
          rfl
    · have cont : (exSs (call tbl (k + 8)) [.ifs (.band (.cmp .Lt (.var 6) (.bi .len [(.var 3)])) (.call 157 [(.var 4), (.var 7), (.idx (.var 3) (.var 6))] [])) [.aug 6 .Add (.lit (.int 1))] [.ret (.lit (.bl false))]]
          [some v, some (.tup [.tup (ns.map PV.str), .tup (rs.map rowPV)]), some (.tup (ns.map PV.str)), some (.tup (rs.map rowPV)), some (.ref h0.length), some (.ref d), some (.int ((nonT us i).length : Nat)), some t.pv, some (.str (mk t.st)), some (.str (mk t.en)), none, none] h3).Sat (I (i + 1)) Q := by
        have noT : ns = paperN us → ¬ IsTie us t := fun z it => A (by rw [z]; exact tie_next b.nd ht it)
        cases hrp : rs[(nonT us i).length]? with
        | none =>
          have nl : ¬ (((nonT us i).length : Int) < (rs.length : Int)) := by
            have := List.getElem?_eq_none_iff.mp hrp
            omega
          have Z : Q (.bl false) h3 := qF fun z => by
            have := non_next ht (noT z.1)
            rw [← z.2, hrp] at this
            cases this
          simp [lr, nl, Z]
        | some r =>
          have rlt := (List.getElem?_eq_some_iff.mp hrp).1
          have nl : ((nonT us i).length : Int) < (rs.length : Int) := by omega
          have ix : idxop (.tup (rs.map rowPV)) (.int ((nonT us i).length : Nat)) h3 = .ok (rowPV r) h3 := idx_tup (atI_of (by rw [List.getElem?_map, hrp]; rfl))
          simp [lr, nl, ix]
          have sub : ∀ u ∈ tieTake us i, u ∈ tieRows us := fun u hu => tieTake_sub b.nd hu
          have RT : Rows (tieTake us i) (tieTake us i) P := ⟨?_, fun _ z => z, R.p0, fun u hu => R.ag u (sub u hu), fun u hu => R.qa u (tieRows_mem (sub u hu))⟩
          refine row_holds_sat (k := k) tm h44 h156 h157 RT a3 (by omega) (hc r (List.mem_of_getElem? hrp)) (sk t tin).st (fun u hu => ⟨(sk u (tieRows_mem (sub u hu))).st, (sk u (tieRows_mem (sub u hu))).en⟩) fun h4 f4 => ?_
          · by_cases ro : RowOk (tieTake us i) t r
            · have nt : ¬ IsTie us t := fun z => rowOk_tie b.nd ht z ro
              have er := (rowOk_iff b ht nt).mp ro
              simp [ro]
              have ts := tieTake_succ (ts := us) ht
              rw [if_neg nt] at ts
              have tn := nonT_succ ht nt
              rw [hI]
              have mj : mk t.st = mk t.en := Classical.not_not.mp fun z => nt (tie.mpr z)
              refine ⟨some t.pv, some (.str (mk t.st)), some (.str (mk t.en)), d, l, mk, by rw [tn]; simp, ⟨S.ok, by have := S.len; omega, ?_, by rw [ts]; exact S.tl, by rw [ts]; exact S.te, by rw [tn]; simp; omega, ?_⟩, f4.some (by simp) d3, by rw [ts]; exact f4.some (by simp) a3, f4.some (by simp) s3, f3.trans f4, dl, dn⟩
              · rw [List.take_add_one, ht]
                exact marks_skip S.jn ((S.jn _ _).mp mj)
              · rw [tn, List.length_append, List.length_singleton, take_snoc hrp, List.map_append, S.re, er]
                rfl
            · have q4 := q h4 (f3.trans f4)
              rw [decide_eq_false (fun z => ?_)] at q4
              · simp [ro, q4]
              · have nt := noT z.1
                have := non_next ht nt
                rw [← z.2, hrp] at this
                cases this
                exact ro ((rowOk_iff b ht nt).mpr rfl)
          · have : (tieTake us i).Sublist (sortTel us) := List.Sublist.trans List.filter_sublist (List.take_sublist ..)
            exact (this.map Tel.name).nodup (((sort_perm us).map Tel.name).nodup_iff.mpr b.nd)
      by_cases hm : (tieTake us i).length < ns.length
      · have gx : ns[(tieTake us i).length]? = some ns[(tieTake us i).length] := List.getElem?_eq_getElem hm
        have ix : idxop (.tup (ns.map PV.str)) (.int ((tieTake us i).length : Nat)) h3 = .ok (.str ns[(tieTake us i).length]) h3 := idx_tup (atI_of (by rw [List.getElem?_map, gx]; rfl))
        have hm2 : ((tieTake us i).length : Int) < (ns.length : Int) := by omega
        have ne : ¬ ns[(tieTake us i).length] = t.name := fun z => A (by rw [gx, z])
        simp only [g_and, g_cmp, g_bi, g_idx, g_var, la, ln]
        simp [la, ln, ix, pv0, hm2, ne]
        simpa using cont
      · have hm2 : ¬ (((tieTake us i).length : Int) < (ns.length : Int)) := by omega
        simp [la, ln, hm2]
        simpa using cont
  · intro ρ h3 hi
    rw [hI] at hi
    obtain ⟨o7, o8, o9, d, l, mk, rfl, S, d3, a3, s3, f3, dl, dn⟩ := hi
    rw [List.length_map] at S a3
    refine ⟨stays_one s3, ?_⟩
    have tt : tieTake us (sortTel us).length = tieRows us := by
      unfold tieTake
      rw [List.take_length, tieRows_eq b.nd]
    have tn : (nonT us (sortTel us).length).map (rowT us) = paperR us := by
      unfold nonT paperR
      rw [List.take_length]
    have la : biF .len [.ref h0.length] h3 = .ok (.int (tieTake us (sortTel us).length).length) h3 := by
      rw [bi_len_ref a3]
      simp
    have ln : biF .len [.tup (ns.map PV.str)] h3 = .ok (.int ns.length) h3 := by
      rw [bi_len_tup]
      simp
    have lr : biF .len [.tup (rs.map rowPV)] h3 = .ok (.int rs.length) h3 := by
      rw [bi_len_tup]
      simp
    have q' := q h3 f3
    have dd : decide (ns = paperN us ∧ rs = paperR us) = (decide (((tieTake us (sortTel us).length).length : Int) = ns.length) && decide (((nonT us (sortTel us).length).length : Int) = rs.length)) := by
      rw [← Bool.decide_and, decide_eq_decide]
      have k1 : ns = paperN us ↔ ((tieTake us (sortTel us).length).length : Int) = ns.length := by
        have := S.te
        constructor
        · intro z
          rw [tt, z]
          unfold paperN
          simp
        · intro z
          rw [List.take_of_length_le (by omega)] at this
          rw [← this, tt]
          rfl
      have k2 : rs = paperR us ↔ ((nonT us (sortTel us).length).length : Int) = rs.length := by
        have := S.re
        constructor
        · intro z
          rw [z, ← tn]
          simp
        · intro z
          rw [List.take_of_length_le (by omega)] at this
          rw [← this, tn]
      rw [k1, k2]
    rw [dd] at q'
    rw [List.length_map]
    by_cases c1 : ((tieTake us (sortTel us).length).length : Int) = ns.length
    · simp [la, ln, lr, c1]
      simpa [c1] using q'
    · simp [la, ln, lr, c1]
      simpa [c1] using q'
end
end Sb
set_option Elab.async false
set_option linter.all false
set_option maxRecDepth 100000
set_option maxHeartbeats 4000000
namespace Sb
open PySem
theorem in_dctI {h : PH} {d : Nat} {l : List (L2.Key × PV)} (e : h[d]? = some (.dct l)) (x : Str) : cmpop .In (.str x) (.ref d) h = .ok (.bl (valP l (.inr x)).isSome) h := by
  show ofO ((inP h (.str x) (.ref d)).map fun b => PV.bl b) h = _
  simp only [inP, e, keyOf]
  rfl
theorem ends_sub {us : List Tel} {sc : List Str} (b : Bk sc us) : ∀ x ∈ ends (tieRows us), x ∈ sc := fun x hx => by
  unfold ends at hx
  obtain ⟨t, ht, hx⟩ := List.mem_flatMap.mp hx
  have o := b.ok t (tieRows_mem ht)
  simp at hx
  rcases hx with rfl | rfl
  · exact o.st
  · exact o.en
theorem tieRows_sublist (us : List Tel) : (tieRows us).Sublist (sortTel us) := ties_sub _ _
section
variable {tbl : Nat → Fn} {k : Nat} {h : PH}
theorem paper_of_sat (tf : TW tbl) (tm : TM tbl) (h46 : tbl 46 = F_bars_of) (h47 : tbl 47 = F_words_of) (h56 : tbl 56 = F_ties_of) (h126 : tbl 126 = F_paper_of) {v : PV} {us : List Tel} {sc : List Str} (b : Bk sc us) (hb : us.length < 1000) (e : seqOf h v = some (us.map Tel.pv)) {Q : PV → PH → Prop}
    (q : ∀ h', Fr [] h h' → Q (sheetPV (paperN us) (paperR us)) h') : (call tbl (k + 9) 126 [v] h).Sat Q := by
  classical
  obtain ⟨P, R, J⟩ := b.rows
  rw [call_succ, h126]
  refine fn_sat rfl ?_
  simp only [F_paper_of, startP, List.map, List.length, List.replicate, List.cons_append, List.nil_append]
  rw [x_cons]
  simp
  refine bars_satW (k := k + 4) tf h46 b hb e J fun d l h1 d1 _ B f1 => ?_
  rw [x_cons, x_set]
  obtain ⟨n, h2, ew, n2, _, f2⟩ : ∃ n h2, call tbl (k + 8) 47 [v] h1 = .ok (.ref n) h2 ∧ h2[n]? = some (.lst ((sortTel us).map (wpv us P))) ∧ h1.length ≤ n ∧ Fr [] h1 h2 := by
    obtain ⟨_, h2, e, n, rfl, a, c, d⟩ := (words_satW (k := k) tf tm h46 h47 b hb (f1.seq e) R J (Q := fun v h' => ∃ n, v = .ref n ∧ h'[n]? = some (.lst ((sortTel us).map (wpv us P))) ∧ h1.length ≤ n ∧ Fr [] h1 h') fun n h' a c d => ⟨n, rfl, a, c, d⟩).ex
    exact ⟨n, h2, e, a, c, d⟩
  have d2 := f2.some (by simp) d1
  refine v_filt (sortTel us) (wpv us P) (fun t => rowPV (rowT us t)) (notTie us) (l := [.ref n]) (h1 := h2) (by simp [ew]) (walk_ref n2) (stays_one n2) (by rw [sort_len]; omega) (fun t ht => ?_) ?_
  · have tin : t ∈ us := (sort_perm us).mem_iff.mp ht
    refine ⟨_, rfl, ?_, fun nt => ?_⟩
    · have c := in_dctI d2 t.name
      have z : (valP l (.inr t.name)).isSome = notTie us t := by
        by_cases it : IsTie us t
        · have bf : bar us t = false := by
            cases hbt : bar us t with
            | false => rfl
            | true => exact absurd it ((bar_iff b.nd tin).mp hbt)
          rw [B.no t tin bf]
          simp [notTie, it]
        · obtain ⟨m, ch, e1, _⟩ := B.yes t tin ((bar_iff b.nd tin).mpr it)
          rw [e1]
          simp [notTie, it]
      rw [z] at c
      simp [evGc, wipeP, c, setTg, wpv, setAll]
    · have it : ¬ IsTie us t := by simpa [notTie] using nt
      obtain ⟨m, ch, e1, e2, e3, _⟩ := B.yes t tin ((bar_iff b.nd tin).mpr it)
      have rd := roadT_eq b.nd e3
      have i1 := idx_dct d2 e1
      have tp := tup_ref (f2.some (by simp) e2)
      simp [wipeP, i1, tp, rowPV, rowT, word_eq R tin, rd]
  · have f3 : Fr [] h (h2 ++ [.lst (((sortTel us).filter (notTie us)).map fun t => rowPV (rowT us t))]) := (f1.trans f2).appNew
    have a3 : (h2 ++ [PO.lst (((sortTel us).filter (notTie us)).map fun t => rowPV (rowT us t))])[h2.length]? = some (.lst ((paperR us).map rowPV)) := by
      simp [paperR, Function.comp_def]
    generalize h2 ++ [PO.lst (((sortTel us).filter (notTie us)).map fun t => rowPV (rowT us t))] = h3 at f3 a3
    simp
    refine ties_of_sat (k := k + 5) tf.h32 tf.h39 h56 (f3.seq e) b.nd b.len fun m h4 a4 _ f4 => ?_
    have t1 := tup_ref a4
    have t2 := tup_ref (f4.some (by simp) a3)
    simp [t1, t2]
    rw [← List.map_map]
    exact q h4 (f3.trans f4)
end
end Sb
set_option Elab.async false
set_option linter.all false
set_option maxRecDepth 100000
set_option maxHeartbeats 4000000
namespace Sb
open PySem
structure ShOk (ns : List Str) (rs : List Row) : Prop where
  nm : ∀ x ∈ ns, strOkP x = true
  rw_ : ∀ r ∈ rs, strOkP r.1 = true ∧ strOkP r.2.1 = true ∧ (∀ s ∈ r.2.2, strOkP s.1 = true) ∧ r.2.2.length ≤ 26
  nl : ns.length ≤ 1000
  rl : rs.length ≤ 1000
theorem same_map {α : Type} {h : PH} {d : Nat} {f : α → PV} {l : List α} (hl : l.length ≤ 1000000) (s : ∀ x ∈ l, sameP h d (f x) (f x)) : sameP h (d + 1) (.tup (l.map f)) (.tup (l.map f)) := by
  refine ⟨rfl, by simpa using hl, fun i x y hx hy => ?_⟩
  rw [hx] at hy
  cases hy
  rw [List.getElem?_map] at hx
  obtain ⟨a, ha, rfl⟩ := Option.map_eq_some_iff.mp hx
  exact s a (List.mem_of_getElem? ha)
theorem same_lit {h : PH} {d : Nat} {l : List PV} (hl : l.length ≤ 1000000) (s : ∀ x ∈ l, sameP h d x x) : sameP h (d + 1) (.tup l) (.tup l) := by
  have := same_map (f := id) (l := l) (h := h) (d := d) hl s
  simpa using this
theorem same_sheet {h : PH} {ns : List Str} {rs : List Row} (o : ShOk ns rs) : sameP h 5 (sheetPV ns rs) (sheetPV ns rs) := by
  have nl := o.nl
  have rl := o.rl
  refine same_lit (by simp) fun x hx => ?_
  simp at hx
  rcases hx with rfl | rfl
  · exact same_map (by omega) fun x _ => rfl
  · refine same_map (by omega) fun r hr => ?_
    have ro := (o.rw_ r hr).2.2.2
    refine same_lit (by simp) fun x hx => ?_
    simp at hx
    rcases hx with rfl | rfl | rfl
    · rfl
    · rfl
    · refine same_map (by omega) fun s _ => ?_
      refine same_lit (by simp) fun x hx => ?_
      simp at hx
      rcases hx with rfl | rfl <;> rfl
theorem word_okS (ts : List Tel) (t : Tel) : strOkP (word ts t) = true := by
  unfold word
  split
  · decide +kernel
  · split <;> decide +kernel
theorem paper_ok {sc : List Str} {us : List Tel} (b : Bk sc us) (sk : ∀ t ∈ us, SOk t) : ShOk (paperN us) (paperR us) := by
  have bl := b.len
  have bn := b.nl
  obtain ⟨P, R, J⟩ := b.rows
  have ndT : ((tieRows us).map Tel.name).Nodup := ((tieRows_sublist us).map Tel.name).nodup (((sort_perm us).map Tel.name).nodup_iff.mpr b.nd)
  refine ⟨fun x hx => ?_, fun r hr => ?_, ?_, ?_⟩
  · unfold paperN at hx
    obtain ⟨t, ht, rfl⟩ := List.mem_map.mp hx
    exact (sk t (tieRows_mem ht)).name
  · unfold paperR at hr
    obtain ⟨t, ht, rfl⟩ := List.mem_map.mp hr
    have tin : t ∈ us := (sort_perm us).mem_iff.mp (List.mem_filter.mp ht).1
    obtain ⟨vs, w⟩ := roadT_path (J t tin)
    refine ⟨(sk t tin).name, word_okS us t, fun s hs => ?_, ?_⟩
    · have := (w.used ndT).2.2 s.1 (List.mem_map.mpr ⟨s, hs, rfl⟩)
      obtain ⟨u, hu, eu⟩ := List.mem_map.mp this
      rw [← eu]
      exact (sk u (tieRows_mem hu)).name
    · have := w.short (b.ok t tin).st (ends_sub b)
      show (roadT us t).length ≤ 26
      omega
  · unfold paperN
    rw [List.length_map]
    have := (tieRows_sublist us).length_le
    rw [sort_len] at this
    omega
  · unfold paperR
    rw [List.length_map]
    have := List.length_filter_le (notTie us) (sortTel us)
    rw [sort_len] at this
    omega
end Sb
set_option Elab.async false
set_option linter.all false
set_option maxRecDepth 100000
set_option maxHeartbeats 4000000
namespace Sb
open PySem
def xNoBottom (t : Int) : Exn := ⟨"NoBottom", ["top"], [.int t]⟩
section
variable {tbl : Nat → Fn}
theorem over_ex (h19 : tbl 19 = F_over_of) {k : Nat} {h : PH} (q : Rat) : call tbl (k + 1) 19 [fq q, .tup [.int 0, .int 1]] h = .ex (xNoBottom q.num) h := by
  rw [call_succ, h19]
  simp only [runFn, F_over_of, startP, List.length, List.map, List.replicate, List.cons_append, List.nil_append]
  rw [if_pos trivial]
  have e : idxop (.tup [.int 0, .int 1]) (.int 0) h = .ok (.int 0) h := rfl
  simp [exSs, exS, evT, asB, fin, truthy, RS.toR, e, fq0]
  rfl
theorem below_eq (h76 : tbl 76 = F_is_below) {k : Nat} {h : PH} {a b : Rat} (ha : Qs 200 a) (hb : Qs 200 b) : call tbl (k + 1) 76 [fq a, fq b] h = .ok (.bl (decide (a.num * (b.den : Nat) < b.num * (a.den : Nat)))) h := by
  apply R.Sat.eq
  rw [call_succ, h76]
  refine fn_sat rfl ?_
  simp only [F_is_below, startP, List.map, List.length, List.replicate, List.cons_append, List.nil_append]
  have ha1 := ha.num
  have ha2 := ha.den
  have hb1 := hb.num
  have hb2 := hb.den
  have m1 : mulOk a.num (b.den : Nat) = true := mul_ok (a := 200) (b := 200) ha1 (by simpa using hb2) (by decide) (by decide) (by decide)
  have m2 : mulOk b.num (a.den : Nat) = true := mul_ok (a := 200) (b := 200) hb1 (by simpa using ha2) (by decide) (by decide) (by decide)
  simp [fq0, fq1, b_mul m1, b_mul m2]
end
end Sb
set_option Elab.async false
set_option linter.all false
set_option maxRecDepth 100000
set_option maxHeartbeats 4000000
namespace Sb
open PySem
theorem g_callk {C : Calls} {t : Bool} {ρ : Env} {h : PH} (f : Nat) (es : List E) (ix : List Nat) (ds : List PV) : evG C (.callk f es ix ds) t ρ h = fin t ((evGs C es ρ h).bind fun l h1 => match mapO (fun i => l[i]?) ix with | some l' => C f (l' ++ ds) h1 | none => .no) := by
  first | (rw [evG]; done) | (rw [evG]; rfl)
theorem x_forTwo {C : Calls} {tg : List Nat} {one : TgK} {k : ITK} {its : List E} {ss : List S} {ρ ρ1 : Env} {h h1 : PH} {N : Env → PH → Prop} {T : PV → PH → Prop} {l : List PV} {x y : PV} (e1 : evGs C its ρ h = .ok l h1) (e2 : walkF k l h1 = some ([x, y], [])) (b1 : setTg ρ tg one x = some ρ1)
    (s : (exSs C ss ρ1 h1).Sat (fun ρ2 h2 => ∃ ρ3, setTg ρ2 tg one y = some ρ3 ∧ (exSs C ss ρ3 h2).Sat N T) T) : (exS C (.fr tg one k its ss) ρ h).Sat N T := by
  refine x_forE e1 e2 (fun i ρ' g => match i with | 0 => ρ' = ρ ∧ g = h1 | 1 => (∃ ρ3, setTg ρ' tg one y = some ρ3 ∧ (exSs C ss ρ3 g).Sat N T) | _ => N ρ' g) ⟨rfl, rfl⟩ ?_ ?_
  · intro i z ρ' g hz hi
    match i, hz, hi with
    | 0, hz, hi =>
      obtain ⟨rfl, rfl⟩ := hi
      cases hz
      exact ⟨stays_nil _, ρ1, b1, s⟩
    | 1, hz, hi =>
      cases hz
      obtain ⟨ρ3, e3, s3⟩ := hi
      exact ⟨stays_nil _, ρ3, e3, s3⟩
    | n + 2, hz, hi => cases hz
  · intro ρ' g hi
    exact ⟨stays_nil _, hi⟩
theorem coldVs_app : ∀ (l k : List PV), coldVs (l ++ k) = (coldVs l && coldVs k)
  | [], k => by simp [coldVs]
  | a :: l, k => by simp [coldVs, coldVs_app l k, Bool.and_assoc]
/-- two things that are alike in every heap -/
def Alike (u v : PV) : Prop := ∀ h : PH, sameP h 5 v u
theorem alike_fq (q : Rat) : Alike (fq q) (fq q) := fun h => same_fq (d := 4) q
theorem alike_mq (a b : Rat) : Alike (mq a b) (mq a b) := fun h => same_mq (d := 3) a b
theorem alike_bl (b : Bool) : Alike (.bl b) (.bl b) := fun h => rfl
section
variable {tbl : Nat → Fn} {h : PH} {k B : Nat} {L : List (Nat × PO)}
theorem number2_sat (td : TD tbl) (h139 : tbl 139 = F_law_number_2) (K : Kw h B L) (hB : B + 8 ≤ 2 ^ 20) {Q : PV → PH → Prop} (q : ∀ r h', Qs 40 r → Kw h' (B + 8) L → h.length ≤ h'.length → Q (fq r) h') : (call tbl (k + 3) 139 [.ref 2] h).Sat Q := by
  rw [call_succ, h139]
  refine fn_sat rfl ?_
  simp only [F_law_number_2, startP, List.map, List.length, List.replicate, List.cons_append, List.nil_append]
  have p1 : powOk 10 11 = true := by decide
  simp [alloc_small, b_pow, p1]
  refine klit td (k := k) K hB (by rfl) (by simp) (by simp) fun x h' hx K' hl => ?_
  obtain ⟨r, rfl, hr⟩ : ∃ r : Rat, x = fq r ∧ Qs 40 r := by
    simp at hx
    rcases hx with rfl | rfl | rfl | rfl | rfl | rfl | rfl
    · exact ⟨⟨0, 1, by decide, by decide⟩, rfl, ⟨by decide, by decide⟩⟩
    · exact ⟨⟨5, 1, by decide, by decide⟩, rfl, ⟨by decide, by decide⟩⟩
    · exact ⟨⟨-3, 4, by decide, by decide⟩, rfl, ⟨by decide, by decide⟩⟩
    · exact ⟨⟨1, 2, by decide, by decide⟩, rfl, ⟨by decide, by decide⟩⟩
    · exact ⟨⟨7, 3, by decide, by decide⟩, rfl, ⟨by decide, by decide⟩⟩
    · exact ⟨⟨-1, 1, by decide, by decide⟩, rfl, ⟨by decide, by decide⟩⟩
    · exact ⟨⟨100000000000, 7, by decide, by decide +kernel⟩, rfl, ⟨by decide +kernel, by decide⟩⟩
  exact q r h' hr K' (by omega)
theorem lead_sat (td : TD tbl) (h139 : tbl 139 = F_law_number_2) (h140 : tbl 140 = F_law_lead) (K : Kw h B L) (hB : B + 16 ≤ 2 ^ 20) {Q : PV → PH → Prop} (q : ∀ a b h', a ≠ 0 → Qs 40 a → Qs 40 b → Kw h' (B + 16) L → h.length ≤ h'.length → Q (mq a b) h') : (call tbl (k + 4) 140 [.ref 2] h).Sat Q := by
  rw [call_succ, h140]
  refine fn_sat rfl ?_
  simp only [F_law_lead, startP, List.map, List.length, List.replicate, List.cons_append, List.nil_append]
  simp [alloc_small]
  refine klit td (k := k + 1) K (by omega) (by rfl) (by simp) (by simp) fun x h' hx K' hl => ?_
  obtain ⟨r, rfl, hr, r0⟩ : ∃ r : Rat, x = fq r ∧ Qs 40 r ∧ r ≠ 0 := by
    simp at hx
    rcases hx with rfl | rfl | rfl | rfl
    · exact ⟨⟨2, 1, by decide, by decide⟩, rfl, ⟨by decide, by decide⟩, by decide⟩
    · exact ⟨⟨-3, 4, by decide, by decide⟩, rfl, ⟨by decide, by decide⟩, by decide⟩
    · exact ⟨⟨1, 2, by decide, by decide⟩, rfl, ⟨by decide, by decide⟩, by decide⟩
    · exact ⟨⟨1, 1, by decide, by decide⟩, rfl, ⟨by decide, by decide⟩, by decide⟩
  try simp
  refine number2_sat (k := k) td h139 K' (by omega) fun b h2 hb K2 hl2 => ?_
  try simp
  exact q r b h2 r0 hr hb (K2.up (by omega)) (by omega)
/-- one thing, asked twice -/
theorem quot_sat (tm : TM tbl) (h168 : tbl 168 = F_law_quotients) {a b : Rat} (ha : Qs 40 a) (hb : Qs 40 b) {Q : PV → PH → Prop} (q : ∀ m x h', h'[m]? = some (.lst [x, x]) → Alike x x → Fr [] h h' → h.length ≤ m → Q (.ref m) h') : (call tbl (k + 5) 168 [fq a, fq b] h).Sat Q := by
  rw [call_succ, h168]
  refine fn_sat rfl ?_
  simp only [F_law_quotients, startP, List.map, List.length, List.replicate, List.cons_append, List.nil_append]
  rw [x_cons]
  simp [alloc_small]
  have f1 : Fr [] h (h ++ [PO.lst []]) := Fr.app
  have a1 : (h ++ [PO.lst []])[h.length]? = some (.lst []) := by simp
  generalize h ++ [PO.lst []] = h1 at f1 a1
  rw [x_cons]
  by_cases bz : b.num = 0
  · have eb : fq b = .tup [.int 0, .int 1] := by
      have : b = 0 := Rat.num_eq_zero.mp bz
      rw [this]
      rfl
    have ex : ∀ g, call tbl (k + 4) 19 [fq a, fq b] g = .ex (xNoBottom a.num) g := fun g => by rw [eb]; exact over_ex tm.h19 (k := k + 3) a
    have st : ∀ (l : List PV) (g : PH) (v3 : Bool), g[h.length]? = some (.lst l) → coldVs l = true → l.length ≤ 5 → (exSs (call tbl (k + 4)) [.tryH [.ex (.mth .append (.var 2) [(.ite (.var 3) (.callk 19 [(.var 1), (.var 0)] [1, 0] []) (.call 19 [(.var 0), (.var 1)] []))])] ["NoBottom", "NoTelling", "NotJoined"] [.hd "NoBottom" (some 4) [.ex (.mth .append (.var 2) [(.tup [(.lit (.str "none")), (.xat (.var 4) "top" "NoBottom")])])]]]
        [some (fq a), some (fq b), some (.ref h.length), some (.bl v3), none] g).Sat (fun ρ2 g2 => ρ2 = [some (fq a), some (fq b), some (.ref h.length), some (.bl v3), none] ∧ g2 = g.set h.length (.lst (l ++ [.tup [.str "none", .int a.num]]))) (fun _ _ => False) := by
      intro l g v3 eg cl ll
      simp only [x_one]
      refine x_tryH_ex (x := xNoBottom a.num) (ρ1 := [some (fq a), some (fq b), some (.ref h.length), some (.bl v3), none]) (h1 := g) (by cases v3 <;> simp [exSs, exS, ty_ref eg, MT.ty, ex, g_callk, mapO, asB, evT, truthy, fin, RS.toR]) (by simp [xNoBottom]) ?_
      refine exH_hit (show hitX "NoBottom" "NoBottom" = true by decide +kernel) ?_
      have ap := mt_append (v := .tup [.str "none", .int a.num]) eg (by omega)
      simp [setO, xNoBottom, xatop, ty_ref eg, MT.ty, ap]
      refine ⟨fun n p e => .inl ?_, fun n o e => ?_⟩
      · exact e
      · by_cases z : n = h.length
        · subst z
          rw [set_at eg] at e
          cases e
          right
          simp [coldO, coldVs_app, cl, coldVs, coldV]
        · left
          rw [set_ne' (by omega)] at e
          exact e
    refine x_forTwo (l := [.tup [.bl false, .bl true]]) (h1 := h1) (x := .bl false) (y := .bl true) (by simp) rfl rfl ?_
    refine (st [] h1 false a1 rfl (by simp)).imp (fun ρ2 g2 z => ?_) (fun _ _ z => z.elim)
    obtain ⟨rfl, rfl⟩ := z
    refine ⟨_, rfl, ?_⟩
    have a2 : (h1.set h.length (.lst ([] ++ [.tup [.str "none", .int a.num]])))[h.length]? = some (.lst [.tup [.str "none", .int a.num]]) := by rw [set_at a1]; rfl
    refine (st _ _ true a2 rfl (by simp)).imp (fun ρ2 g2 z => ?_) (fun _ _ z => z.elim)
    obtain ⟨rfl, rfl⟩ := z
    simp
    refine q _ (.tup [.str "none", .int a.num]) _ (by rw [set_at a1]) (fun g => ?_) (f1.setNew (Nat.le_refl _)) (Nat.le_refl _)
    exact same_lit (by simp) fun x hx => by
      simp at hx
      rcases hx with rfl | rfl <;> rfl
  · have ok : ∀ g, call tbl (k + 4) 19 [fq a, fq b] g = .ok (fq (a / b)) g := fun g => over_eq (k := k + 1) tm.h0 tm.h15 tm.h19 ha hb bz (by decide)
    refine x_forTwo (l := [.tup [.bl false, .bl true]]) (h1 := h1) (x := .bl false) (y := .bl true) (by simp) rfl rfl ?_
    simp only [x_one]
    refine x_tryH_ok ?_
    have ap := mt_append (v := fq (a / b)) a1 (by simp)
    simp [ty_ref a1, MT.ty, ok, ap, truthy]
    refine ⟨_, rfl, ?_⟩
    refine x_tryH_ok ?_
    have a2 : (h1.set h.length (.lst ([] ++ [fq (a / b)])))[h.length]? = some (.lst [fq (a / b)]) := by rw [set_at a1]; rfl
    have ap2 := mt_append (v := fq (a / b)) a2 (by simp)
    simp at a2 ap2
    simp [ty_ref a2, MT.ty, g_callk, mapO, ok, ap2, truthy]
    refine q _ (fq (a / b)) _ (by rw [set_at a1]) (alike_fq _) (f1.setNew (Nat.le_refl _)) (Nat.le_refl _)
end
abbrev ch1 (c : Nat) : Str := ⟨#[c]⟩
abbrev SC : List Str := (List.range 4).map fun i => ch1 (112 + i)
theorem idx_let {g : PH} {x : Str} {c n : Nat} (e : tlS x = (List.range n).map (c + ·)) (hn : n ≤ 100) {r : Int} (r0 : 0 ≤ r) (r1 : r < (n : Nat)) : idxop (.str x) (.int r) g = .ok (.str (ch1 (c + r.toNat))) g :=
  idx_str (by rw [e]; simp; omega) (at_pos r0 (by rw [e, List.getElem?_map, List.getElem?_range (by omega)]; rfl))
theorem ok_ch1 {c : Nat} (h : c < 0x110000) : strOkP (ch1 c) = true := by
  unfold strOkP
  simp
  exact h
theorem b_addT {h : PH} {l k : List PV} (hl : l.length + k.length ≤ 1000) : binop .Add (.tup l) (.tup k) h = .ok (.tup (l ++ k)) h := by
  simp [binop, lineOk]
  omega
section
variable {tbl : Nat → Fn} {h : PH} {k B : Nat} {L : List (Nat × PO)}
theorem rows_sat (td : TD tbl) (h139 : tbl 139 = F_law_number_2) (h140 : tbl 140 = F_law_lead) (h141 : tbl 141 = F_law_rows) (K : Kw h B L) (hB : B + 500 ≤ 2 ^ 20) {Q : PV → PH → Prop}
    (q : ∀ n us h', Kw h' (B + 500) ((n, .lst (us.map Tel.pv)) :: L) → h.length ≤ n → 0 < us.length → us.length ≤ 8 → Bk SC us → (∀ t ∈ us, SOk t) → Q (.ref n) h') : (call tbl (k + 5) 141 [.ref 2] h).Sat Q := by
  rw [call_succ, h141]
  refine fn_sat rfl ?_
  simp only [F_law_rows, startP, List.map, List.length, List.replicate, List.cons_append, List.nil_append]
  rw [x_cons]
  simp [alloc_small]
  have K1 := K.push (.lst [])
  obtain ⟨n1, hn1⟩ : ∃ n1, n1 = h.length := ⟨_, rfl⟩
  rw [← hn1] at K1 ⊢
  generalize h ++ [PO.lst []] = h1 at K1
  rw [x_cons]
  obtain ⟨d, h2, ed, d0, d1, K2⟩ : ∃ (d : Int) (h2 : PH), call tbl (k + 4) 6 [.ref 2, .int 8] h1 = .ok (.int d) h2 ∧ 0 ≤ d ∧ d < 8 ∧ Kw h2 (B + 8) ((n1, .lst []) :: L) := by
    obtain ⟨_, h2, e, d, rfl, a, b, c⟩ := (kdraw td (k := k + 2) K1 (by omega) (by omega) (by omega) (Q := fun v h' => ∃ d, v = .int d ∧ 0 ≤ d ∧ d < 8 ∧ Kw h' (B + 8) ((n1, .lst []) :: L)) fun r h' a b c _ _ => ⟨r, rfl, a, b, c⟩).ex
    exact ⟨d, h2, e, a, b, c⟩
  have e3 : tlS "pqr" = (List.range 3).map (112 + ·) := by decide +kernel
  have e8 : tlS "abcdefgh" = (List.range 8).map (97 + ·) := by decide +kernel
  have rr : walkF .range [.int (1 + d)] h2 = some (rangeP (1 + d), []) := by
    show (if _ then _ else _) = _
    rw [if_pos (by constructor <;> omega)]
  obtain ⟨I, hI⟩ : ∃ I : Nat → Env → PH → Prop, I = fun i ρ g => ∃ (o2 o3 : Option PV) (us : List Tel), ρ = [some (.ref 2), some (.ref n1), o2, o3] ∧ us.map Tel.name = (List.range i).map (fun j => ch1 (97 + j)) ∧ (∀ t ∈ us, TelW SC t ∧ SOk t) ∧ Kw g (B + 8 + 48 * i) ((n1, .lst (us.map Tel.pv)) :: L) := ⟨_, rfl⟩
  have rl : (rangeP (1 + d)).length = (1 + d).toNat := by simp [rangeP]
  refine x_forE (l := [.int (1 + d)]) (h1 := h2) (by simp [ed]) rr I (by rw [hI]; exact ⟨none, none, [], rfl, rfl, by simp, K2⟩) ?_ ?_
  · intro i z ρ g hz hi
    rw [hI] at hi
    obtain ⟨o2, o3, us, rfl, un, uo, Kg⟩ := hi
    have i8 : i < 8 := by
      have := (List.getElem?_eq_some_iff.mp hz).1
      omega
    have ul : us.length = i := by
      have := congrArg List.length un
      simpa using this
    have ez : z = .int (i : Nat) := by
      unfold rangeP at hz
      rw [List.getElem?_map] at hz
      obtain ⟨a, ha, rfl⟩ := Option.map_eq_some_iff.mp hz
      have := (List.getElem?_eq_some_iff.mp ha).2
      simp at this
      rw [this]
    subst ez
    refine ⟨stays_nil _, _, rfl, ?_⟩
    simp only [List.set]
    rw [x_cons]
    simp
    refine kdraw td (k := k + 2) Kg (by omega) (by omega) (by omega) fun r1 g1 r10 r11 Kg1 _ _ => ?_
    simp [idx_let e3 (by decide) r10 r11]
    refine kdraw td (k := k + 2) Kg1 (by omega) (by omega) (by omega) fun r2 g2 r20 r21 Kg2 _ _ => ?_
    simp [idx_let e3 (by decide) r20 r21]
    have x8 := idx_let (g := g2) e8 (by decide) (r := (i : Nat)) (by omega) (by omega)
    simp at x8
    simp [ty_ref (Kg2.get 0), MT.ty, x8, b_addT]
    refine lead_sat (k := k) td h139 h140 Kg2 (by omega) fun a b g3 a0 qa qb Kg3 _ => ?_
    refine kdraw td (k := k + 2) Kg3 (by omega) (by omega) (by omega) fun tr g4 t0 t1 Kg4 _ _ => ?_
    try simp [b_addT]
    rw [mt_append (Kg4.get 0) (by simp; omega)]
    simp
    rw [hI]
    have Kg5 := Kg4.set0 (.lst (us.map Tel.pv ++ [.tup [.str (ch1 (97 + i)), .str (ch1 (112 + r1.toNat)), .str (ch1 (112 + r2.toNat)), mq a b, .int tr]]))
    have wm : ∀ r : Int, 0 ≤ r → r < 3 → ch1 (112 + r.toNat) ∈ SC := fun r h0 h1 => List.mem_map.mpr ⟨r.toNat, by simp; omega, rfl⟩
    refine ⟨_, _, us ++ [⟨ch1 (97 + i), ch1 (112 + r1.toNat), ch1 (112 + r2.toNat), a, b, tr⟩], rfl, by rw [List.map_append, un, List.range_succ, List.map_append]; rfl, fun t ht => ?_, ?_⟩
    · rcases List.mem_append.mp ht with z | z
      · exact uo t z
      · rw [List.mem_singleton.mp z]
        exact ⟨⟨wm r1 r10 r11, wm r2 r20 r21, a0, qa, qb.mono (by decide), t0⟩, ⟨ok_ch1 (by omega), ok_ch1 (by omega), ok_ch1 (by omega)⟩⟩
    · have := Kg5.up (B' := B + 8 + 48 * (i + 1)) (by omega)
      simpa [Tel.pv] using this
  · intro ρ g hi
    rw [hI, rl] at hi
    obtain ⟨o2, o3, us, rfl, un, uo, Kg⟩ := hi
    refine ⟨stays_nil _, ?_⟩
    simp
    have ul : us.length = (1 + d).toNat := by
      have := congrArg List.length un
      simpa using this
    refine q _ us g (Kg.up (by omega)) (by omega) (by omega) (by omega) ⟨?_, fun t ht => (uo t ht).1, by omega, by decide⟩ fun t ht => (uo t ht).2
    rw [un]
    exact List.Pairwise.map _ (fun a b hab z => hab (by
      have : (97 + a) = (97 + b) := by
        have z1 := congrArg (fun s : Str => s.cps) z
        simpa using z1
      omega)) List.nodup_range
end
end Sb
set_option Elab.async false
set_option linter.all false
set_option maxRecDepth 100000
set_option maxHeartbeats 4000000
namespace Sb
open PySem
def PairA (x : PV) : Prop := ∃ u v, x = .tup [u, v] ∧ Alike u v
theorem boolsOf_map : ∀ bs : List Bool, boolsOf (bs.map PV.bl) = some bs
  | [] => rfl
  | b :: bs => by simp [boolsOf, boolsOf_map bs]
theorem all_bl {h : PH} {n : Nat} {bs : List Bool} (e : h[n]? = some (.lst (bs.map PV.bl))) : biF .all [.ref n] h = .ok (.bl (bs.all id)) h := by
  simp [biF, biAll, listOf, e, boolsOf_map]
section
variable {C : Calls} {ρ : Env} {g : PH} {N : Env → PH → Prop} {T : PV → PH → Prop} {i n5 : Nat} {ps : List PV} {e1 e2 : E}
theorem x_pair (hv : ρ.get i = some (.ref n5)) (eg : g[n5]? = some (.lst ps)) (pl : ps.length ≤ 100) (s : (evG C e1 false ρ g).Sat fun u g1 => (evG C e2 false ρ g1).Sat fun v g2 => Fr [] g g2 ∧ N ρ (g2.set n5 (.lst (ps ++ [.tup [u, v]])))) : (exS C (.ex (.mth .append (.var i) [.tup [e1, e2]])) ρ g).Sat N T := by
  simp [hv, ty_ref eg, MT.ty]
  refine s.imp fun u g1 s1 => s1.imp fun v g2 ⟨f, q⟩ => ?_
  rw [mt_append (f.some (by simp) eg) (by omega)]
  exact q
end
theorem x_step {C : Calls} {ss : List S} {ρ : Env} {g : PH} {N : Env → PH → Prop} {T : PV → PH → Prop} {i n5 B : Nat} {L : List (Nat × PO)} {ps : List PV} {e1 e2 : E} (u v : PV) (hv : ρ.get i = some (.ref n5)) (K : Kw g B ((n5, .lst ps) :: L)) (P : ∀ x ∈ ps, PairA x) (pl : ps.length ≤ 100) (al : Alike u v)
    (s : (evG C e1 false ρ g).Sat fun u' g1 => u' = u ∧ Fr [] g g1 ∧ (evG C e2 false ρ g1).Sat fun v' g2 => v' = v ∧ Fr [] g1 g2) (q : ∀ ps' g', Kw g' B ((n5, .lst ps') :: L) → (∀ x ∈ ps', PairA x) → ps'.length = ps.length + 1 → (exSs C ss ρ g').Sat N T) : (exSs C (.ex (.mth .append (.var i) [.tup [e1, e2]]) :: ss) ρ g).Sat N T := by
  rw [x_cons]
  refine x_pair hv (K.get 0) pl (s.imp fun u' g1 ⟨eu, f1, s1⟩ => s1.imp fun v' g2 ⟨ev, f2⟩ => ⟨f1.trans f2, ?_⟩)
  subst eu ev
  refine q _ _ ((K.fr (f1.trans f2)).set0 _) (fun x hx => ?_) (by simp)
  rcases List.mem_append.mp hx with z | z
  · exact P x z
  · rw [List.mem_singleton.mp z]
    exact ⟨_, _, rfl, al⟩
structure T21 (tbl : Nat → Fn) : Prop where
  h76 : tbl 76 = F_is_below
  h91 : tbl 91 = F_law_whole
  h137 : tbl 137 = F_is_fraction
  h138 : tbl 138 = F_is_move
  h139 : tbl 139 = F_law_number_2
  h140 : tbl 140 = F_law_lead
  h141 : tbl 141 = F_law_rows
  h168 : tbl 168 = F_law_quotients
  h169 : tbl 169 = F_law_fractions
section
variable {tbl : Nat → Fn} {h : PH} {k B : Nat} {L : List (Nat × PO)}
theorem whole_eq (h91 : tbl 91 = F_law_whole) (i : Int) : call tbl (k + 1) 91 [.int i] h = .ok (.bl true) h := by
  have q : (call tbl (k + 1) 91 [.int i] h).Sat fun v h' => v = .bl true ∧ h' = h := by
    rw [call_succ, h91]
    refine fn_sat rfl ?_
    simp only [F_law_whole, startP, List.map, List.length, List.replicate, List.cons_append, List.nil_append]
    have i1 : biF .isinst [.int i, .ty .int] h = .ok (.bl true) h := rfl
    have i2 : biF .isinst [.int i, .ty .bool] h = .ok (.bl false) h := rfl
    simp [i1, i2]
  obtain ⟨v, h', e, rfl, rfl⟩ := q.ex
  exact e
theorem frac_yes (h0 : tbl 0 = F_common) (T : T21 tbl) (a : Rat) {Q : PV → PH → Prop} (q : ∀ h', Fr [] h h' → Q (.bl true) h') : (call tbl (k + 2) 137 [fq a] h).Sat Q := by
  rw [call_succ, T.h137]
  refine fn_sat rfl ?_
  simp only [F_is_fraction, startP, List.map, List.length, List.replicate, List.cons_append, List.nil_append]
  have i1 : biF .isinst [fq a, .ty .tuple] h = .ok (.bl true) h := rfl
  have i2 : biF .len [fq a] h = .ok (.int 2) h := rfl
  rw [x_cons]
  simp [i1, i2]
  refine v_filt [a.num, (a.den : Nat)] PV.int (fun _ => .bl true) (fun _ => true) (l := [fq a]) (h1 := h) (by simp) (show walkF .seq [fq a] h = some (_, []) from rfl) (stays_nil _) (by simp) (fun s hs => ⟨_, rfl, by simp [evGc], fun _ => by simp [wipeP, whole_eq T.h91]⟩) ?_
  rw [filter_true]
  have e : (h ++ [PO.lst ([a.num, (a.den : Nat)].map fun _ => .bl true)])[h.length]? = some (.lst ([a.num, ((a.den : Nat) : Int)].map fun _ => .bl true)) := by simp
  have f : Fr [] h (h ++ [PO.lst ([a.num, ((a.den : Nat) : Int)].map fun _ => .bl true)]) := Fr.app
  generalize h ++ [PO.lst ([a.num, ((a.den : Nat) : Int)].map fun _ => .bl true)] = h1 at e f
  rw [all_trues e]
  have x0 : ∀ g, idxop (fq a) (.int 0) g = .ok (.int a.num) g := fun g => idx_tup rfl
  have x1 : ∀ g, idxop (fq a) (.int 1) g = .ok (.int (a.den : Nat)) g := fun g => idx_tup rfl
  have dp : (0 : Int) < (a.den : Nat) := by have := a.den_pos; omega
  have gc : Int.gcd a.num (a.den : Nat) = 1 := a.reduced
  have dp' : 0 < a.den := a.den_pos
  simp [x0, x1, dp, dp', common_eq h0, gc]
  exact q _ f
theorem frac_no (T : T21 tbl) (i : Int) : call tbl (k + 2) 137 [.int i] h = .ok (.bl false) h := by
  have q : (call tbl (k + 2) 137 [.int i] h).Sat fun v h' => v = .bl false ∧ h' = h := by
    rw [call_succ, T.h137]
    refine fn_sat rfl ?_
    simp only [F_is_fraction, startP, List.map, List.length, List.replicate, List.cons_append, List.nil_append]
    have i1 : biF .isinst [.int i, .ty .tuple] h = .ok (.bl false) h := rfl
    rw [x_cons]
    simp [i1]
  obtain ⟨v, h', e, rfl, rfl⟩ := q.ex
  exact e
theorem move_yes (h0 : tbl 0 = F_common) (T : T21 tbl) {a b : Rat} (a0 : a ≠ 0) {Q : PV → PH → Prop} (q : ∀ h', Fr [] h h' → Q (.bl true) h') : (call tbl (k + 3) 138 [mq a b] h).Sat Q := by
  rw [call_succ, T.h138]
  refine fn_sat rfl ?_
  simp only [F_is_move, startP, List.map, List.length, List.replicate, List.cons_append, List.nil_append]
  have i1 : biF .isinst [mq a b, .ty .tuple] h = .ok (.bl true) h := rfl
  have i2 : biF .len [mq a b] h = .ok (.int 2) h := rfl
  rw [x_cons]
  simp [i1, i2]
  refine v_filtF [a, b] fq (fun _ => .bl true) (fun _ => true) (l := [mq a b]) (h1 := h) (by simp) (show walkF .seq [mq a b] h = some (_, []) from rfl) (fun _ _ => stays_nil _) (by simp) (fun s hs => ⟨_, rfl, fun h' f' => ?_⟩) fun h1 f1 => ?_
  · simp [evGc, wipeP]
    refine ⟨Fr.refl _ _, ?_⟩
    exact frac_yes (k := k) h0 T s fun h2 f2 => ⟨rfl, f2⟩
  · rw [filter_true]
    have e : (h1 ++ [PO.lst ([a, b].map fun _ => .bl true)])[h1.length]? = some (.lst ([a, b].map fun _ => .bl true)) := by simp
    have f : Fr [] h (h1 ++ [PO.lst ([a, b].map fun _ => .bl true)]) := f1.appNew
    generalize h1 ++ [PO.lst ([a, b].map fun _ => .bl true)] = h2 at e f
    rw [all_trues e]
    have x0 : ∀ g, idxop (mq a b) (.int 0) g = .ok (fq a) g := fun g => idx_tup rfl
    have ne : cmpop .NotEq (fq a) (.tup [.int 0, .int 1]) h2 = .ok (.bl true) h2 := by
      have z : (a.num = 0) = False := by
        simp
        exact a0
      show ofO ((eqP h2 (fq a) (.tup [.int 0, .int 1])).map fun b => PV.bl (!b)) h2 = _
      simp [fq, eqP, pd, mapO, PyData.eqv, PyData.eqvAll, z]
    simp [x0, ne]
    exact q _ f
theorem move_no (T : T21 tbl) (a : Rat) {Q : PV → PH → Prop} (q : ∀ h', Fr [] h h' → Q (.bl false) h') : (call tbl (k + 3) 138 [fq a] h).Sat Q := by
  rw [call_succ, T.h138]
  refine fn_sat rfl ?_
  simp only [F_is_move, startP, List.map, List.length, List.replicate, List.cons_append, List.nil_append]
  have i1 : biF .isinst [fq a, .ty .tuple] h = .ok (.bl true) h := rfl
  have i2 : biF .len [fq a] h = .ok (.int 2) h := rfl
  rw [x_cons]
  simp [i1, i2]
  refine v_filt [a.num, (a.den : Nat)] PV.int (fun _ => .bl false) (fun _ => true) (l := [fq a]) (h1 := h) (by simp) (show walkF .seq [fq a] h = some (_, []) from rfl) (stays_nil _) (by simp) (fun s hs => ⟨_, rfl, by simp [evGc], fun _ => by simp [wipeP, frac_no T]⟩) ?_
  rw [filter_true]
  have e : (h ++ [PO.lst ([a.num, ((a.den : Nat) : Int)].map fun _ => .bl false)])[h.length]? = some (.lst ([false, false].map PV.bl)) := by simp
  have f : Fr [] h (h ++ [PO.lst ([a.num, ((a.den : Nat) : Int)].map fun _ => .bl false)]) := Fr.app
  generalize h ++ [PO.lst ([a.num, ((a.den : Nat) : Int)].map fun _ => .bl false)] = h1 at e f
  rw [all_bl e]
  simp
  exact q _ f
theorem fractions_sat (tm : TM tbl) (td : TD tbl) (T : T21 tbl) (K : Kw h B L) (hB : B + 100 ≤ 2 ^ 20) {Q : PV → PH → Prop} (q : ∀ n ps h', Kw h' (B + 100) ((n, .lst ps) :: L) → (∀ x ∈ ps, PairA x) → ps.length ≤ 20 → h.length ≤ n → Q (.ref n) h') : (call tbl (k + 8) 169 [.ref 2] h).Sat Q := by
  rw [call_succ, T.h169]
  refine fn_sat rfl ?_
  simp only [F_law_fractions, startP, List.map, List.length, List.replicate, List.cons_append, List.nil_append]
  rw [x_cons]
  simp
  refine number2_sat (k := k + 4) td T.h139 K (by omega) fun a h1 qa K1 l1 => ?_
  refine number2_sat (k := k + 4) td T.h139 K1 (by omega) fun b h2 qb K2 l2 => ?_
  simp [setAll]
  rw [x_cons]
  simp
  refine kdraw td (k := k + 5) K2 (by omega) (by omega) (by omega) fun r1 h3 r10 r11 K3 _ l3 => ?_
  simp
  refine kdraw td (k := k + 5) K3 (by omega) (by omega) (by omega) fun r2 h4 r20 r21 K4 _ l4 => ?_
  simp [setAll]
  have small : (1 + r2).natAbs < 2 ^ 8000 := by
    have h1 : (1 + r2).natAbs < 2 ^ 4 := by omega
    exact Nat.lt_of_lt_of_le h1 (Nat.pow_le_pow_right (by decide) (by decide))
  have f1 : ∀ g, call tbl (k + 7) 15 [.int (r1 - 40), .int (1 + r2)] g = .ok (fq (Rat.divInt (r1 - 40) (1 + r2))) g := fun g => frac_eq (k := k + 5) tm.h0 tm.h15 (by omega) small
  have f2 : ∀ g, call tbl (k + 7) 15 [.int (r1 - 40), .int 1] g = .ok (fq (Rat.divInt (r1 - 40) 1)) g := fun g => frac_eq (k := k + 5) tm.h0 tm.h15 (by omega) (by show 1 < 2 ^ 8000; exact Nat.one_lt_two_pow (by decide))
  rw [x_cons]
  simp [g_callk, mapO, f1, f2, alloc_small]
  have K5 := K4.push (.lst [.tup [fq (Rat.divInt (r1 - 40) (1 + r2)), fq (Rat.divInt (r1 - 40) (1 + r2))], .tup [fq (Rat.divInt (r1 - 40) 1), fq (Rat.divInt (r1 - 40) 1)]])
  have P5 : ∀ x ∈ [PV.tup [fq (Rat.divInt (r1 - 40) (1 + r2)), fq (Rat.divInt (r1 - 40) (1 + r2))], .tup [fq (Rat.divInt (r1 - 40) 1), fq (Rat.divInt (r1 - 40) 1)]], PairA x := fun x hx => by
    simp at hx
    rcases hx with rfl | rfl <;> exact ⟨_, _, rfl, alike_fq _⟩
  obtain ⟨n5, hn5⟩ : ∃ n5, n5 = h4.length := ⟨_, rfl⟩
  rw [← hn5] at K5 ⊢
  have nh : h.length ≤ n5 := by omega
  generalize h4 ++ [PO.lst _] = g at K5
  have P6 := P5
  have ln5 : ([PV.tup [fq (Rat.divInt (r1 - 40) (1 + r2)), fq (Rat.divInt (r1 - 40) (1 + r2))], .tup [fq (Rat.divInt (r1 - 40) 1), fq (Rat.divInt (r1 - 40) 1)]]).length ≤ 2 := by simp
  generalize [PV.tup [fq (Rat.divInt (r1 - 40) (1 + r2)), fq (Rat.divInt (r1 - 40) (1 + r2))], .tup [fq (Rat.divInt (r1 - 40) 1), fq (Rat.divInt (r1 - 40) 1)]] = ps at K5 P6 ln5
  have K5 := K5.up (B' := B + 60) (by omega)
  have q40 : (40 : Nat) ≤ 200 := by decide
  have e16 : ∀ g, call tbl (k + 7) 16 [fq a, fq b] g = .ok (fq (a + b)) g := fun g => plus_eq (k := k + 4) tm.h0 tm.h15 tm.h16 qa qb (by decide)
  have e17 : ∀ g, call tbl (k + 7) 17 [fq a, fq b] g = .ok (fq (a - b)) g := fun g => less_eq (k := k + 4) tm.h0 tm.h15 tm.h17 qa qb (by decide)
  have e18 : ∀ g, call tbl (k + 7) 18 [fq a, fq b] g = .ok (fq (a * b)) g := fun g => times_eq (k := k + 4) tm.h0 tm.h15 tm.h18 qa qb (by decide)
  have e76 : ∀ g, call tbl (k + 7) 76 [fq a, fq b] g = .ok (.bl (decide (a.num * (b.den : Nat) < b.num * (a.den : Nat)))) g := fun g => below_eq (k := k + 6) T.h76 (qa.mono q40) (qb.mono q40)
  refine x_step (fq (Rat.divInt (r1 - 40) 1)) (fq (Rat.divInt (r1 - 40) 1)) rfl K5 P6 (by omega) (alike_fq _) (by simp [f2, g_callk, mapO, Fr.refl]) fun ps1 g1 K1 P1 l1' => ?_
  refine x_step (fq (a + b)) (fq (a + b)) rfl K1 P1 (by omega) (alike_fq _) (by simp [e16, g_callk, mapO, Fr.refl]) fun ps2 g2 K2 P2 l2' => ?_
  refine x_step (fq (a - b)) (fq (a - b)) rfl K2 P2 (by omega) (alike_fq _) (by simp [e17, g_callk, mapO, Fr.refl]) fun ps3 g3 K3 P3 l3' => ?_
  refine x_step (fq (a * b)) (fq (a * b)) rfl K3 P3 (by omega) (alike_fq _) (by simp [e18, g_callk, mapO, Fr.refl]) fun ps4 g4 K4 P4 l4' => ?_
  refine x_step _ _ rfl K4 P4 (by omega) (alike_bl (decide (a.num * (b.den : Nat) < b.num * (a.den : Nat)))) (by simp [e76, g_callk, mapO, Fr.refl]) fun ps5 g5 K5 P5 l5' => ?_
  rw [x_cons]
  simp
  refine quot_sat (k := k + 2) tm T.h168 qa qb fun m6 x6 g6 em ax f6 _ => ?_
  have K6 := K5.fr f6
  have y0 : idxop (.ref m6) (.int 0) g6 = .ok x6 g6 := idx_ref em rfl
  have y1 : idxop (.ref m6) (.int 1) g6 = .ok x6 g6 := idx_ref em rfl
  refine x_step x6 x6 rfl K6 P5 (by omega) ax (by simp [y0, y1, Fr.refl]) fun ps7 g7 K7 P7 l7' => ?_
  rw [x_cons]
  simp
  refine lead_sat (k := k + 3) td T.h139 T.h140 K7 (by omega) fun c d g8 c0 qc qd K8 _ => ?_
  refine lead_sat (k := k + 3) td T.h139 T.h140 K8 (by omega) fun c' d' g9 c0' qc' qd' K9 _ => ?_
  simp [setAll]
  have e21 : ∀ g, call tbl (k + 7) 21 [mq c d, fq a] g = .ok (fq (c * a + d)) g := fun g => read_eq (k := k + 2) tm qc qd qa (by decide)
  have e20 : ∀ g, call tbl (k + 7) 20 [mq c d, fq a] g = .ok (fq (c * a)) g := fun g => stretch_eq (k := k + 3) tm qc qa (by decide)
  have e22 : ∀ g, call tbl (k + 7) 22 [mq c d, mq c' d'] g = .ok (mq (c' * c) (c' * d + d')) g := fun g => then_eq (k := k + 1) tm qc qd qc' qd' (by decide)
  have e23 : ∀ g, call tbl (k + 7) 23 [mq c d] g = .ok (mq (1 / c) ((0 - d) / c)) g := fun g => back_eq (k := k + 3) tm qc qd c0 (by decide)
  refine x_step (.bl true) (.bl true) rfl K9 P7 (by omega) (alike_bl _) (by
    simp
    refine move_yes (k := k + 4) tm.h0 T c0 fun h' f' => ⟨rfl, f', ?_⟩
    simp [g_callk, mapO]
    exact move_yes (k := k + 4) tm.h0 T c0 fun h' f' => ⟨rfl, f'⟩) fun ps10 g10 K10 P10 l10' => ?_
  refine x_step (.bl false) (.bl false) rfl K10 P10 (by omega) (alike_bl _) (by
    simp
    refine move_no (k := k + 4) T a fun h' f' => ⟨rfl, f', ?_⟩
    simp [g_callk, mapO]
    exact move_no (k := k + 4) T a fun h' f' => ⟨rfl, f'⟩) fun ps11 g11 K11 P11 l11' => ?_
  refine x_step (fq (c * a + d)) (fq (c * a + d)) rfl K11 P11 (by omega) (alike_fq _) (by simp [e21, g_callk, mapO, Fr.refl]) fun ps12 g12 K12 P12 l12' => ?_
  refine x_step (fq (c * a)) (fq (c * a)) rfl K12 P12 (by omega) (alike_fq _) (by simp [e20, g_callk, mapO, Fr.refl]) fun ps13 g13 K13 P13 l13' => ?_
  refine x_step _ _ rfl K13 P13 (by omega) (alike_mq (c' * c) (c' * d + d')) (by simp [e22, g_callk, mapO, Fr.refl]) fun ps14 g14 K14 P14 l14' => ?_
  refine x_step _ _ rfl K14 P14 (by omega) (alike_mq (1 / c) ((0 - d) / c)) (by simp [e23, g_callk, mapO, Fr.refl]) fun ps15 g15 K15 P15 l15' => ?_
  simp
  exact q _ ps15 g15 (K15.up (by omega)) P15 (by omega) nh
end
end Sb
set_option Elab.async false
set_option linter.all false
set_option maxRecDepth 100000
set_option maxHeartbeats 4000000
namespace Sb
open PySem
section
variable {tbl : Nat → Fn} {h : PH} {k B : Nat} {L : List (Nat × PO)}
theorem road_of_satF (f : TR tbl) {v : PV} {ts : List Tel} {ns : List Str} (b : Bk ns ts) (e : seqOf h v = some (ts.map Tel.pv)) {s x : Str} (hs : s ∈ ns) (j : Joined (tieRows ts) s x) {Q : PV → PH → Prop}
    (q : ∀ m ch h', h'[m]? = some (.lst (ch.map stPV)) → h.length ≤ m → PathE (tieRows ts) s ch x → ch.length < ns.length → Fr [] h h' → Q (.ref m) h') : (call tbl (k + 4) 43 [v, .str s, .str x] h).Sat Q := by
  rw [call_succ, f.h43]
  refine fn_sat rfl ?_
  simp only [F_road_of, startP, List.map, List.length, List.replicate, List.cons_append, List.nil_append]
  rw [x_cons, x_set]
  simp
  refine tie_rows_sat f.h32 f.h39 (k := k + 1) (v := v) e b.nd b.len fun n h1 e1 nl f1 => ?_
  have tl := tieRows_len ts
  have bl := b.len
  refine road_sat f.h40 f.h41 f.h42 (k := k) e1 (by omega) hs (b.ends fun t => tieRows_mem) (fun _ m ch h2 e2 ml wk cl f2 => ?_) fun nj => absurd j nj
  simp [x_cons, isNonP]
  exact q m ch h2 e2 (Nat.le_trans f1.len ml) wk cl (f1.trans f2)
theorem cool_set {g : PH} {n : Nat} {l : List PV} {v : PV} (eg : g[n]? = some (.lst l)) (cl : coldVs l = true) (cv : coldV v = true) : coolH g (g.set n (.lst (l ++ [v]))) := fun m o e => by
  by_cases z : m = n
  · subst z
    rw [set_at eg] at e
    cases e
    right
    simp [coldO, coldVs_app, cl, coldVs, cv]
  · left
    rw [set_ne' (fun q => z q.symm)] at e
    exact e
theorem rings_sat (tf : TF tbl) (tm : TM tbl) (h51 : tbl 51 = F_named) (h52 : tbl 52 = F_ring_of) (h171 : tbl 171 = F_law_rings) {n : Nat} {us : List Tel} (bk : Bk SC us) (e : h[n]? = some (.lst (us.map Tel.pv))) (lb : Str) {Q : PV → PH → Prop}
    (q : ∀ m x h', h'[m]? = some (.lst [x, x]) → Alike x x → Fr [] h h' → h.length ≤ m → Q (.ref m) h') : (call tbl (k + 11) 171 [.ref n, .str lb] h).Sat Q := by
  rw [call_succ, h171]
  refine fn_sat rfl ?_
  simp only [F_law_rings, startP, List.map, List.length, List.replicate, List.cons_append, List.nil_append]
  rw [x_cons]
  simp [alloc_small]
  have f1 : Fr [] h (h ++ [PO.lst []]) := Fr.app
  have a1 : (h ++ [PO.lst []])[h.length]? = some (.lst []) := by simp
  generalize h ++ [PO.lst []] = h1 at f1 a1
  have nlt := (List.getElem?_eq_some_iff.mp e).1
  have ne : n ≠ h.length := by omega
  rw [x_cons]
  by_cases hin : lb ∈ us.map Tel.name
  · obtain ⟨t, ht, rfl⟩ := List.mem_map.mp hin
    obtain ⟨P, R, J⟩ := bk.rows
    obtain ⟨X, hX⟩ : ∃ X, X = mq (thn2 (t.a, t.b) (rel P t.en t.st)).1 (thn2 (t.a, t.b) (rel P t.en t.st)).2 := ⟨_, rfl⟩
    have st : ∀ (l : List PV) (g : PH) (v3 : Bool), g[h.length]? = some (.lst l) → g[n]? = some (.lst (us.map Tel.pv)) → l.length ≤ 5 → (exSs (call tbl (k + 10)) [.tryH [.ex (.mth .append (.var 2) [(.ite (.var 3) (.callk 52 [(.var 1), (.var 0)] [1, 0] []) (.call 52 [(.var 0), (.var 1)] []))])] ["NoBottom", "NoTelling", "NotJoined"] [.hd "NoTelling" (some 4) [.ex (.mth .append (.var 2) [(.tup [(.lit (.str "none")), (.xat (.var 4) "name" "NoTelling")])])]]]
        [some (.ref n), some (.str t.name), some (.ref h.length), some (.bl v3), none] g).Sat (fun ρ2 g2 => ρ2 = [some (.ref n), some (.str t.name), some (.ref h.length), some (.bl v3), none] ∧ ∃ g1, Fr [] g g1 ∧ g2 = g1.set h.length (.lst (l ++ [X]))) (fun _ _ => False) := by
      intro l g v3 eg en ll
      simp only [x_one]
      refine x_tryH_ok ?_
      cases v3
      · simp [ty_ref eg, MT.ty, truthy]
        refine ring_of_sat (k := k + 1) tf tm h51 h52 bk (seqR en) R ht fun g1 f1 => ?_
        rw [← hX, mt_append (f1.some (by simp) eg) (by omega)]
        exact ⟨g1, f1, rfl⟩
      · simp [ty_ref eg, MT.ty, truthy, g_callk, mapO]
        refine ring_of_sat (k := k + 1) tf tm h51 h52 bk (seqR en) R ht fun g1 f1 => ?_
        rw [← hX, mt_append (f1.some (by simp) eg) (by omega)]
        exact ⟨g1, f1, rfl⟩
    refine x_forTwo (l := [.tup [.bl false, .bl true]]) (h1 := h1) (x := .bl false) (y := .bl true) (by simp) rfl rfl ?_
    refine (st [] h1 false a1 (f1.some (by simp) e) (by simp)).imp (fun ρ2 g2 z => ?_) (fun _ _ z => z.elim)
    obtain ⟨rfl, g1, fg1, rfl⟩ := z
    refine ⟨_, rfl, ?_⟩
    have b1 := fg1.some (by simp) a1
    have a2 : (g1.set h.length (.lst ([] ++ [X])))[h.length]? = some (.lst [X]) := by rw [set_at b1]; rfl
    have e2 : (g1.set h.length (.lst ([] ++ [X])))[n]? = some (.lst (us.map Tel.pv)) := by rw [set_ne' (by omega)]; exact (f1.trans fg1).some (by simp) e
    have F2 : Fr [] h (g1.set h.length (.lst ([] ++ [X]))) := (f1.trans fg1).setNew (Nat.le_refl _)
    generalize g1.set h.length (.lst ([] ++ [X])) = g2 at a2 e2 F2
    refine (st _ _ true a2 e2 (by simp)).imp (fun ρ2 g3 z => ?_) (fun _ _ z => z.elim)
    obtain ⟨rfl, g3, fg3, rfl⟩ := z
    simp
    have b3 := fg3.some (by simp) a2
    refine q _ X _ (by rw [set_at b3]; try rfl) (by rw [hX]; exact alike_mq _ _) ((F2.trans fg3).setNew (Nat.le_refl _)) (Nat.le_refl _)
  · have ex : ∀ g, g[n]? = some (.lst (us.map Tel.pv)) → call tbl (k + 10) 52 [.ref n, .str lb] g = .ex (xNoTel lb) g := fun g eg => by
      have e1 := named_no (k := k + 8) h51 (seqR eg) hin
      rw [call_succ, h52]
      simp only [runFn, F_ring_of, startP, List.length, List.map, List.replicate, List.cons_append, List.nil_append]
      rw [if_pos trivial]
      simp [exSs, exS, e1, RS.toR]
    have st : ∀ (l : List PV) (g : PH) (v3 : Bool), g[h.length]? = some (.lst l) → g[n]? = some (.lst (us.map Tel.pv)) → coldVs l = true → l.length ≤ 5 → (exSs (call tbl (k + 10)) [.tryH [.ex (.mth .append (.var 2) [(.ite (.var 3) (.callk 52 [(.var 1), (.var 0)] [1, 0] []) (.call 52 [(.var 0), (.var 1)] []))])] ["NoBottom", "NoTelling", "NotJoined"] [.hd "NoTelling" (some 4) [.ex (.mth .append (.var 2) [(.tup [(.lit (.str "none")), (.xat (.var 4) "name" "NoTelling")])])]]]
        [some (.ref n), some (.str lb), some (.ref h.length), some (.bl v3), none] g).Sat (fun ρ2 g2 => ρ2 = [some (.ref n), some (.str lb), some (.ref h.length), some (.bl v3), none] ∧ g2 = g.set h.length (.lst (l ++ [.tup [.str "none", .str lb]]))) (fun _ _ => False) := by
      intro l g v3 eg en cl ll
      simp only [x_one]
      refine x_tryH_ex (x := xNoTel lb) (ρ1 := [some (.ref n), some (.str lb), some (.ref h.length), some (.bl v3), none]) (h1 := g) (by cases v3 <;> simp [exSs, exS, ty_ref eg, MT.ty, ex g en, g_callk, mapO, asB, evT, truthy, fin, RS.toR]) (by simp [xNoTel]) ?_
      refine exH_hit (show hitX "NoTelling" "NoTelling" = true by decide +kernel) ?_
      have ap := mt_append (v := .tup [.str "none", .str lb]) eg (by omega)
      simp [setO, xNoTel, xatop, ty_ref eg, MT.ty, ap]
      exact ⟨fun n p e => .inl e, cool_set eg cl rfl⟩
    refine x_forTwo (l := [.tup [.bl false, .bl true]]) (h1 := h1) (x := .bl false) (y := .bl true) (by simp) rfl rfl ?_
    refine (st [] h1 false a1 (f1.some (by simp) e) rfl (by simp)).imp (fun ρ2 g2 z => ?_) (fun _ _ z => z.elim)
    obtain ⟨rfl, rfl⟩ := z
    refine ⟨_, rfl, ?_⟩
    have a2 : (h1.set h.length (.lst ([] ++ [.tup [.str "none", .str lb]])))[h.length]? = some (.lst [.tup [.str "none", .str lb]]) := by rw [set_at a1]; rfl
    have e2 : (h1.set h.length (.lst ([] ++ [.tup [.str "none", .str lb]])))[n]? = some (.lst (us.map Tel.pv)) := by rw [set_ne' (by omega)]; exact f1.some (by simp) e
    have F2 : Fr [] h (h1.set h.length (.lst ([] ++ [.tup [.str "none", .str lb]]))) := f1.setNew (Nat.le_refl _)
    generalize h1.set h.length (.lst ([] ++ [.tup [.str "none", .str lb]])) = g2 at a2 e2 F2
    refine (st _ _ true a2 e2 rfl (by simp)).imp (fun ρ2 g3 z => ?_) (fun _ _ z => z.elim)
    obtain ⟨rfl, rfl⟩ := z
    simp
    refine q _ (.tup [.str "none", .str lb]) _ (by rw [set_at a2]; try rfl) (fun g => ?_) (F2.setNew (Nat.le_refl _)) (Nat.le_refl _)
    exact same_lit (by simp) fun x hx => by
      simp at hx
      rcases hx with rfl | rfl <;> rfl
end
end Sb
set_option Elab.async false
set_option linter.all false
set_option maxRecDepth 100000
set_option maxHeartbeats 4000000
namespace Sb
open PySem
section
variable {tbl : Nat → Fn} {h : PH} {k B : Nat} {L : List (Nat × PO)}
theorem same_step {g : PH} {d : Nat} (s : Step) : sameP g (d + 1) (stPV s) (stPV s) := same_lit (by simp) fun x hx => by
  simp at hx
  rcases hx with rfl | rfl
  · cases d <;> rfl
  · cases d <;> rfl
theorem roads2_sat (tf : TF tbl) (tm : TM tbl) (h170 : tbl 170 = F_law_roads) {n : Nat} {us : List Tel} (bk : Bk SC us) (e : h[n]? = some (.lst (us.map Tel.pv))) {s x : Str} (hs : s ∈ SC) {Q : PV → PH → Prop}
    (q : ∀ m u v h', h'[m]? = some (.lst [u, v]) → (∀ S g, (∀ y ∈ S, y < h.length) → Fr S h' g → sameP g 5 v u) → Fr [] h h' → h.length ≤ m → Q (.ref m) h') : (call tbl (k + 10) 170 [.ref n, .str s, .str x] h).Sat Q := by
  rw [call_succ, h170]
  refine fn_sat rfl ?_
  simp only [F_law_roads, startP, List.map, List.length, List.replicate, List.cons_append, List.nil_append]
  rw [x_cons]
  simp [alloc_small]
  have f1 : Fr [] h (h ++ [PO.lst []]) := Fr.app
  have a1 : (h ++ [PO.lst []])[h.length]? = some (.lst []) := by simp
  have l1 : h.length < (h ++ [PO.lst []]).length := by simp
  generalize h ++ [PO.lst []] = h1 at f1 a1 l1
  have nlt := (List.getElem?_eq_some_iff.mp e).1
  rw [x_cons]
  by_cases j : Joined (tieRows us) s x
  · obtain ⟨P, R, J⟩ := bk.rows
    obtain ⟨X, hX⟩ : ∃ X, X = mq (rel P s x).1 (rel P s x).2 := ⟨_, rfl⟩
    have st : ∀ (l : List PV) (g : PH) (v4 : Bool) (o5 : Option PV), g[h.length]? = some (.lst l) → g[n]? = some (.lst (us.map Tel.pv)) → l.length ≤ 5 → (exSs (call tbl (k + 9)) [.tryH [.ifs (.var 4) [.asg (.nm 5) (.callk 43 [(.var 2), (.var 1), (.var 0)] [2, 1, 0] []),
  .ex (.mth .append (.var 3) [(.tup [(.var 5), (.callk 45 [(.var 2), (.var 0), (.var 1)] [1, 2, 0] [])])])] [.ex (.mth .append (.var 3) [(.tup [(.call 43 [(.var 0), (.var 1), (.var 2)] []), (.call 45 [(.var 0), (.var 1), (.var 2)] [])])])]] ["NoBottom", "NoTelling", "NotJoined"] [.hd "NotJoined" (some 6) [.ex (.mth .append (.var 3) [(.tup [(.lit (.str "apart")), (.xat (.var 6) "start" "NotJoined"), (.xat (.var 6) "end" "NotJoined")])])]]]
        [some (.ref n), some (.str s), some (.str x), some (.ref h.length), some (.bl v4), o5, none] g).Sat (fun ρ2 g2 => ∃ o5', ρ2 = [some (.ref n), some (.str s), some (.str x), some (.ref h.length), some (.bl v4), o5', none] ∧ ∃ g1 m ch, Fr [] g g1 ∧ g1[m]? = some (.lst (ch.map stPV)) ∧ g.length ≤ m ∧ PathE (tieRows us) s ch x ∧ ch.length < SC.length ∧ g2 = g1.set h.length (.lst (l ++ [.tup [.ref m, X]]))) (fun _ _ => False) := by
      intro l g v4 o5 eg en ll
      simp only [x_one]
      refine x_tryH_ok ?_
      cases v4
      · simp [ty_ref eg, MT.ty, truthy]
        refine road_of_satF (k := k + 5) tf.tr bk (seqR en) hs j fun m ch g1 e1 ml pe cl fg1 => ?_
        refine move_of_sat (k := k + 1) tf tm bk (seqR (fg1.some (by simp) en)) R hs j fun g2 fg2 => ?_
        rw [← hX]
        try simp
        rw [mt_append ((fg1.trans fg2).some (by simp) eg) (by omega)]
        exact ⟨g2, fg1.trans fg2, m, ch, fg2.some (by simp) e1, ml, pe, cl, rfl⟩
      · simp [truthy]
        rw [x_cons]
        simp [g_callk, mapO]
        refine road_of_satF (k := k + 5) tf.tr bk (seqR en) hs j fun m ch g1 e1 ml pe cl fg1 => ?_
        have eg1 := fg1.some (by simp) eg
        simp [ty_ref eg1, MT.ty, g_callk, mapO]
        refine move_of_sat (k := k + 1) tf tm bk (seqR (fg1.some (by simp) en)) R hs j fun g2 fg2 => ?_
        rw [← hX]
        try simp
        rw [mt_append ((fg1.trans fg2).some (by simp) eg) (by omega)]
        exact ⟨g2, fg1.trans fg2, m, ch, fg2.some (by simp) e1, ml, pe, cl, rfl⟩
    refine x_forTwo (l := [.tup [.bl false, .bl true]]) (h1 := h1) (x := .bl false) (y := .bl true) (by simp) rfl rfl ?_
    refine (st [] h1 false none a1 (f1.some (by simp) e) (by simp)).imp (fun ρ2 g2 z => ?_) (fun _ _ z => z.elim)
    obtain ⟨o5, rfl, g1, m1, ch, fg1, c1, ml1, p1, cl1, rfl⟩ := z
    refine ⟨_, rfl, ?_⟩
    have b1 := fg1.some (by simp) a1
    have a2 : (g1.set h.length (.lst ([] ++ [.tup [.ref m1, X]])))[h.length]? = some (.lst [.tup [.ref m1, X]]) := by rw [set_at b1]; rfl
    have e2 : (g1.set h.length (.lst ([] ++ [.tup [.ref m1, X]])))[n]? = some (.lst (us.map Tel.pv)) := by rw [set_ne' (by omega)]; exact (f1.trans fg1).some (by simp) e
    have c2 : (g1.set h.length (.lst ([] ++ [.tup [.ref m1, X]])))[m1]? = some (.lst (ch.map stPV)) := by rw [set_ne' (by omega)]; exact c1
    have F2 : Fr [] h (g1.set h.length (.lst ([] ++ [.tup [.ref m1, X]]))) := (f1.trans fg1).setNew (Nat.le_refl _)
    have l2 : h1.length ≤ (g1.set h.length (.lst ([] ++ [.tup [.ref m1, X]]))).length := by rw [List.length_set]; exact fg1.len
    generalize g1.set h.length (.lst ([] ++ [.tup [.ref m1, X]])) = g2 at a2 e2 c2 F2 l2
    refine (st _ _ true o5 a2 e2 (by simp)).imp (fun ρ2 g3 z => ?_) (fun _ _ z => z.elim)
    obtain ⟨o5', rfl, g3, m2, ch2, fg3, d3, ml2, p2, cl2, rfl⟩ := z
    have eqc : ch2 = ch := road_uniq bk.nd p2 p1
    subst eqc
    simp
    have b3 := fg3.some (by simp) a2
    refine q _ (.tup [.ref m1, X]) (.tup [.ref m2, X]) _ (by rw [set_at b3]; try rfl) (fun S g hS fS => ?_) ((F2.trans fg3).setNew (Nat.le_refl _)) (Nat.le_refl _)
    have g1' : g[m1]? = some (.lst (ch2.map stPV)) := fS.some (fun z => by have := hS _ z; omega) (by rw [set_ne' (by omega)]; exact fg3.some (by simp) c2)
    have g2' : g[m2]? = some (.lst (ch2.map stPV)) := fS.some (fun z => by have := hS _ z; omega) (by rw [set_ne' (by omega)]; exact d3)
    refine ⟨rfl, by simp, fun i a b ha hb => ?_⟩
    match i, ha, hb with
    | 0, ha, hb =>
      cases ha
      cases hb
      have : SC.length = 4 := by decide
      exact same_list (d := 3) g2' g1' (by simp; omega) fun y hy => by
        obtain ⟨z, _, rfl⟩ := List.mem_map.mp hy
        exact same_step (d := 2) z
    | 1, ha, hb =>
      cases ha
      cases hb
      rw [hX]
      exact same_mq (d := 2) _ _
    | i + 2, ha, hb => simp at ha
  · have st : ∀ (l : List PV) (g : PH) (v4 : Bool), g[h.length]? = some (.lst l) → g[n]? = some (.lst (us.map Tel.pv)) → coldVs l = true → l.length ≤ 5 → (exSs (call tbl (k + 9)) [.tryH [.ifs (.var 4) [.asg (.nm 5) (.callk 43 [(.var 2), (.var 1), (.var 0)] [2, 1, 0] []),
  .ex (.mth .append (.var 3) [(.tup [(.var 5), (.callk 45 [(.var 2), (.var 0), (.var 1)] [1, 2, 0] [])])])] [.ex (.mth .append (.var 3) [(.tup [(.call 43 [(.var 0), (.var 1), (.var 2)] []), (.call 45 [(.var 0), (.var 1), (.var 2)] [])])])]] ["NoBottom", "NoTelling", "NotJoined"] [.hd "NotJoined" (some 6) [.ex (.mth .append (.var 3) [(.tup [(.lit (.str "apart")), (.xat (.var 6) "start" "NotJoined"), (.xat (.var 6) "end" "NotJoined")])])]]]
        [some (.ref n), some (.str s), some (.str x), some (.ref h.length), some (.bl v4), none, none] g).Sat (fun ρ2 g2 => ρ2 = [some (.ref n), some (.str s), some (.str x), some (.ref h.length), some (.bl v4), none, none] ∧ ∃ g1, Fr [] g g1 ∧ g2 = g1.set h.length (.lst (l ++ [.tup [.str "apart", .str s, .str x]]))) (fun _ _ => False) := by
      intro l g v4 eg en cl ll
      obtain ⟨g1, fg1, e1⟩ := road_of_ex (k := k + 5) tf bk (seqR en) hs j
      have eg1 := fg1.some (by simp) eg
      simp only [x_one]
      refine x_tryH_ex (x := xNotJoined s x) (ρ1 := [some (.ref n), some (.str s), some (.str x), some (.ref h.length), some (.bl v4), none, none]) (h1 := g1) (by cases v4 <;> simp [exSs, exS, ty_ref eg, MT.ty, e1, g_callk, mapO, asB, evT, truthy, fin, RS.toR, R.st]) (by simp [xNotJoined]) ?_
      refine exH_hit (show hitX "NotJoined" "NotJoined" = true by decide +kernel) ?_
      have ap := mt_append (v := .tup [.str "apart", .str s, .str x]) eg1 (by omega)
      have b1 : (("start" : Str) == ("end" : Str)) = false := by decide +kernel
      have xs1 : ∀ g, xatop (.xc "NotJoined" ["end", "start"] [.str x, .str s]) "start" "NotJoined" g = .ok (.str s) g := fun g => by simp [xatop, List.lookup, b1]
      have xs2 : ∀ g, xatop (.xc "NotJoined" ["end", "start"] [.str x, .str s]) "end" "NotJoined" g = .ok (.str x) g := fun g => by simp [xatop, List.lookup]
      simp [setO, xNotJoined, xs1, xs2, ty_ref eg1, MT.ty, ap]
      exact ⟨fun n p e => .inl e, cool_set eg1 cl rfl, g1, fg1, rfl⟩
    refine x_forTwo (l := [.tup [.bl false, .bl true]]) (h1 := h1) (x := .bl false) (y := .bl true) (by simp) rfl rfl ?_
    refine (st [] h1 false a1 (f1.some (by simp) e) rfl (by simp)).imp (fun ρ2 g2 z => ?_) (fun _ _ z => z.elim)
    obtain ⟨rfl, g1, fg1, rfl⟩ := z
    refine ⟨_, rfl, ?_⟩
    have b1 := fg1.some (by simp) a1
    have a2 : (g1.set h.length (.lst ([] ++ [.tup [.str "apart", .str s, .str x]])))[h.length]? = some (.lst [.tup [.str "apart", .str s, .str x]]) := by rw [set_at b1]; rfl
    have e2 : (g1.set h.length (.lst ([] ++ [.tup [.str "apart", .str s, .str x]])))[n]? = some (.lst (us.map Tel.pv)) := by rw [set_ne' (by omega)]; exact (f1.trans fg1).some (by simp) e
    have F2 : Fr [] h (g1.set h.length (.lst ([] ++ [.tup [.str "apart", .str s, .str x]]))) := (f1.trans fg1).setNew (Nat.le_refl _)
    generalize g1.set h.length (.lst ([] ++ [.tup [.str "apart", .str s, .str x]])) = g2 at a2 e2 F2
    refine (st _ _ true a2 e2 rfl (by simp)).imp (fun ρ2 g3 z => ?_) (fun _ _ z => z.elim)
    obtain ⟨rfl, g3, fg3, rfl⟩ := z
    simp
    have b3 := fg3.some (by simp) a2
    refine q _ (.tup [.str "apart", .str s, .str x]) (.tup [.str "apart", .str s, .str x]) _ (by rw [set_at b3]; try rfl) (fun S g hS fS => ?_) ((F2.trans fg3).setNew (Nat.le_refl _)) (Nat.le_refl _)
    exact same_lit (by simp) fun y hy => by
      simp at hy
      rcases hy with rfl | rfl | rfl <;> rfl
theorem row_no (h128 : tbl 128 = F_is_row) (x : Str) : call tbl (k + 1) 128 [.str x] h = .ok (.bl false) h := by
  have q : (call tbl (k + 1) 128 [.str x] h).Sat fun v h' => v = .bl false ∧ h' = h := by
    rw [call_succ, h128]
    refine fn_sat rfl ?_
    simp only [F_is_row, startP, List.map, List.length, List.replicate, List.cons_append, List.nil_append]
    have i1 : biF .isinst [.str x, .ty .tuple] h = .ok (.bl false) h := rfl
    rw [x_cons]
    simp [i1]
  obtain ⟨v, h', e, rfl, rfl⟩ := q.ex
  exact e
theorem sheet_no (h128 : tbl 128 = F_is_row) (h129 : tbl 129 = F_is_sheet) {ns : List Str} {rs : List Row} (hn : ns.length ≤ 1000) (hr : rs.length ≤ 1000) (ne : ns ≠ [] ∨ rs ≠ []) {Q : PV → PH → Prop} (q : ∀ h', Fr [] h h' → Q (.bl false) h') : (call tbl (k + 3) 129 [.tup [.tup (rs.map rowPV), .tup (ns.map PV.str)]] h).Sat Q := by
  rw [call_succ, h129]
  refine fn_sat rfl ?_
  simp only [F_is_sheet, startP, List.map, List.length, List.replicate, List.cons_append, List.nil_append]
  obtain ⟨sh, hsh⟩ : ∃ sh, sh = PV.tup [.tup (rs.map rowPV), .tup (ns.map PV.str)] := ⟨_, rfl⟩
  rw [← hsh]
  have i1 : biF .isinst [sh, .ty .tuple] h = .ok (.bl true) h := by rw [hsh]; rfl
  have i2 : biF .len [sh] h = .ok (.int 2) h := by rw [hsh]; rfl
  rw [x_cons]
  simp [i1, i2]
  refine v_filt [PV.tup (rs.map rowPV), .tup (ns.map PV.str)] id (fun _ => .bl true) (fun _ => true) (l := [sh]) (h1 := h) (by simp) (by rw [hsh]; rfl) (stays_nil _) (by simp) (fun s hs => ⟨_, rfl, by simp, fun _ => ?_⟩) ?_
  · simp at hs
    rcases hs with rfl | rfl
    · simp [wipeP]; rfl
    · simp [wipeP]; rfl
  · rw [filter_true]
    have e : (h ++ [PO.lst ([PV.tup (rs.map rowPV), .tup (ns.map PV.str)].map fun _ => .bl true)])[h.length]? = some (.lst ([PV.tup (rs.map rowPV), .tup (ns.map PV.str)].map fun _ => .bl true)) := by simp
    have f1 : Fr [] h (h ++ [PO.lst ([PV.tup (rs.map rowPV), .tup (ns.map PV.str)].map fun _ => .bl true)]) := Fr.app
    generalize h ++ [PO.lst ([PV.tup (rs.map rowPV), .tup (ns.map PV.str)].map fun _ => .bl true)] = h1 at e f1
    rw [all_trues e]
    simp
    have x0 : ∀ g, idxop sh (.int 0) g = .ok (.tup (rs.map rowPV)) g := fun g => by rw [hsh]; exact idx_tup rfl
    have x1 : ∀ g, idxop sh (.int 1) g = .ok (.tup (ns.map PV.str)) g := fun g => by rw [hsh]; exact idx_tup rfl
    refine v_filt rs rowPV (fun _ => .bl false) (fun _ => true) (l := [.tup (rs.map rowPV)]) (h1 := h1) (by simp [x0]) (show walkF .seq [.tup (rs.map rowPV)] h1 = some (_, []) from rfl) (stays_nil _) (by omega) (fun s hs => ⟨_, rfl, by simp, fun _ => by simp [wipeP]; rfl⟩) ?_
    rw [filter_true]
    have a2 : (h1 ++ [PO.lst (rs.map fun _ => .bl false)])[h1.length]? = some (.lst (rs.map fun _ => .bl false)) := by simp
    have f2 : Fr [] h (h1 ++ [PO.lst (rs.map fun _ => PV.bl false)]) := f1.appNew
    generalize h1 ++ [PO.lst (rs.map fun _ => PV.bl false)] = h2 at a2 f2
    generalize h1.length = n2 at a2
    try simp
    refine v_filt ns PV.str (fun _ => .bl false) (fun _ => true) (l := [.tup (ns.map PV.str)]) (h1 := h2) (by simp [x1]) (show walkF .seq [.tup (ns.map PV.str)] h2 = some (_, []) from rfl) (stays_nil _) (by omega) (fun s hs => ⟨_, rfl, by simp, fun _ => by simp [wipeP, row_no h128]⟩) ?_
    rw [filter_true]
    have a3 : (h2 ++ [PO.lst (ns.map fun _ => .bl false)])[h2.length]? = some (.lst (ns.map fun _ => .bl false)) := by simp
    have a2' : (h2 ++ [PO.lst (ns.map fun _ => PV.bl false)])[n2]? = some (.lst (rs.map fun _ => .bl false)) := (Fr.app (S := [])).some (by simp) a2
    have F3 : Fr [] h (h2 ++ [PO.lst (ns.map fun _ => PV.bl false)]) := f2.appNew
    generalize h2 ++ [PO.lst (ns.map fun _ => PV.bl false)] = h4 at a3 a2' F3
    generalize h2.length = n3 at a3
    try simp
    rw [b_addL a2' a3 (by simp; omega)]
    simp
    have a5 : (h4 ++ [PO.lst (rs.map (fun _ => PV.bl false) ++ ns.map fun _ => PV.bl false)])[h4.length]? = some (.lst ((rs.map (fun _ => false) ++ ns.map fun _ => false).map PV.bl)) := by
      simp [List.map_map, Function.comp_def]
    have F5 : Fr [] h (h4 ++ [PO.lst (rs.map (fun _ => PV.bl false) ++ ns.map fun _ => PV.bl false)]) := F3.appNew
    have at5 := all_bl a5
    have fl : (rs.map (fun _ => false) ++ ns.map fun _ => false).all id = false := by
      rcases ne with z | z
      · obtain ⟨a, r, rfl⟩ := List.exists_cons_of_ne_nil z
        simp
      · obtain ⟨a, r, rfl⟩ := List.exists_cons_of_ne_nil z
        simp
    rw [fl] at at5
    simp only [at5]
    simp
    exact q _ F5
theorem holds_no (h128 : tbl 128 = F_is_row) (h129 : tbl 129 = F_is_sheet) (h158 : tbl 158 = F_holds) {v : PV} {ns : List Str} {rs : List Row} (hn : ns.length ≤ 1000) (hr : rs.length ≤ 1000) (ne : ns ≠ [] ∨ rs ≠ []) {Q : PV → PH → Prop} (q : ∀ h', Fr [] h h' → Q (.bl false) h') : (call tbl (k + 4) 158 [v, .tup [.tup (rs.map rowPV), .tup (ns.map PV.str)]] h).Sat Q := by
  rw [call_succ, h158]
  refine fn_sat rfl ?_
  simp only [F_holds, startP, List.map, List.length, List.replicate, List.cons_append, List.nil_append]
  rw [x_cons]
  simp
  refine sheet_no (k := k) h128 h129 hn hr ne fun h1 f1 => ?_
  simp
  exact q h1 f1
end
end Sb
set_option Elab.async false
set_option linter.all false
set_option maxRecDepth 100000
set_option maxHeartbeats 4000000
namespace Sb
open PySem
def PairS (S : List Nat) (h : PH) (x : PV) : Prop := ∃ u v, x = .tup [u, v] ∧ ∀ g, Fr S h g → sameP g 5 v u
theorem PairS.mono {S : List Nat} {h h' : PH} {x : PV} (p : PairS S h x) (f : Fr S h h') : PairS S h' x := by
  obtain ⟨u, v, e, q⟩ := p
  exact ⟨u, v, e, fun g fg => q g (f.trans fg)⟩
theorem x_stepS {C : Calls} {ss : List S} {ρ : Env} {g : PH} {N : Env → PH → Prop} {T : PV → PH → Prop} {i n5 B : Nat} {L : List (Nat × PO)} {ps : List PV} {e1 e2 : E} {Z : List Nat} (hZ : n5 ∈ Z) (hv : ρ.get i = some (.ref n5)) (K : Kw g B ((n5, .lst ps) :: L)) (P : ∀ x ∈ ps, PairS Z g x) (pl : ps.length ≤ 100)
    (s : (evG C e1 false ρ g).Sat fun u g1 => (evG C e2 false ρ g1).Sat fun v g2 => Fr [] g g2 ∧ ∀ g', Fr Z g2 g' → sameP g' 5 v u) (q : ∀ ps' g', Kw g' B ((n5, .lst ps') :: L) → (∀ x ∈ ps', PairS Z g' x) → ps'.length = ps.length + 1 → Fr Z g g' → (exSs C ss ρ g').Sat N T) : (exSs C (.ex (.mth .append (.var i) [.tup [e1, e2]]) :: ss) ρ g).Sat N T := by
  rw [x_cons]
  refine x_pair hv (K.get 0) pl (s.imp fun u g1 s1 => s1.imp fun v g2 ⟨f, al⟩ => ⟨f, ?_⟩)
  have fZ : Fr Z g2 (g2.set n5 (.lst (ps ++ [.tup [u, v]]))) := Fr.set hZ
  have f0 : Fr Z g (g2.set n5 (.lst (ps ++ [.tup [u, v]]))) := (f.mono (by simp)).trans fZ
  refine q _ _ ((K.fr f).set0 _) (fun x hx => ?_) (by simp) f0
  rcases List.mem_append.mp hx with z | z
  · exact (P x z).mono f0
  · rw [List.mem_singleton.mp z]
    exact ⟨u, v, rfl, fun g' fg => al g' (fZ.trans fg)⟩
structure T21b (tbl : Nat → Fn) : Prop where
  h7 : tbl 7 = F_law_same
  h33 : tbl 33 = F_order_of
  h46 : tbl 46 = F_bars_of
  h47 : tbl 47 = F_words_of
  h51 : tbl 51 = F_named
  h52 : tbl 52 = F_ring_of
  h56 : tbl 56 = F_ties_of
  h126 : tbl 126 = F_paper_of
  h127 : tbl 127 = F_is_step
  h128 : tbl 128 = F_is_row
  h129 : tbl 129 = F_is_sheet
  h156 : tbl 156 = F_scales_along
  h157 : tbl 157 = F_row_holds
  h158 : tbl 158 = F_holds
  h170 : tbl 170 = F_law_roads
  h171 : tbl 171 = F_law_rings
theorem paper_some {us : List Tel} (nd : (us.map Tel.name).Nodup) (h : 0 < us.length) : paperN us ≠ [] ∨ paperR us ≠ [] := by
  classical
  obtain ⟨t, ht⟩ : ∃ t, t ∈ us := ⟨us[0], List.getElem_mem h⟩
  by_cases it : IsTie us t
  · left
    have : t ∈ tieRows us := (mem_ties nd).mpr ⟨ht, it⟩
    intro z
    have : t.name ∈ paperN us := List.mem_map.mpr ⟨t, this, rfl⟩
    rw [z] at this
    cases this
  · right
    have : t ∈ (sortTel us).filter (notTie us) := List.mem_filter.mpr ⟨(sort_perm us).mem_iff.mpr ht, by simp [notTie, it]⟩
    intro z
    have : rowT us t ∈ paperR us := List.mem_map.mpr ⟨t, this, rfl⟩
    rw [z] at this
    cases this
section
variable {tbl : Nat → Fn}
open Classical in
theorem k21_true (T : T21 tbl) (U : T21b tbl) (td : TD tbl) (tf : TF tbl) (tm : TM tbl) (h4 : tbl 4 = F_law_start) (h173 : tbl 173 = F_law_25) (ns : List Int) (hn : ns.length ≤ 63) : (call tbl 12 173 [.cl (ns.map PV.int)] []).Sat fun v _ => v = .bl true := by
  rw [call_succ, h173]
  refine fn_sat rfl ?_
  simp only [F_law_25, startP, List.map, List.length, List.replicate, List.cons_append, List.nil_append]
  rw [x_cons]
  simp
  refine kstart h4 (k := 10) hn fun h0 K0 _ => ?_
  try simp
  rw [x_cons]
  simp
  refine fractions_sat (k := 3) tm td T K0 (by decide) fun n5 ps0 h1 K1 P1 pl _ => ?_
  rw [x_cons]
  simp
  refine rows_sat (k := 6) td T.h139 T.h140 T.h141 K1 (by decide) fun n us h2 K2 _ u0 u1 bk sk => ?_
  have e4 : tlS "pqrs" = (List.range 4).map (112 + ·) := by decide +kernel
  have e9 : tlS "abcdefghi" = (List.range 9).map (97 + ·) := by decide +kernel
  have wm : ∀ r : Int, 0 ≤ r → r < 4 → ch1 (112 + r.toNat) ∈ SC := fun r h0 h1 => List.mem_map.mpr ⟨r.toNat, by simp; omega, rfl⟩
  rw [x_cons]
  simp
  refine kdraw td (k := 9) K2 (by decide) (by omega) (by omega) fun r1 h3 r10 r11 K3 _ _ => ?_
  simp [idx_let e4 (by decide) r10 r11]
  refine kdraw td (k := 9) K3 (by decide) (by omega) (by omega) fun r2 h5 r20 r21 K4 _ _ => ?_
  simp [idx_let e4 (by decide) r20 r21, setAll]
  obtain ⟨s, hs, es⟩ : ∃ s, s ∈ SC ∧ s = ch1 (112 + r1.toNat) := ⟨_, wm r1 r10 r11, rfl⟩
  obtain ⟨x, hx⟩ : ∃ x, x = ch1 (112 + r2.toNat) := ⟨_, rfl⟩
  rw [← es, ← hx]
  -- roads, rings
  have K5 : Kw h5 (0 + 100 + 500 + 8 + 8) [(n5, .lst ps0), (n, .lst (us.map Tel.pv))] := K4.perm (List.Perm.swap ..)
  have P5 : ∀ x ∈ ps0, PairS [2, 0, n5] h5 x := fun x hx => by
    obtain ⟨u, v, e, al⟩ := P1 x hx
    exact ⟨u, v, e, fun g _ => al g⟩
  have n5lt : n5 < h5.length := K5.mem_lt (p := (n5, .lst ps0)) (by simp)
  have n53 : 3 ≤ n5 := K5.ge 0
  obtain ⟨mr, u, v, g1, er, r1', al1, fr1, ml1⟩ : ∃ mr u v g1, call tbl 11 170 [.ref n, .str s, .str x] h5 = .ok (.ref mr) g1 ∧ g1[mr]? = some (.lst [u, v]) ∧ (∀ S g, (∀ y ∈ S, y < h5.length) → Fr S g1 g → sameP g 5 v u) ∧ Fr [] h5 g1 ∧ h5.length ≤ mr := by
    obtain ⟨_, g1, e, mr, u, v, rfl, a, b, c, d⟩ := (roads2_sat (k := 1) tf tm U.h170 bk (K5.get 1) hs (Q := fun w h' => ∃ m u v, w = .ref m ∧ h'[m]? = some (.lst [u, v]) ∧ (∀ S g, (∀ y ∈ S, y < h5.length) → Fr S h' g → sameP g 5 v u) ∧ Fr [] h5 h' ∧ h5.length ≤ m) fun m u v h' a b c d => ⟨m, u, v, rfl, a, b, c, d⟩).ex
    exact ⟨mr, u, v, g1, e, a, b, c, d⟩
  have K6 := K5.new fr1 ml1 r1'
  obtain ⟨r3, g2, ed, r30, r31, K7, fd2⟩ : ∃ (r3 : Int) (g2 : PH), call tbl 11 6 [.ref 2, .int 9] g1 = .ok (.int r3) g2 ∧ 0 ≤ r3 ∧ r3 < 9 ∧ Kw g2 (0 + 100 + 500 + 8 + 8 + 8) [(mr, .lst [u, v]), (n5, .lst ps0), (n, .lst (us.map Tel.pv))] ∧ Fr [2, 0] g1 g2 := by
    obtain ⟨_, g2, e, d, rfl, a, b, c, f⟩ := (kdraw td (k := 9) K6 (by decide) (by omega) (by omega) (Q := fun w h' => ∃ d, w = .int d ∧ 0 ≤ d ∧ d < 9 ∧ Kw h' (0 + 100 + 500 + 8 + 8 + 8) [(mr, .lst [u, v]), (n5, .lst ps0), (n, .lst (us.map Tel.pv))] ∧ Fr [2, 0] g1 h') fun r h' a b c f _ => ⟨r, rfl, a, b, c, f⟩).ex
    exact ⟨d, g2, e, a, b, c, f⟩
  obtain ⟨lb, hlb⟩ : ∃ lb, lb = ch1 (97 + r3.toNat) := ⟨_, rfl⟩
  obtain ⟨mg, y, g3, eg, rg, aly, fg3, mgl⟩ : ∃ mg y g3, call tbl 11 171 [.ref n, .str lb] g2 = .ok (.ref mg) g3 ∧ g3[mg]? = some (.lst [y, y]) ∧ Alike y y ∧ Fr [] g2 g3 ∧ g2.length ≤ mg := by
    obtain ⟨_, g3, e, m, y, rfl, a, b, c, d⟩ := (rings_sat (k := 0) tf tm U.h51 U.h52 U.h171 bk (K7.get 2) lb (Q := fun w h' => ∃ m y, w = .ref m ∧ h'[m]? = some (.lst [y, y]) ∧ Alike y y ∧ Fr [] g2 h' ∧ g2.length ≤ m) fun m y h' a b c d => ⟨m, y, rfl, a, b, c, d⟩).ex
    exact ⟨m, y, g3, e, a, b, c, d⟩
  obtain ⟨Z, hZ⟩ : ∃ Z : List Nat, Z = [2, 0, n5] := ⟨_, rfl⟩
  rw [← hZ] at P5
  have nZ : n5 ∈ Z := by rw [hZ]; simp
  have f13 : Fr Z g1 g3 := (fd2.mono (by rw [hZ]; simp)).trans (fg3.mono (by simp))
  have f53 : Fr Z h5 g3 := (fr1.mono (by simp)).trans f13
  have zlt : ∀ y ∈ Z, y < h5.length := fun y hy => by
    have := K5.len
    rw [hZ] at hy
    simp at hy
    rcases hy with rfl | rfl | rfl <;> omega
  have K8 : Kw g3 (0 + 100 + 500 + 8 + 8 + 8) [(n5, .lst ps0), (n, .lst (us.map Tel.pv))] := (K7.tl).fr fg3
  have rm : g3[mr]? = some (.lst [u, v]) := fg3.some (by simp) (K7.get 0)
  have ix9 := idx_let (g := g2) e9 (by decide) r30 r31
  rw [← hlb] at ix9
  rw [x_cons]
  refine x_forTwo (l := [.tup [.ref mr, .ref mg]]) (h1 := g3) (x := .ref mr) (y := .ref mg) (by simp [er, ed, ix9, eg]) rfl rfl ?_
  have i0 : idxop (.ref mr) (.int 0) g3 = .ok u g3 := idx_ref rm rfl
  have i1 : idxop (.ref mr) (.int 1) g3 = .ok v g3 := idx_ref rm rfl
  refine x_stepS nZ rfl K8 (fun x hx => (P5 x hx).mono f53) (by omega) (by simp [i0, i1, Fr.refl]; exact fun g' f => al1 Z g' zlt (f13.trans f)) fun ps1 g4 K9 P9 l9 f9 => ?_
  simp only [x_nil]
  refine ⟨_, rfl, ?_⟩
  have mgZ : mg ∉ Z := fun z => by
    have := zlt _ z
    have h1 := fr1.len
    have h2 := fd2.len
    omega
  have rg4 : g4[mg]? = some (.lst [y, y]) := f9.some mgZ rg
  have j0 : idxop (.ref mg) (.int 0) g4 = .ok y g4 := idx_ref rg4 rfl
  have j1 : idxop (.ref mg) (.int 1) g4 = .ok y g4 := idx_ref rg4 rfl
  refine x_stepS nZ rfl K9 P9 (by omega) (by simp [j0, j1, Fr.refl]; exact fun g' f => aly g') fun ps2 g5 K10 P10 l10 f10 => ?_
  simp only [x_nil]
  -- asked of all tellings
  have zk : ∀ {g : PH} {B : Nat} {ps : List PV}, Kw g B [(n5, .lst ps), (n, .lst (us.map Tel.pv))] → ∀ m, g.length ≤ m → m ∉ Z := fun {g B ps} K m hm z => by
    have h1 := K.len
    have h2 : n5 < g.length := K.mem_lt (p := (n5, .lst ps)) (by simp)
    rw [hZ] at z
    simp at z
    rcases z with rfl | rfl | rfl <;> omega
  have refs : ∀ {g2 : PH} {m1 m2 : Nat} {l : List PV}, g2[m1]? = some (.lst l) → g2[m2]? = some (.lst l) → m1 ∉ Z → m2 ∉ Z → l.length ≤ 1000 → (∀ x ∈ l, ∀ g, sameP g 4 x x) → ∀ g', Fr Z g2 g' → sameP g' 5 (.ref m2) (.ref m1) := fun {g2 m1 m2 l} e1 e2 n1 n2 hl hs g' f => same_list (d := 4) (f.some n2 e2) (f.some n1 e1) (by omega) fun x hx => hs x hx g'
  have sl := sort_len us
  obtain ⟨P, R, J⟩ := bk.rows
  have so := paper_ok bk sk
  have hc : ∀ r ∈ paperR us, r.2.2.length ≤ 26 := fun r hr => (so.rw_ r hr).2.2.2
  have strS : ∀ (l : List Str), ∀ x ∈ l.map PV.str, ∀ g, sameP g 4 x x := fun l x hx g => by
    obtain ⟨z, _, rfl⟩ := List.mem_map.mp hx
    rfl
  -- the order
  refine x_stepS nZ rfl K10 P10 (by omega) ?_ fun ps3 g6 K11 P11 l11 f11 => ?_
  · have o1 := order_of_eq (k := 9) (h := g5) tf.h32 U.h33 (seqR (K10.get 1)) bk.nd bk.len
    simp [o1]
    have K10b := K10.app [.lst ((sortTel us).map Tel.pv), .lst ((sortTel us).map fun t => PV.str t.name)]
    have b1 : (g5 ++ [PO.lst ((sortTel us).map Tel.pv), .lst ((sortTel us).map fun t => PV.str t.name)])[g5.length + 1]? = some (.lst ((sortTel us).map fun t => PV.str t.name)) := by simp
    have bl : (g5 ++ [PO.lst ((sortTel us).map Tel.pv), .lst ((sortTel us).map fun t => PV.str t.name)]).length = g5.length + 2 := by simp
    have bf : Fr [] g5 (g5 ++ [PO.lst ((sortTel us).map Tel.pv), .lst ((sortTel us).map fun t => PV.str t.name)]) := Fr.app
    generalize g5 ++ [PO.lst ((sortTel us).map Tel.pv), .lst ((sortTel us).map fun t => PV.str t.name)] = g5b at K10b b1 bl bf
    have o2 := order_of_eq (k := 9) (h := g5b) tf.h32 U.h33 (seqR (K10b.get 1)) bk.nd bk.len
    simp [g_callk, mapO, o2]
    refine ⟨bf.trans Fr.app, refs (l := (sortTel us).map fun t => PV.str t.name) ((Fr.app (S := [])).some (by simp) b1) (by simp) (zk K10 _ (by omega)) (zk K10 _ (by omega)) (by simp; omega) fun x hx g => ?_⟩
    obtain ⟨z, _, rfl⟩ := List.mem_map.mp hx
    rfl
  -- the ties
  refine x_stepS nZ rfl K11 P11 (by omega) ?_ fun ps4 g7 K12 P12 l12 f12 => ?_
  · simp
    refine ties_of_sat (k := 8) tf.h32 tf.h39 U.h56 (seqR (K11.get 1)) bk.nd bk.len fun m1 q1 a1 ml1 fq1 => ?_
    simp [g_callk, mapO]
    refine ties_of_sat (k := 8) tf.h32 tf.h39 U.h56 (seqR ((K11.fr fq1).get 1)) bk.nd bk.len fun m2 q2 a2 ml2 fq2 => ?_
    have tlen := (tieRows_sublist us).length_le
    have := fq1.len
    exact ⟨fq1.trans fq2, refs (fq2.some (by simp) a1) a2 (zk K11 _ ml1) (zk K11 _ (by omega)) (by simp; omega) (strS _)⟩
  -- the words
  refine x_stepS nZ rfl K12 P12 (by omega) ?_ fun ps5 g8 K13 P13 l13 f13' => ?_
  · simp
    refine words_sat (k := 3) tf tm U.h46 U.h47 bk (by omega) (seqR (K12.get 1)) R J fun m1 q1 a1 ml1 fq1 => ?_
    simp [g_callk, mapO]
    refine words_sat (k := 3) tf tm U.h46 U.h47 bk (by omega) (seqR ((K12.fr fq1).get 1)) R J fun m2 q2 a2 ml2 fq2 => ?_
    have := fq1.len
    refine ⟨fq1.trans fq2, refs (fq2.some (by simp) a1) a2 (zk K12 _ ml1) (zk K12 _ (by omega)) (by simp; omega) fun x hx g => ?_⟩
    obtain ⟨z, _, rfl⟩ := List.mem_map.mp hx
    exact same_lit (by simp) fun w hw => by
      simp at hw
      rcases hw with rfl | rfl <;> rfl
  -- the paper
  rw [x_cons]
  simp
  refine paper_of_sat (k := 2) tf.tw tm U.h46 U.h47 U.h56 U.h126 bk (by omega) (seqR (K13.get 1)) fun g9 f14 => ?_
  have K14 := K13.fr f14
  have P14 : ∀ x ∈ ps5, PairS Z g9 x := fun x hx => (P13 x hx).mono (f14.mono (by simp))
  refine x_stepS nZ rfl K14 P14 (by omega) ?_ fun ps6 g10 K15 P15 l15 f15 => ?_
  · simp [g_callk, mapO]
    exact paper_of_sat (k := 2) tf.tw tm U.h46 U.h47 U.h56 U.h126 bk (by omega) (seqR (K14.get 1)) fun q1 fq1 => ⟨fq1, fun g' _ => same_sheet so⟩
  refine x_stepS nZ rfl K15 P15 (by omega) ?_ fun ps7 g11 K16 P16 l16 f16 => ?_
  · simp
    refine holds_sat (k := 2) tm tf.h32 tf.h44 U.h127 U.h128 U.h129 U.h156 U.h157 U.h158 bk sk (seqR (K15.get 1)) so.nl so.rl hc fun q1 fq1 => ?_
    simp [g_callk, mapO]
    refine holds_sat (k := 2) tm tf.h32 tf.h44 U.h127 U.h128 U.h129 U.h156 U.h157 U.h158 bk sk (seqR ((K15.fr fq1).get 1)) so.nl so.rl hc fun q2 fq2 => ?_
    exact ⟨fq1.trans fq2, fun g' _ => by simp; rfl⟩
  have ne := paper_some bk.nd u0
  have sp : ∀ g, stpop (sheetPV (paperN us) (paperR us)) (.int (-1)) g = .ok (.tup [.tup ((paperR us).map rowPV), .tup ((paperN us).map PV.str)]) g := fun g => rfl
  refine x_stepS nZ rfl K16 P16 (by omega) ?_ fun ps8 g12 K17 P17 l17 f17 => ?_
  · simp [sp]
    refine holds_no (k := 7) U.h128 U.h129 U.h158 so.nl so.rl ne fun q1 fq1 => ?_
    simp [g_callk, mapO, sp]
    refine holds_no (k := 7) U.h128 U.h129 U.h158 so.nl so.rl ne fun q2 fq2 => ?_
    exact ⟨fq1.trans fq2, fun g' _ => rfl⟩
  -- the end
  simp
  refine v_filtF ps8 id (fun _ => .bl true) (fun _ => true) (l := [.ref n5]) (h1 := g12) (by simp) (by rw [List.map_id]; exact walk_ref (K17.get 0)) (fun h' f' => stays_one (f'.some (by simp) (K17.get 0))) (by omega) (fun z hz => ?_) fun h' f' => ?_
  · obtain ⟨u, v, rfl, al⟩ := P17 z hz
    refine ⟨_, rfl, fun h' f' => ?_⟩
    simp [evGc, wipeP]
    refine ⟨Fr.refl _ _, ?_⟩
    exact same_sat (k := 5) (d := 5) U.h7 (al h' (f'.mono (by simp))) fun t => ⟨rfl, Fr.app⟩
  · rw [filter_true]
    have a5 : (h' ++ [PO.lst (ps8.map fun _ => .bl true)])[h'.length]? = some (.lst (ps8.map fun _ => .bl true)) := by simp
    have F5 : Fr [] g12 (h' ++ [PO.lst (ps8.map fun _ => PV.bl true)]) := f'.appNew
    generalize h' ++ [PO.lst (ps8.map fun _ => PV.bl true)] = h6 at a5 F5
    rw [all_trues a5]
    simp
    refine holds_sat (k := 2) tm tf.h32 tf.h44 U.h127 U.h128 U.h129 U.h156 U.h157 U.h158 bk sk (seqR ((K17.fr F5).get 1)) so.nl so.rl hc fun q2 fq2 => ?_
    simp
end
end Sb
set_option Elab.async false
set_option linter.all false
namespace Sb
theorem law_true : ∀ ns : List Int, ns.length ≤ 63 → ∃ h, call tbl LV 173 [.cl (ns.map PV.int)] [] = .ok (.bl true) h := fun ns hn => by
  have s : (call tbl 12 173 [.cl (ns.map PV.int)] []).Sat fun v _ => v = .bl true := by
    apply k21_true (tbl := tbl) <;> first | assumption | rfl | (constructor <;> rfl)
  obtain ⟨v, h, e, rfl⟩ := s.ex
  exact ⟨h, e⟩
end Sb
open PySem PySem.W PySem.Calls PyProof.Rows
set_option maxHeartbeats 0 in
theorem PySem.Challenge.cw_scalebook_k21_lower_half_by_names_holds : PySem.Challenge.rw_scalebook_k21_lower_half_by_names.Holds := by
  w_on; o_law
  refine HandSHeadRun.head_any (r := OpenLaw.row PySem.Challenge.rw_scalebook_k21_lower_half_by_names) (q := view (OpenLaw.row PySem.Challenge.rw_scalebook_k21_lower_half_by_names).prog [24, 59]) (H := Sb.hookT 5 Sb.hfa Sb.hfn Sb.hex) (ob := Sb.obsT 5 Sb.hfa Sb.hfn Sb.hex) (M := 9000) (loose := Sb.loose) (d := HandSHeadRun.topDef (OpenLaw.row PySem.Challenge.rw_scalebook_k21_lower_half_by_names).prog 59) (kwd := []) Sb.obsT_eq
    (by kernel_rfl) (fun s => by kernel_rfl) Sb.run (by kernel_rfl) (by kernel_rfl) (by kernel_rfl) (by rfl) (by first | assumption | decide +kernel) (by decide +kernel) ⟨rfl, rfl, rfl, rfl, rfl, by decide +kernel⟩ ?hw ?hc
  case hw => w_witness2
  case hc =>
    refine Sb.walk_ofT (l := PySem.Challenge.rw_scalebook_k21_lower_half_by_names) (n := 63) (k := Sb.LV + 3) (x := "_law_script") rfl (by decide) (by kernel_rfl) ⟨rfl, by decide, by decide⟩ ?F
    intro w mg mb mean fa h Y TP hmg0
    have G := TP.g
    obtain ⟨K, KX, c, e⟩ := Y
    have hmg : mg ("law" : PySem.Str) = some (.ref fa) := by
      have e : (HandSHeadRun.topDef (OpenLaw.row PySem.Challenge.rw_scalebook_k21_lower_half_by_names).prog 59).name = ("law" : PySem.Str) := by kernel_rfl
      rw [← e]
      exact hmg0
    obtain ⟨fd, hb, hF⟩ := Sb.law_fn (P := (PySem.Challenge.rw_scalebook_k21_lower_half_by_names).prog) (w := w) KX G hmg c e
    have tt : ∀ p ∈ Sb.tabCs K, CodeHd h p.1 p.2 ∧ h.get? p.2 = some (tabObj #[]) := fun p hp => by
      obtain ⟨x, hx, e1⟩ := Sb.tabCs_tab hp
      rcases (Sb.tabB_parts (Sb.hex_tab e)).2.2.2 x hx with z | z
      · simp only [List.mem_cons, List.not_mem_nil, or_false] at z
        rcases z with rfl
        · exact tab_of (d := HandSHeadRun.topDef (OpenLaw.row PySem.Challenge.rw_scalebook_k21_lower_half_by_names).prog 24) TP KX (by kernel_rfl) e1
      · rw [z] at e1
        cases e1
    exact ⟨K, fd, _, Sb.tabCs K, KX, fun p hp => (tt p hp).2, Sb.tabB_none (Sb.hex_tab e), fun p hp => (tt p hp).1, hb, fun H a ns hl hO hT hS => Sb.law_endT Sb.law_true H a ns hl hO hT hS, hF⟩
